import PyProof.Rows.All
import Wide.All
import OpenK.AllK
import Wide.FinOn
import HandS.ForMost
import HandS.ForExc
import HandS.Defaults
import HandS.HeadHook1
import HandS.ExcInit
import HandS.ExcCtx
import HandS.TupAny
import HandS.Deep
import HandS.IsInst
import HandS.Flt
import HandS.Rev
import HandS.Zip
import HandS.NoneIn
import HandS.CallSlots
import HandS.HeadHook2
import HandS.Property
import HandS.ExcField
import HandS.HotCalls
import HandS.ExcInitHot
import KE.KExcIs
import HandS.FStr
import HandS.Style
import HandS.SlotsOwn
import HandS.HeadHook3
import HandS.Head0
import HandS.Head1
import HandS.Head2
import HandS.HeadEnd
import HandS.WordsExc
import HandS.Text
import HandS.SortRule
import HandS.Conv
import HandS.Small
import HandS.SortOrd
import HandS.More
import HandS.MakeKw
import HandS.ExcValue
import PySem.Challenge.RW_rimcords_k90_errors_made
set_option Elab.async false
set_option linter.all false
set_option maxRecDepth 100000
set_option maxHeartbeats 1000000
/-! T0: deep data D, how a value shows it (Rep), slots that own a list (Own), the state of a body (Rel), what an expression and a statement come to (O, SO). -/
namespace T
open PySem L2

/-! ### data -/
inductive D where
  | non | bl (b : Bool) | int (i : Int) | str (s : Str)
  | tup (xs : List D) | lst (xs : List D) | scr (ns : List Int)
  | ins (c : Str) (fs : List (Str × D))
  | exc (c : Str) (fs : List (Str × D))
  | exv (c : Str) (fs : List (Str × D))
  | dct (kvs : List (List Key × D)) | dck (kvs : List (Key × D))
  | set (xs : List D)

mutual
/-- the value v shows the datum d in the heap H -/
inductive Rep (K : PySem.W.Frag) (H : Hp) : D → V → Prop
  | non : Rep K H .non .non
  | bl (b : Bool) : Rep K H (.bl b) (.bl b)
  | int (i : Int) : Rep K H (.int i) (.int i)
  | str (s : Str) : Rep K H (.str s) (.str s)
  | tup {a : Addr} {ds : List D} {vs : List V} : SqT K H a vs → Reps K H ds vs → Rep K H (.tup ds) (.ref a)
  | lst {a : Addr} {ds : List D} {vs : List V} : H a = some (.lst vs) → Reps K H ds vs → Rep K H (.lst ds) (.ref a)
  | scr {a : Addr} {ns : List Int} : SqL K H a (ns.map V.int) → Rep K H (.scr ns) (.ref a)
  | ins {c : Str} {a dx : Addr} {fs : List (Str × D)} {vfs : List (Str × V)} : H a = some (.ins (He.ga K c) dx vfs) → FReps K H fs vfs → Rep K H (.ins c fs) (.ref a)
  | exc {c : Str} {a : Addr} {fs : List (Str × D)} : Rep K H (.exc c fs) (.ref a)
  | exv {c : Str} {a dx : Addr} {fs : List (Str × D)} {vfs : List (Str × V)} : H a = some (exo a (He.ga K c) (some dx)) → H dx = some (exd dx vfs) → FReps K H fs vfs → Rep K H (.exv c fs) (.ref a)
  | exv0 {c : Str} {a : Addr} : H a = some (exo a (He.ga K c) none) → Rep K H (.exv c []) (.ref a)
  | dct {a : Addr} {ks : List (List Key × D)} {vs : List (List Key × V)} : H a = some (.dT vs) → TReps K H ks vs → Rep K H (.dct ks) (.ref a)
  | dck {a : Addr} {ks : List (Key × D)} {vs : List (Key × V)} : H a = some (.dK vs) → KReps K H ks vs → Rep K H (.dck ks) (.ref a)
inductive TReps (K : PySem.W.Frag) (H : Hp) : List (List Key × D) → List (List Key × V) → Prop
  | nil : TReps K H [] []
  | cons {k : List Key} {d : D} {v : V} {ds : List (List Key × D)} {vs : List (List Key × V)} : Rep K H d v → TReps K H ds vs → TReps K H ((k, d) :: ds) ((k, v) :: vs)
inductive KReps (K : PySem.W.Frag) (H : Hp) : List (Key × D) → List (Key × V) → Prop
  | nil : KReps K H [] []
  | cons {k : Key} {d : D} {v : V} {ds : List (Key × D)} {vs : List (Key × V)} : Rep K H d v → KReps K H ds vs → KReps K H ((k, d) :: ds) ((k, v) :: vs)
inductive Reps (K : PySem.W.Frag) (H : Hp) : List D → List V → Prop
  | nil : Reps K H [] []
  | cons {d : D} {v : V} {ds : List D} {vs : List V} : Rep K H d v → Reps K H ds vs → Reps K H (d :: ds) (v :: vs)
inductive FReps (K : PySem.W.Frag) (H : Hp) : List (Str × D) → List (Str × V) → Prop
  | nil : FReps K H [] []
  | cons {x : Str} {d : D} {v : V} {ds : List (Str × D)} {vs : List (Str × V)} : Rep K H d v → FReps K H ds vs → FReps K H ((x, d) :: ds) ((x, v) :: vs)
end

/-- what H knows stands in H' as well -/
def Ext (H H' : Hp) : Prop := ∀ a o, H a = some o → H' a = some o
theorem Ext.refl (H : Hp) : Ext H H := fun _ _ h => h
theorem Ext.trans {H H1 H2 : Hp} (a : Ext H H1) (b : Ext H1 H2) : Ext H H2 := fun x o h => b x o (a x o h)
theorem Ext.new {H : Hp} {p : Addr} {o : HO} (h : H p = none) : Ext H (upd H p o) := fun a u e => by
  rw [upd_ne (ne_of_none e h)]; exact e
theorem Ext.none {H H' : Hp} (e : Ext H H') {p : Addr} (h : H' p = none) : H p = none := by
  cases q : H p with
  | none => rfl
  | some o => rw [e p o q] at h; cases h
theorem Ext.sql {K : PySem.W.Frag} {H H' : Hp} {a : Addr} {xs : List V} (e : Ext H H') (h : SqL K H a xs) : SqL K H' a xs := by
  rcases h with (h | ⟨o, h⟩) | h
  · exact .inl (.inl (e _ _ h))
  · exact .inl (.inr ⟨o, e _ _ h⟩)
  · exact .inr h
theorem Ext.sqt {K : PySem.W.Frag} {H H' : Hp} {a : Addr} {xs : List V} (e : Ext H H') (h : SqT K H a xs) : SqT K H' a xs := by
  rcases h with (h | ⟨o, h⟩) | h
  · exact .inl (.inl (e _ _ h))
  · exact .inl (.inr ⟨o, e _ _ h⟩)
  · exact .inr h
/-- what is shared stands in the heap, and every tuple is shared -/
structure Sub (Hs H : Hp) : Prop where
  ex : Ext Hs H
  tu : ∀ b vs, H b = some (.tup vs) → Hs b = some (.tup vs)
instance {Hs H : Hp} : CoeFun (Sub Hs H) (fun _ => ∀ a o, Hs a = some o → H a = some o) := ⟨fun h => h.ex⟩
instance {Hs H : Hp} : CoeOut (Sub Hs H) (Ext Hs H) := ⟨Sub.ex⟩
theorem Sub.refl (H : Hp) : Sub H H := ⟨.refl _, fun _ _ h => h⟩
theorem Sub.sql {K : PySem.W.Frag} {H H' : Hp} {a : Addr} {xs : List V} (e : Sub H H') (h : SqL K H a xs) : SqL K H' a xs := e.ex.sql h
theorem Sub.sqt {K : PySem.W.Frag} {H H' : Hp} {a : Addr} {xs : List V} (e : Sub H H') (h : SqT K H a xs) : SqT K H' a xs := e.ex.sqt h
theorem Sub.new {H Hs : Hp} {p : Addr} {o : HO} (h : Sub Hs H) (hp : H p = none) : Sub (upd Hs p o) (upd H p o) :=
  ⟨fun a u e => by
    by_cases q : a = p
    · subst q; rw [upd_same] at e ⊢; exact e
    · rw [upd_ne q] at e ⊢; exact h.ex a u e, fun b vs e => by
    by_cases q : b = p
    · subst q; rw [upd_same] at e ⊢; exact e
    · rw [upd_ne q] at e ⊢; exact h.tu b vs e⟩
def NT (o : HO) : Prop := ∀ vs, o ≠ .tup vs
theorem Sub.own {H Hs : Hp} {p : Addr} {o : HO} (h : Sub Hs H) (hp : Hs p = Option.none) (ho : NT o) : Sub Hs (upd H p o) :=
  ⟨fun a u e => by rw [upd_ne (ne_of_none e hp)]; exact h.ex a u e, fun b vs e => by
    by_cases q : b = p
    · subst q; rw [upd_same] at e; exact absurd (Option.some.inj e) (ho vs)
    · rw [upd_ne q] at e; exact h.tu b vs e⟩
theorem Sub.none {H H' : Hp} (e : Sub H H') {p : Addr} (h : H' p = none) : H p = none := e.ex.none h
section
variable {K : PySem.W.Frag} {H H' : Hp}
mutual
theorem Rep.mono {d : D} {v : V} (e : Ext H H') : Rep K H d v → Rep K H' d v
  | .non => .non
  | .bl b => .bl b
  | .int i => .int i
  | .str s => .str s
  | .tup h r => .tup (e.sqt h) (Reps.mono e r)
  | .lst h r => .lst (e _ _ h) (Reps.mono e r)
  | .scr h => .scr (e.sql h)
  | .ins h r => .ins (e _ _ h) (FReps.mono e r)
  | .exc => .exc
  | .exv h h2 r => .exv (e _ _ h) (e _ _ h2) (FReps.mono e r)
  | .exv0 h => .exv0 (e _ _ h)
  | .dct h r => .dct (e _ _ h) (TReps.mono e r)
  | .dck h r => .dck (e _ _ h) (KReps.mono e r)
theorem TReps.mono {ds : List (List Key × D)} {vs : List (List Key × V)} (e : Ext H H') : TReps K H ds vs → TReps K H' ds vs
  | .nil => .nil
  | .cons a b => .cons (Rep.mono e a) (TReps.mono e b)
theorem KReps.mono {ds : List (Key × D)} {vs : List (Key × V)} (e : Ext H H') : KReps K H ds vs → KReps K H' ds vs
  | .nil => .nil
  | .cons a b => .cons (Rep.mono e a) (KReps.mono e b)
theorem Reps.mono {ds : List D} {vs : List V} (e : Ext H H') : Reps K H ds vs → Reps K H' ds vs
  | .nil => .nil
  | .cons a b => .cons (Rep.mono e a) (Reps.mono e b)
theorem FReps.mono {ds : List (Str × D)} {vs : List (Str × V)} (e : Ext H H') : FReps K H ds vs → FReps K H' ds vs
  | .nil => .nil
  | .cons a b => .cons (Rep.mono e a) (FReps.mono e b)
end
theorem Reps.length {ds : List D} {vs : List V} : Reps K H ds vs → ds.length = vs.length
  | .nil => rfl
  | .cons _ b => by simp [Reps.length b]
theorem Reps.get {ds : List D} {vs : List V} {i : Nat} {d : D} : Reps K H ds vs → ds[i]? = some d → ∃ v, vs[i]? = some v ∧ Rep K H d v
  | .nil, e => by simp at e
  | .cons a b, e => by
    cases i with
    | zero => simp at e; subst e; exact ⟨_, rfl, a⟩
    | succ i =>
      obtain ⟨v, h1, h2⟩ := Reps.get (i := i) b (by simpa using e)
      exact ⟨v, by simpa using h1, h2⟩
theorem Reps.getV {ds : List D} {vs : List V} {i : Nat} {v : V} : Reps K H ds vs → vs[i]? = some v → ∃ d, ds[i]? = some d ∧ Rep K H d v
  | .nil, e => by simp at e
  | .cons a b, e => by
    cases i with
    | zero => simp at e; subst e; exact ⟨_, rfl, a⟩
    | succ i =>
      obtain ⟨v, h1, h2⟩ := Reps.getV (i := i) b (by simpa using e)
      exact ⟨v, by simpa using h1, h2⟩
theorem Reps.append {ds es : List D} {vs us : List V} : Reps K H ds vs → Reps K H es us → Reps K H (ds ++ es) (vs ++ us)
  | .nil, h => h
  | .cons a b, h => .cons a (Reps.append b h)
theorem Reps.take {ds : List D} {vs : List V} : ∀ n : Nat, Reps K H ds vs → Reps K H (ds.take n) (vs.take n)
  | 0, _ => .nil
  | _ + 1, .nil => .nil
  | n + 1, .cons a b => .cons a (Reps.take n b)
theorem Reps.drop {ds : List D} {vs : List V} : ∀ n : Nat, Reps K H ds vs → Reps K H (ds.drop n) (vs.drop n)
  | 0, h => h
  | _ + 1, .nil => .nil
  | n + 1, .cons _ b => Reps.drop n b
theorem Reps.set {d : D} {v : V} (r : Rep K H d v) {ds : List D} {vs : List V} : ∀ n : Nat, Reps K H ds vs → Reps K H (ds.set n d) (vs.set n v)
  | _, .nil => .nil
  | 0, .cons _ b => .cons r b
  | n + 1, .cons a b => .cons a (Reps.set r n b)
theorem Reps.eraseIdx {ds : List D} {vs : List V} : ∀ n : Nat, Reps K H ds vs → Reps K H (ds.eraseIdx n) (vs.eraseIdx n)
  | _, .nil => .nil
  | 0, .cons _ b => b
  | n + 1, .cons a b => .cons a (Reps.eraseIdx n b)
theorem Reps.reverse {ds : List D} {vs : List V} (h : Reps K H ds vs) : Reps K H ds.reverse vs.reverse := by
  induction ds generalizing vs with
  | nil => cases h; exact .nil
  | cons d ds ih =>
    cases h with
    | cons a b => rw [List.reverse_cons, List.reverse_cons]; exact (ih b).append (.cons a .nil)
theorem Reps.rep {ds : List D} {vs : List V} (h : Reps K H ds vs) : ∀ k : Nat, Reps K H (List.replicate k ds).flatten (List.replicate k vs).flatten
  | 0 => .nil
  | k + 1 => by
    rw [List.replicate_succ, List.replicate_succ, List.flatten_cons, List.flatten_cons]
    exact h.append (Reps.rep h k)
theorem Reps.ints {ns : List Int} {vs : List V} : Reps K H (ns.map D.int) vs → vs = ns.map V.int := by
  induction ns generalizing vs with
  | nil => intro h; cases h; rfl
  | cons n ns ih =>
    intro h
    cases h with
    | cons a b => cases a; rw [ih b]; rfl
theorem Reps.ofInts : ∀ ns : List Int, Reps K H (ns.map D.int) (ns.map V.int)
  | [] => .nil
  | n :: ns => .cons (.int n) (Reps.ofInts ns)
theorem Reps.strs {ns : List Str} {vs : List V} : Reps K H (ns.map D.str) vs → vs = ns.map V.str := by
  induction ns generalizing vs with
  | nil => intro h; cases h; rfl
  | cons n ns ih =>
    intro h
    cases h with
    | cons a b => cases a; rw [ih b]; rfl
theorem Reps.ofStrs : ∀ ns : List Str, Reps K H (ns.map D.str) (ns.map V.str)
  | [] => .nil
  | n :: ns => .cons (.str n) (Reps.ofStrs ns)
theorem FReps.get {ds : List (Str × D)} {vs : List (Str × V)} {x : Str} {d : D} : FReps K H ds vs → ds.lookup x = some d → ∃ v, vs.lookup x = some v ∧ Rep K H d v
  | .nil, e => by simp at e
  | .cons (x := y) a b, e => by
    rw [List.lookup_cons] at e ⊢
    cases q : (x == y) with
    | true => rw [q] at e; cases e; exact ⟨_, rfl, a⟩
    | false => rw [q] at e; exact FReps.get b e
theorem FReps.names {ds : List (Str × D)} {vs : List (Str × V)} : FReps K H ds vs → ds.map (·.1) = vs.map (·.1)
  | .nil => rfl
  | .cons _ b => by simp [FReps.names b]
theorem FReps.lookup_none {ds : List (Str × D)} {vs : List (Str × V)} {x : Str} : FReps K H ds vs → ds.lookup x = none → vs.lookup x = none
  | .nil, _ => rfl
  | .cons (x := y) a b, e => by
    rw [List.lookup_cons] at e ⊢
    cases q : (x == y) with
    | true => rw [q] at e; cases e
    | false => rw [q] at e; exact FReps.lookup_none b e
end

/-! ### owning -/
inductive All3 {α β γ : Type} (R : α → β → γ → Prop) : List α → List β → List γ → Prop
  | nil : All3 R [] [] []
  | cons {a : α} {b : β} {c : γ} {as : List α} {bs : List β} {cs : List γ} : R a b c → All3 R as bs cs → All3 R (a :: as) (b :: bs) (c :: cs)
theorem All3.imp {α β γ : Type} {R S : α → β → γ → Prop} : ∀ {as : List α} {bs : List β} {cs : List γ}, All3 R as bs cs → (∀ a b c, c ∈ cs → R a b c → S a b c) → All3 S as bs cs
  | _, _, _, .nil, _ => .nil
  | _, _, _, .cons r t, f => .cons (f _ _ _ (List.mem_cons_self) r) (All3.imp t fun a b c hc => f a b c (List.mem_cons_of_mem _ hc))

/-- an exception: its class and its fields, its own dict's address -/
def XRep (K : PySem.W.Frag) (Hs : Hp) (c : Str) (fs : List (Str × D)) (cls : Value) (dx : Option Addr) : Prop :=
  cls = .ref (He.ga K c) ∧ ((fs = [] ∧ dx = none) ∨ ∃ d vfs, dx = some d ∧ Hs d = some (.xd vfs) ∧ FReps K Hs fs vfs)
theorem XRep.mono {K : PySem.W.Frag} {Hs Hs' : Hp} {c : Str} {fs : List (Str × D)} {cls : Value} {dx : Option Addr} (e : Ext Hs Hs') (h : XRep K Hs c fs cls dx) : XRep K Hs' c fs cls dx :=
  ⟨h.1, h.2.imp (fun z => z) fun ⟨d, vfs, h1, h2, h3⟩ => ⟨d, vfs, h1, e _ _ h2, h3.mono e⟩⟩
/-- how a slot holds its datum: shared; a list of its own, its items held so; an instance of its own (self in __init__); the error that an except clause has caught -/
inductive Kd where
  | sh | ls (k : Kd) | dt | dk | pt | slf (a : Addr) | exc (a : Addr) (dx : Option Addr) (C : Addr)
  deriving DecidableEq

/-- v holds d: Hs is what is shared, F the addresses that are owned -/
def Own (K : PySem.W.Frag) : Kd → Hp → Hp → D → V → List Addr → Prop
  | .sh, _, Hs, d, v, F => Rep K Hs d v ∧ F = []
  | .ls k, H, Hs, d, v, F => ∃ a ds vs Fs, v = .ref a ∧ d = .lst ds ∧ H a = some (.lst vs) ∧ F = a :: Fs.flatten ∧ All3 (Own K k H Hs) ds vs Fs
  | .dt, H, Hs, d, v, F => ∃ a ks vs, v = .ref a ∧ d = .dct ks ∧ H a = some (.dT vs) ∧ F = [a] ∧ TReps K Hs ks vs
  | .dk, H, Hs, d, v, F => ∃ a ks vs, v = .ref a ∧ d = .dck ks ∧ H a = some (.dK vs) ∧ F = [a] ∧ KReps K Hs ks vs
  | .pt, _, Hs, d, v, F => ∃ a ds vs, v = .ref a ∧ d = .tup ds ∧ Hs a = some (.tup vs) ∧ F = [] ∧ Reps K Hs ds vs
  | .slf a, H, Hs, d, v, F => ∃ c dx fs vfs, v = .ref a ∧ d = .ins c fs ∧ H a = some (.ins (He.ga K c) dx vfs) ∧ F = [a] ∧ FReps K Hs fs vfs
  | .exc a dx C, _, Hs, d, v, F => v = .ref a ∧ F = [] ∧ ∃ c fs, d = .exc c fs ∧ XRep K Hs c fs (.ref C) dx
theorem Own.mono {K : PySem.W.Frag} {H H' Hs Hs' : Hp} (es : Ext Hs Hs') : ∀ {k : Kd} {d : D} {v : V} {F : List Addr}, (∀ a ∈ F, H' a = H a) → Own K k H Hs d v F → Own K k H' Hs' d v F
  | .sh, _, _, _, _, h => ⟨h.1.mono es, h.2⟩
  | .ls k, d, v, F, hf, h => by
    obtain ⟨a, ds, vs, Fs, rfl, rfl, ha, rfl, r⟩ := h
    refine ⟨a, ds, vs, Fs, rfl, rfl, ?_, rfl, r.imp fun d v G hG q => Own.mono es (fun b hb => hf b (List.mem_cons_of_mem _ (List.mem_flatten.mpr ⟨G, hG, hb⟩))) q⟩
    rw [hf a List.mem_cons_self]; exact ha
  | .dt, d, v, F, hf, h => by
    obtain ⟨a, ks, vs, rfl, rfl, ha, rfl, r⟩ := h
    exact ⟨a, ks, vs, rfl, rfl, by rw [hf a List.mem_cons_self]; exact ha, rfl, r.mono es⟩
  | .dk, d, v, F, hf, h => by
    obtain ⟨a, ks, vs, rfl, rfl, ha, rfl, r⟩ := h
    exact ⟨a, ks, vs, rfl, rfl, by rw [hf a List.mem_cons_self]; exact ha, rfl, r.mono es⟩
  | .pt, d, v, F, hf, h => by
    obtain ⟨a, ds, vs, rfl, rfl, ha, rfl, r⟩ := h
    exact ⟨a, ds, vs, rfl, rfl, es _ _ ha, rfl, r.mono es⟩
  | .slf a, d, v, F, hf, h => by
    obtain ⟨c, dx, fs, vfs, rfl, rfl, ha, rfl, r⟩ := h
    exact ⟨c, dx, fs, vfs, rfl, rfl, by rw [hf a List.mem_cons_self]; exact ha, rfl, r.mono es⟩
  | .exc a dx C, d, v, F, hf, h => by
    obtain ⟨h1, h2, c, fs, h3, h4⟩ := h
    exact ⟨h1, h2, c, fs, h3, h4.mono es⟩

/-- both heaps have grown: all, and the shared part -/
structure Grow (H Hs H' Hs' : Hp) : Prop where
  ex : Ext H H'
  exs : Ext Hs Hs'
  sub : Sub Hs' H'
  fr : ∀ a o, Hs' a = some o → Hs a = none → H a = none
theorem Grow.refl {H Hs : Hp} (h : Sub Hs H) : Grow H Hs H Hs := ⟨.refl _, .refl _, h, fun a o e n => by rw [n] at e; cases e⟩
theorem Grow.trans {H Hs H1 Hs1 H2 Hs2 : Hp} (a : Grow H Hs H1 Hs1) (b : Grow H1 Hs1 H2 Hs2) : Grow H Hs H2 Hs2 :=
  ⟨a.ex.trans b.ex, a.exs.trans b.exs, b.sub, fun x o e n => by
    cases q : Hs1 x with
    | none => exact a.ex.none (b.fr x o e q)
    | some u => exact a.fr x u q n⟩
theorem Grow.new {H Hs : Hp} {p : Addr} {o : HO} (h : Sub Hs H) (hp : H p = none) : Grow H Hs (upd H p o) (upd Hs p o) := by
  refine ⟨.new hp, .new (h.none hp), h.new hp, fun a u e n => ?_⟩
  by_cases q : a = p
  · subst q; exact hp
  · rw [upd_ne q] at e; rw [n] at e; cases e
/-- a new object that is not shared yet -/
theorem Grow.newOwn {H Hs : Hp} {p : Addr} {o : HO} (h : Sub Hs H) (hp : H p = none) (ho : NT o) : Grow H Hs (upd H p o) Hs :=
  ⟨.new hp, .refl _, h.own (h.none hp) ho, fun a u e n => by rw [n] at e; cases e⟩
/-- it is shared now -/
def join (Hs H : Hp) (F : List Addr) : Hp := fun a => if a ∈ F then H a else Hs a
theorem join_in {Hs H : Hp} {F : List Addr} {a : Addr} (h : a ∈ F) : join Hs H F a = H a := by unfold join; rw [if_pos h]
theorem join_out {Hs H : Hp} {F : List Addr} {a : Addr} (h : a ∉ F) : join Hs H F a = Hs a := by unfold join; rw [if_neg h]
theorem join_sub {Hs H : Hp} {F : List Addr} (h : Sub Hs H) : Sub (join Hs H F) H := ⟨fun a o e => by
  by_cases q : a ∈ F
  · rw [join_in q] at e; exact e
  · rw [join_out q] at e; exact h.ex a o e, fun b vs e => by
  by_cases q : b ∈ F
  · rw [join_in q]; exact e
  · rw [join_out q]; exact h.tu b vs e⟩
theorem join_ext {Hs H : Hp} {F : List Addr} (h : Sub Hs H) : Ext Hs (join Hs H F) := fun a o e => by
  by_cases q : a ∈ F
  · rw [join_in q]; exact h.ex a o e
  · rw [join_out q]; exact e
theorem Own.share {K : PySem.W.Frag} {H Hs : Hp} (sub : Sub Hs H) : ∀ {k : Kd} {d : D} {v : V} {F G : List Addr}, (∀ a ∈ F, a ∈ G) → Own K k H Hs d v F → Rep K (join Hs H G) d v
  | .sh, _, _, _, _, _, h => h.1.mono (join_ext sub)
  | .ls k, d, v, F, G, hf, h => by
    obtain ⟨a, ds, vs, Fs, rfl, rfl, ha, rfl, r⟩ := h
    refine .lst (vs := vs) ?_ ?_
    · rw [join_in (hf a List.mem_cons_self)]; exact ha
    · have hf' : ∀ F ∈ Fs, ∀ a ∈ F, a ∈ G := fun F hF a ha => hf a (List.mem_cons_of_mem _ (List.mem_flatten.mpr ⟨F, hF, ha⟩))
      clear ha hf
      induction r with
      | nil => exact .nil
      | cons q _ ih => exact .cons (Own.share sub (hf' _ List.mem_cons_self) q) (ih fun F hF => hf' F (List.mem_cons_of_mem _ hF))
  | .dt, d, v, F, G, hf, h => by
    obtain ⟨a, ks, vs, rfl, rfl, ha, rfl, r⟩ := h
    exact .dct (vs := vs) (by rw [join_in (hf a List.mem_cons_self)]; exact ha) (r.mono (join_ext sub))
  | .dk, d, v, F, G, hf, h => by
    obtain ⟨a, ks, vs, rfl, rfl, ha, rfl, r⟩ := h
    exact .dck (vs := vs) (by rw [join_in (hf a List.mem_cons_self)]; exact ha) (r.mono (join_ext sub))
  | .pt, d, v, F, G, hf, h => by
    obtain ⟨a, ds, vs, rfl, rfl, ha, rfl, r⟩ := h
    exact .tup (SqT.of (join_ext sub _ _ ha)) (r.mono (join_ext sub))
  | .slf a, d, v, F, G, hf, h => by
    obtain ⟨c, dx, fs, vfs, rfl, rfl, ha, rfl, r⟩ := h
    exact .ins (vfs := vfs) (dx := dx) (by rw [join_in (hf a List.mem_cons_self)]; exact ha) (r.mono (join_ext sub))
  | .exc a dx C, d, v, F, G, hf, h => by
    obtain ⟨rfl, h2, c, fs, rfl, h4⟩ := h
    exact .exc
theorem Own.ext {K : PySem.W.Frag} {H H' Hs Hs' : Hp} (g : Ext H H') (es : Ext Hs Hs') {k : Kd} {d : D} {v : V} {F : List Addr} (al : ∀ a ∈ F, H a ≠ none) (h : Own K k H Hs d v F) : Own K k H' Hs' d v F :=
  h.mono es fun a ha => by
    cases q : H a with
    | none => exact absurd q (al a ha)
    | some o => exact g a o q

/-- a result: v holds d behind a growth of the heaps -/
def Res (K : PySem.W.Frag) (r : Kd) (d : D) (v : V) (H Hs H' : Hp) : Prop :=
  ∃ Hs' G, Grow H Hs H' Hs' ∧ G.Nodup ∧ (∀ a ∈ G, H a = none ∧ Hs' a = none ∧ H' a ≠ none) ∧ Own K r H' Hs' d v G
theorem Res.sh {K : PySem.W.Frag} {d : D} {v : V} {H Hs H' Hs' : Hp} (g : Grow H Hs H' Hs') (r : Rep K Hs' d v) : Res K .sh d v H Hs H' :=
  ⟨Hs', [], g, List.nodup_nil, (fun _ h => by cases h), ⟨r, rfl⟩⟩
theorem Res.out {K : PySem.W.Frag} {d : D} {v : V} {H Hs H' : Hp} (r : Res K .sh d v H Hs H') : ∃ Hs', Grow H Hs H' Hs' ∧ Rep K Hs' d v := by
  obtain ⟨Hs', G, g, _, _, h, _⟩ := r
  exact ⟨Hs', g, h⟩
theorem Res.share {K : PySem.W.Frag} {k : Kd} {d : D} {v : V} {H Hs H' : Hp} (r : Res K k d v H Hs H') : Res K .sh d v H Hs H' := by
  obtain ⟨Hs', G, g, nd, fr, h⟩ := r
  refine .sh (Hs' := join Hs' H' G) ⟨g.ex, g.exs.trans (join_ext g.sub), join_sub g.sub, fun a o e n => ?_⟩ (h.share g.sub fun _ h => h)
  by_cases q : a ∈ G
  · exact (fr a q).1
  · rw [join_out q] at e; exact g.fr a o e n
theorem Res.pre {K : PySem.W.Frag} {k : Kd} {d : D} {v : V} {H Hs H1 Hs1 H' : Hp} (g : Grow H Hs H1 Hs1) (r : Res K k d v H1 Hs1 H') : Res K k d v H Hs H' := by
  obtain ⟨Hs', G, g', nd, fr, h⟩ := r
  exact ⟨Hs', G, g.trans g', nd, fun a ha => ⟨g.ex.none (fr a ha).1, (fr a ha).2⟩, h⟩

/-! ### the state of a body -/
abbrev Env := List (Option D)
abbrev Foot := Nat → List Addr
def kAt (κ : List Kd) (i : Nat) : Kd := κ.getD i .sh
/-- H0, Hs0: the heaps at the def's entry; S: what the def may change of them -/
structure Rel (K : PySem.W.Frag) (S : List Addr) (H0 Hs0 : Hp) (κ : List Kd) (ρ : Env) (σ : L2.St) (H Hs : Hp) (F : Foot) : Prop where
  len : ρ.length = σ.length
  sl : ∀ i d, ρ[i]? = some (some d) → ∃ v, σ[i]? = some (some v) ∧ Own K (kAt κ i) H Hs d v (F i)
  nd : ∀ i, (F i).Nodup
  dj : ∀ i j a, a ∈ F i → a ∈ F j → i = j
  al : ∀ i a, a ∈ F i → H a ≠ none ∧ Hs a = none
  fr : ∀ i a, a ∈ F i → Hs0 a = none ∧ (H0 a = none ∨ (a ∈ S ∧ i = 0))
  g : Ext Hs0 Hs
  sub : Sub Hs H
  old : ∀ a o, H0 a = some o → a ∉ S → H a = some o
  st : ∀ a, H0 a ≠ none → H a ≠ none
  new : ∀ a o, Hs a = some o → Hs0 a = none → H0 a = none

section
variable {K : PySem.W.Frag} {S : List Addr} {H0 Hs0 : Hp} {κ : List Kd} {ρ : Env} {σ : L2.St} {H Hs H' Hs' : Hp} {F : Foot}
theorem Rel.grow (R : Rel K S H0 Hs0 κ ρ σ H Hs F) (g : Grow H Hs H' Hs') : Rel K S H0 Hs0 κ ρ σ H' Hs' F where
  len := R.len
  sl := fun i d e => by
    obtain ⟨v, h1, h2⟩ := R.sl i d e
    exact ⟨v, h1, h2.ext g.ex g.exs fun a ha => (R.al i a ha).1⟩
  nd := R.nd
  dj := R.dj
  al := fun i a ha => by
    obtain ⟨h1, h2⟩ := R.al i a ha
    refine ⟨fun e => h1 (g.ex.none e), ?_⟩
    cases q : Hs' a with
    | none => rfl
    | some o => exact absurd (g.fr a o q h2) h1
  fr := R.fr
  g := R.g.trans g.exs
  sub := g.sub
  old := fun a o e h => g.ex a o (R.old a o e h)
  st := fun a h e => R.st a h (g.ex.none e)
  new := fun a o e n => by
    cases q : Hs a with
    | none =>
      have z := g.fr a o e q
      cases y : H0 a with
      | none => rfl
      | some u => exact absurd z (R.st a (by rw [y]; simp))
    | some u => exact R.new a u q n
/-- from the entry (nothing may be changed) -/
theorem Rel.all (R : Rel K [] H0 Hs0 κ ρ σ H Hs F) : Grow H0 Hs0 H Hs := ⟨fun a o e => R.old a o e (List.not_mem_nil), R.g, R.sub, fun a o e n => R.new a o e n⟩
def setF (F : Foot) (i : Nat) (G : List Addr) : Foot := fun j => if j = i then G else F j
theorem setF_same {i : Nat} {G : List Addr} : setF F i G i = G := by unfold setF; rw [if_pos rfl]
theorem setF_ne {i j : Nat} {G : List Addr} (h : j ≠ i) : setF F i G j = F j := by unfold setF; rw [if_neg h]
theorem kAt_set_same {i : Nat} {k : Kd} (h : i < κ.length) : kAt (κ.set i k) i = k := by
  unfold kAt; rw [List.getD_eq_getElem?_getD, List.getElem?_set_self h]; rfl
theorem kAt_set_ne {i j : Nat} {k : Kd} (h : j ≠ i) : kAt (κ.set i k) j = kAt κ j := by
  unfold kAt; rw [List.getD_eq_getElem?_getD, List.getD_eq_getElem?_getD, List.getElem?_set_ne (Ne.symm h)]
/-- a slot gets a result -/
theorem Rel.put (R : Rel K S H0 Hs0 κ ρ σ H Hs F) {i : Nat} {r : Kd} {d : D} {v : V} (hi : i < κ.length) (q : Res K r d v H Hs H') : ∃ Hs' F', Rel K S H0 Hs0 (κ.set i r) (ρ.set i (some d)) (σ.set i (some v)) H' Hs' F' ∧ Ext Hs Hs' := by
  obtain ⟨Hs', G, g, nd, fr, ow⟩ := q
  have R' := R.grow g
  have off : ∀ j a, a ∈ G → a ∉ F j := fun j a ha hj => (R.al j a hj).1 (fr a ha).1
  refine ⟨Hs', setF F i G, ⟨by rw [List.length_set, List.length_set]; exact R'.len, fun j e h => ?_, fun j => ?_, fun j l a h1 h2 => ?_, fun j a ha => ?_, fun j a ha => ?_, R'.g, R'.sub, R'.old, R'.st, R'.new⟩, g.exs⟩
  · by_cases hj : j = i
    · subst hj
      have hl : j < ρ.length := by
        cases Nat.lt_or_ge j ρ.length with
        | inl z => exact z
        | inr z => rw [List.getElem?_eq_none (by rw [List.length_set]; exact z)] at h; cases h
      rw [List.getElem?_set_self hl] at h
      cases h
      exact ⟨v, List.getElem?_set_self (R.len ▸ hl), by rw [kAt_set_same hi, setF_same]; exact ow⟩
    · rw [List.getElem?_set_ne (Ne.symm hj)] at h
      obtain ⟨u, h1, h2⟩ := R'.sl j e h
      exact ⟨u, by rw [List.getElem?_set_ne (Ne.symm hj)]; exact h1, by rw [kAt_set_ne hj, setF_ne hj]; exact h2⟩
  · by_cases hj : j = i
    · subst hj; rw [setF_same]; exact nd
    · rw [setF_ne hj]; exact R.nd j
  · by_cases hj : j = i
    · by_cases hl : l = i
      · rw [hj, hl]
      · subst hj; rw [setF_same] at h1; rw [setF_ne hl] at h2; exact absurd h2 (off l a h1)
    · by_cases hl : l = i
      · subst hl; rw [setF_same] at h2; rw [setF_ne hj] at h1; exact absurd h1 (off j a h2)
      · rw [setF_ne hj] at h1; rw [setF_ne hl] at h2; exact R.dj j l a h1 h2
  · by_cases hj : j = i
    · subst hj; rw [setF_same] at ha; exact ⟨(fr a ha).2.2, (fr a ha).2.1⟩
    · rw [setF_ne hj] at ha; exact R'.al j a ha
  · by_cases hj : j = i
    · subst hj
      rw [setF_same] at ha
      have hn := (fr a ha).1
      refine ⟨R.g.none (R.sub.none hn), .inl ?_⟩
      cases y : H0 a with
      | none => rfl
      | some u => exact absurd hn (R.st a (by rw [y]; simp))
    · rw [setF_ne hj] at ha; exact R.fr j a ha
/-- a slot's datum, shared for good -/
theorem Rel.freeze (R : Rel K S H0 Hs0 κ ρ σ H Hs F) {i : Nat} {d : D} (hs : S = [] ∨ i ≠ 0) (hi : i < κ.length) (hd : ρ[i]? = some (some d)) : ∃ Hs' F', Rel K S H0 Hs0 (κ.set i .sh) ρ σ H Hs' F' ∧ Ext Hs Hs' := by
  obtain ⟨v, hv, ow⟩ := R.sl i d hd
  have sh := ow.share R.sub (G := F i) fun _ h => h
  have ex := join_ext (F := F i) R.sub
  refine ⟨join Hs H (F i), setF F i [], ⟨R.len, fun j e h => ?_, fun j => ?_, fun j l a h1 h2 => ?_, fun j a ha => ?_, fun j a ha => ?_, R.g.trans ex, join_sub R.sub, R.old, R.st, fun a o e n => ?_⟩, ex⟩
  · by_cases hj : j = i
    · subst hj
      rw [hd] at h
      cases h
      exact ⟨v, hv, by rw [kAt_set_same hi, setF_same]; exact ⟨sh, rfl⟩⟩
    · obtain ⟨u, h1, h2⟩ := R.sl j e h
      exact ⟨u, h1, by rw [kAt_set_ne hj, setF_ne hj]; exact h2.mono ex fun _ _ => rfl⟩
  · by_cases hj : j = i
    · subst hj; rw [setF_same]; exact List.nodup_nil
    · rw [setF_ne hj]; exact R.nd j
  · by_cases hj : j = i
    · subst hj; rw [setF_same] at h1; cases h1
    · by_cases hl : l = i
      · subst hl; rw [setF_same] at h2; cases h2
      · rw [setF_ne hj] at h1; rw [setF_ne hl] at h2; exact R.dj j l a h1 h2
  · by_cases hj : j = i
    · subst hj; rw [setF_same] at ha; cases ha
    · rw [setF_ne hj] at ha
      refine ⟨(R.al j a ha).1, ?_⟩
      rw [join_out fun z => hj (R.dj j i a ha z)]
      exact (R.al j a ha).2
  · by_cases hj : j = i
    · subst hj; rw [setF_same] at ha; cases ha
    · rw [setF_ne hj] at ha; exact R.fr j a ha
  · by_cases q : a ∈ F i
    · rcases (R.fr i a q).2 with z | z
      · exact z
      · rcases hs with h | h
        · rw [h] at z; exact nomatch z.1
        · exact absurd z.2 h
    · rw [join_out q] at e; exact R.new a o e n
/-- an owned list in a slot changes its items -/
theorem Rel.mut (R : Rel K S H0 Hs0 κ ρ σ H Hs F) {i : Nat} {k : Kd} {d d' : D} {v : V} {G : List Addr} (hd : ρ[i]? = some (some d)) (hv : σ[i]? = some (some v)) (hH : ∀ a, a ∉ F i → a ∉ G → H' a = H a) (hex : Sub Hs H')
    (hal : ∀ a, H a ≠ none → H' a ≠ none) (nd : G.Nodup) (fr : ∀ a ∈ G, a ∈ F i ∨ (H a = none ∧ H' a ≠ none)) (ow : Own K (kAt κ i) H' Hs d' v G) :
    ∃ F', Rel K S H0 Hs0 κ (ρ.set i (some d')) σ H' Hs F' := by
  have off : ∀ j a, j ≠ i → a ∈ F j → a ∉ F i ∧ a ∉ G := fun j a hj ha => by
    have h1 : a ∉ F i := fun z => hj (R.dj j i a ha z)
    refine ⟨h1, fun z => ?_⟩
    rcases fr a z with y | y
    · exact h1 y
    · exact (R.al j a ha).1 y.1
  have hGs : ∀ a ∈ G, Hs a = none := fun a ha => by
    rcases fr a ha with y | y
    · exact (R.al i a y).2
    · exact R.sub.none y.1
  refine ⟨setF F i G, ⟨by rw [List.length_set]; exact R.len, fun j e h => ?_, fun j => ?_, fun j l a h1 h2 => ?_, fun j a ha => ?_, fun j a ha => ?_, R.g, hex, fun a o e hs => ?_, fun a h => hal a (R.st a h), R.new⟩⟩
  · by_cases hj : j = i
    · subst hj
      rw [List.getElem?_set_self (List.getElem?_eq_some_iff.mp hd).1] at h
      cases h
      exact ⟨v, hv, by rw [setF_same]; exact ow⟩
    · rw [List.getElem?_set_ne (Ne.symm hj)] at h
      obtain ⟨u, h1, h2⟩ := R.sl j e h
      exact ⟨u, h1, by rw [setF_ne hj]; exact h2.mono (.refl _) fun a ha => hH a (off j a hj ha).1 (off j a hj ha).2⟩
  · by_cases hj : j = i
    · subst hj; rw [setF_same]; exact nd
    · rw [setF_ne hj]; exact R.nd j
  · by_cases hj : j = i
    · by_cases hl : l = i
      · rw [hj, hl]
      · subst hj; rw [setF_same] at h1; rw [setF_ne hl] at h2; exact absurd h1 (off l a hl h2).2
    · by_cases hl : l = i
      · subst hl; rw [setF_same] at h2; rw [setF_ne hj] at h1; exact absurd h2 (off j a hj h1).2
      · rw [setF_ne hj] at h1; rw [setF_ne hl] at h2; exact R.dj j l a h1 h2
  · by_cases hj : j = i
    · subst hj; rw [setF_same] at ha
      refine ⟨?_, hGs a ha⟩
      rcases fr a ha with y | y
      · exact hal a (R.al j a y).1
      · exact y.2
    · rw [setF_ne hj] at ha; exact ⟨hal a (R.al j a ha).1, (R.al j a ha).2⟩
  · by_cases hj : j = i
    · subst hj; rw [setF_same] at ha
      rcases fr a ha with y | y
      · exact R.fr j a y
      · refine ⟨R.g.none (R.sub.none y.1), .inl ?_⟩
        cases z : H0 a with
        | none => rfl
        | some u => exact absurd y.1 (R.st a (by rw [z]; simp))
    · rw [setF_ne hj] at ha; exact R.fr j a ha
  · have h1 := R.old a o e hs
    rw [hH a (fun z => ?_) (fun z => ?_)]
    · exact h1
    · rcases (R.fr i a z).2 with y | y
      · rw [e] at y; cases y
      · exact hs y.1
    · rcases fr a z with y | y
      · rcases (R.fr i a y).2 with x | x
        · rw [e] at x; cases x
        · exact hs x.1
      · rw [h1] at y; cases y.1
end

/-! ### outcomes -/
inductive O (α : Type) where
  | stuck | ok (a : α) | exc (c : Str) (fs : List (Str × D))
def O.bind {α β : Type} (x : O α) (f : α → O β) : O β := match x with
  | .stuck => .stuck
  | .ok a => f a
  | .exc c fs => .exc c fs
instance : Monad O where
  pure := .ok
  bind := O.bind
def XRes (K : PySem.W.Frag) (c : Str) (fs : List (Str × D)) (cls : Value) (dx : Option Addr) (H Hs H' : Hp) : Prop := ∃ Hs', Grow H Hs H' Hs' ∧ XRep K Hs' c fs cls dx

/-- what is wanted behind an expression that comes to o -/
def EPost (K : PySem.W.Frag) (W : WX) (r : Kd) (σ : L2.St) (H Hs : Hp) (Q : VK) : O D → Prop
  | .stuck => False
  | .ok d => ∀ v H', Res K r d v H Hs H' → Q v H'
  | .exc c fs => ∀ cls dx H', XRes K c fs cls dx H Hs H' → W cls dx σ H'
def tE (K : PySem.W.Frag) (W : WX) (κ : List Kd) (r : Kd) (f : Env → O D) : TE := fun σ H Q =>
  ∃ S H0 Hs0 ρ Hs F, Rel K S H0 Hs0 κ ρ σ H Hs F ∧ EPost K W r σ H Hs Q (f ρ)
/-- the expression e comes to f of the slots -/
abbrev CE (X : Cx) (W : WX) (κ : List Kd) (r : Kd) (e : Expr) (f : Env → O D) : Prop := PE X e (tE X.K W κ r f)
def APost (K : PySem.W.Frag) (W : WX) (σ : L2.St) (H Hs : Hp) (Q : List V → Hp → Prop) : O (List D) → Prop
  | .stuck => False
  | .ok ds => ∀ vs H' Hs', Grow H Hs H' Hs' → Reps K Hs' ds vs → Q vs H'
  | .exc c fs => ∀ cls dx H', XRes K c fs cls dx H Hs H' → W cls dx σ H'
def tA (K : PySem.W.Frag) (W : WX) (κ : List Kd) (f : Env → O (List D)) : TA := fun σ H Q =>
  ∃ S H0 Hs0 ρ Hs F, Rel K S H0 Hs0 κ ρ σ H Hs F ∧ APost K W σ H Hs Q (f ρ)
abbrev CA (X : Cx) (W : WX) (κ : List Kd) (es : List Expr) (f : Env → O (List D)) : Prop := PA X es (tA X.K W κ f)
def TPost (K : PySem.W.Frag) (W : WX) (σ : L2.St) (H Hs : Hp) (Q : Bool → Hp → Prop) : O Bool → Prop
  | .stuck => False
  | .ok b => ∀ H' Hs', Grow H Hs H' Hs' → Q b H'
  | .exc c fs => ∀ cls dx H', XRes K c fs cls dx H Hs H' → W cls dx σ H'
def tT (K : PySem.W.Frag) (W : WX) (κ : List Kd) (f : Env → O Bool) : TT := fun σ H Q =>
  ∃ S H0 Hs0 ρ Hs F, Rel K S H0 Hs0 κ ρ σ H Hs F ∧ TPost K W σ H Hs Q (f ρ)
abbrev CT (X : Cx) (W : WX) (κ : List Kd) (e : Expr) (f : Env → O Bool) : Prop := PT X e (tT X.K W κ f)

end T

set_option Elab.async false
set_option linter.all false
set_option maxRecDepth 100000
set_option maxHeartbeats 1000000
/-! T1: expressions: names, constants, operators, comparisons, tests, displays, items, slices. -/
namespace T
open PySem L2

/-! ### how outcomes are put together -/
/-- an equation that simp is to apply by a rewrite, never by unfolding -/
theorem nd {α : Sort _} {a b : α} (h : a = b) : a = b := h
@[simp] theorem bind_ok {α β : Type} (a : α) (f : α → O β) : (O.ok a >>= f) = f a := nd rfl
@[simp] theorem bind_stuck {α β : Type} (f : α → O β) : ((O.stuck : O α) >>= f) = O.stuck := nd rfl
@[simp] theorem bind_exc {α β : Type} (c : Str) (fs : List (Str × D)) (f : α → O β) : ((O.exc c fs : O α) >>= f) = O.exc c fs := nd rfl
@[simp] theorem pure_ok {α : Type} (a : α) : (pure a : O α) = O.ok a := rfl

theorem PE.imp {X : Cx} {e : Expr} {t t' : TE} (h : PE X e t) (hi : ∀ σ H Q, t' σ H Q → t σ H Q) : PE X e t' := ⟨fun pins s σ H Q I q => h.run pins s σ H Q I (hi σ H Q q)⟩
theorem PT.imp {X : Cx} {e : Expr} {t t' : TT} (h : PT X e t) (hi : ∀ σ H Q, t' σ H Q → t σ H Q) : PT X e t' := ⟨fun pins s σ H Q I q => h.run pins s σ H Q I (hi σ H Q q)⟩
theorem PW.imp {X : Cx} {e : Expr} {t t' : TT} (h : PW X e t) (hi : ∀ σ H Q, t' σ H Q → t σ H Q) : PW X e t' := ⟨fun wh pins s σ H Q I q => h.run wh pins s σ H Q I (hi σ H Q q)⟩
theorem PA.imp {X : Cx} {e : List Expr} {t t' : TA} (h : PA X e t) (hi : ∀ σ H Q, t' σ H Q → t σ H Q) : PA X e t' := ⟨fun pos pins s σ H Q I q => h.run pos pins s σ H Q I (hi σ H Q q)⟩

section
variable {X : Cx} {W : WX} {κ : List Kd}

theorem xres_pre {K : PySem.W.Frag} {c : Str} {fs : List (Str × D)} {cls : Value} {dx : Option Addr} {H Hs H1 Hs1 H' : Hp} (g : Grow H Hs H1 Hs1) (r : XRes K c fs cls dx H1 Hs1 H') : XRes K c fs cls dx H Hs H' := by
  obtain ⟨Hs', g', x⟩ := r
  exact ⟨Hs', g.trans g', x⟩

/-- a part is evaluated, its datum shared; then the rest -/
theorem step {S : List Addr} {H0 Hs0 : Hp} {ρ : Env} {σ : L2.St} {H Hs : Hp} {F : Foot} {K : PySem.W.Frag} {f : Env → O D} {k : D → O D} {r : Kd} {Q : VK} (R : Rel K S H0 Hs0 κ ρ σ H Hs F) (p : EPost K W r σ H Hs Q (f ρ >>= k))
    {R2 : V → Hp → Prop} (h : ∀ d v H1 Hs1, f ρ = .ok d → Grow H Hs H1 Hs1 → Rel K S H0 Hs0 κ ρ σ H1 Hs1 F → Rep K Hs1 d v → EPost K W r σ H1 Hs1 Q (k d) → R2 v H1) : tE K W κ .sh f σ H R2 := by
  refine ⟨S, H0, Hs0, ρ, Hs, F, R, ?_⟩
  cases e : f ρ with
  | stuck => rw [e] at p; exact p
  | exc c fs => rw [e] at p; exact p
  | ok d =>
    rw [e] at p
    intro v H1 q
    obtain ⟨Hs1, g, rp⟩ := q.out
    refine h d v H1 Hs1 e g (R.grow g) rp ?_
    have p' : EPost K W r σ H Hs Q (k d) := p
    cases ek : k d with
    | stuck => rw [ek] at p'; exact p'
    | ok z => rw [ek] at p'; exact fun v' H' q' => p' v' H' (q'.pre g)
    | exc c fs => rw [ek] at p'; exact fun cls dx H' q' => p' cls dx H' (xres_pre g q')
/-- the same for arguments -/
theorem stepA {S : List Addr} {H0 Hs0 : Hp} {ρ : Env} {σ : L2.St} {H Hs : Hp} {F : Foot} {K : PySem.W.Frag} {f : Env → O (List D)} {k : List D → O D} {r : Kd} {Q : VK} (R : Rel K S H0 Hs0 κ ρ σ H Hs F) (p : EPost K W r σ H Hs Q (f ρ >>= k))
    {R2 : List V → Hp → Prop} (h : ∀ d v H1 Hs1, f ρ = .ok d → Grow H Hs H1 Hs1 → Rel K S H0 Hs0 κ ρ σ H1 Hs1 F → Reps K Hs1 d v → EPost K W r σ H1 Hs1 Q (k d) → R2 v H1) : tA K W κ f σ H R2 := by
  refine ⟨S, H0, Hs0, ρ, Hs, F, R, ?_⟩
  cases e : f ρ with
  | stuck => rw [e] at p; exact p
  | exc c fs => rw [e] at p; exact p
  | ok d =>
    rw [e] at p
    intro v H1 Hs1 g rp
    refine h d v H1 Hs1 e g (R.grow g) rp ?_
    have p' : EPost K W r σ H Hs Q (k d) := p
    cases ek : k d with
    | stuck => rw [ek] at p'; exact p'
    | ok z => rw [ek] at p'; exact fun v' H' q' => p' v' H' (q'.pre g)
    | exc c fs => rw [ek] at p'; exact fun cls dx H' q' => p' cls dx H' (xres_pre g q')

/-! ### names and constants -/
def mVar (i : Nat) : Env → O D := fun ρ => match ρ[i]? with
  | some (some d) => .ok d
  | _ => .stuck
def mC (d : D) : Env → O D := fun _ => .ok d
theorem ce_var (i : Nat) {x : Str} {pos : Pos} (hk : kAt κ i = .sh) (hp : PE X (.Name x pos) (tVar i)) : CE X W κ .sh (.Name x pos) (mVar i) :=
  PE.imp hp fun σ H Q h => by
    obtain ⟨S, H0, Hs0, ρ, Hs, F, R, p⟩ := h
    unfold mVar at p
    split at p
    · rename_i d e
      obtain ⟨v, h1, h2⟩ := R.sl i d e
      rw [hk] at h2
      exact ⟨v, h1, p v H (.sh (.refl R.sub) h2.1)⟩
    · exact p.elim
theorem ce_const {e : Expr} {d : D} {v : V} (hp : PE X e (tC v)) (hr : ∀ Hs, Rep X.K Hs d v) : CE X W κ .sh e (mC d) :=
  PE.imp hp fun σ H Q h => by
    obtain ⟨S, H0, Hs0, ρ, Hs, F, R, p⟩ := h
    exact p v H (.sh (.refl R.sub) (hr _))
theorem ce_int {i : Int} {j : Nat} {pos : Pos} : CE X W κ .sh (.Constant (.int i) j pos) (mC (.int i)) := ce_const pe_int fun _ => .int i
theorem ce_bl {b : Bool} {j : Nat} {pos : Pos} : CE X W κ .sh (.Constant (.bool b) j pos) (mC (.bl b)) := ce_const pe_bl fun _ => .bl b
theorem ce_non {j : Nat} {pos : Pos} : CE X W κ .sh (.Constant .none j pos) (mC .non) := ce_const pe_non fun _ => .non
theorem ce_str {s : Str} {j : Nat} {pos : Pos} : CE X W κ .sh (.Constant (.str s) j pos) (mC (.str s)) := ce_const pe_str fun _ => .str s
/-- the owned list of a slot as a shared datum is not to be had; but where the outcome is flat, it may be read -/
def D.flat : D → Bool
  | .non | .bl _ | .int _ | .str _ => true
  | _ => false
theorem D.flat_rep {K : PySem.W.Frag} {H H' : Hp} {d : D} {v : V} (h : d.flat = true) (r : Rep K H d v) : Rep K H' d v := by
  cases r with
  | non => exact .non
  | bl b => exact .bl b
  | int i => exact .int i
  | str s => exact .str s
  | tup _ _ => cases h
  | lst _ _ => cases h
  | scr _ => cases h
  | ins _ _ => cases h
  | exc => cases h
  | exv _ _ _ => cases h
  | exv0 _ => cases h
  | dct _ _ => cases h
  | dck _ _ => cases h
def asFlat (d : D) : O D := if d.flat = true then .ok d else .stuck
def mFlat (f : Env → O D) : Env → O D := fun ρ => match f ρ with
  | .ok d => asFlat d
  | _ => .stuck
theorem Rel.open_ {K : PySem.W.Frag} {S : List Addr} {H0 Hs0 : Hp} {ρ : Env} {σ : L2.St} {H Hs : Hp} {F : Foot} (R : Rel K S H0 Hs0 κ ρ σ H Hs F) {κ' : List Kd} (hk : ∀ i, kAt κ' i = .sh) : Rel K [] H H κ' ρ σ H H (fun _ => []) where
  len := R.len
  sl := fun i d e => by
    obtain ⟨v, h1, h2⟩ := R.sl i d e
    refine ⟨v, h1, ?_⟩
    rw [hk]
    exact ⟨(h2.share R.sub (G := F i) fun _ h => h).mono (join_sub R.sub).ex, rfl⟩
  nd := fun _ => List.nodup_nil
  dj := fun _ _ _ h => nomatch h
  al := fun _ _ h => nomatch h
  fr := fun _ _ h => nomatch h
  g := .refl _
  sub := .refl _
  old := fun _ _ e _ => e
  st := fun _ h => h
  new := fun _ _ e n => by rw [e] at n; cases n
/-- H's own knowledge of what H has not -/
def later (H Hs Hs' : Hp) : Hp := fun a => match H a with
  | none => Hs' a
  | some _ => Hs a
theorem later_none {H Hs Hs' : Hp} {a : Addr} (h : H a = none) : later H Hs Hs' a = Hs' a := by unfold later; rw [h]
theorem later_some {H Hs Hs' : Hp} {a : Addr} {o : HO} (h : H a = some o) : later H Hs Hs' a = Hs a := by unfold later; rw [h]
theorem Grow.back {H Hs H' Hs' : Hp} (g : Grow H H H' Hs') (s : Sub Hs H) : ∃ Hs2, Grow H Hs H' Hs2 := by
  refine ⟨later H Hs Hs', g.ex, fun a o e => ?_, ⟨fun a o e => ?_, fun b vs e => ?_⟩, fun a o e n => ?_⟩
  · rw [later_some (s.ex a o e)]; exact e
  · cases q : H a with
    | none => rw [later_none q] at e; exact g.sub.ex a o e
    | some u => rw [later_some q] at e; exact g.ex a o (s.ex a o e)
  · cases q : H b with
    | none => rw [later_none q]; exact g.sub.tu b vs e
    | some u =>
      rw [later_some q]
      have e2 := g.ex b u q
      rw [e] at e2
      cases e2
      exact s.tu b vs q
  · cases q : H a with
    | none => rfl
    | some u => rw [later_some q] at e; rw [n] at e; cases e
theorem kAt_nil (i : Nat) : kAt [] i = .sh := by unfold kAt; simp
theorem ce_borrow {e : Expr} {f : Env → O D} (h : CE X W [] .sh e f) : CE X W κ .sh e (mFlat f) :=
  PE.imp h fun σ H Q q => by
    obtain ⟨S, H0, Hs0, ρ, Hs, F, R, p⟩ := q
    refine ⟨[], H, H, ρ, H, fun _ => [], R.open_ kAt_nil, ?_⟩
    unfold mFlat at p
    have gr : ∀ {H' Hs' : Hp}, Grow H H H' Hs' → ∃ Hs2, Grow H Hs H' Hs2 := fun g => g.back R.sub
    cases e : f ρ with
    | stuck => rw [e] at p; exact p
    | ok d =>
      rw [e] at p
      have p' : EPost X.K W .sh σ H Hs Q (asFlat d) := p
      unfold asFlat at p'
      by_cases hd : d.flat = true
      · rw [if_pos hd] at p'
        intro v H' r
        obtain ⟨Hs', g, rp⟩ := r.out
        obtain ⟨Hs2, g2⟩ := gr g
        exact p' v H' (.sh g2 (D.flat_rep hd rp))
      · rw [if_neg hd] at p'; exact p'.elim
    | exc c fs => rw [e] at p; exact p.elim
theorem ce_share {r : Kd} {e : Expr} {f : Env → O D} (h : CE X W κ r e f) : CE X W κ .sh e f :=
  PE.imp h fun σ H Q q => by
    obtain ⟨S, H0, Hs0, ρ, Hs, F, R, p⟩ := q
    refine ⟨S, H0, Hs0, ρ, Hs, F, R, ?_⟩
    cases e : f ρ with
    | stuck => rw [e] at p; exact p
    | ok d => rw [e] at p; exact fun v H' r => p v H' r.share
    | exc c fs => rw [e] at p; exact p

/-! ### operators -/
/-- what an operator's rule does over data -/
def BinSem (K : PySem.W.Frag) (r : R2) (rr : Kd) (o : D → D → O D) : Prop := ∀ (H Hs : Hp) (d e z : D) (x y : V) (Q : VK), Sub Hs H → Rep K Hs d x → Rep K Hs e y → o d e = .ok z → (∀ v H', Res K rr z v H Hs H' → Q v H') → r x y H Q
def mBin (o : D → D → O D) (f g : Env → O D) : Env → O D := fun ρ => f ρ >>= fun x => g ρ >>= fun y => match o x y with
  | .ok z => .ok z
  | _ => .stuck
theorem bin_run {r : R2} {rr : Kd} {o : D → D → O D} (hs : BinSem X.K r rr o) {f g : Env → O D} {σ : L2.St} {H : Hp} {Q : VK} (h : tE X.K W κ rr (mBin o f g) σ H Q) : tOp r (tE X.K W κ .sh f) (tE X.K W κ .sh g) σ H Q := by
  obtain ⟨S, H0, Hs0, ρ, Hs, F, R, p⟩ := h
  refine step R p fun x vx H1 Hs1 _ g1 R1 rx p1 => ?_
  refine step R1 p1 fun y vy H2 Hs2 _ g2 R2 ry p2 => ?_
  cases e : o x y with
  | stuck => rw [e] at p2; exact p2.elim
  | exc c fs => rw [e] at p2; exact p2.elim
  | ok z => rw [e] at p2; exact hs H2 Hs2 x y z vx vy Q R2.sub (rx.mono g2.exs) ry e p2
theorem ce_bin {op : Operator} {r : R2} {rr : Kd} {o : D → D → O D} {a b : Expr} {pos : Pos} {f g : Env → O D} (hs : BinSem X.K r rr o) (ho : OpR X (binaryOp op) r) (ha : CE X W κ .sh a f) (hb : CE X W κ .sh b g) :
    CE X W κ rr (.BinOp a op b pos) (mBin o f g) := PE.imp (pe_op ho ha hb) fun _ _ _ h => bin_run hs h
theorem BinSem.or {K : PySem.W.Frag} {r r' : R2} {rr : Kd} {o o' o2 : D → D → O D} (h : BinSem K r rr o) (h' : BinSem K r' rr o') (hc : ∀ d e z, o2 d e = .ok z → o d e = .ok z ∨ o' d e = .ok z) : BinSem K (fun x y H Q => r x y H Q ∨ r' x y H Q) rr o2 :=
  fun H Hs d e z x y Q sub rx ry hz q => (hc d e z hz).elim (fun k => .inl (h H Hs d e z x y Q sub rx ry k q)) fun k => .inr (h' H Hs d e z x y Q sub rx ry k q)
theorem BinSem.imp {K : PySem.W.Frag} {r r' : R2} {rr : Kd} {o : D → D → O D} (h : BinSem K r rr o) (hr : ∀ x y H Q, r x y H Q → r' x y H Q) : BinSem K r' rr o := fun H Hs d e z x y Q sub rx ry hz q => hr x y H Q (h H Hs d e z x y Q sub rx ry hz q)
theorem BinSem.flat {K : PySem.W.Frag} {r : R2} {o : D → D → O D} (h : ∀ (H Hs : Hp) (d e z : D) (x y : V) (Q : VK), Sub Hs H → Rep K Hs d x → Rep K Hs e y → o d e = .ok z → (∀ v, Rep K Hs z v → Q v H) → r x y H Q) : BinSem K r .sh o :=
  fun H Hs d e z x y Q sub rx ry hz q => h H Hs d e z x y Q sub rx ry hz fun v rv => q v H (.sh (.refl sub) rv)

/-- ints only -/
def dI (c : Int → Int → Bool) (g : Int → Int → D) : D → D → O D
  | .int i, .int j => if c i j = true then .ok (g i j) else .stuck
  | _, _ => .stuck
theorem sem_I {K : PySem.W.Frag} {C : Int → Int → Prop} {c : Int → Int → Bool} {g : Int → Int → D} {gv : Int → Int → V} (hc : ∀ i j, c i j = true → C i j) (hg : ∀ Hs i j, Rep K Hs (g i j) (gv i j)) : BinSem K (rI C gv) .sh (dI c g) :=
  .flat fun H Hs d e z x y Q sub rx ry hz q => by
    cases rx <;> first | (cases hz; done) | skip
    cases ry <;> first | (cases hz; done) | skip
    rename_i i j
    dsimp only [dI] at hz
    by_cases hcc : c i j = true
    · rw [if_pos hcc] at hz
      cases hz
      exact ⟨i, j, rfl, rfl, hc i j hcc, q _ (hg _ _ _)⟩
    · rw [if_neg hcc] at hz; cases hz
theorem sem_I0 {K : PySem.W.Frag} {g : Int → Int → D} {gv : Int → Int → V} (hg : ∀ Hs i j, Rep K Hs (g i j) (gv i j)) : BinSem K (rI0 gv) .sh (dI (fun _ _ => true) g) :=
  .imp (sem_I (C := fun _ _ => True) (gv := gv) (fun _ _ _ => trivial) hg) fun x y H Q h => by
    obtain ⟨i, j, e1, e2, _, q⟩ := h
    exact ⟨i, j, e1, e2, q⟩
def dStrCat : D → D → O D
  | .str a, .str b => if a.length + b.length ≤ sizeLine then .ok (.str (a ++ b)) else .stuck
  | _, _ => .stuck
def dLstCat : D → D → O D
  | .lst a, .lst b => if a.length + b.length ≤ sizeLine then .ok (.lst (a ++ b)) else .stuck
  | _, _ => .stuck
def dTupCat : D → D → O D
  | .tup a, .tup b => if a.length + b.length ≤ sizeLine then .ok (.tup (a ++ b)) else .stuck
  | _, _ => .stuck
theorem sem_strCat {K : PySem.W.Frag} : BinSem K (fun x y H Q => ∃ i j, x = .str i ∧ y = .str j ∧ i.length + j.length ≤ sizeLine ∧ Q (.str (i ++ j)) H) .sh dStrCat :=
  .flat fun H Hs d e z x y Q sub rx ry hz q => by
    cases rx <;> first | (cases hz; done) | skip
    cases ry <;> first | (cases hz; done) | skip
    rename_i i j
    dsimp only [dStrCat] at hz
    by_cases hcc : i.length + j.length ≤ sizeLine
    · rw [if_pos hcc] at hz
      cases hz
      exact ⟨i, j, rfl, rfl, hcc, q _ (.str _)⟩
    · rw [if_neg hcc] at hz; cases hz
/-- a new list, owned: its items are shared -/
theorem Res.list {K : PySem.W.Frag} {H Hs : Hp} {ds : List D} {vs : List V} {p : Addr} (sub : Sub Hs H) (r : Reps K Hs ds vs) (hp : H p = none) : Res K (.ls .sh) (.lst ds) (.ref p) H Hs (upd H p (.lst vs)) := by
  refine ⟨Hs, [p], .newOwn sub hp (fun _ h => nomatch h), by simp, fun a ha => ?_, p, ds, vs, ds.map fun _ => [], rfl, rfl, upd_same, ?_, ?_⟩
  · have e : a = p := by simpa using ha
    subst e
    exact ⟨hp, sub.none hp, by rw [upd_same]; simp⟩
  · simp
  · induction ds generalizing vs with
    | nil => cases r; exact .nil
    | cons d ds ih =>
      cases r with
      | cons a b =>
        exact .cons ⟨a, rfl⟩ (ih b)
theorem Res.tuple {K : PySem.W.Frag} {H Hs : Hp} {ds : List D} {vs : List V} {p : Addr} (sub : Sub Hs H) (r : Reps K Hs ds vs) (hp : H p = none) : Res K .sh (.tup ds) (.ref p) H Hs (upd H p (.tup vs)) :=
  .sh (.new sub hp) (.tup (SqT.of upd_same) (r.mono (.new (sub.none hp))))
theorem sem_lstCat {K : PySem.W.Frag} : BinSem K rCat (.ls .sh) dLstCat := fun H Hs d e z x y Q sub rx ry hz q => by
  cases rx <;> first | (cases hz; done) | skip
  cases ry <;> first | (cases hz; done) | skip
  rename_i a ds vs ha ra b es us hb rb
  dsimp only [dLstCat] at hz
  by_cases hcc : ds.length + es.length ≤ sizeLine
  · rw [if_pos hcc] at hz
    cases hz
    refine ⟨a, b, vs, us, rfl, rfl, sub _ _ ha, sub _ _ hb, by rw [← ra.length, ← rb.length]; exact hcc, fun p hp => q _ _ (.list sub (ra.append rb) hp)⟩
  · rw [if_neg hcc] at hz; cases hz
theorem sem_tupCat {K : PySem.W.Frag} : BinSem K (rCatA K) .sh dTupCat := fun H Hs d e z x y Q sub rx ry hz q => by
  cases rx <;> first | (cases hz; done) | skip
  cases ry <;> first | (cases hz; done) | skip
  rename_i a ds vs ha ra b es us hb rb
  dsimp only [dTupCat] at hz
  by_cases hcc : ds.length + es.length ≤ sizeLine
  · rw [if_pos hcc] at hz
    cases hz
    refine ⟨a, b, vs, us, rfl, rfl, sub.sqt ha, sub.sqt hb, by rw [← ra.length, ← rb.length]; exact hcc, fun e => ?_, fun n e => ?_, fun _ _ p hp => q _ _ (.tuple sub (ra.append rb) hp)⟩
    · subst e
      cases ra
      exact q _ _ (.sh (.refl sub) (Rep.tup hb rb))
    · subst e
      cases rb
      rw [List.append_nil] at q
      exact q _ _ (.sh (.refl sub) (Rep.tup ha ra))
  · rw [if_neg hcc] at hz; cases hz
def dAdd : D → D → O D
  | .int i, .int j => .ok (.int (i + j))
  | .str a, .str b => if a.length + b.length ≤ sizeLine then .ok (.str (a ++ b)) else .stuck
  | .tup a, .tup b => if a.length + b.length ≤ sizeLine then .ok (.tup (a ++ b)) else .stuck
  | .lst a, .lst b => if a.length + b.length ≤ sizeLine then .ok (.lst (a ++ b)) else .stuck
  | _, _ => .stuck
theorem BinSem.share {K : PySem.W.Frag} {r : R2} {k : Kd} {o : D → D → O D} (h : BinSem K r k o) : BinSem K r .sh o := fun H Hs d e z x y Q sub rx ry hz q => h H Hs d e z x y Q sub rx ry hz fun v H' r => q v H' r.share
theorem ce_add {a b : Expr} {pos : Pos} {f g : Env → O D} (ha : CE X W κ .sh a f) (hb : CE X W κ .sh b g) : CE X W κ .sh (.BinOp a .Add b pos) (mBin dAdd f g) :=
  ce_bin (r := fun x y H Q => _ ∨ _) (o := dAdd)
    (BinSem.or (o' := fun d e => match d, e with | .int _, .int _ => .stuck | _, _ => dAdd d e) (sem_I0 (g := fun i j => .int (i + j)) fun _ _ _ => .int _)
      (BinSem.or (o' := fun d e => match d, e with | .int _, .int _ => .stuck | .str _, .str _ => .stuck | _, _ => dAdd d e) sem_strCat
        (BinSem.or sem_tupCat sem_lstCat.share fun d e z h => by
          cases d <;> cases e <;> first | (exact .inl h) | (exact .inr h) | (cases h)) fun d e z h => by
        cases d <;> cases e <;> first | (exact .inl h) | (exact .inr h) | (cases h)) fun d e z h => by
      cases d <;> cases e <;> first | (exact .inl h) | (exact .inr h) | (cases h))
    (op_add.or (op_add_str.or (op_catA.or op_cat))) ha hb
/-- list + list, the new one owned -/
theorem ce_catO {a b : Expr} {pos : Pos} {f g : Env → O D} (ha : CE X W κ .sh a f) (hb : CE X W κ .sh b g) : CE X W κ (.ls .sh) (.BinOp a .Add b pos) (mBin dLstCat f g) := ce_bin sem_lstCat op_cat ha hb
def dSub : D → D → O D := dI (fun _ _ => true) fun i j => .int (i - j)
theorem ce_sub {a b : Expr} {pos : Pos} {f g : Env → O D} (ha : CE X W κ .sh a f) (hb : CE X W κ .sh b g) : CE X W κ .sh (.BinOp a .Sub b pos) (mBin dSub f g) := ce_bin (sem_I0 fun _ _ _ => .int _) op_sub ha hb
def cMul (i j : Int) : Bool := decide (i.natAbs < 2 ^ 64) || decide (j.natAbs < 2 ^ 64)
def dMulI : D → D → O D := dI cMul fun i j => .int (i * j)
theorem sem_mulI {K : PySem.W.Frag} : BinSem K (rI CMul fun i j => .int (i * j)) .sh dMulI := sem_I (fun i j h => by
  unfold cMul at h
  simp only [Bool.or_eq_true, Bool.and_eq_true, decide_eq_true_eq] at h
  unfold CMul
  omega) fun _ _ _ => .int _
def dRep : D → D → O D
  | .lst a, .int k => if k.natAbs < 2 ^ 63 ∧ a.length * k.toNat ≤ sizeLine then .ok (.lst (List.replicate k.toNat a).flatten) else .stuck
  | _, _ => .stuck
theorem sem_rep {K : PySem.W.Frag} : BinSem K rRep (.ls .sh) dRep := fun H Hs d e z x y Q sub rx ry hz q => by
  cases rx <;> first | (cases hz; done) | skip
  cases ry <;> first | (cases hz; done) | skip
  rename_i a ds vs ha ra k
  dsimp only [dRep] at hz
  by_cases hcc : k.natAbs < 2 ^ 63 ∧ ds.length * k.toNat ≤ sizeLine
  · rw [if_pos hcc] at hz
    cases hz
    refine ⟨a, k, vs, rfl, rfl, sub _ _ ha, by omega, by omega, by rw [← ra.length]; exact hcc.2, fun p hp => q _ _ (.list sub (ra.rep _) hp)⟩
  · rw [if_neg hcc] at hz; cases hz
def dMul : D → D → O D
  | .int i, .int j => if cMul i j = true then .ok (.int (i * j)) else .stuck
  | .lst a, .int k => if k.natAbs < 2 ^ 63 ∧ a.length * k.toNat ≤ sizeLine then .ok (.lst (List.replicate k.toNat a).flatten) else .stuck
  | _, _ => .stuck
theorem ce_mul {a b : Expr} {pos : Pos} {f g : Env → O D} (ha : CE X W κ .sh a f) (hb : CE X W κ .sh b g) : CE X W κ .sh (.BinOp a .Mult b pos) (mBin dMul f g) :=
  ce_bin (BinSem.or sem_mulI sem_rep.share fun d e z h => by cases d <;> cases e <;> first | (exact .inl h) | (exact .inr h) | (cases h)) (op_mul.or op_rep) ha hb
theorem ce_repO {a b : Expr} {pos : Pos} {f g : Env → O D} (ha : CE X W κ .sh a f) (hb : CE X W κ .sh b g) : CE X W κ (.ls .sh) (.BinOp a .Mult b pos) (mBin dRep f g) := ce_bin sem_rep op_rep ha hb
def dFdiv : D → D → O D := dI (fun _ j => decide (0 < j) && decide (j.toNat < 1073741824)) fun i j => .int (i / j)
theorem ce_fdiv {a b : Expr} {pos : Pos} {f g : Env → O D} (ha : CE X W κ .sh a f) (hb : CE X W κ .sh b g) : CE X W κ .sh (.BinOp a .FloorDiv b pos) (mBin dFdiv f g) :=
  ce_bin (sem_I (C := CDiv) (fun i j h => by simp only [Bool.and_eq_true, decide_eq_true_eq] at h; unfold CDiv; omega) fun _ _ _ => .int _) op_fdiv ha hb
def dMod : D → D → O D := dI (fun _ j => decide (0 < j)) fun i j => .int (i % j)
theorem ce_mod {a b : Expr} {pos : Pos} {f g : Env → O D} (ha : CE X W κ .sh a f) (hb : CE X W κ .sh b g) : CE X W κ .sh (.BinOp a .Mod b pos) (mBin dMod f g) :=
  ce_bin (sem_I (C := fun _ j => 0 < j) (fun i j h => of_decide_eq_true h) fun _ _ _ => .int _) op_mod ha hb
def dPow : D → D → O D := dI (fun i j => decide (0 ≤ j) && (decide (j.toNat ≤ 1000000) && decide (i.natAbs < 2 ^ 64))) fun i j => .int (i ^ j.toNat)
theorem ce_pow {a b : Expr} {pos : Pos} {f g : Env → O D} (ha : CE X W κ .sh a f) (hb : CE X W κ .sh b g) : CE X W κ .sh (.BinOp a .Pow b pos) (mBin dPow f g) :=
  ce_bin (sem_I (C := CPow) (fun i j h => by simp only [Bool.and_eq_true, decide_eq_true_eq] at h; exact ⟨h.1, by omega, h.2.2⟩) fun _ _ _ => .int _) op_pow ha hb
def dShr : D → D → O D := dI (fun _ j => decide (0 ≤ j)) fun i j => .int (i / 2 ^ j.toNat)
theorem ce_shr {a b : Expr} {pos : Pos} {f g : Env → O D} (ha : CE X W κ .sh a f) (hb : CE X W κ .sh b g) : CE X W κ .sh (.BinOp a .RShift b pos) (mBin dShr f g) :=
  ce_bin (sem_I (C := fun _ j => 0 ≤ j) (fun i j h => of_decide_eq_true h) fun _ _ _ => .int _) op_shr ha hb
def dXor : D → D → O D := dI (fun _ _ => true) fun i j => .int (Builtin.bitXor i j)
theorem ce_xor {a b : Expr} {pos : Pos} {f g : Env → O D} (ha : CE X W κ .sh a f) (hb : CE X W κ .sh b g) : CE X W κ .sh (.BinOp a .BitXor b pos) (mBin dXor f g) := ce_bin (sem_I0 fun _ _ _ => .int _) op_xor ha hb
/-- -a -/
def dNeg : D → O D
  | .int i => .ok (.int (-i))
  | _ => .stuck
def mUn (o : D → O D) (f : Env → O D) : Env → O D := fun ρ => f ρ >>= o
theorem ce_neg {a : Expr} {pos : Pos} {f : Env → O D} (ha : CE X W κ .sh a f) : CE X W κ .sh (.UnaryOp .USub a pos) (mUn dNeg f) :=
  PE.imp (pe_un un_neg ha) fun σ H Q h => by
    obtain ⟨S, H0, Hs0, ρ, Hs, F, R, p⟩ := h
    refine step R p fun x vx H1 Hs1 _ g1 R1 rx p1 => ?_
    cases rx <;> first | exact p1.elim | skip
    exact ⟨_, rfl, p1 _ _ (.sh (.refl R1.sub) (.int _))⟩
end
end T

set_option Elab.async false
set_option linter.all false
set_option maxRecDepth 100000
set_option maxHeartbeats 1000000
/-! T2: comparisons, tests, displays, items, slices, calls of built-ins. -/
namespace T
open PySem L2

/-! ### plain data -/
mutual
def D.pd : D → Option PyData
  | .non => some .none
  | .bl b => some (.bool b)
  | .int i => some (.int i)
  | .str s => some (.str s)
  | .tup xs => (D.pds xs).map PyData.tuple
  | .lst xs => (D.pds xs).map PyData.list
  | .scr _ => none
  | .ins _ _ => none
  | .exc _ _ => none
  | .exv _ _ => none
  | .dct _ => none
  | .dck _ => none
  | .set _ => none
def D.pds : List D → Option (List PyData)
  | [] => some []
  | x :: xs => (D.pd x).bind fun p => (D.pds xs).map fun ps => p :: ps
end
section
variable {K : PySem.W.Frag} {H : Hp}
mutual
theorem Rep.dp {d : D} {v : V} {p : PyData} : Rep K H d v → d.pd = some p → Dp K H v p
  | .non, e => by cases e; exact .non
  | .bl b, e => by cases e; exact .bl b
  | .int i, e => by cases e; exact .int i
  | .str s, e => by cases e; exact .str s
  | .tup (ds := ds) h r, e => by
    rw [D.pd] at e
    cases q : D.pds ds with
    | none => rw [q] at e; cases e
    | some ps => rw [q] at e; cases e; exact .tup h (Reps.dp r q)
  | .lst (ds := ds) h r, e => by
    rw [D.pd] at e
    cases q : D.pds ds with
    | none => rw [q] at e; cases e
    | some ps => rw [q] at e; cases e; exact .lst (SqL.of h) (Reps.dp r q)
  | .scr h, e => by rw [D.pd] at e; cases e
  | .ins h r, e => by rw [D.pd] at e; cases e
  | .exc, e => by rw [D.pd] at e; cases e
  | .exv _ _ _, e => by rw [D.pd] at e; cases e
  | .exv0 _, e => by rw [D.pd] at e; cases e
  | .dct _ _, e => by rw [D.pd] at e; cases e
  | .dck _ _, e => by rw [D.pd] at e; cases e
theorem Reps.dp {ds : List D} {vs : List V} {ps : List PyData} : Reps K H ds vs → D.pds ds = some ps → DpAll K H vs ps
  | .nil, e => by rw [D.pds] at e; cases e; exact .nil
  | .cons (d := d) (ds := ds) a b, e => by
    rw [D.pds] at e
    cases q : D.pd d with
    | none => rw [q] at e; cases e
    | some p =>
      rw [q] at e
      cases q2 : D.pds ds with
      | none => rw [q2] at e; cases e
      | some ps => rw [q2] at e; cases e; exact .cons (Rep.dp a q) (Reps.dp b q2)
end
end

section
variable {X : Cx} {W : WX} {κ : List Kd}
/-! ### comparisons -/
theorem ce_cmp {op : CmpOp} {r : R2} {o : D → D → O D} {a b : Expr} {pos : Pos} {f g : Env → O D} (hs : BinSem X.K r .sh o) (ho : OpR X (compareOp op) r) (ha : CE X W κ .sh a f) (hb : CE X W κ .sh b g) (hm : behindInMarks op b = false) :
    CE X W κ .sh (.Compare a [op] [b] pos) (mBin o f g) := PE.imp (pe_cmpR ho ha hb hm) fun _ _ _ h => bin_run hs h
def asB (d : D) : O Bool := match d with
  | .bl b => .ok b
  | _ => .stuck
def mTest (f : Env → O D) : Env → O Bool := fun ρ => f ρ >>= asB
theorem test_of {K : PySem.W.Frag} {f : Env → O D} {σ : L2.St} {H : Hp} {Q : Bool → Hp → Prop} (h : tT K W κ (mTest f) σ H Q) : tE K W κ .sh f σ H fun x H' => ∃ k, x = .bl k ∧ Q k H' := by
  obtain ⟨S, H0, Hs0, ρ, Hs, F, R, p⟩ := h
  refine ⟨S, H0, Hs0, ρ, Hs, F, R, ?_⟩
  have p' : TPost K W σ H Hs Q (f ρ >>= asB) := p
  cases e : f ρ with
  | stuck => rw [e] at p'; exact p'
  | exc c fs => rw [e] at p'; exact p'
  | ok d =>
    rw [e, bind_ok] at p'
    intro v H' r
    obtain ⟨Hs', g, rp⟩ := r.out
    cases rp <;> first | exact p'.elim | skip
    exact ⟨_, rfl, p' H' Hs' g⟩
theorem ct_cmp {op : CmpOp} {r : R2} {o : D → D → O D} {a b : Expr} {pos : Pos} {f g : Env → O D} (hs : BinSem X.K r .sh o) (ho : OpR X (compareOp op) r) (ha : CE X W κ .sh a f) (hb : CE X W κ .sh b g) (hm : behindInMarks op b = false) :
    CT X W κ (.Compare a [op] [b] pos) (mTest (mBin o f g)) := PT.imp (pt_cmpR ho ha hb hm) fun _ _ _ h => bin_run (W := W) (κ := κ) hs (test_of h)
theorem ct_val {e : Expr} {f : Env → O D} (h : CE X W κ .sh e f) (he : ∀ whole, isTrue e X.env whole = (do let v ← whole; standAt e.pos; holding [v] (truthy v)) := by intro _; rfl) : CT X W κ e (mTest f) :=
  PT.imp (pt_val h he) fun _ _ _ q => test_of q
/-- what follows a test -/
theorem stepT {S : List Addr} {H0 Hs0 : Hp} {ρ : Env} {σ : L2.St} {H Hs : Hp} {F : Foot} {K : PySem.W.Frag} {f : Env → O Bool} {o : Bool → O D} {r : Kd} {Q : VK} (R : Rel K S H0 Hs0 κ ρ σ H Hs F) (p : EPost K W r σ H Hs Q (f ρ >>= o))
    {R2 : Bool → Hp → Prop} (h : ∀ b H1 Hs1, f ρ = .ok b → Grow H Hs H1 Hs1 → Rel K S H0 Hs0 κ ρ σ H1 Hs1 F → EPost K W r σ H1 Hs1 Q (o b) → R2 b H1) : tT K W κ f σ H R2 := by
  refine ⟨S, H0, Hs0, ρ, Hs, F, R, ?_⟩
  cases e : f ρ with
  | stuck => rw [e] at p; exact p
  | exc c fs => rw [e] at p; exact p
  | ok b =>
    rw [e] at p
    intro H1 Hs1 g
    refine h b H1 Hs1 e g (R.grow g) ?_
    have p' : EPost K W r σ H Hs Q (o b) := p
    cases ek : o b with
    | stuck => rw [ek] at p'; exact p'
    | ok z => rw [ek] at p'; exact fun v' H' q' => p' v' H' (q'.pre g)
    | exc c fs => rw [ek] at p'; exact fun cls dx H' q' => p' cls dx H' (xres_pre g q')
theorem stepTT {S : List Addr} {H0 Hs0 : Hp} {ρ : Env} {σ : L2.St} {H Hs : Hp} {F : Foot} {K : PySem.W.Frag} {f : Env → O Bool} {o : Bool → O Bool} {Q : Bool → Hp → Prop} (R : Rel K S H0 Hs0 κ ρ σ H Hs F) (p : TPost K W σ H Hs Q (f ρ >>= o))
    {R2 : Bool → Hp → Prop} (h : ∀ b H1 Hs1, f ρ = .ok b → Grow H Hs H1 Hs1 → Rel K S H0 Hs0 κ ρ σ H1 Hs1 F → TPost K W σ H1 Hs1 Q (o b) → R2 b H1) : tT K W κ f σ H R2 := by
  refine ⟨S, H0, Hs0, ρ, Hs, F, R, ?_⟩
  cases e : f ρ with
  | stuck => rw [e] at p; exact p
  | exc c fs => rw [e] at p; exact p
  | ok b =>
    rw [e] at p
    intro H1 Hs1 g
    refine h b H1 Hs1 e g (R.grow g) ?_
    have p' : TPost K W σ H Hs Q (o b) := p
    cases ek : o b with
    | stuck => rw [ek] at p'; exact p'
    | ok z => rw [ek] at p'; exact fun H' Hs' q' => p' H' Hs' (g.trans q')
    | exc c fs => rw [ek] at p'; exact fun cls dx H' q' => p' cls dx H' (xres_pre g q')
def mNot (f : Env → O Bool) : Env → O Bool := fun ρ => f ρ >>= fun b => .ok (!b)
def mAnd (f g : Env → O Bool) : Env → O Bool := fun ρ => f ρ >>= fun b => if b = true then g ρ else .ok false
def mOr (f g : Env → O Bool) : Env → O Bool := fun ρ => f ρ >>= fun b => if b = true then .ok true else g ρ
theorem ct_not {a : Expr} {pos : Pos} {f : Env → O Bool} (ha : CT X W κ a f) : CT X W κ (.UnaryOp .Not a pos) (mNot f) :=
  PT.imp (pt_not ha) fun σ H Q h => by
    obtain ⟨S, H0, Hs0, ρ, Hs, F, R, p⟩ := h
    exact stepTT R p fun b H1 Hs1 _ g R1 p1 => p1 H1 Hs1 (.refl R1.sub)
theorem tAnd_of {K : PySem.W.Frag} {f g : Env → O Bool} {σ : L2.St} {H : Hp} {Q : Bool → Hp → Prop} (h : tT K W κ (mAnd f g) σ H Q) : tAnd (tT K W κ f) (tT K W κ g) σ H Q := by
  obtain ⟨S, H0, Hs0, ρ, Hs, F, R, p⟩ := h
  refine stepTT R p fun b H1 Hs1 _ g1 R1 p1 => ?_
  cases b with
  | true => rw [if_pos rfl] at p1 ⊢; exact ⟨S, H0, Hs0, ρ, Hs1, F, R1, p1⟩
  | false => rw [if_neg Bool.false_ne_true] at p1 ⊢; exact p1 H1 Hs1 (.refl R1.sub)
theorem tOr_of {K : PySem.W.Frag} {f g : Env → O Bool} {σ : L2.St} {H : Hp} {Q : Bool → Hp → Prop} (h : tT K W κ (mOr f g) σ H Q) : tOr (tT K W κ f) (tT K W κ g) σ H Q := by
  obtain ⟨S, H0, Hs0, ρ, Hs, F, R, p⟩ := h
  refine stepTT R p fun b H1 Hs1 _ g1 R1 p1 => ?_
  cases b with
  | true => rw [if_pos rfl] at p1 ⊢; exact p1 H1 Hs1 (.refl R1.sub)
  | false => rw [if_neg Bool.false_ne_true] at p1 ⊢; exact ⟨S, H0, Hs0, ρ, Hs1, F, R1, p1⟩
abbrev CW (X : Cx) (W : WX) (κ : List Kd) (e : Expr) (f : Env → O Bool) : Prop := PW X e (tT X.K W κ f)
theorem cw_and1 {a : Expr} {pos : Pos} {f : Env → O Bool} (h : CT X W κ a f) : CW X W κ (.BoolOp .And [a] pos) f := pw_and1 h
theorem cw_or1 {a : Expr} {pos : Pos} {f : Env → O Bool} (h : CT X W κ a f) : CW X W κ (.BoolOp .Or [a] pos) f := pw_or1 h
theorem cw_and {a b : Expr} {rest : List Expr} {pos : Pos} {f g : Env → O Bool} (ha : CT X W κ a f) (hb : CW X W κ (.BoolOp .And (b :: rest) pos) g) : CW X W κ (.BoolOp .And (a :: b :: rest) pos) (mAnd f g) :=
  PW.imp (pw_and ha hb) fun _ _ _ h => tAnd_of h
theorem cw_or {a b : Expr} {rest : List Expr} {pos : Pos} {f g : Env → O Bool} (ha : CT X W κ a f) (hb : CW X W κ (.BoolOp .Or (b :: rest) pos) g) : CW X W κ (.BoolOp .Or (a :: b :: rest) pos) (mOr f g) :=
  PW.imp (pw_or ha hb) fun _ _ _ h => tOr_of h
theorem ct_bool {e : Expr} {f : Env → O Bool} (h : CW X W κ e f) : CT X W κ e f := PW.pt h
/-! bool-valued and, or, not as a value -/
def mBl (f : Env → O Bool) : Env → O D := fun ρ => f ρ >>= fun b => .ok (.bl b)
def mAndV (f g : Env → O D) : Env → O D := fun ρ => f ρ >>= asB >>= fun b => if b = true then g ρ else .ok (.bl false)
def mOrV (f g : Env → O D) : Env → O D := fun ρ => f ρ >>= asB >>= fun b => if b = true then .ok (.bl true) else g ρ
def mNotV (f : Env → O D) : Env → O D := fun ρ => f ρ >>= asB >>= fun b => .ok (.bl (!b))
theorem bind_assoc {α β γ : Type} (x : O α) (f : α → O β) (g : β → O γ) : (x >>= f >>= g) = (x >>= fun a => f a >>= g) := by cases x <;> rfl
theorem ce_one {op : BoolOp} {a : Expr} {pos : Pos} {f : Env → O D} (h : CE X W κ .sh a f) : CE X W κ .sh (.BoolOp op [a] pos) f := pe_one h
theorem ce_and {a b : Expr} {rest : List Expr} {pos : Pos} {f g : Env → O D} (ha : CE X W κ .sh a f) (hb : CE X W κ .sh (.BoolOp .And (b :: rest) pos) g) : CE X W κ .sh (.BoolOp .And (a :: b :: rest) pos) (mAndV f g) :=
  PE.imp (pe_and ha hb) fun σ H Q h => by
    obtain ⟨S, H0, Hs0, ρ, Hs, F, R, p⟩ := h
    have p' : EPost X.K W .sh σ H Hs Q (f ρ >>= fun d => asB d >>= fun b => if b = true then g ρ else .ok (.bl false)) := by rw [← bind_assoc]; exact p
    refine step R p' fun x vx H1 Hs1 _ g1 R1 rx p1 => ?_
    cases rx <;> first | exact p1.elim | skip
    rename_i b _
    refine ⟨b, rfl, ?_⟩
    have p2 : EPost X.K W .sh σ H1 Hs1 Q (if b = true then g ρ else .ok (.bl false)) := p1
    cases b with
    | true => rw [if_pos rfl] at p2 ⊢; exact ⟨S, H0, Hs0, ρ, Hs1, F, R1, p2⟩
    | false => rw [if_neg Bool.false_ne_true] at p2 ⊢; exact p2 _ _ (.sh (.refl R1.sub) (.bl _))
theorem ce_or {a b : Expr} {rest : List Expr} {pos : Pos} {f g : Env → O D} (ha : CE X W κ .sh a f) (hb : CE X W κ .sh (.BoolOp .Or (b :: rest) pos) g) : CE X W κ .sh (.BoolOp .Or (a :: b :: rest) pos) (mOrV f g) :=
  PE.imp (pe_or ha hb) fun σ H Q h => by
    obtain ⟨S, H0, Hs0, ρ, Hs, F, R, p⟩ := h
    have p' : EPost X.K W .sh σ H Hs Q (f ρ >>= fun d => asB d >>= fun b => if b = true then .ok (.bl true) else g ρ) := by rw [← bind_assoc]; exact p
    refine step R p' fun x vx H1 Hs1 _ g1 R1 rx p1 => ?_
    cases rx <;> first | exact p1.elim | skip
    rename_i b _
    refine ⟨b, rfl, ?_⟩
    have p2 : EPost X.K W .sh σ H1 Hs1 Q (if b = true then .ok (.bl true) else g ρ) := p1
    cases b with
    | true => rw [if_pos rfl] at p2 ⊢; exact p2 _ _ (.sh (.refl R1.sub) (.bl _))
    | false => rw [if_neg Bool.false_ne_true] at p2 ⊢; exact ⟨S, H0, Hs0, ρ, Hs1, F, R1, p2⟩
theorem ce_not {a : Expr} {pos : Pos} {f : Env → O D} (ha : CE X W κ .sh a f) : CE X W κ .sh (.UnaryOp .Not a pos) (mNotV f) :=
  PE.imp (pe_not ha) fun σ H Q h => by
    obtain ⟨S, H0, Hs0, ρ, Hs, F, R, p⟩ := h
    have p' : EPost X.K W .sh σ H Hs Q (f ρ >>= fun d => asB d >>= fun b => .ok (.bl (!b))) := by rw [← bind_assoc]; exact p
    refine step R p' fun x vx H1 Hs1 _ g1 R1 rx p1 => ?_
    cases rx <;> first | exact p1.elim | skip
    rename_i b _
    exact ⟨b, rfl, p1 _ _ (.sh (.refl R1.sub) (.bl _))⟩
def mIf (c : Env → O Bool) (f g : Env → O D) : Env → O D := fun ρ => c ρ >>= fun b => if b = true then f ρ else g ρ
theorem ce_if {c a b : Expr} {pos : Pos} {r : Kd} {t : Env → O Bool} {f g : Env → O D} (hc : CT X W κ c t) (ha : CE X W κ r a f) (hb : CE X W κ r b g) : CE X W κ r (.IfExp c a b pos) (mIf t f g) :=
  PE.imp (pe_ifExp hc ha hb) fun σ H Q h => by
    obtain ⟨S, H0, Hs0, ρ, Hs, F, R, p⟩ := h
    refine stepT R p fun b H1 Hs1 _ g1 R1 p1 => ?_
    cases b with
    | true => rw [if_pos rfl] at p1 ⊢; exact ⟨S, H0, Hs0, ρ, Hs1, F, R1, p1⟩
    | false => rw [if_neg Bool.false_ne_true] at p1 ⊢; exact ⟨S, H0, Hs0, ρ, Hs1, F, R1, p1⟩
/-- a < b < c -/
def mChain (o o' : D → D → O D) (f g h : Env → O D) : Env → O D := fun ρ => f ρ >>= fun x => g ρ >>= fun y => match o x y with
  | .ok (.bl true) => h ρ >>= fun z => (match o' y z with
    | .ok (.bl b) => .ok (.bl b)
    | _ => .stuck)
  | .ok (.bl false) => .ok (.bl false)
  | _ => .stuck

/-! the comparisons themselves -/
def dLt : D → D → O D := dI (fun _ _ => true) fun i j => .bl (decide (i < j))
def dLe : D → D → O D := dI (fun _ _ => true) fun i j => .bl (decide (i ≤ j))
def dGt : D → D → O D := dI (fun _ _ => true) fun i j => .bl (decide (j < i))
def dGe : D → D → O D := dI (fun _ _ => true) fun i j => .bl (decide (j ≤ i))
theorem sem_lt {K : PySem.W.Frag} : BinSem K (rI0 fun i j => .bl (decide (i < j))) .sh dLt := sem_I0 fun _ _ _ => .bl _
theorem sem_le {K : PySem.W.Frag} : BinSem K (rI0 fun i j => .bl (decide (i ≤ j))) .sh dLe := sem_I0 fun _ _ _ => .bl _
theorem sem_gt {K : PySem.W.Frag} : BinSem K (rI0 fun i j => .bl (decide (j < i))) .sh dGt := sem_I0 fun _ _ _ => .bl _
theorem sem_ge {K : PySem.W.Frag} : BinSem K (rI0 fun i j => .bl (decide (j ≤ i))) .sh dGe := sem_I0 fun _ _ _ => .bl _
def eqData (d e : D) : O Bool := match d.pd, e.pd with
  | some p, some q => if SeqAt.shaped p = true ∧ SeqAt.shaped q = true then .ok (PyData.eqv p q) else .stuck
  | _, _ => .stuck
def eqB : D → D → O Bool
  | .int i, .int j => .ok (decide (i = j))
  | .str i, .str j => .ok (decide (i = j))
  | .bl i, .bl j => .ok (decide (i = j))
  | d, e => eqData d e
def dEq (d e : D) : O D := eqB d e >>= fun b => .ok (.bl b)
def dNe (d e : D) : O D := eqB d e >>= fun b => .ok (.bl (!b))
theorem eqData_ok {d e : D} {b : Bool} (h : eqData d e = .ok b) : ∃ p q, d.pd = some p ∧ e.pd = some q ∧ SeqAt.shaped p = true ∧ SeqAt.shaped q = true ∧ b = PyData.eqv p q := by
  unfold eqData at h
  cases ep : d.pd with
  | none => rw [ep] at h; cases h
  | some p =>
    cases eq : e.pd with
    | none => rw [ep, eq] at h; cases h
    | some q =>
      rw [ep, eq] at h
      dsimp only at h
      split at h
      · rename_i hc
        cases h
        exact ⟨p, q, rfl, rfl, hc.1, hc.2, rfl⟩
      · cases h
theorem eqB_ok {K : PySem.W.Frag} {H Hs : Hp} {d e : D} {x y : V} {b : Bool} (sub : Sub Hs H) (rx : Rep K Hs d x) (ry : Rep K Hs e y) (h : eqB d e = .ok b) :
    (scal x y = true ∧ b = decide (x = y)) ∨ ∃ p q, Dp K H x p ∧ Dp K H y q ∧ SeqAt.shaped p = true ∧ SeqAt.shaped q = true ∧ b = PyData.eqv p q := by
  have dat : eqData d e = .ok b → ∃ p q, Dp K H x p ∧ Dp K H y q ∧ SeqAt.shaped p = true ∧ SeqAt.shaped q = true ∧ b = PyData.eqv p q := fun h => by
    obtain ⟨p, q, h1, h2, h3, h4, h5⟩ := eqData_ok h
    exact ⟨p, q, (rx.mono sub.ex).dp h1, (ry.mono sub.ex).dp h2, h3, h4, h5⟩
  unfold eqB at h
  split at h
  · cases rx; cases ry; cases h; exact .inl ⟨rfl, by simp⟩
  · cases rx; cases ry; cases h; exact .inl ⟨rfl, by simp⟩
  · cases rx; cases ry; cases h; exact .inl ⟨rfl, by simp⟩
  · exact .inr (dat h)
theorem sem_eq {K : PySem.W.Frag} : BinSem K (fun x y H Q => rEq x y H Q ∨ rEqD K x y H Q) .sh dEq := .flat fun H Hs d e z x y Q sub rx ry hz q => by
  unfold dEq at hz
  cases eb : eqB d e with
  | stuck => rw [eb] at hz; cases hz
  | exc c fs => rw [eb] at hz; cases hz
  | ok b =>
    rw [eb] at hz
    cases hz
    rcases eqB_ok sub rx ry eb with ⟨h1, h2⟩ | ⟨p, s, h1, h2, h3, h4, h5⟩
    · exact .inl ⟨h1, h2 ▸ q _ (.bl _)⟩
    · exact .inr ⟨p, s, h1, h2, h3, h4, h5 ▸ q _ (.bl _)⟩
theorem sem_ne {K : PySem.W.Frag} : BinSem K (fun x y H Q => rNe x y H Q ∨ rNeD K x y H Q) .sh dNe := .flat fun H Hs d e z x y Q sub rx ry hz q => by
  unfold dNe at hz
  cases eb : eqB d e with
  | stuck => rw [eb] at hz; cases hz
  | exc c fs => rw [eb] at hz; cases hz
  | ok b =>
    rw [eb] at hz
    cases hz
    rcases eqB_ok sub rx ry eb with ⟨h1, h2⟩ | ⟨p, s, h1, h2, h3, h4, h5⟩
    · exact .inl ⟨h1, h2 ▸ q _ (.bl _)⟩
    · exact .inr ⟨p, s, h1, h2, h3, h4, h5 ▸ q _ (.bl _)⟩
/-- x in xs -/
def inFlat (x : D) (xs : List D) : O Bool := if x.flat = true ∧ xs.all D.flat = true then .ok (xs.any fun y => match y, x with
  | .non, .non => true
  | .bl a, .bl b => a == b
  | .bl a, .int b => (if a then 1 else 0) == b
  | .int a, .bl b => a == (if b then 1 else 0)
  | .int a, .int b => a == b
  | .str a, .str b => a == b
  | _, _ => false) else .stuck
def inB : D → D → O Bool
  | .str a, .str b => .ok (!(Builtin.Str.occurrences b a 0 b.length 1).isEmpty)
  | x, .tup ys => inFlat x ys
  | x, .lst ys => if x.flat = true ∧ ys.all D.flat = true then inFlat x ys else match x.pd, D.pds ys with
    | some p, some qs => if SeqAt.shaped p = true ∧ SeqAt.shaped (.list qs) = true then .ok (qs.any fun z => PyData.eqv z p) else .stuck
    | _, _ => .stuck
  | _, _ => .stuck
def dIn (d e : D) : O D := inB d e >>= fun b => .ok (.bl b)
def dNotIn (d e : D) : O D := inB d e >>= fun b => .ok (.bl (!b))
theorem flat_V {K : PySem.W.Frag} {H : Hp} {d : D} {v : V} (r : Rep K H d v) (h : d.flat = true) : flatV v = true := by
  cases r <;> first | rfl | cases h
theorem flat_Vs {K : PySem.W.Frag} {H : Hp} : ∀ {ds : List D} {vs : List V}, Reps K H ds vs → ds.all D.flat = true → vs.all flatV = true
  | _, _, .nil, _ => rfl
  | _, _, .cons a b, h => by
    rw [List.all_cons, Bool.and_eq_true] at h
    rw [List.all_cons, flat_V a h.1, flat_Vs b h.2]; rfl
theorem inFlat_ok {K : PySem.W.Frag} {H : Hp} {d : D} {ds : List D} {v : V} {vs : List V} {b : Bool} (r : Rep K H d v) (rs : Reps K H ds vs) (h : inFlat d ds = .ok b) : flatV v = true ∧ vs.all flatV = true ∧ b = inV v vs := by
  unfold inFlat at h
  split at h
  · rename_i hc
    refine ⟨flat_V r hc.1, flat_Vs rs hc.2, ?_⟩
    obtain ⟨h1, h2⟩ := hc
    cases h
    unfold inV
    induction ds generalizing vs with
    | nil => cases rs; rfl
    | cons e es ih =>
      cases rs with
      | cons a q =>
        rw [List.all_cons, Bool.and_eq_true] at h2
        rw [List.any_cons, List.any_cons, ih q h2.2]
        congr 1
        have h3 := h2.1
        cases a <;> cases r <;> first | rfl | (cases h1; done) | (cases h3; done)
  · cases h

theorem sem_in {K : PySem.W.Frag} (neg : Bool) : BinSem K (fun x y H Q => (∃ i j, x = .str i ∧ y = .str j ∧ Q (.bl (if neg then !(!(Builtin.Str.occurrences j i 0 j.length 1).isEmpty) else !(Builtin.Str.occurrences j i 0 j.length 1).isEmpty)) H) ∨ rIn K neg x y H Q ∨
    ∃ d ds, Dp K H x d ∧ Dp K H y (.list ds) ∧ SeqAt.shaped d = true ∧ SeqAt.shaped (.list ds) = true ∧ Q (.bl (if neg then !(ds.any fun z => PyData.eqv z d) else ds.any fun z => PyData.eqv z d)) H) .sh
    (fun d e => inB d e >>= fun b => .ok (.bl (if neg then !b else b))) := .flat fun H Hs d e z x y Q sub rx ry hz q => by
  cases eb : inB d e with
  | stuck => rw [eb] at hz; cases hz
  | exc c fs => rw [eb] at hz; cases hz
  | ok b =>
    rw [eb] at hz
    cases hz
    have q := fun v => q v
    unfold inB at eb
    split at eb
    · cases rx; cases ry; cases eb
      exact .inl ⟨_, _, rfl, rfl, q _ (.bl _)⟩
    · cases ry with
      | tup h rs =>
        obtain ⟨h1, h2, h3⟩ := inFlat_ok rx rs eb
        subst h3
        exact .inr (.inl ⟨_, _, rfl, .inr (sub.sqt h), h1, h2, q _ (.bl _)⟩)
    · cases ry with
      | lst h rs =>
        split at eb
        · obtain ⟨h1, h2, h3⟩ := inFlat_ok rx rs eb
          subst h3
          exact .inr (.inl ⟨_, _, rfl, .inl (SqL.of (sub _ _ h)), h1, h2, q _ (.bl _)⟩)
        · split at eb
          · rename_i p qs e1 e2
            split at eb
            · rename_i hc
              cases eb
              exact .inr (.inr ⟨p, qs, (rx.mono sub.ex).dp e1, .lst (SqL.of (sub _ _ h)) ((rs.mono sub.ex).dp e2), hc.1, hc.2, q _ (.bl _)⟩)
            · cases eb
          · cases eb
    · cases eb
theorem op_inAll (hu : X.A.units + 65 < cLine) : OpR X (compareOp .In) (fun x y H Q => (∃ i j, x = .str i ∧ y = .str j ∧ Q (.bl (!(Builtin.Str.occurrences j i 0 j.length 1).isEmpty)) H) ∨ rIn X.K false x y H Q ∨
    ∃ d ds, Dp X.K H x d ∧ Dp X.K H y (.list ds) ∧ SeqAt.shaped d = true ∧ SeqAt.shaped (.list ds) = true ∧ Q (.bl (ds.any fun z => PyData.eqv z d)) H) := op_in_str.or (op_in_seq.or (op_inD hu))
theorem op_ninAll (hu : X.A.units + 65 < cLine) : OpR X (compareOp .NotIn) (fun x y H Q => (∃ i j, x = .str i ∧ y = .str j ∧ Q (.bl (!(!(Builtin.Str.occurrences j i 0 j.length 1).isEmpty))) H) ∨ rIn X.K true x y H Q ∨
    ∃ d ds, Dp X.K H x d ∧ Dp X.K H y (.list ds) ∧ SeqAt.shaped d = true ∧ SeqAt.shaped (.list ds) = true ∧ Q (.bl (!ds.any fun z => PyData.eqv z d)) H) := op_notin_str.or (op_notIn_seq.or (op_notInD hu))
/-- is None -/
def D.isN : D → Bool
  | .non => true
  | _ => false
def dIsN : D → D → O D
  | d, .non => .ok (.bl d.isN)
  | _, _ => .stuck
def dNotN : D → D → O D
  | d, .non => .ok (.bl (!d.isN))
  | _, _ => .stuck
theorem isN_V {K : PySem.W.Frag} {H : Hp} {d : D} {v : V} (r : Rep K H d v) : decide (v = .non) = d.isN := by
  cases r <;> simp [D.isN]
theorem sem_isN {K : PySem.W.Frag} : BinSem K (fun x y H Q => y = .non ∧ Q (.bl (decide (x = .non))) H) .sh dIsN := .flat fun H Hs d e z x y Q sub rx ry hz q => by
  cases ry <;> first | (cases hz; done) | skip
  cases hz
  exact ⟨rfl, by rw [isN_V rx]; exact q _ (.bl _)⟩
theorem sem_notN {K : PySem.W.Frag} : BinSem K (fun x y H Q => y = .non ∧ Q (.bl (!decide (x = .non))) H) .sh dNotN := .flat fun H Hs d e z x y Q sub rx ry hz q => by
  cases ry <;> first | (cases hz; done) | skip
  cases hz
  exact ⟨rfl, by rw [isN_V rx]; exact q _ (.bl _)⟩
theorem sem_in0 {K : PySem.W.Frag} : BinSem K (fun x y H Q => (∃ i j, x = .str i ∧ y = .str j ∧ Q (.bl (!(Builtin.Str.occurrences j i 0 j.length 1).isEmpty)) H) ∨ rIn K false x y H Q ∨
    ∃ d ds, Dp K H x d ∧ Dp K H y (.list ds) ∧ SeqAt.shaped d = true ∧ SeqAt.shaped (.list ds) = true ∧ Q (.bl (ds.any fun z => PyData.eqv z d)) H) .sh dIn := sem_in false
theorem sem_nin0 {K : PySem.W.Frag} : BinSem K (fun x y H Q => (∃ i j, x = .str i ∧ y = .str j ∧ Q (.bl (!(!(Builtin.Str.occurrences j i 0 j.length 1).isEmpty))) H) ∨ rIn K true x y H Q ∨
    ∃ d ds, Dp K H x d ∧ Dp K H y (.list ds) ∧ SeqAt.shaped d = true ∧ SeqAt.shaped (.list ds) = true ∧ Q (.bl (!ds.any fun z => PyData.eqv z d)) H) .sh dNotIn := sem_in true
/-- a chain of two comparisons -/
theorem chain_run {r r' : R2} {o o' : D → D → O D} {f g h : Env → O D} {σ : L2.St} {H : Hp} {Q : VK} (hs : BinSem X.K r .sh o) (hs' : BinSem X.K r' .sh o') (q : tE X.K W κ .sh (mChain o o' f g h) σ H Q) : tChain r r' (tE X.K W κ .sh f) (tE X.K W κ .sh g) (tE X.K W κ .sh h) σ H Q := by
  obtain ⟨S, H0, Hs0, ρ, Hs, F, R, p⟩ := q
  refine step R p fun x vx H1 Hs1 _ g1 R1 rx p1 => ?_
  refine step R1 p1 fun y vy H2 Hs2 _ g2 R2 ry p2 => ?_
  cases e : o x y with
  | stuck => rw [e] at p2; exact p2.elim
  | exc c fs => rw [e] at p2; exact p2.elim
  | ok z =>
    refine hs H2 Hs2 x y z vx vy _ R2.sub (rx.mono g2.exs) ry e fun v H3 rz => ?_
    obtain ⟨Hs3, g3, rz⟩ := rz.out
    rw [e] at p2
    cases rz <;> first | exact p2.elim | skip
    rename_i b
    refine ⟨b, rfl, ?_⟩
    cases b with
    | true =>
      have p3 : EPost X.K W .sh σ H2 Hs2 Q (h ρ >>= fun z => (match o' y z with
        | .ok (.bl b) => .ok (.bl b)
        | _ => .stuck)) := p2
      have p4 : EPost X.K W .sh σ H3 Hs3 Q (h ρ >>= fun z => (match o' y z with
        | .ok (.bl b) => .ok (.bl b)
        | _ => .stuck)) := by
        cases eh : h ρ with
        | stuck => rw [eh] at p3; exact p3.elim
        | exc c fs => rw [eh] at p3; exact fun cls dx H' q' => p3 cls dx H' (xres_pre g3 q')
        | ok z =>
          rw [eh, bind_ok] at p3
          rw [bind_ok]
          split at p3
          · exact fun v' H' q' => p3 v' H' (q'.pre g3)
          · exact p3.elim
      rw [if_pos rfl]
      refine step (R2.grow g3) p4 fun z vz H4 Hs4 _ g4 R4 rz p5 => ?_
      cases e2 : o' y z with
      | stuck => rw [e2] at p5; exact p5.elim
      | exc c fs => rw [e2] at p5; exact p5.elim
      | ok w =>
        rw [e2] at p5
        have ryy := (ry.mono g3.exs).mono g4.exs
        refine hs' H4 Hs4 y z w vy vz Q R4.sub ryy rz e2 fun v H5 rw_ => ?_
        split at p5
        · rename_i b' eb
          cases eb
          exact p5 v H5 rw_
        · exact p5.elim
    | false =>
      have p3 : EPost X.K W .sh σ H2 Hs2 Q (.ok (.bl false)) := p2
      rw [if_neg Bool.false_ne_true]
      exact p3 _ _ (.sh g3 (.bl _))
end
end T

set_option Elab.async false
set_option linter.all false
set_option maxRecDepth 100000
set_option maxHeartbeats 1000000
/-! T3: argument lists, displays, items, slices, calls of built-ins. -/
namespace T
open PySem L2
section
variable {X : Cx} {W : WX} {κ : List Kd}
/-! ### arguments -/
def mNil : Env → O (List D) := fun _ => .ok []
def mCons (f : Env → O D) (g : Env → O (List D)) : Env → O (List D) := fun ρ => f ρ >>= fun d => g ρ >>= fun ds => .ok (d :: ds)
theorem stepAA {S : List Addr} {H0 Hs0 : Hp} {ρ : Env} {σ : L2.St} {H Hs : Hp} {F : Foot} {K : PySem.W.Frag} {f : Env → O D} {k : D → O (List D)} {Q : List V → Hp → Prop} (R : Rel K S H0 Hs0 κ ρ σ H Hs F) (p : APost K W σ H Hs Q (f ρ >>= k))
    {R2 : V → Hp → Prop} (h : ∀ d v H1 Hs1, f ρ = .ok d → Grow H Hs H1 Hs1 → Rel K S H0 Hs0 κ ρ σ H1 Hs1 F → Rep K Hs1 d v → APost K W σ H1 Hs1 Q (k d) → R2 v H1) : tE K W κ .sh f σ H R2 := by
  refine ⟨S, H0, Hs0, ρ, Hs, F, R, ?_⟩
  cases e : f ρ with
  | stuck => rw [e] at p; exact p
  | exc c fs => rw [e] at p; exact p
  | ok d =>
    rw [e] at p
    intro v H1 q
    obtain ⟨Hs1, g, rp⟩ := q.out
    refine h d v H1 Hs1 e g (R.grow g) rp ?_
    have p' : APost K W σ H Hs Q (k d) := p
    cases ek : k d with
    | stuck => rw [ek] at p'; exact p'
    | ok z => rw [ek] at p'; exact fun v' H' Hs' q' => p' v' H' Hs' (g.trans q')
    | exc c fs => rw [ek] at p'; exact fun cls dx H' q' => p' cls dx H' (xres_pre g q')
theorem ca_nil : CA X W κ [] mNil := PA.imp pa_nil fun σ H Q h => by
  obtain ⟨S, H0, Hs0, ρ, Hs, F, R, p⟩ := h
  exact p [] H Hs (.refl R.sub) .nil
theorem ca_cons {e : Expr} {es : List Expr} {f : Env → O D} {g : Env → O (List D)} (ha : CE X W κ .sh e f) (hr : CA X W κ es g) (hs : starEach (e :: es) X.env = (false, eval e X.env) :: starEach es X.env := by rfl) : CA X W κ (e :: es) (mCons f g) :=
  PA.imp (pa_cons ha hr hs) fun σ H Q h => by
    obtain ⟨S, H0, Hs0, ρ, Hs, F, R, p⟩ := h
    refine stepAA R p fun x vx H1 Hs1 _ g1 R1 rx p1 => ?_
    refine ⟨S, H0, Hs0, ρ, Hs1, F, R1, ?_⟩
    cases e : g ρ with
    | stuck => rw [e] at p1; exact p1
    | exc c fs => rw [e] at p1; exact p1
    | ok ds => rw [e] at p1; exact fun vs H' Hs' g2 rs => p1 _ H' Hs' g2 (.cons (rx.mono g2.exs) rs)
/-! ### displays -/
def mkT (ds : List D) : O D := if ds.length ≤ sizeLine then .ok (.tup ds) else .stuck
def mkL (ds : List D) : O D := if ds.length ≤ sizeLine then .ok (.lst ds) else .stuck
def mTup (f : Env → O (List D)) : Env → O D := fun ρ => f ρ >>= mkT
def mLst (f : Env → O (List D)) : Env → O D := fun ρ => f ρ >>= mkL
theorem ce_tup {es : List Expr} {x1 : _} {pos : Pos} {f : Env → O (List D)} (h : CA X W κ es f) : CE X W κ .sh (.Tuple es x1 pos) (mTup f) :=
  PE.imp (pe_tup h) fun σ H Q q => by
    obtain ⟨S, H0, Hs0, ρ, Hs, F, R, p⟩ := q
    refine stepA R p fun ds vs H1 Hs1 _ g1 R1 rs p1 => ?_
    unfold mkT at p1
    split at p1
    · rename_i hl
      exact ⟨by rw [← rs.length]; exact hl, fun t ht => p1 _ _ (.tuple R1.sub rs ht)⟩
    · exact p1.elim
theorem ce_lstO {es : List Expr} {pos : Pos} {f : Env → O (List D)} (h : CA X W κ es f) : CE X W κ (.ls .sh) (.List es pos) (mLst f) :=
  PE.imp (pe_lst h) fun σ H Q q => by
    obtain ⟨S, H0, Hs0, ρ, Hs, F, R, p⟩ := q
    refine stepA R p fun ds vs H1 Hs1 _ g1 R1 rs p1 => ?_
    unfold mkL at p1
    split at p1
    · rename_i hl
      exact ⟨by rw [← rs.length]; exact hl, fun t ht => p1 _ _ (.list R1.sub rs ht)⟩
    · exact p1.elim
theorem ce_lst {es : List Expr} {pos : Pos} {f : Env → O (List D)} (h : CA X W κ es f) : CE X W κ .sh (.List es pos) (mLst f) := ce_share (ce_lstO h)
/-- an empty list that is to hold owned lists -/
theorem ce_nilO {k : Kd} {pos : Pos} : CE X W κ (.ls k) (.List [] pos) (mC (.lst [])) :=
  PE.imp (pe_lst (ca_nil (W := W) (κ := κ))) fun σ H Q q => by
    obtain ⟨S, H0, Hs0, ρ, Hs, F, R, p⟩ := q
    refine ⟨S, H0, Hs0, ρ, Hs, F, R, fun vs H1 Hs1 g1 rs => ?_⟩
    cases rs
    refine ⟨Nat.zero_le _, fun l hl => p _ _ ?_⟩
    refine ⟨Hs1, [l], g1.trans (.newOwn g1.sub hl (fun _ h => nomatch h)), by simp, fun a ha => ?_, l, [], [], [], rfl, rfl, upd_same, rfl, .nil⟩
    have e : a = l := by simpa using ha
    subst e
    exact ⟨g1.ex.none hl, g1.sub.none hl, by rw [upd_same]; simp⟩
/-! ### items -/
def dIx : D → D → O D
  | .lst xs, .int i => match atI xs i with
    | some d => .ok d
    | none => .stuck
  | .tup xs, .int i => match atI xs i with
    | some d => .ok d
    | none => .stuck
  | .scr xs, .int i => match atI xs i with
    | some d => .ok (.int d)
    | none => .stuck
  | .str s, .int i => if s.length ≤ sizeLine then (match atI s.cps.toList i with
    | some c => .ok (.str ⟨#[c]⟩)
    | none => .stuck) else .stuck
  | _, _ => .stuck
theorem atI_rep {K : PySem.W.Frag} {H : Hp} {ds : List D} {vs : List V} {i : Int} {d : D} (r : Reps K H ds vs) (h : atI ds i = some d) : ∃ v, atI vs i = some v ∧ Rep K H d v := by
  unfold atI at h ⊢
  rw [← r.length]
  cases e : ixN ds.length i with
  | none => rw [e] at h; cases h
  | some j =>
    rw [e] at h
    obtain ⟨v, h1, h2⟩ := r.get (i := j) h
    exact ⟨v, h1, h2⟩
theorem sem_ix {K : PySem.W.Frag} : BinSem K (rIx K) .sh dIx := .flat fun H Hs d e z x y Q sub rx ry hz q => by
  cases ry <;> first | (cases rx <;> cases hz; done) | skip
  rename_i i
  cases rx <;> first | (cases hz; done) | skip
  · rename_i s
    dsimp only [dIx] at hz
    split at hz
    · rename_i hl
      split at hz
      · rename_i c hc
        cases hz
        exact .inr (.inr ⟨s, i, c, rfl, rfl, hl, hc, q _ (.str _)⟩)
      · cases hz
    · cases hz
  · rename_i a ds vs h r
    dsimp only [dIx] at hz
    split at hz
    · rename_i c hc
      cases hz
      obtain ⟨v, h1, h2⟩ := atI_rep r hc
      exact .inr (.inl ⟨a, vs, i, v, rfl, rfl, sub.sqt h, h1, q _ h2⟩)
    · cases hz
  · rename_i a ds vs h r
    dsimp only [dIx] at hz
    split at hz
    · rename_i c hc
      cases hz
      obtain ⟨v, h1, h2⟩ := atI_rep r hc
      exact .inl ⟨a, vs, i, v, rfl, rfl, SqL.of (sub _ _ h), h1, q _ h2⟩
    · cases hz
  · rename_i a ns h
    dsimp only [dIx] at hz
    split at hz
    · rename_i c hc
      cases hz
      refine .inl ⟨a, ns.map V.int, i, .int c, rfl, rfl, sub.sql h, ?_, q _ (.int _)⟩
      unfold atI at hc ⊢
      rw [List.length_map]
      cases e : ixN ns.length i with
      | none => rw [e] at hc; cases hc
      | some j =>
        rw [e, Option.bind_some] at hc
        rw [Option.bind_some, List.getElem?_map, hc]; rfl
    · cases hz
theorem ce_ix {a b : Expr} {pos : Pos} {f g : Env → O D} (ha : CE X W κ .sh a f) (hb : CE X W κ .sh b g) (hs : PlainIx b := by exact fun _ _ => rfl) : CE X W κ .sh (.Subscript a b pos) (mBin dIx f g) :=
  PE.imp (pe_ix ix_seq ha hb hs) fun _ _ _ h => bin_run sem_ix h
/-- an item of a slot's own list, the item shared -/
def mIxO (i : Nat) (g : Env → O D) : Env → O D := fun ρ => match ρ[i]? with
  | some (some d) => g ρ >>= fun e => dIx d e
  | _ => .stuck
theorem ce_ixO (i : Nat) {x : Str} {p pos : Pos} {b : Expr} {g : Env → O D} (hk : kAt κ i = .ls .sh) (hp : PE X (.Name x p) (tVar i)) (hb : CE X W κ .sh b g) (hs : PlainIx b := by exact fun _ _ => rfl) : CE X W κ .sh (.Subscript (.Name x p) b pos) (mIxO i g) :=
  PE.imp (pe_ix ix_seq hp hb hs) fun σ H Q h => by
    obtain ⟨S, H0, Hs0, ρ, Hs, F, R, p⟩ := h
    unfold mIxO at p
    split at p
    · rename_i d e
      obtain ⟨v, h1, h2⟩ := R.sl i d e
      rw [hk] at h2
      obtain ⟨a, ds, vs, Fs, rfl, rfl, ha, hF, r⟩ := h2
      refine ⟨_, h1, ?_⟩
      refine step R p fun y vy H1 Hs1 _ g1 R1 ry p1 => ?_
      cases ry <;> first | exact p1.elim | skip
      rename_i k _
      have p2 : EPost X.K W .sh σ H1 Hs1 Q (match atI ds k with
        | some d => .ok d
        | none => .stuck) := p1
      cases ea : atI ds k with
      | none => rw [ea] at p2; exact p2.elim
      | some d =>
        rw [ea] at p2
        have rs : Reps X.K Hs ds vs := by
          clear p p1 p2 ea hF ha e
          induction r with
          | nil => exact .nil
          | cons q _ ih => exact .cons q.1 ih
        obtain ⟨v, h3, h4⟩ := atI_rep rs ea
        exact .inl ⟨a, vs, k, v, rfl, rfl, SqL.of (g1.ex _ _ ha), h3, p2 v H1 (.sh (.refl R1.sub) (h4.mono g1.exs))⟩
    · exact p.elim
/-! ### slices -/
def tOpt (K : PySem.W.Frag) (W : WX) (κ : List Kd) (f : Env → O (Option Int)) : TO := fun σ H Q =>
  ∃ S H0 Hs0 ρ Hs F, Rel K S H0 Hs0 κ ρ σ H Hs F ∧ match f ρ with
    | .stuck => False
    | .ok i => ∀ H' Hs', Grow H Hs H' Hs' → Q i H'
    | .exc c fs => ∀ cls dx H', XRes K c fs cls dx H Hs H' → W cls dx σ H'
abbrev CO (X : Cx) (W : WX) (κ : List Kd) (e : Option Expr) (f : Env → O (Option Int)) : Prop := PO X e (tOpt X.K W κ f)
theorem PO.imp {e : Option Expr} {t t' : TO} (h : PO X e t) (hi : ∀ σ H Q, t' σ H Q → t σ H Q) : PO X e t' := ⟨fun pins s σ H Q I q => h.run pins s σ H Q I (hi σ H Q q)⟩
def mB0 : Env → O (Option Int) := fun _ => .ok none
def asInt (d : D) : O Int := match d with
  | .int i => .ok i
  | _ => .stuck
def mB1 (f : Env → O D) : Env → O (Option Int) := fun ρ => f ρ >>= asInt >>= fun i => .ok (some i)
theorem co_none : CO X W κ none mB0 := PO.imp po_none fun σ H Q h => by
  obtain ⟨S, H0, Hs0, ρ, Hs, F, R, p⟩ := h
  exact p H Hs (.refl R.sub)
theorem co_some {e : Expr} {f : Env → O D} (h : CE X W κ .sh e f) : CO X W κ (some e) (mB1 f) := PO.imp (po_some h) fun σ H Q q => by
  obtain ⟨S, H0, Hs0, ρ, Hs, F, R, p⟩ := q
  refine ⟨S, H0, Hs0, ρ, Hs, F, R, ?_⟩
  unfold mB1 at p
  cases e : f ρ with
  | stuck => rw [e] at p; exact p
  | exc c fs => rw [e] at p; exact p
  | ok d =>
    rw [e] at p
    intro v H' r
    obtain ⟨Hs', g, rp⟩ := r.out
    cases rp <;> first | exact p.elim | skip
    exact ⟨_, rfl, p H' Hs' g⟩
def cutD (xs : List D) (lo hi : Option Int) : List D := (xs.drop (HT.sIx xs.length 0 lo)).take (HT.sIx xs.length xs.length hi - HT.sIx xs.length 0 lo)
def dSl (d : D) (lo hi : Option Int) : O D := match d with
  | .lst xs => .ok (.lst (cutD xs lo hi))
  | .tup xs => .ok (.tup (cutD xs lo hi))
  | .str s => if s.length ≤ sizeLine then .ok (.str (cutS s lo hi)) else .stuck
  | _ => .stuck
def dSlL (d : D) (lo hi : Option Int) : O D := match d with
  | .lst xs => .ok (.lst (cutD xs lo hi))
  | _ => .stuck
def mSl (o : D → Option Int → Option Int → O D) (f : Env → O D) (lo hi : Env → O (Option Int)) : Env → O D := fun ρ => f ρ >>= fun d => lo ρ >>= fun l => hi ρ >>= fun h => o d l h
theorem cut_rep {K : PySem.W.Frag} {H : Hp} {ds : List D} {vs : List V} (r : Reps K H ds vs) (lo hi : Option Int) : Reps K H (cutD ds lo hi) (cutV vs lo hi) := by
  unfold cutD cutV
  rw [r.length]
  exact (r.drop _).take _
theorem stepO {S : List Addr} {H0 Hs0 : Hp} {ρ : Env} {σ : L2.St} {H Hs : Hp} {F : Foot} {K : PySem.W.Frag} {f : Env → O (Option Int)} {o : Option Int → O D} {r : Kd} {Q : VK} (R : Rel K S H0 Hs0 κ ρ σ H Hs F) (p : EPost K W r σ H Hs Q (f ρ >>= o))
    {R2 : Option Int → Hp → Prop} (h : ∀ b H1 Hs1, f ρ = .ok b → Grow H Hs H1 Hs1 → Rel K S H0 Hs0 κ ρ σ H1 Hs1 F → EPost K W r σ H1 Hs1 Q (o b) → R2 b H1) : tOpt K W κ f σ H R2 := by
  refine ⟨S, H0, Hs0, ρ, Hs, F, R, ?_⟩
  cases e : f ρ with
  | stuck => rw [e] at p; exact p
  | exc c fs => rw [e] at p; exact p
  | ok b =>
    rw [e] at p
    intro H1 Hs1 g
    refine h b H1 Hs1 e g (R.grow g) ?_
    have p' : EPost K W r σ H Hs Q (o b) := p
    cases ek : o b with
    | stuck => rw [ek] at p'; exact p'
    | ok z => rw [ek] at p'; exact fun v' H' q' => p' v' H' (q'.pre g)
    | exc c fs => rw [ek] at p'; exact fun cls dx H' q' => p' cls dx H' (xres_pre g q')
/-- a slice's rule over data -/
def SlSem (K : PySem.W.Frag) (r : V → Option Int → Option Int → Hp → VK → Prop) (rr : Kd) (o : D → Option Int → Option Int → O D) : Prop :=
  ∀ (H Hs : Hp) (d z : D) (x : V) (lo hi : Option Int) (Q : VK), Sub Hs H → Rep K Hs d x → o d lo hi = .ok z → (∀ v H', Res K rr z v H Hs H' → Q v H') → r x lo hi H Q
theorem ce_sl {r : V → Option Int → Option Int → Hp → VK → Prop} {rr : Kd} {o : D → Option Int → Option Int → O D} {e : Expr} {lo hi : Option Expr} {p2 pos : Pos} {f : Env → O D} {l h : Env → O (Option Int)} (hs : SlSem X.K r rr o) (hr : SlR X r)
    (ho : ∀ d l h c fs, o d l h ≠ .exc c fs) (he : CE X W κ .sh e f) (hl : CO X W κ lo l) (hh : CO X W κ hi h) : CE X W κ rr (.Subscript e (.Slice lo hi none p2) pos) (mSl o f l h) :=
  PE.imp (pe_slice hr he hl hh) fun σ H Q q => by
    obtain ⟨S, H0, Hs0, ρ, Hs, F, R, p⟩ := q
    refine step R p fun d v H1 Hs1 _ g1 R1 rd p1 => ?_
    refine stepO R1 p1 fun a H2 Hs2 _ g2 R2 p2 => ?_
    refine stepO R2 p2 fun b H3 Hs3 _ g3 R3 p3 => ?_
    cases e : o d a b with
    | stuck => rw [e] at p3; exact p3.elim
    | exc c fs => exact absurd e (ho _ _ _ _ _)
    | ok z => rw [e] at p3; exact hs H3 Hs3 d z v a b Q R3.sub ((rd.mono g2.exs).mono g3.exs) e p3
theorem sem_slAll {K : PySem.W.Frag} : SlSem K (fun x lo hi H Q => rSlL K x lo hi H Q ∨ rSlA K x lo hi H Q ∨ rSlS x lo hi H Q) .sh dSl := fun H Hs d z x lo hi Q sub rx hz q => by
  cases rx <;> first | (cases hz; done) | skip
  · rename_i s
    dsimp only [dSl] at hz
    split at hz
    · rename_i hl
      cases hz
      exact .inr (.inr ⟨s, rfl, hl, q _ _ (.sh (.refl sub) (.str _))⟩)
    · cases hz
  · rename_i a ds vs h r
    cases hz
    refine .inr (.inl ⟨a, vs, rfl, sub.sqt h, fun e => ?_, fun _ p hp => q _ _ (.tuple sub (cut_rep r lo hi) hp)⟩)
    have e2 : cutD ds lo hi = ds := by
      unfold cutD
      rw [r.length, e.1, e.2, List.drop_zero, Nat.sub_zero, ← r.length, List.take_length]
    rw [e2] at q
    exact q _ _ (.sh (.refl sub) (Rep.tup h r))
  · rename_i a ds vs h r
    cases hz
    exact .inl ⟨a, vs, rfl, SqL.of (sub _ _ h), fun p hp => q _ _ (Res.list sub (cut_rep r lo hi) hp).share⟩
theorem sem_slL {K : PySem.W.Frag} : SlSem K (rSlL K) (.ls .sh) dSlL := fun H Hs d z x lo hi Q sub rx hz q => by
  cases rx <;> first | (cases hz; done) | skip
  rename_i a ds vs h r
  cases hz
  exact ⟨a, vs, rfl, SqL.of (sub _ _ h), fun p hp => q _ _ (.list sub (cut_rep r lo hi) hp)⟩
theorem ce_slice {e : Expr} {lo hi : Option Expr} {p2 pos : Pos} {f : Env → O D} {l h : Env → O (Option Int)} (he : CE X W κ .sh e f) (hl : CO X W κ lo l) (hh : CO X W κ hi h) : CE X W κ .sh (.Subscript e (.Slice lo hi none p2) pos) (mSl dSl f l h) :=
  ce_sl sem_slAll (sl_list.or (sl_tupA.or sl_str)) (fun d l h c fs e => by unfold dSl at e; split at e <;> first | (cases e; done) | (split at e <;> cases e)) he hl hh
theorem ce_sliceO {e : Expr} {lo hi : Option Expr} {p2 pos : Pos} {f : Env → O D} {l h : Env → O (Option Int)} (he : CE X W κ .sh e f) (hl : CO X W κ lo l) (hh : CO X W κ hi h) : CE X W κ (.ls .sh) (.Subscript e (.Slice lo hi none p2) pos) (mSl dSlL f l h) :=
  ce_sl sem_slL sl_list (fun d l h c fs e => by unfold dSlL at e; split at e <;> cases e) he hl hh

/-! ### calls of built-ins -/
def CallSem (K : PySem.W.Frag) (r : List V → Hp → VK → Prop) (rr : Kd) (o : List D → O D) : Prop :=
  ∀ (H Hs : Hp) (ds : List D) (z : D) (vs : List V) (Q : VK), Sub Hs H → Reps K Hs ds vs → o ds = .ok z → (∀ v H', Res K rr z v H Hs H' → Q v H') → r vs H Q
def noX (x : O D) : O D := match x with
  | .ok z => .ok z
  | _ => .stuck
def mCall (o : List D → O D) (f : Env → O (List D)) : Env → O D := fun ρ => f ρ >>= fun ds => noX (o ds)
theorem call_run {r : List V → Hp → VK → Prop} {rr : Kd} {o : List D → O D} {f : Env → O (List D)} {σ : L2.St} {H : Hp} {Q : VK} (hs : CallSem X.K r rr o) (q : tE X.K W κ rr (mCall o f) σ H Q) : tCB r (tA X.K W κ f) σ H Q := by
  obtain ⟨S, H0, Hs0, ρ, Hs, F, R, p⟩ := q
  refine stepA R p fun ds vs H1 Hs1 _ g1 R1 rs p1 => ?_
  cases e : o ds with
  | stuck => rw [e] at p1; exact p1.elim
  | exc c fs => rw [e] at p1; exact p1.elim
  | ok z => rw [e] at p1; exact hs H1 Hs1 ds z vs Q R1.sub rs e p1
theorem ce_callB {r : List V → Hp → VK → Prop} {rr : Kd} {o : List D → O D} {f : Env → O (List D)} {id : String} {x : Str} {p pos : Pos} {e : Expr} {es : List Expr} (hs : CallSem X.K r rr o) (hc : CallR X (.builtin id) r) (hg : Gl X x) (hm : X.mg x = none)
    (hv : bootBuiltins x = some (.builtin id)) (ha : CA X W κ (e :: es) f) (hn : x ≠ "__name__" := by decide) (hdb : (x == ("__debug__" : Str)) = false := by decide)
    (he : starEach (e :: es) X.env = (false, eval e X.env) :: starEach es X.env := by rfl) (hpl : (backTo pos (starEach es X.env)).any (·.1) = false := by rfl) : CE X W κ rr (.Call (.Name x p) (e :: es) [] pos) (mCall o f) :=
  PE.imp (pe_callB hc hg hm hv ha hn hdb he hpl) fun _ _ _ q => call_run hs q
theorem ce_callTy {r : List V → Hp → VK → Prop} {rr : Kd} {o : List D → O D} {f : Env → O (List D)} {Ty : String} {x : Str} {p pos : Pos} {e : Expr} {es : List Expr} (hs : CallSem X.K r rr o) (hc : CallR X (.type Ty) r) (hg : Gl X x) (hm : X.mg x = none)
    (hv : bootBuiltins x = some (.type Ty)) (ha : CA X W κ (e :: es) f) (hn : x ≠ "__name__" := by decide) (hdb : (x == ("__debug__" : Str)) = false := by decide)
    (he : starEach (e :: es) X.env = (false, eval e X.env) :: starEach es X.env := by rfl) (hpl : (backTo pos (starEach es X.env)).any (·.1) = false := by rfl) : CE X W κ rr (.Call (.Name x p) (e :: es) [] pos) (mCall o f) :=
  PE.imp (pe_callTy hc hg hm hv ha hn hdb he hpl) fun _ _ _ q => call_run hs q
theorem CallSem.flat {K : PySem.W.Frag} {r : List V → Hp → VK → Prop} {o : List D → O D} (h : ∀ (H Hs : Hp) (ds : List D) (z : D) (vs : List V) (Q : VK), Sub Hs H → Reps K Hs ds vs → o ds = .ok z → (∀ v, Rep K Hs z v → Q v H) → r vs H Q) : CallSem K r .sh o :=
  fun H Hs ds z vs Q sub rs hz q => h H Hs ds z vs Q sub rs hz fun v rv => q v H (.sh (.refl sub) rv)
theorem CallSem.share {K : PySem.W.Frag} {r : List V → Hp → VK → Prop} {k : Kd} {o : List D → O D} (h : CallSem K r k o) : CallSem K r .sh o := fun H Hs ds z vs Q sub rs hz q => h H Hs ds z vs Q sub rs hz fun v H' r => q v H' r.share
def dLen : List D → O D
  | [.lst xs] => .ok (.int xs.length)
  | [.tup xs] => .ok (.int xs.length)
  | [.scr xs] => .ok (.int xs.length)
  | [.str s] => if s.length ≤ sizeLine then .ok (.int s.length) else .stuck
  | _ => .stuck
theorem sem_len {K : PySem.W.Frag} : CallSem K (fun xs H Q => ∃ x n, xs = [x] ∧ LenV K x H n ∧ Q (.int n) H) .sh dLen := .flat fun H Hs ds z vs Q sub rs hz q => by
  unfold dLen at hz
  split at hz
  · cases rs with | cons a b => cases b; cases a with | lst h r => cases hz; exact ⟨_, _, rfl, .inl ⟨_, SqL.of (sub _ _ h), rfl⟩, by rw [← r.length]; exact q _ (.int _)⟩
  · cases rs with | cons a b => cases b; cases a with | tup h r => cases hz; exact ⟨_, _, rfl, .inr ⟨_, sub.sqt h, rfl⟩, by rw [← r.length]; exact q _ (.int _)⟩
  · cases rs with | cons a b => cases b; cases a with | scr h => cases hz; exact ⟨_, _, rfl, .inl ⟨_, sub.sql h, rfl⟩, by rw [List.length_map]; exact q _ (.int _)⟩
  · cases rs with | cons a b =>
      cases b
      cases a
      split at hz
      · rename_i hl
        cases hz; exact ⟨_, _, rfl, ⟨hl, rfl⟩, q _ (.int _)⟩
      · cases hz
  · cases hz
def dAbs : List D → O D
  | [.int i] => .ok (.int (if i < 0 then -i else i))
  | _ => .stuck
theorem sem_abs {K : PySem.W.Frag} : CallSem K (fun xs H Q => ∃ i, xs = [.int i] ∧ Q (.int (if i < 0 then -i else i)) H) .sh dAbs := .flat fun H Hs ds z vs Q sub rs hz q => by
  unfold dAbs at hz
  split at hz
  · cases rs with | cons a b => cases b; cases a; cases hz; exact ⟨_, rfl, q _ (.int _)⟩
  · cases hz
def dMax2 : List D → O D
  | [.int i, .int j] => .ok (.int (if j > i then j else i))
  | _ => .stuck
def dMin2 : List D → O D
  | [.int i, .int j] => .ok (.int (if j < i then j else i))
  | _ => .stuck
theorem sem_max2 {K : PySem.W.Frag} : CallSem K (fun xs H Q => ∃ i j, xs = [.int i, .int j] ∧ Q (.int (if j > i then j else i)) H) .sh dMax2 := .flat fun H Hs ds z vs Q sub rs hz q => by
  unfold dMax2 at hz
  split at hz
  · cases rs with | cons a b => cases b with | cons c d => cases d; cases a; cases c; cases hz; exact ⟨_, _, rfl, q _ (.int _)⟩
  · cases hz
theorem sem_min2 {K : PySem.W.Frag} : CallSem K (fun xs H Q => ∃ i j, xs = [.int i, .int j] ∧ Q (.int (if j < i then j else i)) H) .sh dMin2 := .flat fun H Hs ds z vs Q sub rs hz q => by
  unfold dMin2 at hz
  split at hz
  · cases rs with | cons a b => cases b with | cons c d => cases d; cases a; cases c; cases hz; exact ⟨_, _, rfl, q _ (.int _)⟩
  · cases hz
def dMin3 : List D → O D
  | [.int i, .int j, .int k] => .ok (.int (if k < (if j < i then j else i) then k else if j < i then j else i))
  | _ => .stuck
theorem sem_min3 {K : PySem.W.Frag} : CallSem K (rNuC3 nuMin3) .sh dMin3 := .flat fun H Hs ds z vs Q sub rs hz q => by
  unfold dMin3 at hz
  split at hz
  · rename_i i j k
    cases rs with | cons a b => cases b with | cons c d => cases d with | cons e f =>
      cases f; cases a; cases c; cases e; cases hz
      refine ⟨.int i, .int j, .int k, _, rfl, ?_, q _ (.int _)⟩
      by_cases h1 : j < i
      · by_cases h2 : k < j <;> simp [nuMin3, nuMin2, nuLt, nuCB, h1, h2]
      · by_cases h2 : k < i <;> simp [nuMin3, nuMin2, nuLt, nuCB, h1, h2]
  · cases hz
/-- int(n), int(flag) -/
def dInt : List D → O D
  | [.int i] => .ok (.int i)
  | [.bl k] => .ok (.int (if k then 1 else 0))
  | _ => .stuck
theorem sem_int {K : PySem.W.Frag} : CallSem K (fun xs H Q => (∃ i, xs = [.int i] ∧ Q (.int i) H) ∨ ∃ k, xs = [.bl k] ∧ Q (.int (if k then 1 else 0)) H) .sh dInt := .flat fun H Hs ds z vs Q sub rs hz q => by
  unfold dInt at hz
  split at hz
  · cases rs with | cons a b => cases b; cases a; cases hz; exact .inl ⟨_, rfl, q _ (.int _)⟩
  · cases rs with | cons a b => cases b; cases a; cases hz; exact .inr ⟨_, rfl, q _ (.int _)⟩
  · cases hz
/-- int(text) -/
def dIntS : List D → O D
  | [.str s] => match PySem.intText? s with
    | some n => if s.length ≤ 640 then .ok (.int n) else .stuck
    | none => .stuck
  | _ => .stuck
theorem sem_intS {K : PySem.W.Frag} : CallSem K (fun xs H Q => ∃ a n, xs = [.str a] ∧ PySem.intText? a = some n ∧ a.length ≤ 640 ∧ Q (.int n) H) .sh dIntS := .flat fun H Hs ds z vs Q sub rs hz q => by
  unfold dIntS at hz
  split at hz
  · cases rs with | cons a b =>
      cases b; cases a
      split at hz
      · rename_i n hn
        split at hz
        · rename_i hl
          cases hz; exact ⟨_, n, rfl, hn, hl, q _ (.int _)⟩
        · cases hz
      · cases hz
  · cases hz
/-- str(n) -/
def dStr : List D → O D
  | [.int i] => if i.natAbs.log2 < 1920 then .ok (.str (toString i)) else .stuck
  | _ => .stuck
theorem sem_str {K : PySem.W.Frag} : CallSem K (fun xs H Q => ∃ i, xs = [.int i] ∧ i.natAbs.log2 < 1920 ∧ Q (.str (toString i)) H) .sh dStr := .flat fun H Hs ds z vs Q sub rs hz q => by
  unfold dStr at hz
  split at hz
  · cases rs with | cons a b =>
      cases b; cases a
      split at hz
      · rename_i hl
        cases hz; exact ⟨_, rfl, hl, q _ (.str _)⟩
      · cases hz
  · cases hz
/-- list(xs), tuple(xs) -/
def dList : List D → O D
  | [.lst xs] => .ok (.lst xs)
  | [.tup xs] => .ok (.lst xs)
  | [.scr xs] => .ok (.lst (xs.map .int))
  | _ => .stuck
theorem sem_list {K : PySem.W.Frag} : CallSem K (fun xs H Q => ∃ p ys, xs = [.ref p] ∧ (SqL K H p ys ∨ SqT K H p ys) ∧ ∀ l, H l = none → Q (.ref l) (upd H l (.lst ys))) (.ls .sh) dList := fun H Hs ds z vs Q sub rs hz q => by
  unfold dList at hz
  split at hz
  · cases rs with | cons a b => cases b; cases a with | lst h r => cases hz; exact ⟨_, _, rfl, .inl (SqL.of (sub _ _ h)), fun p hp => q _ _ (.list sub r hp)⟩
  · cases rs with | cons a b => cases b; cases a with | tup h r => cases hz; exact ⟨_, _, rfl, .inr (sub.sqt h), fun p hp => q _ _ (.list sub r hp)⟩
  · cases rs with | cons a b => cases b; cases a with | scr h => cases hz; exact ⟨_, _, rfl, .inl (sub.sql h), fun p hp => q _ _ (.list sub (Reps.ofInts _) hp)⟩
  · cases hz
def dTuple : List D → O D
  | [.lst xs] => .ok (.tup xs)
  | [.tup xs] => .ok (.tup xs)
  | [.scr xs] => .ok (.tup (xs.map .int))
  | _ => .stuck
theorem sem_tuple {K : PySem.W.Frag} : CallSem K (fun xs H Q => ∃ p ys, xs = [.ref p] ∧ ((SqL K H p ys ∧ ∀ l, H l = none → Q (.ref l) (upd H l (.tup ys))) ∨ (SqT K H p ys ∧ Q (.ref p) H))) .sh dTuple := fun H Hs ds z vs Q sub rs hz q => by
  unfold dTuple at hz
  split at hz
  · cases rs with | cons a b => cases b; cases a with | lst h r => cases hz; exact ⟨_, _, rfl, .inl ⟨SqL.of (sub _ _ h), fun p hp => q _ _ (.tuple sub r hp)⟩⟩
  · cases rs with | cons a b => cases b; cases a with | tup h r => cases hz; exact ⟨_, _, rfl, .inr ⟨sub.sqt h, q _ _ (.sh (.refl sub) (.tup h r))⟩⟩
  · cases rs with | cons a b => cases b; cases a with | scr h => cases hz; exact ⟨_, _, rfl, .inl ⟨sub.sql h, fun p hp => q _ _ (.tuple sub (Reps.ofInts _) hp)⟩⟩
  · cases hz
/-- the ints of a list -/
def intsOf : List D → Option (List Int)
  | [] => some []
  | .int i :: r => (intsOf r).map fun l => i :: l
  | _ :: _ => none
theorem intsOf_eq : ∀ {ds : List D} {ns : List Int}, intsOf ds = some ns → ds = ns.map D.int
  | [], _, h => by cases h; rfl
  | d :: r, ns, h => by
    cases d with
    | int i =>
      unfold intsOf at h
      cases e : intsOf r with
      | none => rw [e] at h; cases h
      | some l => rw [e] at h; cases h; rw [intsOf_eq e]; rfl
    | _ => cases h
@[simp] theorem intsOf_map (ns : List Int) : intsOf (ns.map D.int) = some ns := by
  induction ns with
  | nil => rfl
  | cons n ns ih => rw [List.map_cons, intsOf, ih]; rfl
def dSum : List D → O D
  | [.lst xs] => match intsOf xs with
    | some ns => .ok (.int ns.sum)
    | none => .stuck
  | _ => .stuck
theorem sem_sum {K : PySem.W.Frag} : CallSem K (rSum K) .sh dSum := .flat fun H Hs ds z vs Q sub rs hz q => by
  unfold dSum at hz
  split at hz
  · cases rs with | cons a b => cases b; cases a with | lst h r =>
      split at hz
      · rename_i ns e
        cases hz
        rw [intsOf_eq e] at r
        rw [Reps.ints r] at h
        exact ⟨_, ns, rfl, SqL.of (sub _ _ h), q _ (.int _)⟩
      · cases hz
  · cases hz
/-- int(n), int(flag), int(text) -/
def dIntA : List D → O D
  | [.int i] => .ok (.int i)
  | [.bl k] => .ok (.int (if k then 1 else 0))
  | [.str s] => (match PySem.intText? s with
    | some n => if s.length ≤ 640 then .ok (.int n) else .stuck
    | none => .stuck)
  | _ => .stuck
theorem CallSem.or {K : PySem.W.Frag} {r r' : List V → Hp → VK → Prop} {k : Kd} {o o' o2 : List D → O D} (h : CallSem K r k o) (h' : CallSem K r' k o') (hc : ∀ ds z, o2 ds = .ok z → o ds = .ok z ∨ o' ds = .ok z) : CallSem K (fun xs H Q => r xs H Q ∨ r' xs H Q) k o2 :=
  fun H Hs ds z vs Q sub rs hz q => (hc ds z hz).elim (fun e => .inl (h H Hs ds z vs Q sub rs e q)) fun e => .inr (h' H Hs ds z vs Q sub rs e q)
theorem sem_intA {K : PySem.W.Frag} : CallSem K (fun xs H Q => ((∃ i, xs = [.int i] ∧ Q (.int i) H) ∨ ∃ k, xs = [.bl k] ∧ Q (.int (if k then 1 else 0)) H) ∨ (∃ a n, xs = [.str a] ∧ PySem.intText? a = some n ∧ a.length ≤ 640 ∧ Q (.int n) H)) .sh dIntA :=
  .or sem_int sem_intS fun ds z h => by
    unfold dIntA at h
    split at h
    · exact .inl h
    · exact .inl h
    · exact .inr h
    · cases h
theorem call_intA : CallR X (.type "int") (fun xs H Q => ((∃ i, xs = [.int i] ∧ Q (.int i) H) ∨ ∃ k, xs = [.bl k] ∧ Q (.int (if k then 1 else 0)) H) ∨ (∃ a n, xs = [.str a] ∧ PySem.intText? a = some n ∧ a.length ≤ 640 ∧ Q (.int n) H)) := call_int1.or call_int_str
theorem u65 {k : Nat} {A : Around} (hr : Room k A) : A.units + 65 < cLine := by have := hr.un; omega
theorem ce_chain {op op' : CmpOp} {r r' : R2} {o o' : D → D → O D} {a b d : Expr} {pos : Pos} {f g h : Env → O D} (hs : BinSem X.K r .sh o) (hs' : BinSem X.K r' .sh o') (ho : OpR X (compareOp op) r) (ho' : OpR X (compareOp op') r') (ha : CE X W κ .sh a f) (hb : CE X W κ .sh b g) (hd : CE X W κ .sh d h)
    (hm : lastMarks [op, op'] [b, d] = false := by with_unfolding_all rfl) : CE X W κ .sh (.Compare a [op, op'] [b, d] pos) (mChain o o' f g h) := PE.imp (pe_chain ho ho' ha hb hd hm) fun _ _ _ q => chain_run hs hs' q
theorem ct_chain {op op' : CmpOp} {r r' : R2} {o o' : D → D → O D} {a b d : Expr} {pos : Pos} {f g h : Env → O D} (hs : BinSem X.K r .sh o) (hs' : BinSem X.K r' .sh o') (ho : OpR X (compareOp op) r) (ho' : OpR X (compareOp op') r') (ha : CE X W κ .sh a f) (hb : CE X W κ .sh b g) (hd : CE X W κ .sh d h)
    (hm : lastMarks [op, op'] [b, d] = false := by with_unfolding_all rfl) : CT X W κ (.Compare a [op, op'] [b, d] pos) (mTest (mChain o o' f g h)) := PT.imp (pt_chain ho ho' ha hb hd hm) fun _ _ _ q => chain_run (W := W) (κ := κ) hs hs' (test_of q)
end
end T

set_option Elab.async false
set_option linter.all false
set_option maxRecDepth 100000
set_option maxHeartbeats 1000000
/-! T4: statements. -/
namespace T
open PySem L2

inductive SO where
  | stuck | nx (ρ : Env) | rt (d : D) | bk (ρ : Env) | ct (ρ : Env) | exc (ρ : Env) (c : Str) (fs : List (Str × D))
/-- what stays the same through a body: the wish about errors, how the answer is held, the slots' kinds at a loop's head and behind it, those where an error may leave, whether nothing of the caller's is changed -/
structure Cf where
  W : WX
  rr : Kd
  κl : List Kd
  κx : List Kd → Prop
  pu : Bool
def SPost (K : PySem.W.Frag) (c : Cf) (S : List Addr) (H0 Hs0 : Hp) (κ' : List Kd) (Hs : Hp) (Dn : Ends) : SO → Prop
  | .stuck => False
  | .nx ρ' => ∀ σ' H' Hs' F', Rel K S H0 Hs0 κ' ρ' σ' H' Hs' F' → Ext Hs Hs' → Dn.nx σ' H'
  | .bk ρ' => ∀ σ' H' Hs' F', Rel K S H0 Hs0 c.κl ρ' σ' H' Hs' F' → Ext Hs Hs' → Dn.bk σ' H'
  | .ct ρ' => ∀ σ' H' Hs' F', Rel K S H0 Hs0 c.κl ρ' σ' H' Hs' F' → Ext Hs Hs' → Dn.ct σ' H'
  | .rt d => ∀ v H', Res K c.rr d v H0 Hs0 H' → Dn.rt v H'
  | .exc ρ' x fs => ∀ κ'' cls dx σ' H' Hs' F', c.κx κ'' → Rel K S H0 Hs0 κ'' ρ' σ' H' Hs' F' → Ext Hs Hs' → XRep K Hs' x fs cls dx → c.W cls dx σ' H'
def tS (K : PySem.W.Frag) (c : Cf) (κ κ' : List Kd) (g : Env → SO) : TS := fun Dn σ H =>
  ∃ S H0 Hs0 ρ Hs F, (c.pu = true → S = []) ∧ Rel K S H0 Hs0 κ ρ σ H Hs F ∧ SPost K c S H0 Hs0 κ' Hs Dn (g ρ)
abbrev CS (X : Cx) (c : Cf) (κ κ' : List Kd) (st : Stmt) (g : Env → SO) : Prop := PS X st (tS X.K c κ κ' g)
abbrev CSs (X : Cx) (c : Cf) (κ κ' : List Kd) (sts : List Stmt) (g : Env → SO) : Prop := PSs X sts (tS X.K c κ κ' g)
theorem PS.imp {X : Cx} {st : Stmt} {t t' : TS} (h : PS X st t) (hi : ∀ Dn σ H, t' Dn σ H → t Dn σ H) : PS X st t' := ⟨fun pins s σ H Dn I q => h.run pins s σ H Dn I (hi Dn σ H q)⟩
theorem PSs.imp {X : Cx} {st : List Stmt} {t t' : TS} (h : PSs X st t) (hi : ∀ Dn σ H, t' Dn σ H → t Dn σ H) : PSs X st t' := ⟨fun pins s σ H Dn I q => h.run pins s σ H Dn I (hi Dn σ H q)⟩
theorem SPost.mono {K : PySem.W.Frag} {c : Cf} {S : List Addr} {H0 Hs0 Hs Hs1 : Hp} {κ' : List Kd} {Dn : Ends} {o : SO} (e : Ext Hs Hs1) (h : SPost K c S H0 Hs0 κ' Hs Dn o) : SPost K c S H0 Hs0 κ' Hs1 Dn o := by
  cases o with
  | stuck => exact h
  | nx ρ => exact fun σ' H' Hs' F' R x => h σ' H' Hs' F' R (e.trans x)
  | rt d => exact h
  | bk ρ => exact fun σ' H' Hs' F' R x => h σ' H' Hs' F' R (e.trans x)
  | ct ρ => exact fun σ' H' Hs' F' R x => h σ' H' Hs' F' R (e.trans x)
  | exc ρ x fs => exact fun κ'' cls dx σ' H' Hs' F' hk R y => h κ'' cls dx σ' H' Hs' F' hk R (e.trans y)

section
variable {X : Cx} {c : Cf} {κ κ1 κ' : List Kd}
/-- an expression within a statement -/
def sE (f : Env → O D) (k : D → Env → SO) : Env → SO := fun ρ => match f ρ with
  | .ok d => k d ρ
  | .exc x fs => .exc ρ x fs
  | .stuck => .stuck
theorem stepS {S : List Addr} {H0 Hs0 : Hp} {ρ : Env} {σ : L2.St} {H Hs : Hp} {F : Foot} {K : PySem.W.Frag} {f : Env → O D} {k : D → Env → SO} {r : Kd} {Dn : Ends} (hx : c.κx κ) (R : Rel K S H0 Hs0 κ ρ σ H Hs F) (p : SPost K c S H0 Hs0 κ' Hs Dn (sE f k ρ))
    {R2 : V → Hp → Prop} (h : ∀ d v H1, f ρ = .ok d → Res K r d v H Hs H1 → SPost K c S H0 Hs0 κ' Hs Dn (k d ρ) → R2 v H1) : tE K c.W κ r f σ H R2 := by
  refine ⟨S, H0, Hs0, ρ, Hs, F, R, ?_⟩
  unfold sE at p
  cases e : f ρ with
  | stuck => rw [e] at p; exact p
  | exc x fs =>
    rw [e] at p
    intro cls dx H' q
    obtain ⟨Hs', g, xr⟩ := q
    exact p κ cls dx σ H' Hs' F hx (R.grow g) g.exs xr
  | ok d =>
    rw [e] at p
    exact fun v H1 q => h d v H1 e q p
/-! ### blocks -/
def sNext : Env → SO := fun ρ => .nx ρ
def sSeq (g h : Env → SO) : Env → SO := fun ρ => match g ρ with
  | .nx ρ' => h ρ'
  | o => o
theorem css_nil : CSs X c κ κ [] sNext := PSs.imp pss_nil fun Dn σ H q => by
  obtain ⟨S, H0, Hs0, ρ, Hs, F, hp, R, p⟩ := q
  exact p σ H Hs F R (.refl _)
theorem css_cons {st : Stmt} {rest : List Stmt} {g h : Env → SO} (h1 : CS X c κ κ1 st g) (h2 : CSs X c κ1 κ' rest h) : CSs X c κ κ' (st :: rest) (sSeq g h) :=
  PSs.imp (pss_cons h1 h2) fun Dn σ H q => by
    obtain ⟨S, H0, Hs0, ρ, Hs, F, hp, R, p⟩ := q
    refine ⟨S, H0, Hs0, ρ, Hs, F, hp, R, ?_⟩
    unfold sSeq at p
    cases e : g ρ with
    | stuck => rw [e] at p; exact p
    | nx ρ' =>
      rw [e] at p
      exact fun σ' H' Hs' F' R' x => ⟨S, H0, Hs0, ρ', Hs', F', hp, R', p.mono x⟩
    | rt d => rw [e] at p; exact p
    | bk ρ' => rw [e] at p; exact p
    | ct ρ' => rw [e] at p; exact p
    | exc ρ' x fs => rw [e] at p; exact p
theorem css_one {st : Stmt} {g : Env → SO} (h1 : CS X c κ κ' st g) : CSs X c κ κ' [st] g := pss_one h1
/-- a slot's list is shared from here on -/
theorem Rel.freeze' {K : PySem.W.Frag} {S : List Addr} {H0 Hs0 : Hp} {ρ : Env} {σ : L2.St} {H Hs : Hp} {F : Foot} (R : Rel K S H0 Hs0 κ ρ σ H Hs F) {i : Nat} (hs : S = [] ∨ i ≠ 0) (hi : i < κ.length) : ∃ Hs' F', Rel K S H0 Hs0 (κ.set i .sh) ρ σ H Hs' F' ∧ Ext Hs Hs' := by
  cases e : ρ[i]? with
  | some o =>
    cases o with
    | some d => exact R.freeze hs hi e
    | none =>
      refine ⟨Hs, setF F i [], ⟨R.len, fun j d h => ?_, fun j => ?_, fun j l a h1 h2 => ?_, fun j a ha => ?_, fun j a ha => ?_, R.g, R.sub, R.old, R.st, R.new⟩, .refl _⟩
      · by_cases hj : j = i
        · subst hj; rw [e] at h; cases h
        · obtain ⟨u, h1, h2⟩ := R.sl j d h
          exact ⟨u, h1, by rw [kAt_set_ne hj, setF_ne hj]; exact h2⟩
      · by_cases hj : j = i
        · subst hj; rw [setF_same]; exact List.nodup_nil
        · rw [setF_ne hj]; exact R.nd j
      · by_cases hj : j = i
        · subst hj; rw [setF_same] at h1; cases h1
        · by_cases hl : l = i
          · subst hl; rw [setF_same] at h2; cases h2
          · rw [setF_ne hj] at h1; rw [setF_ne hl] at h2; exact R.dj j l a h1 h2
      · by_cases hj : j = i
        · subst hj; rw [setF_same] at ha; cases ha
        · rw [setF_ne hj] at ha; exact R.al j a ha
      · by_cases hj : j = i
        · subst hj; rw [setF_same] at ha; cases ha
        · rw [setF_ne hj] at ha; exact R.fr j a ha
  | none =>
    refine ⟨Hs, setF F i [], ⟨R.len, fun j d h => ?_, fun j => ?_, fun j l a h1 h2 => ?_, fun j a ha => ?_, fun j a ha => ?_, R.g, R.sub, R.old, R.st, R.new⟩, .refl _⟩
    · by_cases hj : j = i
      · subst hj; rw [e] at h; cases h
      · obtain ⟨u, h1, h2⟩ := R.sl j d h
        exact ⟨u, h1, by rw [kAt_set_ne hj, setF_ne hj]; exact h2⟩
    · by_cases hj : j = i
      · subst hj; rw [setF_same]; exact List.nodup_nil
      · rw [setF_ne hj]; exact R.nd j
    · by_cases hj : j = i
      · subst hj; rw [setF_same] at h1; cases h1
      · by_cases hl : l = i
        · subst hl; rw [setF_same] at h2; cases h2
        · rw [setF_ne hj] at h1; rw [setF_ne hl] at h2; exact R.dj j l a h1 h2
    · by_cases hj : j = i
      · subst hj; rw [setF_same] at ha; cases ha
      · rw [setF_ne hj] at ha; exact R.al j a ha
    · by_cases hj : j = i
      · subst hj; rw [setF_same] at ha; cases ha
      · rw [setF_ne hj] at ha; exact R.fr j a ha
theorem css_freeze (i : Nat) {sts : List Stmt} {g : Env → SO} (hp : c.pu = true ∨ i ≠ 0) (hi : i < κ.length) (h : CSs X c (κ.set i .sh) κ' sts g) : CSs X c κ κ' sts g := PSs.imp h fun Dn σ H q => by
  obtain ⟨S, H0, Hs0, ρ, Hs, F, hp', R, p⟩ := q
  obtain ⟨Hs', F', R', x⟩ := R.freeze' (hp.imp (fun h => hp' h) fun h => h) hi
  exact ⟨S, H0, Hs0, ρ, Hs', F', hp', R', p.mono x⟩
/-! ### plain statements -/
def sAsg (i : Nat) (f : Env → O D) : Env → SO := sE f fun d ρ => .nx (ρ.set i (some d))
theorem cs_asg (i : Nat) {r : Kd} {st : Stmt} {f : Env → O D} (hi : i < κ.length) (hx : c.κx κ) (hp : PS X st (tAsg (tE X.K c.W κ r f) (gName i))) (hk' : κ.set i r = κ' := by rfl) : CS X c κ κ' st (sAsg i f) := by
  subst hk'
  exact PS.imp hp fun Dn σ H q => by
    obtain ⟨S, H0, Hs0, ρ, Hs, F, hp, R, p⟩ := q
    refine stepS hx R p fun d v H1 _ q p1 => ?_
    obtain ⟨Hs', F', R', x⟩ := R.put hi q
    exact p1 _ _ Hs' F' R' x
def sDrop (f : Env → O D) : Env → SO := sE f fun _ ρ => .nx ρ
theorem cs_expr {e : Expr} {pos : Pos} {f : Env → O D} (he : CE X c.W κ .sh e f) (hx : c.κx κ) (hs : swapsWith e none pos.line X.env = pure false := by rfl) : CS X c κ κ (.Expr e pos) (sDrop f) :=
  PS.imp (ps_expr he hs) fun Dn σ H q => by
    obtain ⟨S, H0, Hs0, ρ, Hs, F, hp, R, p⟩ := q
    refine stepS hx R p fun d v H1 _ q p1 => ?_
    obtain ⟨Hs', g, _⟩ := q.out
    exact p1 σ H1 Hs' F (R.grow g) g.exs
def sRet (f : Env → O D) : Env → SO := sE f fun d _ => .rt d
theorem Rel.top {K : PySem.W.Frag} {S : List Addr} {H0 Hs0 : Hp} {ρ : Env} {σ : L2.St} {H Hs : Hp} {F : Foot} (R : Rel K S H0 Hs0 κ ρ σ H Hs F) (hS : S = []) : Grow H0 Hs0 H Hs := by subst hS; exact R.all
theorem cs_ret {e : Expr} {pos : Pos} {f : Env → O D} (hpu : c.pu = true) (he : CE X c.W κ c.rr e f) (hx : c.κx κ) : CS X c κ κ' (.Return (some e) pos) (sRet f) :=
  PS.imp (ps_ret he) fun Dn σ H q => by
    obtain ⟨S, H0, Hs0, ρ, Hs, F, hp, R, p⟩ := q
    refine stepS hx R p fun d v H1 _ q p1 => ?_
    exact p1 v H1 (q.pre (R.top (hp hpu)))
def sRetN : Env → SO := fun _ => .rt .non
theorem cs_retN {pos : Pos} (hpu : c.pu = true) (hrr : c.rr = .sh) : CS X c κ κ' (.Return none pos) sRetN :=
  PS.imp ps_retN fun Dn σ H q => by
    obtain ⟨S, H0, Hs0, ρ, Hs, F, hp, R, p⟩ := q
    refine p .non H ?_
    rw [hrr]
    exact .sh (R.top (hp hpu)) .non
/-- return x, x a slot with a list of its own -/
theorem cs_retO (i : Nat) {x : Str} {p pos : Pos} (hpu : c.pu = true) (hk : kAt κ i = c.rr) (hp : PE X (.Name x p) (tVar i)) : CS X c κ κ' (.Return (some (.Name x p)) pos) (sRet (mVar i)) :=
  PS.imp (ps_ret hp) fun Dn σ H q => by
    obtain ⟨S, H0, Hs0, ρ, Hs, F, hS, R, p⟩ := q
    unfold sRet sE mVar at p
    cases e : ρ[i]? with
    | none => rw [e] at p; exact p.elim
    | some o =>
      cases o with
      | none => rw [e] at p; exact p.elim
      | some d =>
        rw [e] at p
        obtain ⟨v, h1, h2⟩ := R.sl i d e
        rw [hk] at h2
        refine ⟨v, h1, p v H ?_⟩
        have hS' := hS hpu
        subst hS'
        refine ⟨Hs, F i, R.all, R.nd i, fun a ha => ⟨?_, (R.al i a ha).2, (R.al i a ha).1⟩, h2⟩
        rcases (R.fr i a ha).2 with z | z
        · exact z
        · exact nomatch z.1
def sIf (t : Env → O Bool) (g h : Env → SO) : Env → SO := fun ρ => match t ρ with
  | .ok true => g ρ
  | .ok false => h ρ
  | .exc x fs => .exc ρ x fs
  | .stuck => .stuck
theorem stepST {S : List Addr} {H0 Hs0 : Hp} {ρ : Env} {σ : L2.St} {H Hs : Hp} {F : Foot} {K : PySem.W.Frag} {t : Env → O Bool} {g h : Env → SO} {Dn : Ends} (hx : c.κx κ) (R : Rel K S H0 Hs0 κ ρ σ H Hs F) (p : SPost K c S H0 Hs0 κ' Hs Dn (sIf t g h ρ))
    {R2 : Bool → Hp → Prop} (hh : ∀ b H1 Hs1, Rel K S H0 Hs0 κ ρ σ H1 Hs1 F → SPost K c S H0 Hs0 κ' Hs1 Dn (if b = true then g ρ else h ρ) → R2 b H1) : tT K c.W κ t σ H R2 := by
  refine ⟨S, H0, Hs0, ρ, Hs, F, R, ?_⟩
  unfold sIf at p
  cases e : t ρ with
  | stuck => rw [e] at p; exact p
  | exc x fs =>
    rw [e] at p
    intro cls dx H' q
    obtain ⟨Hs', g, xr⟩ := q
    exact p κ cls dx σ H' Hs' F hx (R.grow g) g.exs xr
  | ok b =>
    intro H1 Hs1 gr
    refine hh b H1 Hs1 (R.grow gr) ?_
    rw [e] at p
    cases b with
    | true => rw [if_pos rfl]; exact p.mono gr.exs
    | false => rw [if_neg Bool.false_ne_true]; exact p.mono gr.exs
theorem cs_if {e : Expr} {a b : List Stmt} {pos : Pos} {t : Env → O Bool} {g h : Env → SO} (hc : CT X c.W κ e t) (ha : CSs X c κ κ' a g) (hb : CSs X c κ κ' b h) (hx : c.κx κ) : CS X c κ κ' (.If e a b pos) (sIf t g h) :=
  PS.imp (ps_if hc ha hb) fun Dn σ H q => by
    obtain ⟨S, H0, Hs0, ρ, Hs, F, hp, R, p⟩ := q
    refine stepST hx R p fun b H1 Hs1 R1 p1 => ?_
    cases b with
    | true => rw [if_pos rfl] at p1 ⊢; exact ⟨S, H0, Hs0, ρ, Hs1, F, hp, R1, p1⟩
    | false => rw [if_neg Bool.false_ne_true] at p1 ⊢; exact ⟨S, H0, Hs0, ρ, Hs1, F, hp, R1, p1⟩
theorem cs_pass {pos : Pos} : CS X c κ κ (.Pass pos) sNext := PS.imp ps_pass fun Dn σ H q => by
  obtain ⟨S, H0, Hs0, ρ, Hs, F, hp, R, p⟩ := q
  exact p σ H Hs F R (.refl _)
def sBreak : Env → SO := fun ρ => .bk ρ
def sCont : Env → SO := fun ρ => .ct ρ
theorem cs_break {pos : Pos} (hk : c.κl = κ) : CS X c κ κ' (.Break pos) sBreak := PS.imp ps_break fun Dn σ H q => by
  obtain ⟨S, H0, Hs0, ρ, Hs, F, hp, R, p⟩ := q
  exact p σ H Hs F (by rw [hk]; exact R) (.refl _)
theorem cs_cont {pos : Pos} (hk : c.κl = κ) : CS X c κ κ' (.Continue pos) sCont := PS.imp ps_continue fun Dn σ H q => by
  obtain ⟨S, H0, Hs0, ρ, Hs, F, hp, R, p⟩ := q
  exact p σ H Hs F (by rw [hk]; exact R) (.refl _)

/-! ### a slot's own list changes -/
theorem All3.length {α β γ : Type} {R : α → β → γ → Prop} : ∀ {as : List α} {bs : List β} {cs : List γ}, All3 R as bs cs → as.length = bs.length ∧ as.length = cs.length
  | _, _, _, .nil => ⟨rfl, rfl⟩
  | _, _, _, .cons _ t => ⟨by simp [(All3.length t).1], by simp [(All3.length t).2]⟩
theorem All3.append {α β γ : Type} {R : α → β → γ → Prop} : ∀ {as as' : List α} {bs bs' : List β} {cs cs' : List γ}, All3 R as bs cs → All3 R as' bs' cs' → All3 R (as ++ as') (bs ++ bs') (cs ++ cs')
  | _, _, _, _, _, _, .nil, h => h
  | _, _, _, _, _, _, .cons a b, h => .cons a (All3.append b h)
theorem All3.get {α β γ : Type} {R : α → β → γ → Prop} : ∀ {as : List α} {bs : List β} {cs : List γ} {i : Nat} {a : α}, All3 R as bs cs → as[i]? = some a → ∃ b c, bs[i]? = some b ∧ cs[i]? = some c ∧ R a b c
  | _, _, _, _, _, .nil, e => by simp at e
  | _, _, _, 0, _, .cons r t, e => by simp at e; subst e; exact ⟨_, _, rfl, rfl, r⟩
  | _, _, _, i + 1, _, .cons r t, e => by
    obtain ⟨b, c, h1, h2, h3⟩ := All3.get (i := i) t (by simpa using e)
    exact ⟨b, c, by simpa using h1, by simpa using h2, h3⟩
theorem All3.set {α β γ : Type} {R : α → β → γ → Prop} {a : α} {b : β} {c : γ} (r : R a b c) : ∀ {as : List α} {bs : List β} {cs : List γ} (i : Nat), All3 R as bs cs → All3 R (as.set i a) (bs.set i b) (cs.set i c)
  | _, _, _, _, .nil => .nil
  | _, _, _, 0, .cons _ t => .cons r t
  | _, _, _, i + 1, .cons q t => .cons q (All3.set r i t)
theorem All3.eraseIdx {α β γ : Type} {R : α → β → γ → Prop} : ∀ {as : List α} {bs : List β} {cs : List γ} (i : Nat), All3 R as bs cs → All3 R (as.eraseIdx i) (bs.eraseIdx i) (cs.eraseIdx i)
  | _, _, _, _, .nil => .nil
  | _, _, _, 0, .cons _ t => t
  | _, _, _, i + 1, .cons q t => .cons q (All3.eraseIdx i t)
theorem own_ls {K : PySem.W.Frag} {k : Kd} {H Hs : Hp} {ds : List D} {v : V} {F : List Addr} (h : Own K (.ls k) H Hs (.lst ds) v F) : ∃ a vs Fs, v = .ref a ∧ H a = some (.lst vs) ∧ F = a :: Fs.flatten ∧ All3 (Own K k H Hs) ds vs Fs := by
  obtain ⟨a, ds', vs, Fs, h1, h2, h3, h4, h5⟩ := h
  cases h2
  exact ⟨a, vs, Fs, h1, h3, h4, h5⟩
/-- the own list of a slot gets other items, H being what it was but for that list -/
theorem Rel.items {K : PySem.W.Frag} {S : List Addr} {H0 Hs0 : Hp} {ρ : Env} {σ : L2.St} {H Hs : Hp} {F : Foot} (R : Rel K S H0 Hs0 κ ρ σ H Hs F) {i : Nat} {k : Kd} {d : D} {a : Addr} {ds' : List D} {vs vs' : List V} {Fs' : List (List Addr)} (hd : ρ[i]? = some (some d)) (hv : σ[i]? = some (some (.ref a)))
    (hk : kAt κ i = .ls k) (ha : H a = some (.lst vs)) (hF : a ∈ F i) (nd : (a :: Fs'.flatten).Nodup) (fr : ∀ b ∈ Fs'.flatten, b ∈ F i ∨ (H b ≠ none ∧ Hs b = none ∧ (∀ j, b ∉ F j) ∧ (H0 b = none))) (al : All3 (Own K k H Hs) ds' vs' Fs') :
    ∃ F', Rel K S H0 Hs0 κ (ρ.set i (some (.lst ds'))) σ (upd H a (.lst vs')) Hs F' := by
  have hne : Hs a = none := (R.al i a hF).2
  have off : ∀ b, H b ≠ none → (upd H a (.lst vs')) b ≠ none := fun b h => by
    by_cases q : b = a
    · rw [q, upd_same]; simp
    · rw [upd_ne q]; exact h
  have ow : Own K (.ls k) (upd H a (.lst vs')) Hs (.lst ds') (.ref a) (a :: Fs'.flatten) := by
    refine ⟨a, ds', vs', Fs', rfl, rfl, upd_same, rfl, al.imp fun d v G hG q => q.mono (.refl _) fun b hb => upd_ne fun e => ?_⟩
    subst e
    exact (List.nodup_cons.mp nd).1 (List.mem_flatten.mpr ⟨G, hG, hb⟩)
  refine ⟨setF F i (a :: Fs'.flatten), ⟨by rw [List.length_set]; exact R.len, fun j e h => ?_, fun j => ?_, fun j l b h1 h2 => ?_, fun j b hb => ?_, fun j b hb => ?_, R.g, R.sub.own hne (fun _ h => nomatch h), fun b o e hs => ?_, fun b h => off b (R.st b h), R.new⟩⟩
  · by_cases hj : j = i
    · subst hj
      rw [List.getElem?_set_self (List.getElem?_eq_some_iff.mp hd).1] at h
      cases h
      exact ⟨_, hv, by rw [setF_same, hk]; exact ow⟩
    · rw [List.getElem?_set_ne (Ne.symm hj)] at h
      obtain ⟨u, h1, h2⟩ := R.sl j e h
      exact ⟨u, h1, by rw [setF_ne hj]; exact h2.mono (.refl _) fun b hb => upd_ne fun e => hj (R.dj j i b hb (e ▸ hF))⟩
  · by_cases hj : j = i
    · subst hj; rw [setF_same]; exact nd
    · rw [setF_ne hj]; exact R.nd j
  · have ofi : ∀ m, m ≠ i → b ∈ a :: Fs'.flatten → b ∉ F m := fun m hm hb hbm => by
      rcases List.mem_cons.mp hb with e | hb
      · exact hm (R.dj m i b hbm (e ▸ hF))
      · rcases fr b hb with z | z
        · exact hm (R.dj m i b hbm z)
        · exact z.2.2.1 m hbm
    by_cases hj : j = i
    · by_cases hl : l = i
      · rw [hj, hl]
      · subst hj; rw [setF_same] at h1; rw [setF_ne hl] at h2; exact absurd h2 (ofi l hl h1)
    · by_cases hl : l = i
      · subst hl; rw [setF_same] at h2; rw [setF_ne hj] at h1; exact absurd h1 (ofi j hj h2)
      · rw [setF_ne hj] at h1; rw [setF_ne hl] at h2; exact R.dj j l b h1 h2
  · by_cases hj : j = i
    · subst hj; rw [setF_same] at hb
      rcases List.mem_cons.mp hb with e | hb
      · subst e; exact ⟨off _ (R.al _ _ hF).1, hne⟩
      · rcases fr b hb with z | z
        · exact ⟨off _ (R.al _ _ z).1, (R.al _ _ z).2⟩
        · exact ⟨off _ z.1, z.2.1⟩
    · rw [setF_ne hj] at hb; exact ⟨off _ (R.al j b hb).1, (R.al j b hb).2⟩
  · by_cases hj : j = i
    · subst hj; rw [setF_same] at hb
      rcases List.mem_cons.mp hb with e | hb
      · subst e; exact R.fr _ _ hF
      · rcases fr b hb with z | z
        · exact R.fr _ _ z
        · exact ⟨R.g.none z.2.1, .inl z.2.2.2⟩
    · rw [setF_ne hj] at hb; exact R.fr j b hb
  · have h1 := R.old b o e hs
    rw [upd_ne fun z => ?_]
    · exact h1
    · subst z
      rcases (R.fr i b hF).2 with y | y
      · rw [e] at y; cases y
      · exact hs y.1
theorem getElem?_V {σ : L2.St} {i : Nat} {v w : V} (h : σ[i]? = some (some v)) (h' : σ[i]? = some (some w)) : v = w := by
  rw [h] at h'; cases h'; rfl
theorem Rel.own {K : PySem.W.Frag} {S : List Addr} {H0 Hs0 : Hp} {ρ : Env} {σ : L2.St} {H Hs : Hp} {F : Foot} (R : Rel K S H0 Hs0 κ ρ σ H Hs F) {i : Nat} {k : Kd} {ds : List D} (hd : ρ[i]? = some (some (.lst ds))) (hk : kAt κ i = .ls k) :
    ∃ a vs Fs, σ[i]? = some (some (.ref a)) ∧ H a = some (.lst vs) ∧ F i = a :: Fs.flatten ∧ All3 (Own K k H Hs) ds vs Fs := by
  obtain ⟨v, h1, h2⟩ := R.sl i _ hd
  rw [hk] at h2
  obtain ⟨a, vs, Fs, rfl, h3, h4, h5⟩ := own_ls h2
  exact ⟨a, vs, Fs, h1, h3, h4, h5⟩
/-- xs.append(e) -/
def sApp (i : Nat) (f : Env → O D) : Env → SO := fun ρ => match ρ[i]? with
  | some (some (.lst ds)) => sE f (fun d ρ => if ds.length < sizeLine then .nx (ρ.set i (some (.lst (ds ++ [d])))) else .stuck) ρ
  | _ => .stuck
theorem isList {K : PySem.W.Frag} {a : Addr} {H : Hp} {vs : List V} (h : H a = some (.lst vs)) : tyV K "list" (.ref a) H := .inl ⟨rfl, vs, SqL.of h⟩
theorem mem_flatSet {b : Addr} {Fs : List (List Addr)} {G : List Addr} {m : Nat} (h : b ∈ (Fs.set m G).flatten) : b ∈ Fs.flatten ∨ b ∈ G := by
  obtain ⟨L, hL, hb⟩ := List.mem_flatten.mp h
  rcases List.mem_or_eq_of_mem_set hL with h | h
  · exact .inl (List.mem_flatten.mpr ⟨L, h, hb⟩)
  · rw [← h]; exact .inr hb
theorem nodup_set {G : List Addr} (nd : G.Nodup) : ∀ {Fs : List (List Addr)} (m : Nat), Fs.flatten.Nodup → (∀ b ∈ Fs.flatten, b ∉ G) → (Fs.set m G).flatten.Nodup
  | [], _, _, _ => by simp
  | L :: Ls, 0, n, out => by
    rw [List.flatten_cons] at n out
    rw [List.set_cons_zero, List.flatten_cons]
    exact List.nodup_append.mpr ⟨nd, (List.nodup_append.mp n).2.1, fun b hb b' hb' e => out b (List.mem_append_right _ (e ▸ hb')) hb⟩
  | L :: Ls, m + 1, n, out => by
    rw [List.flatten_cons] at n out
    obtain ⟨y1, y2, y3⟩ := List.nodup_append.mp n
    rw [List.set_cons_succ, List.flatten_cons]
    refine List.nodup_append.mpr ⟨y1, nodup_set nd m y2 fun b hb => out b (List.mem_append_right _ hb), fun b hb b' hb' e => ?_⟩
    rcases mem_flatSet hb' with h | h
    · exact y3 b hb b' h e
    · exact out b (List.mem_append_left _ hb) (e ▸ h)
theorem mem_flat1 {a : Addr} {Fs : List (List Addr)} {G : List Addr} (h : a ∈ (Fs ++ [G]).flatten) : a ∈ Fs.flatten ∨ a ∈ G := by
  rw [List.flatten_append] at h
  simpa using List.mem_append.mp h
theorem cs_append (i : Nat) {k : Kd} {x : Str} {p0 p1 pos pos' : Pos} {e : Expr} {f : Env → O D} (hk : kAt κ i = .ls k) (hx : c.κx κ)
    (hst : PS X (.Expr (.Call (.Attribute (.Name x p0) "append" p1) [e] [] pos) pos') (tDrop (tBM X.K "list" rAppend (tVar i) (tCons (tE X.K c.W κ k f) tNil)))) : CS X c κ κ (.Expr (.Call (.Attribute (.Name x p0) "append" p1) [e] [] pos) pos') (sApp i f) :=
  PS.imp hst fun Dn σ H q => by
    obtain ⟨S, H0, Hs0, ρ, Hs, F, hS, R, p⟩ := q
    unfold sApp at p
    split at p
    · rename_i ds hd
      obtain ⟨a, vs, Fs, hv, ha, hF, al⟩ := R.own hd hk
      refine ⟨_, hv, isList ha, ?_⟩
      refine stepS hx R p fun d v H1 _ q p1 => ?_
      obtain ⟨Hs1, G, g, nd, fr, ow⟩ := q
      have R1 := R.grow g
      have ha1 := g.ex _ _ ha
      split at p1
      · rename_i hl
        have hlen := al.length.1
        refine ⟨a, vs, v, rfl, rfl, ha1, by rw [← hlen]; exact hl, ?_⟩
        have ndF := R.nd i
        rw [hF] at ndF
        have offF : ∀ b ∈ G, ∀ j, b ∉ F j := fun b hb j hj => (R.al j b hj).1 (fr b hb).1
        have hH0 : ∀ b ∈ G, H0 b = none := fun b hb => by
          cases y : H0 b with
          | none => rfl
          | some u => exact absurd (fr b hb).1 (R.st b (by rw [y]; simp))
        obtain ⟨n1, n2⟩ := List.nodup_cons.mp ndF
        have A : (a :: (Fs ++ [G]).flatten).Nodup := by
          rw [List.flatten_append, List.flatten_cons, List.flatten_nil, List.append_nil]
          refine List.nodup_cons.mpr ⟨fun h => ?_, List.nodup_append.mpr ⟨n2, nd, fun b hb b' hb' e => ?_⟩⟩
          · rcases List.mem_append.mp h with h | h
            · exact n1 h
            · exact offF a h i (by rw [hF]; exact List.mem_cons_self)
          · subst e
            exact offF b hb' i (by rw [hF]; exact List.mem_cons_of_mem _ hb)
        have B : ∀ b ∈ (Fs ++ [G]).flatten, b ∈ F i ∨ (H1 b ≠ none ∧ Hs1 b = none ∧ (∀ j, b ∉ F j) ∧ (H0 b = none)) := fun b hb => by
          rcases mem_flat1 hb with h | h
          · exact .inl (by rw [hF]; exact List.mem_cons_of_mem _ h)
          · exact .inr ⟨(fr b h).2.2, (fr b h).2.1, offF b h, hH0 b h⟩
        have C : All3 (Own X.K k H1 Hs1) (ds ++ [d]) (vs ++ [v]) (Fs ++ [G]) := by
          refine All3.append (al.imp fun d v G hG q => q.ext g.ex g.exs fun b hb => (R.al i b ?_).1) (.cons ow .nil)
          rw [hF]
          exact List.mem_cons_of_mem _ (List.mem_flatten.mpr ⟨G, hG, hb⟩)
        obtain ⟨F', R'⟩ := R1.items hd hv hk ha1 (by rw [hF]; exact List.mem_cons_self) A B C
        exact p1 σ _ Hs1 F' R' g.exs
      · exact p1.elim
    · exact p.elim
/-- xs[j] = e -/
def sSet (i : Nat) (f g : Env → O D) : Env → SO := fun ρ => match ρ[i]? with
  | some (some (.lst ds)) => sE f (fun d => sE g fun j ρ => match j with
    | .int j => (match ixN ds.length j with
      | some m => .nx (ρ.set i (some (.lst (ds.set m d))))
      | none => .stuck)
    | _ => .stuck) ρ
  | _ => .stuck
theorem cs_set (i : Nat) {k : Kd} {st : Stmt} {f g : Env → O D} (hk : kAt κ i = .ls k) (hx : c.κx κ) (hst : PS X st (tAsg (tE X.K c.W κ k f) (gSub (tVar i) (tE X.K c.W κ .sh g) rSetL))) : CS X c κ κ st (sSet i f g) :=
  PS.imp hst fun Dn σ H q => by
    obtain ⟨S, H0, Hs0, ρ, Hs, F, hS, R, p⟩ := q
    unfold sSet at p
    split at p
    · rename_i ds hd
      obtain ⟨a, vs, Fs, hv, ha, hF, al⟩ := R.own hd hk
      refine stepS hx R p fun d v H1 _ q p1 => ?_
      obtain ⟨Hs1, G, g1, nd, fr, ow⟩ := q
      have R1 := R.grow g1
      refine ⟨_, hv, ?_⟩
      refine stepS hx R1 (p1.mono g1.exs) fun j w H2 _ q2 p2 => ?_
      obtain ⟨Hs2, g2, rj⟩ := q2.out
      cases rj <;> first | exact p2.elim | skip
      rename_i j _
      dsimp only at p2
      have g12 := g1.trans g2
      have R2 := R.grow g12
      have ha2 := g12.ex _ _ ha
      have hlen := al.length.1
      cases em : ixN ds.length j with
      | none => rw [em] at p2; exact p2.elim
      | some m =>
        rw [em] at p2
        have hm : m < ds.length := (ixN_seq em).2.1
        refine ⟨a, vs, j, m, rfl, rfl, ha2, by rw [← hlen]; exact em, ?_⟩
        have ndF := R.nd i
        rw [hF] at ndF
        have offF : ∀ b ∈ G, ∀ j, b ∉ F j := fun b hb j hj => (R.al j b hj).1 (fr b hb).1
        have hH0 : ∀ b ∈ G, H0 b = none := fun b hb => by
          cases y : H0 b with
          | none => rfl
          | some u => exact absurd (fr b hb).1 (R.st b (by rw [y]; simp))
        obtain ⟨n1, n2⟩ := List.nodup_cons.mp ndF
        have A : (a :: (Fs.set m G).flatten).Nodup := by
          refine List.nodup_cons.mpr ⟨fun h => ?_, nodup_set nd m n2 fun b hb hg => offF b hg i (by rw [hF]; exact List.mem_cons_of_mem _ hb)⟩
          rcases mem_flatSet h with h | h
          · exact n1 h
          · exact offF a h i (by rw [hF]; exact List.mem_cons_self)
        have B : ∀ b ∈ (Fs.set m G).flatten, b ∈ F i ∨ (H2 b ≠ none ∧ Hs2 b = none ∧ (∀ j, b ∉ F j) ∧ (H0 b = none)) := fun b hb => by
          rcases mem_flatSet hb with h | h
          · exact .inl (by rw [hF]; exact List.mem_cons_of_mem _ h)
          · refine .inr ⟨fun e => (fr b h).2.2 (g2.ex.none e), ?_, offF b h, hH0 b h⟩
            cases y : Hs2 b with
            | none => rfl
            | some u => exact absurd (g2.fr b u y (fr b h).2.1) (fr b h).2.2
        have C : All3 (Own X.K k H2 Hs2) (ds.set m d) (vs.set m v) (Fs.set m G) := by
          refine All3.set (ow.ext g2.ex g2.exs fun b hb => (fr b hb).2.2) m (al.imp fun d v G hG q => q.ext g12.ex g12.exs fun b hb => (R.al i b ?_).1)
          rw [hF]
          exact List.mem_cons_of_mem _ (List.mem_flatten.mpr ⟨G, hG, hb⟩)
        obtain ⟨F', R'⟩ := R2.items hd hv hk ha2 (by rw [hF]; exact List.mem_cons_self) A B C
        exact p2 σ _ Hs2 F' R' g2.exs
    · exact p.elim
end
end T

set_option Elab.async false
set_option linter.all false
set_option maxRecDepth 100000
set_option maxHeartbeats 1000000
/-! T5: what is walked; for; list comprehensions. -/
namespace T
open PySem L2

/-! ### targets -/
inductive Tg where
  | nm (i : Nat) | tp (is : List Nat)
def putMany : List Nat → List D → Env → Option Env
  | [], [], ρ => some ρ
  | i :: is, d :: ds, ρ => putMany is ds (ρ.set i (some d))
  | _, _, _ => none
def Tg.put : Tg → D → Env → Option Env
  | .nm i, d, ρ => some (ρ.set i (some d))
  | .tp is, .tup ds, ρ => putMany is ds ρ
  | .tp is, .lst ds, ρ => putMany is ds ρ
  | _, _, _ => none
def gNames : List Nat → TGs
  | [] => gNil
  | i :: is => gCons (gName i) (gNames is)
def Tg.tg (K : PySem.W.Frag) : Tg → TG
  | .nm i => gName i
  | .tp is => fun v σ H Q => gTup K is.length (gNames is) v σ H Q ∨ gUnl K is.length (gNames is) v σ H Q
theorem pg_any {X : Cx} {es : List Expr} {k : Nat} {pos : Pos} {t : TGs} {n : Nat} (hc : X.calm = true) (h : PGs X es t) (hn : (assignEach es X.env).length = n := by rfl) (hst : (assignEach es X.env).findIdx? (·.1) = none := by rfl) :
    PG X (.Tuple es k pos) (fun v σ H Q => gTup X.K n t v σ H Q ∨ gUnl X.K n t v σ H Q) :=
  ⟨fun pins s σ H v u Q I r hw => hw.elim (fun z => (pg_tup hc h hn hst).run pins s σ H v u Q I r z) fun z => (pg_unl hc h hn hst).run pins s σ H v u Q I r z⟩
def Tg.slots : Tg → List Nat
  | .nm i => [i]
  | .tp is => is
theorem wipe_set {σ : L2.St} {j : Nat} {x : Option V} : ∀ {vs : List Nat}, j ∈ vs → wipe (σ.set j x) vs = wipe σ vs
  | v :: vs, h => by
    unfold wipe
    by_cases hj : j ∈ vs
    · rw [wipe_set hj]
    · have e : j = v := by
        rcases List.mem_cons.mp h with h | h
        · exact h
        · exact absurd h hj
      subst e
      have k : ∀ (vs : List Nat), j ∉ vs → wipe (σ.set j x) vs = (wipe σ vs).set j x := by
        intro vs
        induction vs with
        | nil => intro _; rfl
        | cons w ws ih =>
          intro h
          unfold wipe
          rw [ih fun z => h (List.mem_cons_of_mem _ z), List.set_comm _ _ fun e => h (by rw [e]; exact List.mem_cons_self)]
      rw [k vs hj, List.set_set]
section
variable {K : PySem.W.Frag} {S : List Addr} {H0 Hs0 : Hp} {κ : List Kd} {ρ : Env} {σ : L2.St} {H Hs : Hp} {F : Foot}
/-- a shared datum into a slot -/
theorem Rel.putSh (R : Rel K S H0 Hs0 κ ρ σ H Hs F) {i : Nat} {d : D} {v : V} (hk : kAt κ i = .sh) (r : Rep K Hs d v) : Rel K S H0 Hs0 κ (ρ.set i (some d)) (σ.set i (some v)) H Hs (setF F i []) := by
  refine ⟨by rw [List.length_set, List.length_set]; exact R.len, fun j e h => ?_, fun j => ?_, fun j l a h1 h2 => ?_, fun j a ha => ?_, fun j a ha => ?_, R.g, R.sub, R.old, R.st, R.new⟩
  · by_cases hj : j = i
    · subst hj
      have hl : j < ρ.length := by
        cases Nat.lt_or_ge j ρ.length with
        | inl z => exact z
        | inr z => rw [List.getElem?_eq_none (by rw [List.length_set]; exact z)] at h; cases h
      rw [List.getElem?_set_self hl] at h
      cases h
      exact ⟨v, List.getElem?_set_self (R.len ▸ hl), by rw [hk, setF_same]; exact ⟨r, rfl⟩⟩
    · rw [List.getElem?_set_ne (Ne.symm hj)] at h
      obtain ⟨u, h1, h2⟩ := R.sl j e h
      exact ⟨u, by rw [List.getElem?_set_ne (Ne.symm hj)]; exact h1, by rw [setF_ne hj]; exact h2⟩
  · by_cases hj : j = i
    · subst hj; rw [setF_same]; exact List.nodup_nil
    · rw [setF_ne hj]; exact R.nd j
  · by_cases hj : j = i
    · subst hj; rw [setF_same] at h1; cases h1
    · by_cases hl : l = i
      · subst hl; rw [setF_same] at h2; cases h2
      · rw [setF_ne hj] at h1; rw [setF_ne hl] at h2; exact R.dj j l a h1 h2
  · by_cases hj : j = i
    · subst hj; rw [setF_same] at ha; cases ha
    · rw [setF_ne hj] at ha; exact R.al j a ha
  · by_cases hj : j = i
    · subst hj; rw [setF_same] at ha; cases ha
    · rw [setF_ne hj] at ha; exact R.fr j a ha
theorem names_run : ∀ (is : List Nat) {ds : List D} {vs : List V} {ρ ρ' : Env} {σ : L2.St} {F : Foot} {Q : L2.St → Hp → Prop}, (∀ i ∈ is, kAt κ i = .sh) → Rel K S H0 Hs0 κ ρ σ H Hs F → Reps K Hs ds vs → putMany is ds ρ = some ρ' →
    (∀ σ' F', Rel K S H0 Hs0 κ ρ' σ' H Hs F' → (∀ ws : List Nat, (∀ i ∈ is, i ∈ ws) → wipe σ' ws = wipe σ ws) → Q σ' H) → gNames is vs σ H Q
  | [], ds, vs, ρ, ρ', σ, F, Q, _, R, r, hp, h => by
    cases r with
    | nil => cases hp; exact ⟨rfl, h σ F R fun _ _ => rfl⟩
    | cons _ _ => cases hp
  | i :: is, ds, vs, ρ, ρ', σ, F, Q, hk, R, r, hp, h => by
    cases r with
    | nil => cases hp
    | cons a b =>
      refine ⟨_, _, rfl, ?_⟩
      refine names_run is (fun j hj => hk j (List.mem_cons_of_mem _ hj)) (R.putSh (hk i List.mem_cons_self) a) b hp fun σ' F' R' hw => h σ' F' R' fun ws hws => ?_
      rw [hw ws fun j hj => hws j (List.mem_cons_of_mem _ hj), wipe_set (hws i List.mem_cons_self)]
theorem Tg.run (t : Tg) {d : D} {v : V} {ρ' : Env} {Q : L2.St → Hp → Prop} (hk : ∀ i ∈ t.slots, kAt κ i = .sh) (R : Rel K S H0 Hs0 κ ρ σ H Hs F) (r : Rep K Hs d v) (hp : t.put d ρ = some ρ')
    (h : ∀ σ' F', Rel K S H0 Hs0 κ ρ' σ' H Hs F' → (∀ ws : List Nat, (∀ i ∈ t.slots, i ∈ ws) → wipe σ' ws = wipe σ ws) → Q σ' H) : t.tg K v σ H Q := by
  cases t with
  | nm i =>
    cases hp
    exact h _ _ (R.putSh (hk i List.mem_cons_self) r) fun ws hws => wipe_set (hws i List.mem_cons_self)
  | tp is =>
    cases r with
    | lst ht rs =>
      have e : ∀ (is : List Nat) (ds : List D) (ρ : Env), putMany is ds ρ = some ρ' → ds.length = is.length := by
        intro is
        induction is with
        | nil => intro ds ρ h; cases ds with | nil => rfl | cons _ _ => cases h
        | cons i is ih => intro ds ρ h; cases ds with | nil => cases h | cons d ds => rw [List.length_cons, List.length_cons, ih ds _ h]
      exact .inr ⟨_, _, rfl, SqL.of (R.sub _ _ ht), by rw [← rs.length]; exact e _ _ _ hp, names_run is hk R rs hp h⟩
    | tup ht rs =>
      have e : ∀ (is : List Nat) (ds : List D) (ρ : Env), putMany is ds ρ = some ρ' → ds.length = is.length := by
        intro is
        induction is with
        | nil => intro ds ρ h; cases ds with | nil => rfl | cons _ _ => cases h
        | cons i is ih => intro ds ρ h; cases ds with | nil => cases h | cons d ds => rw [List.length_cons, List.length_cons, ih ds _ h]
      exact .inl ⟨_, _, rfl, R.sub.sqt ht, by rw [← rs.length]; exact e _ _ _ hp, names_run is hk R rs hp h⟩
    | _ => cases hp
end

/-! ### what is walked -/
structure Walks (K : PySem.W.Frag) (J : It) (ds : List D) (Hs1 : Hp) : Prop where
  go : ∀ i H Hs, i < ds.length → Ext Hs1 Hs → Sub Hs H → J.go i H
  yld : ∀ i H Hs x H' d, Ext Hs1 Hs → Sub Hs H → J.yld i H x H' → ds[i]? = some d → ∃ Hs', Grow H Hs H' Hs' ∧ Rep K Hs' d x
  stop : ∀ H Hs, Ext Hs1 Hs → Sub Hs H → J.stop ds.length H
def tI (K : PySem.W.Frag) (W : WX) (κ : List Kd) (f : Env → O (List D)) : TI := fun σ H R =>
  ∃ S H0 Hs0 ρ Hs F, Rel K S H0 Hs0 κ ρ σ H Hs F ∧ match f ρ with
    | .stuck => False
    | .ok ds => ∀ J H' Hs', Grow H Hs H' Hs' → Walks K J ds Hs' → R J H'
    | .exc c fs => ∀ cls dx H', XRes K c fs cls dx H Hs H' → W cls dx σ H'
abbrev CI (X : Cx) (W : WX) (κ : List Kd) (tg e : Expr) (f : Env → O (List D)) : Prop := PI X tg e (tI X.K W κ f)
section
variable {X : Cx} {W : WX} {κ : List Kd} {tg : Expr}
def dSeq : D → O (List D)
  | .lst xs => .ok xs
  | .tup xs => .ok xs
  | .scr ns => .ok (ns.map .int)
  | .str s => .ok (s.cps.toList.map fun c => .str ⟨#[c]⟩)
  | _ => .stuck
def mSeq (f : Env → O D) : Env → O (List D) := fun ρ => f ρ >>= dSeq
theorem walks_list {K : PySem.W.Frag} {a : Addr} {ds : List D} {vs : List V} {Hs : Hp} (h : SqL K Hs a vs) (r : Reps K Hs ds vs) : Walks K (Itl K a) ds Hs where
  go := fun i H Hs' hi e s => by
    have hv : i < vs.length := by rw [← r.length]; exact hi
    exact ⟨vs, vs[i], s.sql (e.sql h), List.getElem?_eq_getElem hv⟩
  yld := fun i H Hs' x H' d e s y hd => by
    obtain ⟨e1, y⟩ := y
    subst e1
    have hx := y vs (s.sql (e.sql h))
    obtain ⟨v, h1, h2⟩ := r.get hd
    rw [hx] at h1
    cases h1
    exact ⟨Hs', .refl s, h2.mono e⟩
  stop := fun H Hs' e s => ⟨vs, s.sql (e.sql h), by rw [r.length]; exact Nat.le_refl _⟩
theorem walks_tup {K : PySem.W.Frag} {a : Addr} {ds : List D} {vs : List V} {Hs : Hp} (h : SqT K Hs a vs) (r : Reps K Hs ds vs) : Walks K (Itt K a) ds Hs where
  go := fun i H Hs' hi e s => by
    have hv : i < vs.length := by rw [← r.length]; exact hi
    exact ⟨vs, vs[i], s.sqt (e.sqt h), List.getElem?_eq_getElem hv⟩
  yld := fun i H Hs' x H' d e s y hd => by
    obtain ⟨e1, y⟩ := y
    subst e1
    have hx := y vs (s.sqt (e.sqt h))
    obtain ⟨v, h1, h2⟩ := r.get hd
    rw [hx] at h1
    cases h1
    exact ⟨Hs', .refl s, h2.mono e⟩
  stop := fun H Hs' e s => ⟨vs, s.sqt (e.sqt h), by rw [r.length]; exact Nat.le_refl _⟩
theorem walks_str {K : PySem.W.Frag} {s : Str} {Hs : Hp} : Walks K (Its s) (s.cps.toList.map fun c => .str ⟨#[c]⟩) Hs where
  go := fun i H Hs' hi e _ => by
    show i < s.cps.size
    rw [List.length_map, Array.length_toList] at hi
    exact hi
  yld := fun i H Hs' x H' d e sb y hd => by
    obtain ⟨e1, c, y1, y2⟩ := y
    subst e1
    rw [List.getElem?_map, Array.getElem?_toList, y1] at hd
    cases hd
    subst y2
    exact ⟨Hs', .refl sb, .str _⟩
  stop := fun H Hs' e _ => by
    show s.cps.size ≤ _
    rw [List.length_map, Array.length_toList]
    exact Nat.le_refl _
theorem ci_seq {e : Expr} {f : Env → O D} (he : CE X W κ .sh e f) : CI X W κ tg e (mSeq f) := by
  refine ⟨fun pins s σ H R I h => ?_⟩
  obtain ⟨S, H0, Hs0, ρ, Hs, F, Rl, p⟩ := h
  unfold mSeq at p
  have none_ : ∀ {R2 : V → Hp → Prop}, f ρ = .stuck → tE X.K W κ .sh f σ H R2 := fun e => by rw [e] at p; exact p.elim
  cases ef : f ρ with
  | stuck => rw [ef] at p; exact p.elim
  | exc c fs =>
    rw [ef] at p
    refine (pi_list he).run pins s σ H R I ⟨S, H0, Hs0, ρ, Hs, F, Rl, ?_⟩
    rw [ef]
    exact p
  | ok d =>
    rw [ef] at p
    have p' : (match dSeq d with
      | .stuck => False
      | .ok ds => ∀ J H' Hs', Grow H Hs H' Hs' → Walks X.K J ds Hs' → R J H'
      | .exc c fs => ∀ cls dx H', XRes X.K c fs cls dx H Hs H' → W cls dx σ H') := p
    cases d with
    | lst xs =>
      refine (pi_list he).run pins s σ H R I ⟨S, H0, Hs0, ρ, Hs, F, Rl, ?_⟩
      rw [ef]
      intro v H1 q
      obtain ⟨Hs1, g, r⟩ := q.out
      cases r with
      | lst hl rs => exact ⟨_, rfl, ⟨_, SqL.of (g.sub _ _ hl)⟩, p' _ H1 Hs1 g (walks_list (SqL.of hl) rs)⟩
    | tup xs =>
      refine (pi_tup he).run pins s σ H R I ⟨S, H0, Hs0, ρ, Hs, F, Rl, ?_⟩
      rw [ef]
      intro v H1 q
      obtain ⟨Hs1, g, r⟩ := q.out
      cases r with
      | tup hl rs => exact ⟨_, rfl, ⟨_, g.sub.sqt hl⟩, p' _ H1 Hs1 g (walks_tup hl rs)⟩
    | scr ns =>
      refine (pi_list he).run pins s σ H R I ⟨S, H0, Hs0, ρ, Hs, F, Rl, ?_⟩
      rw [ef]
      intro v H1 q
      obtain ⟨Hs1, g, r⟩ := q.out
      cases r with
      | scr hl => exact ⟨_, rfl, ⟨_, g.sub.sql hl⟩, p' _ H1 Hs1 g (walks_list hl (Reps.ofInts _))⟩
    | str z =>
      refine (pi_str he).run pins s σ H R I ⟨S, H0, Hs0, ρ, Hs, F, Rl, ?_⟩
      rw [ef]
      intro v H1 q
      obtain ⟨Hs1, g, r⟩ := q.out
      cases r
      exact ⟨_, rfl, p' _ H1 Hs1 g walks_str⟩
    | _ => exact p'.elim
/-- range -/
def rangeD (lo hi : Int) : List D := (List.range (hi - lo).toNat).map fun (i : Nat) => D.int (lo + i)
def okR (i j : Int) : Bool := decide (i.natAbs < 2 ^ 62) && decide (j.natAbs < 2 ^ 62)
def dRange1 : List D → O (List D)
  | [.int j] => if okR 0 j = true then .ok (rangeD 0 j) else .stuck
  | _ => .stuck
def dRange2 : List D → O (List D)
  | [.int i, .int j] => if okR i j = true then .ok (rangeD i j) else .stuck
  | _ => .stuck
def mRange1 (f : Env → O (List D)) : Env → O (List D) := fun ρ => f ρ >>= dRange1
def mRange2 (f : Env → O (List D)) : Env → O (List D) := fun ρ => f ρ >>= dRange2
theorem okR_out {i j : Int} (h : okR i j = true) : -(2 ^ 62) ≤ i ∧ i < 2 ^ 62 ∧ -(2 ^ 62) ≤ j ∧ j < 2 ^ 62 := by
  unfold okR at h
  simp only [Bool.and_eq_true, decide_eq_true_eq] at h
  omega
theorem walks_range {K : PySem.W.Frag} {lo hi : Int} {Hs : Hp} : Walks K (Itr lo (hi - lo).toNat) (rangeD lo hi) Hs where
  go := fun i H Hs' hi e _ => by
    show i < _
    unfold rangeD at hi
    rw [List.length_map, List.length_range] at hi
    exact hi
  yld := fun i H Hs' x H' d e sb y hd => by
    obtain ⟨e1, y2⟩ := y
    subst e1 y2
    unfold rangeD at hd
    rw [List.getElem?_map] at hd
    cases er : (List.range (hi - lo).toNat)[i]? with
    | none => rw [er] at hd; cases hd
    | some k =>
      rw [er] at hd
      cases hd
      obtain ⟨hl, e2⟩ := List.getElem?_eq_some_iff.mp er
      rw [List.getElem_range] at e2
      subst e2
      exact ⟨Hs', .refl sb, .int _⟩
  stop := fun H Hs' e _ => by
    show _ ≤ _
    unfold rangeD
    rw [List.length_map, List.length_range]
    exact Nat.le_refl _
theorem stepI {S : List Addr} {H0 Hs0 : Hp} {ρ : Env} {σ : L2.St} {H Hs : Hp} {F : Foot} {K : PySem.W.Frag} {f : Env → O (List D)} {k : List D → O (List D)} {R : It → Hp → Prop} (Rl : Rel K S H0 Hs0 κ ρ σ H Hs F) (p : match (f ρ >>= k) with
    | .stuck => False
    | .ok ds => ∀ J H' Hs', Grow H Hs H' Hs' → Walks K J ds Hs' → R J H'
    | .exc c fs => ∀ cls dx H', XRes K c fs cls dx H Hs H' → W cls dx σ H')
    (hk : ∀ ds c fs, k ds ≠ .exc c fs) {R2 : List V → Hp → Prop} (h : ∀ ds es vs H1 Hs1, k ds = .ok es → Sub Hs1 H1 → Reps K Hs1 ds vs → (∀ J, Walks K J es Hs1 → R J H1) → R2 vs H1) : tA K W κ f σ H R2 := by
  refine ⟨S, H0, Hs0, ρ, Hs, F, Rl, ?_⟩
  cases e : f ρ with
  | stuck => rw [e] at p; exact p
  | exc c fs => rw [e] at p; exact p
  | ok ds =>
    rw [e, bind_ok] at p
    intro vs H1 Hs1 g rs
    cases ek : k ds with
    | stuck => rw [ek] at p; exact p.elim
    | exc c fs => exact absurd ek (hk _ _ _)
    | ok es =>
      rw [ek] at p
      exact h ds es vs H1 Hs1 ek g.sub rs fun J w => p J H1 Hs1 g w
theorem ci_range1 {a : Expr} {f : Env → O (List D)} {p pos : Pos} (hg : Gl X "range") (hm : X.mg "range" = none) (ha : CA X W κ [a] f) (hs : starEach [a] X.env = [(false, eval a X.env)] := by rfl) : CI X W κ tg (.Call (.Name "range" p) [a] [] pos) (mRange1 f) := by
  refine ⟨fun pins s σ H R I h => ?_⟩
  obtain ⟨S, H0, Hs0, ρ, Hs, F, Rl, q⟩ := h
  refine (pi_range1 hg hm ha hs).run pins s σ H R I ?_
  refine stepI Rl q (fun ds c fs e => by unfold dRange1 at e; split at e <;> first | (split at e <;> cases e) | cases e) fun ds es vs H1 Hs1 hk sub rs w => ?_
  unfold dRange1 at hk
  split at hk
  · split at hk
    · rename_i j hj
      cases hk
      cases rs with | cons a b => cases b; cases a; exact ⟨_, rfl, (okR_out hj).2.2.1, (okR_out hj).2.2.2, by have z := w _ walks_range; rw [Int.sub_zero] at z; exact z⟩
    · cases hk
  · cases hk
theorem ci_range2 {a b : Expr} {f : Env → O (List D)} {p pos : Pos} (hg : Gl X "range") (hm : X.mg "range" = none) (ha : CA X W κ [a, b] f) (hs : starEach [a, b] X.env = [(false, eval a X.env), (false, eval b X.env)] := by rfl)
    (hs2 : starEach [b] X.env = [(false, eval b X.env)] := by rfl) : CI X W κ tg (.Call (.Name "range" p) [a, b] [] pos) (mRange2 f) := by
  refine ⟨fun pins s σ H R I h => ?_⟩
  obtain ⟨S, H0, Hs0, ρ, Hs, F, Rl, q⟩ := h
  refine (pi_range2 hg hm ha hs hs2).run pins s σ H R I ?_
  refine stepI Rl q (fun ds c fs e => by unfold dRange2 at e; split at e <;> first | (split at e <;> cases e) | cases e) fun ds es vs H1 Hs1 hk sub rs w => ?_
  unfold dRange2 at hk
  split at hk
  · split at hk
    · rename_i j hj
      cases hk
      cases rs with | cons a b => cases b with | cons b c => cases c; cases a; cases b; exact ⟨_, _, rfl, okR_out hj, w _ walks_range⟩
    · cases hk
  · cases hk
/-- enumerate(xs) -/
def enumD : Nat → List D → List D
  | _, [] => []
  | n, d :: ds => .tup [.int (n : Nat), d] :: enumD (n + 1) ds
theorem enumD_get : ∀ {n : Nat} {ds : List D} {i : Nat}, (enumD n ds)[i]? = (ds[i]?).map fun d => .tup [.int ((n + i : Nat) : Int), d]
  | _, [], _ => by simp [enumD]
  | n, d :: ds, 0 => by simp [enumD]
  | n, d :: ds, i + 1 => by
    rw [enumD, List.getElem?_cons_succ, List.getElem?_cons_succ, enumD_get]
    congr 1
    funext d
    rw [show n + 1 + i = n + (i + 1) by omega]
theorem enumD_length : ∀ {n : Nat} {ds : List D}, (enumD n ds).length = ds.length
  | _, [] => rfl
  | n, d :: ds => by rw [enumD, List.length_cons, List.length_cons, enumD_length]
def dEnum : List D → O (List D)
  | [.lst xs] => .ok (enumD 0 xs)
  | _ => .stuck
def mEnum (f : Env → O (List D)) : Env → O (List D) := fun ρ => f ρ >>= dEnum
theorem walks_enum {K : PySem.W.Frag} {a : Addr} {ds : List D} {vs : List V} {Hs : Hp} (h : SqL K Hs a vs) (r : Reps K Hs ds vs) : Walks K (Ite K a) (enumD 0 ds) Hs where
  go := fun i H Hs' hi e s => by
    have hv : i < vs.length := by rw [← r.length, ← enumD_length (n := 0)]; exact hi
    exact ⟨vs, vs[i], s.sql (e.sql h), List.getElem?_eq_getElem hv⟩
  yld := fun i H Hs' x H' d e s y hd => by
    obtain ⟨T, z, e1, e2, e3, y⟩ := y
    subst e1 e3
    have hx := y vs (s.sql (e.sql h))
    rw [enumD_get] at hd
    cases ed : ds[i]? with
    | none => rw [ed] at hd; cases hd
    | some d' =>
      rw [ed] at hd
      cases hd
      obtain ⟨v, h1, h2⟩ := r.get ed
      rw [hx] at h1
      cases h1
      refine ⟨upd Hs' T (.tup [.int (i : Nat), z]), .new s e2, .tup (SqT.of upd_same) (.cons ?_ (.cons ((h2.mono e).mono (.new (s.none e2))) .nil))⟩
      rw [Nat.zero_add]
      exact .int _
  stop := fun H Hs' e s => ⟨vs, s.sql (e.sql h), by rw [enumD_length, r.length]; exact Nat.le_refl _⟩
theorem ci_enum {a : Expr} {f : Env → O (List D)} {p pos tpos : Pos} {elts : List Expr} {kk : Nat} (hg : Gl X "enumerate") (hm : X.mg "enumerate" = none) (ha : CA X W κ [a] f) (hs : starEach [a] X.env = [(false, eval a X.env)] := by rfl) :
    CI X W κ (.Tuple elts kk tpos) (.Call (.Name "enumerate" p) [a] [] pos) (mEnum f) := by
  refine ⟨fun pins s σ H R I h => ?_⟩
  obtain ⟨S, H0, Hs0, ρ, Hs, F, Rl, q⟩ := h
  refine (pi_enum hg hm ha hs).run pins s σ H R I ?_
  refine stepI Rl q (fun ds c fs e => by unfold dEnum at e; split at e <;> cases e) fun ds es vs H1 Hs1 hk sub rs w => ?_
  unfold dEnum at hk
  split at hk
  · cases hk
    cases rs with | cons a b => cases b; cases a with | lst h r => exact ⟨_, _, rfl, SqL.of (sub _ _ h), w _ (walks_enum (SqL.of h) r)⟩
  · cases hk
/-- reversed(xs) -/
def dRev : D → O (List D)
  | .lst xs => .ok xs.reverse
  | .tup xs => .ok xs.reverse
  | _ => .stuck
def mRev (f : Env → O D) : Env → O (List D) := fun ρ => f ρ >>= dRev
theorem rev_get {α : Type} {xs : List α} {i : Nat} (h : i < xs.length) : xs.reverse[i]? = xs[xs.length - 1 - i]? := by
  rw [List.getElem?_reverse h]
theorem walks_rev {K : PySem.W.Frag} {a : Addr} {ds : List D} {vs : List V} {Hs : Hp} (h : SqL K Hs a vs) (r : Reps K Hs ds vs) : Walks K (Itv K a vs.length) ds.reverse Hs where
  go := fun i H Hs' hi e s => by
    have hv : i < vs.length := by rw [← r.length, ← List.length_reverse]; exact hi
    have hw : vs.length - 1 - i < vs.length := by omega
    exact ⟨hv, vs, vs[vs.length - 1 - i], s.sql (e.sql h), List.getElem?_eq_getElem hw⟩
  yld := fun i H Hs' x H' d e s y hd => by
    obtain ⟨e1, y⟩ := y
    subst e1
    have hx := y vs (s.sql (e.sql h))
    have hi : i < ds.length := by
      have := (List.getElem?_eq_some_iff.mp hd).1
      rw [List.length_reverse] at this
      exact this
    rw [rev_get hi, r.length] at hd
    obtain ⟨v, h1, h2⟩ := r.get hd
    rw [hx] at h1
    cases h1
    exact ⟨Hs', .refl s, h2.mono e⟩
  stop := fun H Hs' e s => by
    show vs.length ≤ _
    rw [List.length_reverse, r.length]
    exact Nat.le_refl _
theorem walks_revT {K : PySem.W.Frag} {a : Addr} {ds : List D} {vs : List V} {Hs : Hp} (h : SqT K Hs a vs) (r : Reps K Hs ds vs) : Walks K (RT.ItvT K a vs.length) ds.reverse Hs where
  go := fun i H Hs' hi e s => by
    have hv : i < vs.length := by rw [← r.length, ← List.length_reverse]; exact hi
    have hw : vs.length - 1 - i < vs.length := by omega
    exact ⟨hv, vs, vs[vs.length - 1 - i], s.sqt (e.sqt h), List.getElem?_eq_getElem hw⟩
  yld := fun i H Hs' x H' d e s y hd => by
    obtain ⟨e1, y⟩ := y
    subst e1
    have hx := y vs (s.sqt (e.sqt h))
    have hi : i < ds.length := by
      have := (List.getElem?_eq_some_iff.mp hd).1
      rw [List.length_reverse] at this
      exact this
    rw [rev_get hi, r.length] at hd
    obtain ⟨v, h1, h2⟩ := r.get hd
    rw [hx] at h1
    cases h1
    exact ⟨Hs', .refl s, h2.mono e⟩
  stop := fun H Hs' e s => by
    show vs.length ≤ _
    rw [List.length_reverse, r.length]
    exact Nat.le_refl _
theorem ci_rev {a : Expr} {f : Env → O D} {p pos : Pos} (hg : Gl X "reversed") (hm : X.mg "reversed" = none) (he : CE X W κ .sh a f) (hs : starEach [a] X.env = (false, eval a X.env) :: starEach [] X.env := by rfl) : CI X W κ tg (.Call (.Name "reversed" p) [a] [] pos) (mRev f) := by
  refine ⟨fun pins s σ H R I h => ?_⟩
  obtain ⟨S, H0, Hs0, ρ, Hs, F, Rl, q⟩ := h
  refine (RT.pi_revA hg hm he hs).run pins s σ H R I ?_
  refine ⟨S, H0, Hs0, ρ, Hs, F, Rl, ?_⟩
  unfold mRev at q
  cases ef : f ρ with
  | stuck => rw [ef] at q; exact q
  | exc c fs => rw [ef] at q; exact q
  | ok d =>
    rw [ef, bind_ok] at q
    intro v H1 r
    obtain ⟨Hs1, g, r⟩ := r.out
    unfold dRev at q
    cases r with
    | lst h rs => exact ⟨_, _, rfl, .inl ⟨SqL.of (g.sub _ _ h), q _ H1 Hs1 g (walks_rev (SqL.of h) rs)⟩⟩
    | tup h rs => exact ⟨_, _, rfl, .inr ⟨g.sub.sqt h, q _ H1 Hs1 g (walks_revT h rs)⟩⟩
    | _ => exact q.elim
/-- zip(xs, ys) -/
def zipD : List D → List D → List D
  | x :: xs, y :: ys => .tup [x, y] :: zipD xs ys
  | _, _ => []
end

/-! ### for -/
def forD (tg : Tg) (body : Env → SO) : List D → Env → SO
  | [], ρ => .nx ρ
  | d :: ds, ρ => match tg.put d ρ with
    | none => .stuck
    | some ρ1 => match body ρ1 with
      | .nx ρ' => forD tg body ds ρ'
      | .ct ρ' => forD tg body ds ρ'
      | .bk ρ' => .nx ρ'
      | o => o
def sFor (it : Env → O (List D)) (tg : Tg) (body : Env → SO) : Env → SO := fun ρ => match it ρ with
  | .ok ds => forD tg body ds ρ
  | .exc x fs => .exc ρ x fs
  | .stuck => .stuck
section
variable {X : Cx} {c : Cf} {κ : List Kd}
theorem cs_for {tgE iter : Expr} {body : List Stmt} {pos : Pos} {it : Env → O (List D)} {tg : Tg} {g : Env → SO} (hp : PassesOwn (model X.prog X.w) X.A X.env X.xe) (hc : X.calm = true) (hi : CI X c.W κ tgE iter it) (hg : PG X tgE (tg.tg X.K)) (hk : ∀ i ∈ tg.slots, kAt κ i = .sh)
    (hb : CSs X { c with κl := κ } κ κ body g) (hx : c.κx κ) (hs : ∀ x, foldedSetIterable iter X.env x = pure x := by intro _; rfl) : CS X c κ κ (.For tgE iter body [] pos) (sFor it tg g) :=
  PS.imp (ps_for hp hc hi hg hb hs) fun Dn σ H q => by
    obtain ⟨S, H0, Hs0, ρ, Hs, F, hS, R, p⟩ := q
    refine ⟨S, H0, Hs0, ρ, Hs, F, R, ?_⟩
    unfold sFor at p
    cases ei : it ρ with
    | stuck => rw [ei] at p; exact p
    | exc x fs =>
      rw [ei] at p
      intro cls dx H' q
      obtain ⟨Hs', g, xr⟩ := q
      exact p κ cls dx σ H' Hs' F hx (R.grow g) g.exs xr
    | ok ds =>
      rw [ei] at p
      intro J H1 Hs1 gr w
      refine ⟨fun i m σ' H' => m = ds.length - i ∧ i ≤ ds.length ∧ ∃ ρ' Hs' F', Rel X.K S H0 Hs0 κ ρ' σ' H' Hs' F' ∧ Ext Hs1 Hs' ∧ SPost X.K c S H0 Hs0 κ Hs' Dn (forD tg g (ds.drop i) ρ'), ⟨ds.length, by simp, Nat.zero_le _, ρ, Hs1, F, R.grow gr, .refl _, p.mono gr.exs⟩, ?_⟩
      rintro i m σ' H' ⟨rfl, hi, ρ', Hs', F', R', e', p'⟩
      by_cases hlt : i < ds.length
      · refine .inr ⟨w.go i H' Hs' hlt e' R'.sub, fun σ2 H2 => i + 1 ≤ ds.length ∧ ∃ ρ' Hs' F', Rel X.K S H0 Hs0 κ ρ' σ2 H2 Hs' F' ∧ Ext Hs1 Hs' ∧ SPost X.K c S H0 Hs0 κ Hs' Dn (forD tg g (ds.drop (i + 1)) ρ'), fun σ2 H2 n => ⟨ds.length - (i + 1), by omega, rfl, n⟩, fun x H2 y => ?_⟩
        have hd : ds[i]? = some ds[i] := List.getElem?_eq_getElem hlt
        obtain ⟨Hs2, g2, rx⟩ := w.yld i H' Hs' x H2 _ e' R'.sub y hd
        rw [List.drop_eq_getElem_cons hlt, forD] at p'
        have R2 := R'.grow g2
        cases et : tg.put ds[i] ρ' with
        | none => rw [et] at p'; exact p'.elim
        | some ρ1 =>
          rw [et] at p'
          refine tg.run hk R2 rx et fun σ3 F3 R3 _ => ?_
          refine ⟨S, H0, Hs0, ρ1, Hs2, F3, hS, R3, ?_⟩
          have p2 := p'.mono g2.exs
          dsimp only at p2
          have e2 := e'.trans g2.exs
          cases eb : g ρ1 with
          | stuck => rw [eb] at p2; exact p2
          | nx ρ4 => rw [eb] at p2; exact fun σ4 H4 Hs4 F4 R4 x4 => ⟨hlt, ρ4, Hs4, F4, R4, e2.trans x4, p2.mono x4⟩
          | ct ρ4 => rw [eb] at p2; exact fun σ4 H4 Hs4 F4 R4 x4 => ⟨hlt, ρ4, Hs4, F4, R4, e2.trans x4, p2.mono x4⟩
          | bk ρ4 => rw [eb] at p2; exact p2
          | rt d => rw [eb] at p2; exact p2
          | exc ρ4 x fs => rw [eb] at p2; exact p2
      · have e : i = ds.length := by omega
        subst e
        refine .inl ⟨w.stop H' Hs' e' R'.sub, ?_⟩
        rw [List.drop_length, forD] at p'
        exact p' σ' H' Hs' F' R' (.refl _)
end

/-! ### list comprehensions -/
def wipeD (ρ : Env) : List Nat → Env
  | [] => ρ
  | v :: vs => (wipeD ρ vs).set v none
/-- no error may come up within -/
def noXF {α : Type} (x : O α) : O α := match x with
  | .ok a => .ok a
  | _ => .stuck
def compD (tg : Tg) (t : Env → O Bool) (e : Env → O D) (ρ : Env) : List D → List D → O (List D)
  | [], acc => .ok acc
  | d :: ds, acc => match tg.put d ρ with
    | none => .stuck
    | some ρ1 => match t ρ1 with
      | .ok true => (match e ρ1 with
        | .ok z => if acc.length < sizeLine then compD tg t e ρ ds (acc ++ [z]) else .stuck
        | _ => .stuck)
      | .ok false => compD tg t e ρ ds acc
      | _ => .stuck
def mComp (it : Env → O (List D)) (vs : List Nat) (tg : Tg) (t : Env → O Bool) (e : Env → O D) : Env → O D := fun ρ => it ρ >>= fun ds => compD tg t e (wipeD ρ vs) ds [] >>= fun r => .ok (.lst r)
def WF : WX := fun _ _ _ _ => False
def mYes : Env → O Bool := fun _ => .ok true
section
variable {K : PySem.W.Frag} {S : List Addr} {H0 Hs0 : Hp} {κ : List Kd} {ρ : Env} {σ : L2.St} {H Hs : Hp} {F : Foot}
theorem Rel.unset (R : Rel K S H0 Hs0 κ ρ σ H Hs F) (j : Nat) : Rel K S H0 Hs0 κ (ρ.set j none) (σ.set j none) H Hs F where
  len := by rw [List.length_set, List.length_set]; exact R.len
  sl := fun i d e => by
    by_cases hj : i = j
    · subst hj
      by_cases hl : i < ρ.length
      · rw [List.getElem?_set_self hl] at e; cases e
      · rw [List.getElem?_eq_none (by rw [List.length_set]; omega)] at e; cases e
    · rw [List.getElem?_set_ne (Ne.symm hj)] at e ⊢
      exact R.sl i d e
  nd := R.nd
  dj := R.dj
  al := R.al
  fr := R.fr
  g := R.g
  sub := R.sub
  old := R.old
  st := R.st
  new := R.new
theorem Rel.wipe (R : Rel K S H0 Hs0 κ ρ σ H Hs F) : ∀ vs : List Nat, Rel K S H0 Hs0 κ (wipeD ρ vs) (L2.wipe σ vs) H Hs F
  | [] => R
  | v :: vs => (R.wipe vs).unset v
end
section
variable {X : Cx} {W : WX} {κ : List Kd}
abbrev CTs (X : Cx) (W : WX) (κ : List Kd) (ifs : List Expr) (t : Env → O Bool) : Prop := PTs X ifs (tT X.K W κ t)
theorem cts_nil : CTs X W κ [] mYes := ⟨fun pins s σ H Q I q => pts_nil.run pins s σ H Q I (by
  obtain ⟨S, H0, Hs0, ρ, Hs, F, R, p⟩ := q
  exact p H Hs (.refl R.sub))⟩
theorem cts_one {c : Expr} {t : Env → O Bool} (h : CT X W κ c t) : CTs X W κ [c] t := pts_one h
theorem wipe_again {σ : L2.St} {vs : List Nat} : ∀ ws : List Nat, (∀ v ∈ ws, v ∈ vs) → wipe (wipe σ vs) ws = wipe σ vs
  | [], _ => rfl
  | v :: ws, hv => by
    show ((wipe (wipe σ vs) ws).set v none) = wipe σ vs
    rw [wipe_again ws fun u hu => hv u (List.mem_cons_of_mem _ hu)]
    apply List.ext_getElem?
    intro j
    by_cases hj : v = j
    · subst hj
      by_cases hl : v < (wipe σ vs).length
      · rw [List.getElem?_set_self hl]
        cases q : (wipe σ vs)[v]? with
        | none => rw [List.getElem?_eq_none_iff] at q; omega
        | some o =>
          cases o with
          | none => rfl
          | some u => exact absurd (hv v List.mem_cons_self) (wipe_some q).2
      · rw [List.getElem?_eq_none (by rw [List.length_set]; omega), List.getElem?_eq_none (by omega)]
    · rw [List.getElem?_set_ne hj]
/-- the reading of a comprehension -/
theorem comp_run {K : PySem.W.Frag} {it : Env → O (List D)} {vs : List Nat} {tg : Tg} {t : Env → O Bool} {e : Env → O D} {σ : L2.St} {H : Hp} {Q : VK} (hsl : ∀ i ∈ tg.slots, i ∈ vs ∧ kAt κ i = .sh) (h : tE K W κ (.ls .sh) (mComp it vs tg t e) σ H Q) :
    tLc (tI K W κ it) (tg.tg K) (tT K WF κ t) (tE K WF κ .sh e) vs σ H Q := by
  obtain ⟨S, H0, Hs0, ρ, Hs, F, R, p⟩ := h
  refine ⟨S, H0, Hs0, ρ, Hs, F, R, ?_⟩
  unfold mComp at p
  cases ei : it ρ with
  | stuck => rw [ei] at p; exact p
  | exc x fs => rw [ei] at p; exact p
  | ok ds =>
    rw [ei, bind_ok] at p
    intro J H1 Hs1 gr w D hD
    have hDs : Hs1 D = none := gr.sub.none hD
    -- behind i items: acc at D, the rest is due
    refine ⟨fun i m H' => m = ds.length - i ∧ i ≤ ds.length ∧ ∃ Hs' acc us, Ext H1 H' ∧ Ext Hs1 Hs' ∧ Sub Hs' H' ∧ (∀ a o, Hs' a = some o → Hs1 a = none → H1 a = none) ∧ Hs' D = none ∧ H' D = some (.lst us) ∧ Reps K Hs' acc us ∧
      EPost K W (.ls .sh) σ H Hs Q (compD tg t e (wipeD ρ vs) (ds.drop i) acc >>= fun r => .ok (.lst r)), ⟨ds.length, by simp, Nat.zero_le _, Hs1, [], [], .new hD, .refl _, gr.sub.own hDs (fun _ h => nomatch h), fun a o e n => by (rw [n] at e; cases e), hDs, upd_same, .nil, p⟩, ?_⟩
    rintro i m H' ⟨rfl, hi, Hs', acc, us, x1, x2, x3, x4, x5, x6, rs, p'⟩
    by_cases hlt : i < ds.length
    · refine .inr ⟨w.go i H' Hs' hlt x2 x3, fun H2 => i + 1 ≤ ds.length ∧ ∃ Hs' acc us, Ext H1 H2 ∧ Ext Hs1 Hs' ∧ Sub Hs' H2 ∧ (∀ a o, Hs' a = some o → Hs1 a = none → H1 a = none) ∧ Hs' D = none ∧ H2 D = some (.lst us) ∧ Reps K Hs' acc us ∧
        EPost K W (.ls .sh) σ H Hs Q (compD tg t e (wipeD ρ vs) (ds.drop (i + 1)) acc >>= fun r => .ok (.lst r)), fun H2 n => ⟨ds.length - (i + 1), by omega, rfl, n⟩, fun x H2 y => ?_⟩
      have hd : ds[i]? = some ds[i] := List.getElem?_eq_getElem hlt
      obtain ⟨Hs2, g2, rx⟩ := w.yld i H' Hs' x H2 _ x2 x3 y hd
      rw [List.drop_eq_getElem_cons hlt, compD] at p'
      -- the state of the slots, D beside them
      have Rg : Rel K S H0 Hs0 κ ρ σ H2 Hs2 F := by
        have g01 : Grow H1 Hs1 H2 Hs2 := ⟨x1.trans g2.ex, x2.trans g2.exs, g2.sub, fun a o q n => by
          cases z : Hs' a with
          | none => exact x1.none (g2.fr a o q z)
          | some u => exact x4 a u z n⟩
        exact R.grow (gr.trans g01)
      have Rw := Rg.wipe vs
      have hD2 : Hs2 D = none := by
        cases z : Hs2 D with
        | none => rfl
        | some u => exact absurd x6 (by rw [g2.fr D u z x5]; simp)
      have x7 : ∀ a o, Hs2 a = some o → Hs1 a = none → H1 a = none := fun a o q n => by
        cases z : Hs' a with
        | none => exact x1.none (g2.fr a o q z)
        | some u => exact x4 a u z n
      cases et : tg.put ds[i] (wipeD ρ vs) with
      | none => rw [et] at p'; exact p'.elim
      | some ρ1 =>
        rw [et] at p'
        dsimp only at p'
        refine tg.run (fun j hj => (hsl j hj).2) Rw rx et fun σ3 F3 R3 hw => ⟨?_, ?_⟩
        · rw [hw vs fun j hj => (hsl j hj).1]
          exact wipe_again vs fun v hv => hv
        · refine ⟨S, H0, Hs0, ρ1, Hs2, F3, R3, ?_⟩
          cases eb : t ρ1 with
          | stuck => rw [eb] at p'; exact p'.elim
          | exc x fs => rw [eb] at p'; exact p'.elim
          | ok b =>
            rw [eb] at p'
            intro H3 Hs3 g3
            have hD3 : Hs3 D = none := by
              cases z : Hs3 D with
              | none => rfl
              | some u =>
                have q := g3.fr D u z hD2
                rw [g2.ex _ _ x6] at q
                cases q
            have x8 : ∀ a o, Hs3 a = some o → Hs1 a = none → H1 a = none := fun a o q n => by
              cases z : Hs2 a with
              | none => exact (x1.trans g2.ex).none (g3.fr a o q z)
              | some u => exact x7 a u z n
            cases b with
            | false =>
              rw [if_neg Bool.false_ne_true]
              exact ⟨hlt, Hs3, acc, us, (x1.trans g2.ex).trans g3.ex, (x2.trans g2.exs).trans g3.exs, g3.sub, x8, hD3, g3.ex _ _ (g2.ex _ _ x6), (rs.mono g2.exs).mono g3.exs, p'⟩
            | true =>
              rw [if_pos rfl]
              dsimp only at p'
              refine ⟨S, H0, Hs0, ρ1, Hs3, F3, R3.grow g3, ?_⟩
              cases ee : e ρ1 with
              | stuck => rw [ee] at p'; exact p'.elim
              | exc x fs => rw [ee] at p'; exact p'.elim
              | ok z =>
                rw [ee] at p'
                dsimp only at p'
                intro v H4 q4
                obtain ⟨Hs4, g4, rz⟩ := q4.out
                have x64 : H4 D = some (.lst us) := g4.ex _ _ (g3.ex _ _ (g2.ex _ _ x6))
                have hD4 : Hs4 D = none := by
                  cases z : Hs4 D with
                  | none => rfl
                  | some u =>
                    have q := g4.fr D u z hD3
                    rw [g3.ex _ _ (g2.ex _ _ x6)] at q
                    cases q
                by_cases hz : acc.length < sizeLine
                · rw [if_pos hz] at p'
                  have rl := rs.length
                  refine ⟨us, x64, by rw [← rl]; exact hz, hlt, Hs4, acc ++ [z], us ++ [v], ?_, ((x2.trans g2.exs).trans g3.exs).trans g4.exs, g4.sub.own hD4 (fun _ h => nomatch h), ?_, hD4, upd_same, ((((rs.mono g2.exs).mono g3.exs).mono g4.exs).append (.cons rz .nil)), p'⟩
                  · intro a o q
                    have hne : a ≠ D := fun z => by rw [z, hD] at q; cases q
                    rw [upd_ne hne]
                    exact g4.ex _ _ (g3.ex _ _ (g2.ex _ _ (x1 a o q)))
                  · intro a o q n
                    cases z : Hs3 a with
                    | none => exact ((x1.trans g2.ex).trans g3.ex).none (g4.fr a o q z)
                    | some u => exact x8 a u z n
                · rw [if_neg hz] at p'; exact p'.elim
    · have ee : i = ds.length := by omega
      subst ee
      refine .inl ⟨w.stop H' Hs' x2 x3, ?_⟩
      rw [List.drop_length, compD, bind_ok] at p'
      refine p' _ H' ⟨Hs', [D], ⟨gr.ex.trans x1, gr.exs.trans x2, x3, fun a o q n => ?_⟩, by simp, fun a ha => ?_, D, acc, us, acc.map fun _ => [], rfl, rfl, x6, ?_, ?_⟩
      · cases z : Hs1 a with
        | none => exact gr.ex.none (x4 a o q z)
        | some u => exact gr.fr a u z n
      · have e : a = D := by simpa using ha
        subst e
        exact ⟨gr.ex.none hD, x5, by rw [x6]; simp⟩
      · simp
      · clear p' p w x6
        induction acc generalizing us with
        | nil => cases rs; exact .nil
        | cons d acc ih => cases rs with | cons a b => exact .cons ⟨a, rfl⟩ (ih _ b)
theorem ce_compO {elt tgE iter : Expr} {ifs : List Expr} {scope : Scope} {own : List (Str × Nat)} {pos : Pos} {it : Env → O (List D)} {tg : Tg} {t : Env → O Bool} {e : Env → O D} (hc : X.calm = true) (hN : X.N.Nodup) (hi : CI X W κ tgE iter it) (ok : BlkOk X.N X.env.scope scope own)
    (hsl : ∀ i ∈ tg.slots, i ∈ own.map (·.2) ∧ kAt κ i = .sh)
    (hg : ∀ (s : Shared) (H : Hp) (C : Addr) (cl : List (Str × Addr)) (fp : List Addr), PG (X.blk s H scope (compEnvC scope cl C X.env) fp) tgE (tg.tg X.K)) (ht : ∀ (s : Shared) (H : Hp) (C : Addr) (cl : List (Str × Addr)) (fp : List Addr), CTs (X.blk s H scope (compEnvC scope cl C X.env) fp) WF κ ifs t)
    (he : ∀ (s : Shared) (H : Hp) (C : Addr) (cl : List (Str × Addr)) (fp : List Addr), CE (X.blk s H scope (compEnvC scope cl C X.env) fp) WF κ .sh elt e) (hs : ∀ x, foldedSetIterable iter X.env x = pure x := by intro _; rfl) :
    CE X W κ (.ls .sh) (.ListComp elt [⟨tgE, iter, ifs, 0⟩] scope pos) (mComp it (own.map (·.2)) tg t e) :=
  PE.imp (pe_lc hc hN hi ok hg ht he hs) fun _ _ _ q => comp_run hsl q
/-- y = [..] on one line -/
theorem cs_comp {c : Cf} {κ' : List Kd} {i : Nat} {y : Str} {py spos : Pos} {elt tgE iter : Expr} {ifs : List Expr} {scope : Scope} {own : List (Str × Nat)} {pos : Pos} {it : Env → O (List D)} {tg : Tg} {t : Env → O Bool} {e : Env → O D} (hil : i < κ.length) (hx : c.κx κ)
    (hst : PS X (.Assign [.Name y py] (.ListComp elt [⟨tgE, iter, ifs, 0⟩] scope pos) spos) (tAsg (tLc (tI X.K c.W κ it) (tg.tg X.K) (tT X.K WF κ t) (tE X.K WF κ .sh e) (own.map (·.2))) (gName i))) (hsl : ∀ i ∈ tg.slots, i ∈ own.map (·.2) ∧ kAt κ i = .sh) (hk' : κ.set i (.ls .sh) = κ' := by rfl) :
    CS X c κ κ' (.Assign [.Name y py] (.ListComp elt [⟨tgE, iter, ifs, 0⟩] scope pos) spos) (sAsg i (mComp it (own.map (·.2)) tg t e)) := by
  subst hk'
  exact PS.imp hst fun Dn σ H q => by
    obtain ⟨S, H0, Hs0, ρ, Hs, F, hS, R, p⟩ := q
    refine comp_run hsl (stepS hx R p fun d v H1 _ q p1 => ?_)
    obtain ⟨Hs', F', R', x⟩ := R.put hil q
    exact p1 _ _ Hs' F' R' x
theorem cs_compS {c : Cf} {κ' : List Kd} {i : Nat} {y : Str} {py spos : Pos} {elt tgE iter : Expr} {ifs : List Expr} {scope : Scope} {own : List (Str × Nat)} {pos : Pos} {it : Env → O (List D)} {tg : Tg} {t : Env → O Bool} {e : Env → O D} (hil : i < κ.length) (hx : c.κx κ)
    (hst : PS X (.Assign [.Name y py] (.ListComp elt [⟨tgE, iter, ifs, 0⟩] scope pos) spos) (tAsg (tLc (tI X.K c.W κ it) (tg.tg X.K) (tT X.K WF κ t) (tE X.K WF κ .sh e) (own.map (·.2))) (gName i))) (hsl : ∀ i ∈ tg.slots, i ∈ own.map (·.2) ∧ kAt κ i = .sh) (hk' : κ.set i .sh = κ' := by rfl) :
    CS X c κ κ' (.Assign [.Name y py] (.ListComp elt [⟨tgE, iter, ifs, 0⟩] scope pos) spos) (sAsg i (mComp it (own.map (·.2)) tg t e)) := by
  subst hk'
  exact PS.imp hst fun Dn σ H q => by
    obtain ⟨S, H0, Hs0, ρ, Hs, F, hS, R, p⟩ := q
    refine comp_run hsl (stepS hx R p fun d v H1 _ q p1 => ?_)
    obtain ⟨Hs', F', R', x⟩ := R.put hil q.share
    exact p1 _ _ Hs' F' R' x
end
end T

set_option Elab.async false
set_option linter.all false
set_option maxRecDepth 100000
set_option maxHeartbeats 1000000
/-! T6: what a def promises over data; its body; its calls. -/
namespace T
open PySem L2

/-- m tells what the def gives for the data that are written; dd: the defaults behind them -/
def spM (K : PySem.W.Frag) (dd : List D) (m : List D → O D) (rr : Kd) : Sp := fun vs H Q E => ∃ Hs ds, Sub Hs H ∧ Reps K Hs (ds ++ dd) vs ∧ match m ds with
  | .stuck => False
  | .ok d => ∀ v H', Res K rr d v H Hs H' → Q v H'
  | .exc c fs => ∀ cls dx H', XRes K c fs cls dx H Hs H' → E cls dx H'
/-- m says nothing but of n data -/
def Ar (n : Nat) (m : List D → O D) : Prop := ∀ ds, ds.length ≠ n → m ds = .stuck
theorem spM_len {K : PySem.W.Frag} {n : Nat} {dd : List D} {m : List D → O D} {rr : Kd} (ar : Ar n m) {vs : List V} {H : Hp} {Q : VK} {E : XK} (h : spM K dd m rr vs H Q E) : vs.length = n + dd.length := by
  obtain ⟨Hs, ds, _, r, q⟩ := h
  rw [← r.length, List.length_append]
  by_cases e : ds.length = n
  · rw [e]
  · rw [ar ds e] at q; exact q.elim
/-- a def that may be called by its name with n data, at level k -/
def Callee (P : Program) (w : World) (K : PySem.W.Frag) (mg : Str → Option Value) (base : Heap) (x : Str) (k : Nat) (m : List D → O D) (rr : Kd) : Prop :=
  ∃ (f : Addr) (fd : FuncData) (ps : List Str) (dvs : List V) (ds : List Value) (dd : List D), mg x = some (.ref f) ∧ PySem.W.keepIn K (.ref f) = true ∧ FnOk P w K mg base (L2N.CX P w) k f fd ps (spM K dd m rr) ∧ Binds K fd ps ds ∧ Vals dvs ds ∧ ∀ Hs, Reps K Hs dd dvs
theorem Callee.mono {P : Program} {w : World} {K : PySem.W.Frag} {mg : Str → Option Value} {base : Heap} {x : Str} {j k : Nat} {m : List D → O D} {rr : Kd} (c : Callee P w K mg base x j m rr) (h : j ≤ k) : Callee P w K mg base x k m rr := by
  obtain ⟨f, fd, ps, dvs, ds, dd, h1, h2, h3, h4⟩ := c
  exact ⟨f, fd, ps, dvs, ds, dd, h1, h2, h3.mono h, h4⟩
theorem spM_imp {K : PySem.W.Frag} {dd : List D} {m n : List D → O D} {rr : Kd} (h : ∀ a, n a = .stuck ∨ m a = n a) {vs : List V} {H : Hp} {Q : VK} {E : XK} (q : spM K dd n rr vs H Q E) : spM K dd m rr vs H Q E := by
  obtain ⟨Hs, ds, e, r, q⟩ := q
  refine ⟨Hs, ds, e, r, ?_⟩
  rcases h ds with z | z
  · rw [z] at q; exact q.elim
  · rw [z]; exact q
/-- m may be said otherwise, where it says anything -/
theorem Callee.is {P : Program} {w : World} {K : PySem.W.Frag} {mg : Str → Option Value} {base : Heap} {x : Str} {k : Nat} {m n : List D → O D} {rr : Kd} (c : Callee P w K mg base x k m rr) (h : ∀ a, n a = .stuck ∨ m a = n a) : Callee P w K mg base x k n rr := by
  obtain ⟨f, fd, ps, dvs, ds, dd, h1, h2, h3, h4⟩ := c
  exact ⟨f, fd, ps, dvs, ds, dd, h1, h2, h3.imp fun vs H Q E q => spM_imp h q, h4⟩
theorem Callee.share {P : Program} {w : World} {K : PySem.W.Frag} {mg : Str → Option Value} {base : Heap} {x : Str} {k : Nat} {m : List D → O D} {rr : Kd} (c : Callee P w K mg base x k m rr) : Callee P w K mg base x k m .sh := by
  obtain ⟨f, fd, ps, dvs, ds, dd, h1, h2, h3, h4⟩ := c
  refine ⟨f, fd, ps, dvs, ds, dd, h1, h2, h3.imp fun vs H Q E q => ?_, h4⟩
  obtain ⟨Hs, es, e, r, q⟩ := q
  refine ⟨Hs, es, e, r, ?_⟩
  cases em : m es with
  | stuck => rw [em] at q; exact q
  | ok d => rw [em] at q; exact fun v H' z => q v H' z.share
  | exc c fs => rw [em] at q; exact q
section
variable {X : Cx} {W : WX} {κ : List Kd}
def mApp (m : List D → O D) (f : Env → O (List D)) : Env → O D := fun ρ => f ρ >>= m
theorem app_run {K : PySem.W.Frag} {m : List D → O D} {f : Env → O (List D)} {dd : List D} {dvs : List V} {r : Kd} {σ : L2.St} {H : Hp} {Q : VK} {E : XK} (hE : ∀ cls dx H', W cls dx σ H' → E cls dx H') (hd : ∀ Hs, Reps K Hs dd dvs) (q : tE K W κ r (mApp m f) σ H Q) :
    tA K W κ f σ H fun vs H1 => spM K dd m r (vs ++ dvs) H1 Q E := by
  obtain ⟨S, H0, Hs0, ρ, Hs, F, R, p⟩ := q
  refine stepA R p fun ds vs H1 Hs1 e g1 R1 rs p1 => ?_
  refine ⟨Hs1, ds, R1.sub, rs.append (hd _), ?_⟩
  cases em : m ds with
  | stuck => rw [em] at p1; exact p1
  | ok z => rw [em] at p1; exact p1
  | exc c fs => rw [em] at p1; exact fun cls dx H' x => hE _ _ _ (p1 cls dx H' x)
theorem ce_call {x : Str} {k : Nat} {m : List D → O D} {rr : Kd} {p pos : Pos} {e : Expr} {es : List Expr} {f : Env → O (List D)} (C : Callee X.prog X.w X.K X.mg X.base x k m rr) (hr : Room k X.A) (tk : L2N.Takes X W) (hg : Gl X x) (ha : CA X W κ (e :: es) f)
    (hdb : (x == ("__debug__" : Str)) = false := by decide) (he : starEach (e :: es) X.env = (false, eval e X.env) :: starEach es X.env := by rfl) (hpl : (backTo pos (starEach es X.env)).any (·.1) = false := by rfl) : CE X W κ rr (.Call (.Name x p) (e :: es) [] pos) (mApp m f) := by
  obtain ⟨fa, fd, ps, dvs, ds, dd, hm, hk, F, hb, hd, hdd⟩ := C
  exact PE.imp (pe_callSD (E := fun σ => WE W σ) F hr hg hm hk hb hd (fun σ => L2N.passAt tk σ) ha hdb he hpl) fun σ H Q q => app_run (E := WE W σ) (fun _ _ _ h => h) hdd q
/-- where no slots matter to what is wished of errors -/
theorem ce_call0 {x : Str} {k : Nat} {m : List D → O D} {rr : Kd} {p pos : Pos} {E : XK} (C : Callee X.prog X.w X.K X.mg X.base x k m rr) (hr : Room k X.A) (hx : Passes (L2N.CX X.prog X.w) X E) (hE : ∀ cls dx σ H', W cls dx σ H' → E cls dx H') (hg : Gl X x)
    (hdb : (x == ("__debug__" : Str)) = false := by decide) : CE X W κ rr (.Call (.Name x p) [] [] pos) (mApp m mNil) := by
  obtain ⟨fa, fd, ps, dvs, ds, dd, hm, hk, F, hb, hd, hdd⟩ := C
  refine PE.imp (pe_call0 (E := E) F hr hg hm hk hb hd hx hdb) fun σ H Q q => ?_
  obtain ⟨S, H0, Hs0, ρ, Hs, F, R, p⟩ := q
  refine ⟨Hs, [], R.sub, hdd _, ?_⟩
  have p1 : EPost X.K W rr σ H Hs Q (m []) := p
  cases em : m [] with
  | stuck => rw [em] at p1; exact p1
  | ok z => rw [em] at p1; exact p1
  | exc c fs => rw [em] at p1; exact fun cls dx H' x => hE _ _ σ _ (p1 cls dx H' x)
end

/-! ### a def by its body -/
def endD (rr : Kd) : SO → O D
  | .rt d => .ok d
  | .nx _ => if rr = .sh then .ok .non else .stuck
  | .exc _ c fs => .exc c fs
  | _ => .stuck
def startD (N : Nat) (ds : List D) : Env := ds.map some ++ List.replicate (N - ds.length) none
def mDef (N n : Nat) (rr : Kd) (g : Env → SO) : List D → O D := fun ds => if ds.length = n then endD rr (g (startD N ds)) else .stuck
theorem ar_def {N n : Nat} {rr : Kd} {g : Env → SO} : Ar n (mDef N n rr g) := fun ds h => if_neg h
theorem kAt_all {κ : List Kd} (h : κ.all (fun k => decide (k = .sh)) = true) (i : Nat) : kAt κ i = .sh := by
  unfold kAt
  rw [List.getD_eq_getElem?_getD]
  cases e : κ[i]? with
  | none => rfl
  | some k => exact of_decide_eq_true (List.all_eq_true.mp h k (List.mem_of_getElem? e))
/-- no error leaves a body but by what is wished of it -/
def cDef (E : XK) (rr : Kd) : Cf := { W := fun cls d _ H => E cls d H, rr := rr, κl := [], κx := fun _ => True, pu := true }
theorem rel_start {K : PySem.W.Frag} {N : List Str} {κ : List Kd} {ds : List D} {vs : List V} {H Hs : Hp} (hk : ∀ i, kAt κ i = .sh) (sub : Sub Hs H) (r : Reps K Hs ds vs) : Rel K [] H Hs κ (startD N.length ds) (L2.start N vs) H Hs (fun _ => []) where
  len := by
    unfold startD L2.start
    rw [List.length_append, List.length_append, List.length_map, List.length_map, List.length_replicate, List.length_replicate, r.length]
  sl := fun i d e => by
    unfold startD at e
    have hi : i < ds.length := by
      by_cases hi : i < ds.length
      · exact hi
      · rw [List.getElem?_append_right (by simpa using hi), List.getElem?_replicate] at e
        split at e <;> cases e
    rw [List.getElem?_append_left (by simpa using hi), List.getElem?_map] at e
    cases q : ds[i]? with
    | none => rw [q] at e; cases e
    | some d' =>
      rw [q] at e
      cases e
      obtain ⟨v, h1, h2⟩ := r.get q
      refine ⟨v, ?_, by rw [hk]; exact ⟨h2, rfl⟩⟩
      unfold L2.start
      rw [List.getElem?_append_left (by rw [List.length_map, ← r.length]; exact hi), List.getElem?_map, h1]; rfl
  nd := fun _ => List.nodup_nil
  dj := fun _ _ _ h => nomatch h
  al := fun _ _ h => nomatch h
  fr := fun _ _ h => nomatch h
  g := .refl _
  sub := sub
  old := fun _ _ e _ => e
  st := fun _ h => h
  new := fun _ _ e n => by rw [e] at n; cases n
section
variable {P : Program} {w : World} {K : PySem.W.Frag} {mg : Str → Option Value} {base : Heap} {x qual : Str} {params : Arguments} {body : List Stmt} {scope : Scope} {dvs : List V} {kws : List (Str × V)} {f : Addr} {fd : FuncData}
theorem def_ok {N ps : List Str} {k : Nat} {rr : Kd} {κ κ' : List Kd} {g : Env → SO} (F : FunD K x qual params body scope dvs kws f fd) (S : FnScope N ps scope) (hκ : ∀ i, kAt κ i = .sh)
    (hb : ∀ (cdv : Value) (A : Around) (outer : List PySem.Env) (s : Shared) (H : Hp) (E : XK), Room k (A.deeper (PyProof.Rows.envOfC qual scope s.heap.objs.size f cdv)) →
      CSs (cxOf (L2N.CX P w) P w K mg base N qual scope f cdv A outer s H E) (cDef E rr) κ κ' body g) : FnOk P w K mg base (L2N.CX P w) (k + 1) f fd ps (spM K [] (mDef N.length ps.length rr g) rr) := by
  refine F.ok S (fun vs H Q E h => by have e := spM_len ar_def h; rw [e]; rfl) fun cdv A outer s H vs Q E hr h => ⟨_, hb cdv A outer s H E hr, ?_⟩
  obtain ⟨Hs, ds, sub, r, q⟩ := h
  rw [List.append_nil] at r
  refine ⟨[], H, Hs, startD N.length ds, Hs, fun _ => [], fun _ => rfl, rel_start hκ sub r, ?_⟩
  unfold mDef at q
  by_cases hl : ds.length = ps.length
  · rw [if_pos hl] at q
    cases e : g (startD N.length ds) with
    | stuck => rw [e] at q; exact q
    | bk ρ => rw [e] at q; exact q.elim
    | ct ρ => rw [e] at q; exact q.elim
    | rt d => rw [e] at q; exact q
    | nx ρ =>
      rw [e] at q
      unfold endD at q
      dsimp only at q
      by_cases hrr : rr = .sh
      · rw [if_pos hrr] at q
        subst hrr
        exact fun σ' H' Hs' F' R' x => q .non H' (.sh R'.all .non)
      · rw [if_neg hrr] at q; exact q.elim
    | exc ρ c fs =>
      rw [e] at q
      exact fun κ'' cls dx σ' H' Hs' F' _ R' x xr => q cls dx H' ⟨Hs', R'.all, xr⟩
  · rw [if_neg hl] at q; exact q.elim
theorem callee_of {ps : List Str} {k : Nat} {rr : Kd} {m : List D → O D} (hm : mg x = some (.ref f)) (F : FunD K x qual params body scope dvs kws f fd) (G : FnOk P w K mg base (L2N.CX P w) k f fd ps (spM K [] m rr)) (hb : Binds K fd ps []) : Callee P w K mg base x k m rr :=
  ⟨f, fd, ps, [], [], [], hm, F.kp, G, hb, .nil, fun _ => .nil⟩
end
end T

set_option Elab.async false
set_option linter.all false
set_option maxRecDepth 100000
set_option maxHeartbeats 1000000
/-! T7: isinstance; classes and their instances. -/
namespace T
open PySem L2

/-! ### isinstance -/
inductive Ty where
  | b (n : String) | o (c : Str)
  deriving DecidableEq
def Ty.v (K : PySem.W.Frag) : Ty → Value
  | .b n => .type n
  | .o c => .ref (He.ga K c)
def Ty.w (K : PySem.W.Frag) : Ty → V
  | .b n => .ty n
  | .o c => .ref (He.ga K c)
def D.ty : D → Option Ty
  | .non => some (.b "NoneType")
  | .bl _ => some (.b "bool")
  | .int _ => some (.b "int")
  | .str _ => some (.b "str")
  | .tup _ => some (.b "tuple")
  | .lst _ => some (.b "list")
  | .scr _ => some (.b "list")
  | .ins c _ => some (.o c)
  | .exc _ _ => none
  | .exv _ _ => none
  | .dct _ => none
  | .dck _ => none
  | .set _ => none
def bTy : List String := ["NoneType", "bool", "int", "str", "tuple", "list", "dict"]
def isiOne (cl : List Str) : Ty → Ty → Option Bool
  | .b x, .b y => if x ∈ bTy ∧ y ∈ bTy then some (x == y || (x == "bool" && y == "int")) else none
  | .b x, .o c => if x ∈ bTy ∧ c ∈ cl then some false else none
  | .o c, .b y => if y ∈ bTy ∧ c ∈ cl then some false else none
  | .o c, .o e => if c ∈ cl ∧ e ∈ cl then some (decide (c = e)) else none
def isiAny (cl : List Str) (t : Ty) : List Ty → Option Bool
  | [] => some false
  | u :: us => match isiOne cl t u with
    | some true => some true
    | some false => isiAny cl t us
    | none => none
theorem kit_bb : ∀ x ∈ bTy, ∀ y ∈ bTy, kitB x y = some (x == y || (x == "bool" && y == "int")) := by decide +kernel
/-- what the top has made of the classes cl (none is another one's base) -/
structure Kit (K : PySem.W.Frag) (cl : List Str) : Prop where
  cls : ∀ c ∈ cl, Cls K (He.ga K c)
  att : ∀ c ∈ cl, PySem.W.findIn K (.ref (He.ga K c)) "__class__" = some (some (.builtin "object.__class__")) ∧ PySem.W.mroIn K (He.ga K c) (.type "object") = some true
  spc : PySem.W.specialIn K (.builtin "object.__class__") "__get__" = some (some (.builtin "getset_descriptor.__get__"))
  tak : PySem.W.takesIn K (.builtin "object.__class__") = some true
  bo : ∀ x ∈ bTy, ∀ c ∈ cl, PySem.W.kitOne K (.type x) (.ref (He.ga K c)) = some false
  ob : ∀ x ∈ bTy, ∀ c ∈ cl, PySem.W.kitOne K (.ref (He.ga K c)) (.type x) = some false
  oo : ∀ c ∈ cl, ∀ e ∈ cl, PySem.W.kitOne K (.ref (He.ga K c)) (.ref (He.ga K e)) = some (decide (c = e))
def kitC (K : PySem.W.Frag) (cl : List Str) : Bool :=
  cl.all (fun c => (He.Fa.cls c).ok K && (decide (PySem.W.findIn K (.ref (He.ga K c)) "__class__" = some (some (.builtin "object.__class__"))) && decide (PySem.W.mroIn K (He.ga K c) (.type "object") = some true))) &&
  (decide (PySem.W.specialIn K (.builtin "object.__class__") "__get__" = some (some (.builtin "getset_descriptor.__get__"))) && (decide (PySem.W.takesIn K (.builtin "object.__class__") = some true) &&
  (bTy.all (fun x => cl.all fun c => decide (PySem.W.kitOne K (.type x) (.ref (He.ga K c)) = some false) && decide (PySem.W.kitOne K (.ref (He.ga K c)) (.type x) = some false)) &&
  cl.all fun c => cl.all fun e => decide (PySem.W.kitOne K (.ref (He.ga K c)) (.ref (He.ga K e)) = some (decide (c = e))))))
theorem kit_by {K : PySem.W.Frag} {cl : List Str} (h : kitC K cl = true) : Kit K cl := by
  unfold kitC at h
  simp only [Bool.and_eq_true, List.all_eq_true, decide_eq_true_eq] at h
  obtain ⟨h1, h2, h3, h4, h5⟩ := h
  exact ⟨fun c hc => He.cls_ok (h1 c hc).1, fun c hc => (h1 c hc).2, h2, h3, fun x hx c hc => (h4 x hx c hc).1, fun x hx c hc => (h4 x hx c hc).2, h5⟩
section
variable {K : PySem.W.Frag} {cl : List Str}
theorem Kit.one (k : Kit K cl) {t u : Ty} {r : Bool} (h : isiOne cl t u = some r) : PySem.W.kitOne K (t.v K) (u.v K) = some r := by
  unfold isiOne at h
  split at h
  · split at h
    · rename_i hc
      cases h
      exact kit_ty (kit_bb _ hc.1 _ hc.2)
    · cases h
  · split at h
    · rename_i hc
      cases h
      exact k.bo _ hc.1 _ hc.2
    · cases h
  · split at h
    · rename_i hc
      cases h
      exact k.ob _ hc.1 _ hc.2
    · cases h
  · split at h
    · rename_i hc
      cases h
      exact k.oo _ hc.1 _ hc.2
    · cases h
theorem Kit.any (k : Kit K cl) {t : Ty} {r : Bool} : ∀ {us : List Ty}, isiAny cl t us = some r → PySem.W.kitAny K (t.v K) (us.map (Ty.v K)) = some r
  | [], h => by cases h; rfl
  | u :: us, h => by
    unfold isiAny at h
    cases e : isiOne cl t u with
    | none => rw [e] at h; cases h
    | some b =>
      rw [e] at h
      have q := k.one e
      cases b with
      | true =>
        cases h
        exact kitAny_cons q (fun z => by cases z) fun _ => rfl
      | false => exact kitAny_cons q (fun _ => k.any h) fun z => by cases z
theorem Kit.tyx (k : Kit K cl) {H : Hp} {d : D} {v : V} {t : Ty} (r : Rep K H d v) (ht : d.ty = some t) (hc : ∀ c, t = .o c → c ∈ cl) : TyX K H v (t.v K) := by
  cases r with
  | non => cases ht; exact .base .non
  | bl b => cases ht; exact .base (.bl b)
  | int i => cases ht; exact .base (.int i)
  | str s => cases ht; exact .base (.str s)
  | tup h r =>
    cases ht
    rcases h with (h | ⟨o, h⟩) | ⟨o, its, n, h1, h2, _⟩
    · exact .base (.tup h)
    · exact .fTuple h
    · exact .kTuple h1 h2
  | lst h r => cases ht; exact .base (.lst h)
  | scr h =>
    cases ht
    rcases h with (h | ⟨o, h⟩) | ⟨o, its, n, h1, h2, _⟩
    · exact .base (.lst h)
    · exact .base (.frz h)
    · exact .kList h1 h2
  | ins h r =>
    cases ht
    have hm := hc _ rfl
    exact .base (.ins h (k.cls _ hm) (k.att _ hm).1 k.spc k.tak (k.att _ hm).2)
  | exc => cases ht
  | exv _ _ _ => cases ht
  | exv0 _ => cases ht
  | dct _ _ => cases ht
  | dck _ _ => cases ht
end
section
variable {X : Cx} {W : WX} {κ : List Kd} {cl : List Str}
def dIsi (cl : List Str) (us : List Ty) (d : D) : O D := match d.ty with
  | some t => (match t with
    | .o c => if c ∈ cl then (match isiAny cl t us with
      | some b => .ok (.bl b)
      | none => .stuck) else .stuck
    | .b _ => match isiAny cl t us with
      | some b => .ok (.bl b)
      | none => .stuck)
  | none => .stuck
theorem dIsi_ok {us : List Ty} {d z : D} (h : dIsi cl us d = .ok z) : ∃ t b, d.ty = some t ∧ (∀ c, t = .o c → c ∈ cl) ∧ isiAny cl t us = some b ∧ z = .bl b := by
  unfold dIsi at h
  cases e : d.ty with
  | none => rw [e] at h; cases h
  | some t =>
    rw [e] at h
    cases t with
    | o c =>
      dsimp only at h
      split at h
      · rename_i hc
        split at h
        · rename_i b hb
          cases h
          exact ⟨_, b, rfl, (fun c' q => by cases q; exact hc), hb, rfl⟩
        · cases h
      · cases h
    | b n =>
      dsimp only at h
      split at h
      · rename_i b hb
        cases h
        exact ⟨_, b, rfl, (fun c' q => by cases q), hb, rfl⟩
      · cases h
/-- isinstance(a, T) -/
theorem ce_isi {a ce : Expr} {p pos : Pos} {f : Env → O D} {u : Ty} (k : Kit X.K cl) (hg : Gl X "isinstance") (hm : X.mg "isinstance" = none) (ha : CE X W κ .sh a f) (hc : PE X ce (tC (u.w X.K)))
    (he : starEach [a, ce] X.env = (false, eval a X.env) :: starEach [ce] X.env := by rfl) (he2 : starEach [ce] X.env = (false, eval ce X.env) :: starEach [] X.env := by rfl) (hpl : (backTo pos (starEach [ce] X.env)).any (·.1) = false := by rfl) :
    CE X W κ .sh (.Call (.Name "isinstance" p) [a, ce] [] pos) (mUn (dIsi cl [u]) f) :=
  PE.imp (pe_callB call_isi hg hm (by decide +kernel) (pa_cons ha (pa_cons hc pa_nil he2) he) (by decide) (by decide) he hpl) fun σ H Q q => by
    obtain ⟨S, H0, Hs0, ρ, Hs, F, R, p⟩ := q
    refine step R p fun d v H1 Hs1 _ g1 R1 rd p1 => ?_
    cases e : dIsi cl [u] d with
    | stuck => rw [e] at p1; exact p1.elim
    | exc c fs => unfold dIsi at e; (repeat' split at e) <;> cases e
    | ok z =>
      rw [e] at p1
      obtain ⟨t, b, h1, h2, h3, rfl⟩ := dIsi_ok e
      have h4 : isiOne cl t u = some b := by
        unfold isiAny at h3
        cases q : isiOne cl t u with
        | none => rw [q] at h3; cases h3
        | some r =>
          rw [q] at h3
          cases r with
          | true => exact h3
          | false => exact h3
      refine ⟨v, u.w X.K, t.v X.K, u.v X.K, b, rfl, ?_, k.tyx (rd.mono R1.sub.ex) h1 h2, k.one h4, p1 _ _ (.sh (.refl R1.sub) (.bl b))⟩
      cases u with
      | b n => exact .ty n
      | o c => exact .own _
theorem pe_ty {n : String} {x : Str} {pos : Pos} (hg : Gl X x) (hm : X.mg x = none) (hv : bootBuiltins x = some (.type n)) (hn : x ≠ "__name__" := by decide) (hd : (x == ("__debug__" : Str)) = false := by decide) : PE X (.Name x pos) (tC ((Ty.b n).w X.K)) := pe_bltn hg hm hv rfl hn hd
theorem pe_cl {x : Str} {pos : Pos} (hg : Gl X x) (hm : X.mg x = some (.ref (He.ga X.K x))) (hd : (x == ("__debug__" : Str)) = false := by decide) : PE X (.Name x pos) (tC ((Ty.o x).w X.K)) := pe_glob hg hm rfl hd
/-- a written tuple of classes -/
inductive PCls (X : Cx) : List Expr → List Ty → Prop
  | nil : PCls X [] []
  | cons {e : Expr} {es : List Expr} {u : Ty} {us : List Ty} (h : PE X e (tC (u.w X.K))) (hs : starEach (e :: es) X.env = (false, eval e X.env) :: starEach es X.env) (t : PCls X es us) : PCls X (e :: es) (u :: us)
theorem PCls.pa : ∀ {es : List Expr} {us : List Ty}, PCls X es us → PA X es (fun _ H Q => Q (us.map (Ty.w X.K)) H)
  | _, _, .nil => PA.imp pa_nil fun _ _ _ h => h
  | _, _, .cons h hs t => PA.imp (pa_cons h t.pa hs) fun _ _ _ q => q
theorem clsV_all {K : PySem.W.Frag} : ∀ us : List Ty, Paired ClsV (us.map (Ty.w K)) (us.map (Ty.v K))
  | [] => .nil
  | .b n :: us => .cons (.ty n) (clsV_all us)
  | .o c :: us => .cons (.own _) (clsV_all us)
theorem ce_isiT {a : Expr} {es : List Expr} {x1 : _} {p p2 pos : Pos} {f : Env → O D} {us : List Ty} (k : Kit X.K cl) (hg : Gl X "isinstance") (hm : X.mg "isinstance" = none) (ha : CE X W κ .sh a f) (hc : PCls X es us) (hl : us.length ≤ 100 := by decide)
    (he : starEach [a, .Tuple es x1 p2] X.env = (false, eval a X.env) :: starEach [.Tuple es x1 p2] X.env := by rfl) (he2 : starEach [.Tuple es x1 p2] X.env = (false, eval (.Tuple es x1 p2) X.env) :: starEach [] X.env := by rfl) (hpl : (backTo pos (starEach [.Tuple es x1 p2] X.env)).any (·.1) = false := by rfl) :
    CE X W κ .sh (.Call (.Name "isinstance" p) [a, .Tuple es x1 p2] [] pos) (mUn (dIsi cl us) f) :=
  PE.imp (pe_callB call_isiT hg hm (by decide +kernel) (pa_cons ha (pa_cons (pe_tup hc.pa) pa_nil he2) he) (by decide) (by decide) he hpl) fun σ H Q q => by
    obtain ⟨S, H0, Hs0, ρ, Hs, F, R, p⟩ := q
    refine step R p fun d v H1 Hs1 _ g1 R1 rd p1 => ?_
    refine ⟨by rw [List.length_map]; exact Nat.le_trans hl (by decide), fun t ht => ?_⟩
    cases e : dIsi cl us d with
    | stuck => rw [e] at p1; exact p1.elim
    | exc c fs => unfold dIsi at e; (repeat' split at e) <;> cases e
    | ok z =>
      rw [e] at p1
      obtain ⟨ty, b, h1, h2, h3, rfl⟩ := dIsi_ok e
      exact ⟨v, t, us.map (Ty.w X.K), ty.v X.K, us.map (Ty.v X.K), b, rfl, upd_same, clsV_all us, k.tyx ((rd.mono R1.sub.ex).mono (.new ht)) h1 h2, k.any h3, p1 _ _ (.sh (.new R1.sub ht) (.bl b))⟩
end
end T

set_option Elab.async false
set_option linter.all false
set_option maxRecDepth 100000
set_option maxHeartbeats 1000000
/-! T8: attributes, properties, methods, the making of instances. -/
namespace T
open PySem L2
theorem ext_iff {H H' : Hp} (h : Ext H H') : Ext H H' := h

/-! ### attributes -/
def fldIn (cs : List Str) (f : Str) (c : Str) (fs : List (Str × D)) : O D := if c ∈ cs then (match fs.lookup f with
  | some z => .ok z
  | none => .stuck) else .stuck
def dFld (cs : List Str) (f : Str) (d : D) : O D := match d with
  | .ins c fs => fldIn cs f c fs
  | _ => .stuck
def FldOk (K : PySem.W.Frag) (cs : List Str) (f : Str) : Prop := ∀ c ∈ cs, Cls K (He.ga K c) ∧ NoAttr K (He.ga K c) f
def fldC (K : PySem.W.Frag) (cs : List Str) (f : Str) : Bool := cs.all fun c => (He.Fa.cls c).ok K && (He.Fa.noat c f).ok K
theorem fld_by {K : PySem.W.Frag} {cs : List Str} {f : Str} (h : fldC K cs f = true) : FldOk K cs f := fun c hc => by
  have := List.all_eq_true.mp h c hc
  rw [Bool.and_eq_true] at this
  exact ⟨He.cls_ok this.1, He.noat_ok this.2⟩
theorem fldIn_ok {cs : List Str} {f c : Str} {fs : List (Str × D)} {z : D} (h : fldIn cs f c fs = .ok z) : c ∈ cs ∧ fs.lookup f = some z := by
  unfold fldIn at h
  split at h
  · rename_i hc
    split at h
    · rename_i w hw
      cases h
      exact ⟨hc, hw⟩
    · cases h
  · cases h
theorem fldIn_x {cs : List Str} {f c x : Str} {fs gs : List (Str × D)} : fldIn cs f c fs ≠ .exc x gs := fun h => by
  unfold fldIn at h
  (repeat' split at h) <;> cases h
section
variable {X : Cx} {W : WX} {κ : List Kd}
theorem ce_fld {cs : List Str} {f : Str} {e : Expr} {pos : Pos} {g : Env → O D} (hk : FldOk X.K cs f) (he : CE X W κ .sh e g) (hb : attributeBase e f X.env (eval e X.env) = eval e X.env := by rfl) : CE X W κ .sh (.Attribute e f pos) (mUn (dFld cs f) g) :=
  PE.imp (pe_fld he hb) fun σ H Q h => by
    obtain ⟨S, H0, Hs0, ρ, Hs, F, R, p⟩ := h
    refine step R p fun d v H1 Hs1 _ g1 R1 rd p1 => ?_
    cases rd <;> first | exact p1.elim | skip
    rename_i c a dx fs vfs ha hf _
    have p2 : EPost X.K W .sh σ H1 Hs1 Q (fldIn cs f c fs) := p1
    cases e : fldIn cs f c fs with
    | stuck => rw [e] at p2; exact p2.elim
    | exc x gs => exact absurd e fldIn_x
    | ok z =>
      rw [e] at p2
      obtain ⟨hc, hl⟩ := fldIn_ok e
      obtain ⟨u, h1, h2⟩ := hf.get hl
      exact ⟨a, _, dx, vfs, u, rfl, R1.sub _ _ ha, (hk c hc).1, (hk c hc).2, h1, p2 _ _ (.sh (.refl R1.sub) h2)⟩
/-- self.f within __init__ -/
def mSelf (cs : List Str) (i : Nat) (f : Str) : Env → O D := fun ρ => match ρ[i]? with
  | some (some (.ins c fs)) => fldIn cs f c fs
  | _ => .stuck
theorem ce_fldS (i : Nat) {cs : List Str} {f x : Str} {p pos : Pos} (hk : FldOk X.K cs f) {a : Addr} (hi : kAt κ i = .slf a) (hp : PE X (.Name x p) (tVar i)) (hb : attributeBase (.Name x p) f X.env (eval (.Name x p) X.env) = eval (.Name x p) X.env := by rfl) :
    CE X W κ .sh (.Attribute (.Name x p) f pos) (mSelf cs i f) :=
  PE.imp (pe_fld hp hb) fun σ H Q h => by
    obtain ⟨S, H0, Hs0, ρ, Hs, F, R, p⟩ := h
    unfold mSelf at p
    split at p
    · rename_i c fs e
      obtain ⟨v, h1, h2⟩ := R.sl i _ e
      rw [hi] at h2
      obtain ⟨c', dx, fs', vfs, rfl, h3, ha, _, hf⟩ := h2
      cases h3
      refine ⟨_, h1, ?_⟩
      cases e : fldIn cs f c fs with
      | stuck => rw [e] at p; exact p.elim
      | exc x gs => exact absurd e fldIn_x
      | ok z =>
        rw [e] at p
        obtain ⟨hc, hl⟩ := fldIn_ok e
        obtain ⟨u, h1, h2⟩ := hf.get hl
        exact ⟨a, _, dx, vfs, u, rfl, ha, (hk c hc).1, (hk c hc).2, h1, p _ _ (.sh (.refl R.sub) h2)⟩
    · exact p.elim
end

/-! ### defs at their addresses: methods, properties -/
def CalleeA (P : Program) (w : World) (K : PySem.W.Frag) (mg : Str → Option Value) (base : Heap) (f : Addr) (k : Nat) (m : List D → O D) (rr : Kd) : Prop :=
  ∃ (fd : FuncData) (ps : List Str) (dvs : List V) (ds : List Value) (dd : List D), FnOk P w K mg base (L2N.CX P w) k f fd ps (spM K dd m rr) ∧ Binds K fd ps ds ∧ Vals dvs ds ∧ ∀ Hs, Reps K Hs dd dvs
theorem CalleeA.is {P : Program} {w : World} {K : PySem.W.Frag} {mg : Str → Option Value} {base : Heap} {f : Addr} {k : Nat} {m n : List D → O D} {rr : Kd} (c : CalleeA P w K mg base f k m rr) (h : ∀ a, n a = .stuck ∨ m a = n a) : CalleeA P w K mg base f k n rr := by
  obtain ⟨fd, ps, dvs, ds, dd, h2, h4⟩ := c
  exact ⟨fd, ps, dvs, ds, dd, h2.imp fun vs H Q E q => spM_imp h q, h4⟩
theorem calleeA_of {P : Program} {w : World} {K : PySem.W.Frag} {mg : Str → Option Value} {base : Heap} {f : Addr} {fd : FuncData} {ps : List Str} {k : Nat} {rr : Kd} {m : List D → O D} (G : FnOk P w K mg base (L2N.CX P w) k f fd ps (spM K [] m rr)) (hb : Binds K fd ps []) : CalleeA P w K mg base f k m rr :=
  ⟨fd, ps, [], [], [], G, hb, .nil, fun _ => .nil⟩
/-- the getter of a property -/
def propG (K : PySem.W.Frag) (c m : Str) : Addr := match PySem.W.findIn K (.ref (He.ga K c)) m with
  | some (some (.ref p)) => (match PySem.W.recIn K p "property" with
    | some (.ref g :: _) => g
    | _ => 0)
  | _ => 0
def propB (K : PySem.W.Frag) (c m : Str) : Bool := (He.Fa.cls c).ok K && (match PySem.W.findIn K (.ref (He.ga K c)) m with
  | some (some (.ref p)) => decide (PySem.W.specialIn K (.ref p) "__get__" = some (some (.builtin "property.__get__"))) && (decide (PySem.W.takesIn K (.ref p) = some true) && (match PySem.W.recIn K p "property" with
    | some (.ref _ :: _) => true
    | _ => false))
  | _ => false)
theorem prop_by {K : PySem.W.Frag} {c m : Str} (h : propB K c m = true) : Cls K (He.ga K c) ∧ ∃ p, PropOf K (He.ga K c) m p (propG K c m) := by
  unfold propB at h
  rw [Bool.and_eq_true] at h
  refine ⟨He.cls_ok h.1, ?_⟩
  have h2 := h.2
  unfold propG
  cases e : PySem.W.findIn K (.ref (He.ga K c)) m with
  | none => rw [e] at h2; cases h2
  | some o =>
    cases o with
    | none => rw [e] at h2; cases h2
    | some v =>
      cases v with
      | ref p =>
        rw [e] at h2
        dsimp only at h2 ⊢
        simp only [Bool.and_eq_true, decide_eq_true_eq] at h2
        obtain ⟨a1, a2, a3⟩ := h2
        cases e2 : PySem.W.recIn K p "property" with
        | none => rw [e2] at a3; cases a3
        | some l =>
          cases l with
          | nil => rw [e2] at a3; cases a3
          | cons z r =>
            cases z with
            | ref g => exact ⟨p, ⟨e, a1, a2, r, e2⟩⟩
            | _ => rw [e2] at a3; cases a3
      | _ => rw [e] at h2; cases h2
theorem no_passes {P : Program} {w : World} {X : Cx} : Passes (L2N.CX P w) X (fun _ _ _ => False) := fun _ _ _ _ _ _ _ h => by
  obtain ⟨_, _, _, _, _, _, _, _, _, _, _, _, z⟩ := h
  exact z.elim
section
variable {X : Cx} {W : WX} {κ : List Kd}
def mProp (c : Str) (m : List D → O D) (f : Env → O D) : Env → O D := fun ρ => f ρ >>= fun x => match x with
  | .ins c' fs => if c' = c then noX (m [.ins c' fs]) else .stuck
  | _ => .stuck
theorem ce_prop {c : Str} {f : Str} {k : Nat} {m : List D → O D} {rr : Kd} {e : Expr} {pos : Pos} {g : Env → O D} (hp : Cls X.K (He.ga X.K c) ∧ ∃ p, PropOf X.K (He.ga X.K c) f p (propG X.K c f)) (C : CalleeA X.prog X.w X.K X.mg X.base (propG X.K c f) k m rr) (hr : Room (k + 1) X.A) (he : CE X W κ .sh e g)
    (hab : attributeBase e f X.env (eval e X.env) = eval e X.env := by rfl) : CE X W κ rr (.Attribute e f pos) (mProp c m g) := by
  obtain ⟨fd, ps, dvs, ds, dd, F, hb, hd, hdd⟩ := C
  obtain ⟨hc, p, hp⟩ := hp
  exact PE.imp (pe_prop (E := fun _ _ _ => False) he hc hp F hr hb hd no_passes hab) fun σ H Q h => by
    obtain ⟨S, H0, Hs0, ρ, Hs, F, R, p⟩ := h
    refine step R p fun d v H1 Hs1 _ g1 R1 rd p1 => ?_
    cases rd <;> first | exact p1.elim | skip
    rename_i c' a dx fs vfs ha hf _
    dsimp only at p1
    by_cases hcc : c' = c
    · subst hcc
      rw [if_pos rfl] at p1
      refine ⟨a, dx, vfs, rfl, R1.sub _ _ ha, Hs1, [.ins c' fs], R1.sub, Reps.cons (.ins ha hf) (hdd _), ?_⟩
      cases em : m [.ins c' fs] with
      | stuck => rw [em] at p1; exact p1
      | exc x gs => rw [em] at p1; exact p1.elim
      | ok z => rw [em] at p1; exact p1
    · rw [if_neg hcc] at p1; exact p1.elim
/-- o.m(..) -/
def mMeth (c n : Str) (m : List D → O D) (f : Env → O D) (g : Env → O (List D)) : Env → O D := fun ρ => f ρ >>= fun x => match x with
  | .ins c' fs => if c' = c ∧ fs.lookup n = none then g ρ >>= fun ds => m (.ins c' fs :: ds) else .stuck
  | _ => .stuck
def MetOk (K : PySem.W.Frag) (c n : Str) : Prop := Cls K (He.ga K c) ∧ Meth K (He.ga K c) n (He.ma K (He.ga K c) n)
def metC (K : PySem.W.Frag) (c n : Str) : Bool := (He.Fa.cls c).ok K && (He.Fa.meth c n).ok K
theorem met_by {K : PySem.W.Frag} {c n : Str} (h : metC K c n = true) : MetOk K c n := by
  unfold metC at h
  rw [Bool.and_eq_true] at h
  exact ⟨He.cls_ok h.1, He.meth_ok h.2⟩
def tMetX (C : Addr) (m : Str) (sp : Sp) (dvs : List V) (E : St → XK) (ta : TE) (t : TA) : TE := fun σ H Q => ta σ H fun x H1 => ∃ a dx fs, x = .ref a ∧ H1 a = some (.ins C dx fs) ∧ fs.lookup m = none ∧ t σ H1 fun vs H2 => sp (x :: vs ++ dvs) H2 Q (E σ)
theorem pe_metX {CX : CXT} {k : Nat} {C f : Addr} {fd : FuncData} {ps : List Str} {sp : Sp} {dvs : List V} {ds : List Value} {E : St → XK} {m : Str} {o e : Expr} {es : List Expr} {apos pos : Pos} {ta : TE} {t : TA} {pl : Sem Bool} (he : PE X o ta) (c : Cls X.K C) (hm : Meth X.K C m f) (F : FnOk X.prog X.w X.K X.mg X.base CX k f fd ps sp) (hr : Room k X.A) (hb : Binds X.K fd ps ds) (hd : Vals dvs ds) (hx : ∀ σ, PassesAt CX X σ (E σ)) (ha : PA X (e :: es) t)
    (ht : eval (.Call (.Attribute o m apos) (e :: es) [] pos) X.env = (do let ov ← eval o X.env; standAt apos.atName; let (f, first) ← holding [ov] (getMethod ov m pl); callWith pos f first (backTo pos (starEach (e :: es) X.env)) (backToKw pos (keywordEach [] X.env))) := by rfl)
    (hst : starEach (e :: es) X.env = (false, eval e X.env) :: starEach es X.env := by rfl) (hpl : (backTo pos (starEach es X.env)).any (·.1) = false := by rfl) : PE X (.Call (.Attribute o m apos) (e :: es) [] pos) (tMetX C m sp dvs E ta t) := by
  refine ⟨fun pins s σ H Q I h => PySem.W.methodCall_KW (pl := pl) (thn (he.run pins s σ H _ I h) fun u s1 ⟨x, H1, I1, rx, a, dx, fs, ex, ea, l, q⟩ => ?_) ht⟩
  subst ex
  obtain rfl : u = Value.ref a := rx
  refine getmeth_ok I1 ea c hm l (PySem.W.callWith_K (first := [.ref a]) (h₀ := X.base) I.ok.mod.kin hm.kp (thn (ha.run pos pins s1 σ H1 _ I1 q) fun us s2 ⟨vs, H2, I2, r, q2⟩ => ⟨I2.kIn, ?_⟩) hst hpl)
  exact run_fnSD (us := .ref a :: us) (vs := .ref a :: vs) F hr hb hd (hx σ) I2 (.cons rfl r) q2
theorem pe_metX0 {CX : CXT} {k : Nat} {C f : Addr} {fd : FuncData} {ps : List Str} {sp : Sp} {dvs : List V} {ds : List Value} {E : St → XK} {m : Str} {o : Expr} {apos pos : Pos} {ta : TE} {pl : Sem Bool} (he : PE X o ta) (c : Cls X.K C) (hm : Meth X.K C m f) (F : FnOk X.prog X.w X.K X.mg X.base CX k f fd ps sp) (hr : Room k X.A) (hb : Binds X.K fd ps ds) (hd : Vals dvs ds) (hx : ∀ σ, PassesAt CX X σ (E σ))
    (ht : eval (.Call (.Attribute o m apos) [] [] pos) X.env = (do let ov ← eval o X.env; standAt apos.atName; let (f, first) ← holding [ov] (getMethod ov m pl); callWith pos f first (backTo pos (starEach [] X.env)) (backToKw pos (keywordEach [] X.env))) := by rfl) :
    PE X (.Call (.Attribute o m apos) [] [] pos) (tMetX C m sp dvs E ta tNil) := by
  refine ⟨fun pins s σ H Q I h => PySem.W.methodCall_KW (pl := pl) (thn (he.run pins s σ H _ I h) fun u s1 ⟨x, H1, I1, rx, a, dx, fs, ex, ea, l, q⟩ => ?_) ht⟩
  subst ex
  obtain rfl : u = Value.ref a := rx
  exact getmeth_ok I1 ea c hm l (PySem.W.callWith_K0 (first := [.ref a]) I1.kIn hm.kp (run_fnSD (us := [.ref a]) (vs := [.ref a]) F hr hb hd (hx σ) I1 (.cons rfl .nil) q))
theorem met_run {K : PySem.W.Frag} {c n : Str} {m : List D → O D} {f : Env → O D} {g : Env → O (List D)} {dd : List D} {dvs : List V} {rr : Kd} {σ : L2.St} {H : Hp} {Q : VK} {E : St → XK} {t : TA} (hE : ∀ cls dx H', W cls dx σ H' → E σ cls dx H') (hdd : ∀ Hs, Reps K Hs dd dvs)
    (ht : ∀ σ H Q, tA K W κ g σ H Q → t σ H Q) (h : tE K W κ rr (mMeth c n m f g) σ H Q) : tMetX (He.ga K c) n (spM K dd m rr) dvs E (tE K W κ .sh f) t σ H Q := by
  obtain ⟨S, H0, Hs0, ρ, Hs, F, R, p⟩ := h
  refine step R p fun d v H1 Hs1 _ g1 R1 rd p1 => ?_
  cases rd <;> first | exact p1.elim | skip
  rename_i c' a dx fs vfs ha hf _
  dsimp only at p1
  by_cases hcc : c' = c ∧ fs.lookup n = none
  · rw [if_pos hcc] at p1
    obtain ⟨rfl, hl⟩ := hcc
    refine ⟨a, dx, vfs, rfl, R1.sub _ _ ha, hf.lookup_none hl, ht _ _ _ ?_⟩
    refine stepA R1 p1 fun ds vs H2 Hs2 _ g2 R2 rs p2 => ?_
    refine ⟨Hs2, .ins c' fs :: ds, R2.sub, Reps.cons ((Rep.ins ha hf).mono g2.exs) (rs.append (hdd _)), ?_⟩
    cases em : m (.ins c' fs :: ds) with
    | stuck => rw [em] at p2; exact p2
    | ok z => rw [em] at p2; exact p2
    | exc x gs => rw [em] at p2; exact fun cls dx H' q => hE _ _ _ (p2 cls dx H' q)
  · rw [if_neg hcc] at p1; exact p1.elim
theorem ce_meth {c n : Str} {k : Nat} {m : List D → O D} {rr : Kd} {o e : Expr} {es : List Expr} {apos pos : Pos} {f : Env → O D} {g : Env → O (List D)} {pl : Sem Bool} (hm : MetOk X.K c n) (C : CalleeA X.prog X.w X.K X.mg X.base (He.ma X.K (He.ga X.K c) n) k m rr) (hr : Room k X.A) (tk : L2N.Takes X W) (he : CE X W κ .sh o f) (ha : CA X W κ (e :: es) g)
    (ht : eval (.Call (.Attribute o n apos) (e :: es) [] pos) X.env = (do let ov ← eval o X.env; standAt apos.atName; let (f, first) ← holding [ov] (getMethod ov n pl); callWith pos f first (backTo pos (starEach (e :: es) X.env)) (backToKw pos (keywordEach [] X.env))) := by rfl)
    (hst : starEach (e :: es) X.env = (false, eval e X.env) :: starEach es X.env := by rfl) (hpl : (backTo pos (starEach es X.env)).any (·.1) = false := by rfl) : CE X W κ rr (.Call (.Attribute o n apos) (e :: es) [] pos) (mMeth c n m f g) := by
  obtain ⟨fd, ps, dvs, ds, dd, F, hb, hd, hdd⟩ := C
  exact PE.imp (pe_metX (E := fun σ => WE W σ) he hm.1 hm.2 F hr hb hd (fun σ => L2N.passAt tk σ) ha ht hst hpl) fun σ H Q q => met_run (fun _ _ _ h => h) hdd (fun _ _ _ h => h) q
theorem ce_meth0 {c n : Str} {k : Nat} {m : List D → O D} {rr : Kd} {o : Expr} {apos pos : Pos} {f : Env → O D} {pl : Sem Bool} (hm : MetOk X.K c n) (C : CalleeA X.prog X.w X.K X.mg X.base (He.ma X.K (He.ga X.K c) n) k m rr) (hr : Room k X.A) (tk : L2N.Takes X W) (he : CE X W κ .sh o f)
    (ht : eval (.Call (.Attribute o n apos) [] [] pos) X.env = (do let ov ← eval o X.env; standAt apos.atName; let (f, first) ← holding [ov] (getMethod ov n pl); callWith pos f first (backTo pos (starEach [] X.env)) (backToKw pos (keywordEach [] X.env))) := by rfl) : CE X W κ rr (.Call (.Attribute o n apos) [] [] pos) (mMeth c n m f mNil) := by
  obtain ⟨fd, ps, dvs, ds, dd, F, hb, hd, hdd⟩ := C
  exact PE.imp (pe_metX0 (E := fun σ => WE W σ) he hm.1 hm.2 F hr hb hd (fun σ => L2N.passAt tk σ) ht) fun σ H Q q => met_run (fun _ _ _ h => h) hdd (fun σ H Q h => by
    obtain ⟨S, H0, Hs0, ρ, Hs, F, R, p⟩ := h
    exact p [] H Hs (.refl R.sub) .nil) q
end
def putD (f : Str) (d : D) : List (Str × D) → List (Str × D)
  | [] => [(f, d)]
  | (g, x) :: r => if g = f then (g, d) :: r else (g, x) :: putD f d r
theorem FReps.put {K : PySem.W.Frag} {Hs : Hp} {f : Str} {d : D} {v : V} (r : Rep K Hs d v) : ∀ {fs : List (Str × D)} {vfs : List (Str × V)}, FReps K Hs fs vfs → FReps K Hs (putD f d fs) (putF f v vfs)
  | [], _, .nil => .cons r .nil
  | (y, z) :: fs, _, .cons (v := u) (vs := us) a b => by
    rw [show putF f v ((y, u) :: us) = (if y = f then (y, v) :: us else (y, u) :: putF f v us) from rfl, putD]
    by_cases h : y = f
    · rw [if_pos h, if_pos h]
      exact .cons r b
    · rw [if_neg h, if_neg h]
      exact .cons a (FReps.put r b)
theorem FReps.length {K : PySem.W.Frag} {Hs : Hp} : ∀ {fs : List (Str × D)} {vfs : List (Str × V)}, FReps K Hs fs vfs → fs.length = vfs.length
  | _, _, .nil => rfl
  | _, _, .cons _ b => by simp [FReps.length b]

/-! ### self.f = e within __init__ -/
section
variable {X : Cx} {c : Cf} {κ : List Kd}
def sSetA (cs : List Str) (i : Nat) (n : Str) (f : Env → O D) : Env → SO := sE f fun d ρ => match ρ[i]? with
  | some (some (.ins c fs)) => if c ∈ cs ∧ fs.length < 900 then .nx (ρ.set i (some (.ins c (putD n d fs)))) else .stuck
  | _ => .stuck
theorem cs_setA (i : Nat) {cs : List Str} {n x : Str} {p p' pos : Pos} {e : Expr} {f : Env → O D} (hk : FldOk X.K cs n) {a : Addr} (hi : kAt κ i = .slf a) (hx : c.κx κ) (hp : PE X (.Name x p) (tVar i)) (he : CE X c.W κ .sh e f)
    (hs : swapsWith e (some (.Attribute (.Name x p) n p')) pos.line X.env = pure false := by rfl) : CS X c κ κ (.Assign [.Attribute (.Name x p) n p'] e pos) (sSetA cs i n f) :=
  PS.imp (ps_fld hp he hs) fun Dn σ H q => by
    obtain ⟨S, H0, Hs0, ρ, Hs, F, hS, R, p⟩ := q
    refine stepS hx R p fun d v H1 _ q p1 => ?_
    obtain ⟨Hs1, g1, rd⟩ := q.out
    have R1 := R.grow g1
    split at p1
    · rename_i c0 fs e
      split at p1
      · rename_i hc
        obtain ⟨u, h1, h2⟩ := R1.sl i _ e
        rw [hi] at h2
        obtain ⟨c', dx, fs', vfs, rfl, h3, ha, hF, hf⟩ := h2
        cases h3
        refine ⟨_, h1, a, _, dx, vfs, rfl, ha, (hk c0 hc.1).1, (hk c0 hc.1).2, by rw [← hf.length]; exact Nat.lt_of_lt_of_le hc.2 (by decide), ?_⟩
        have hne : Hs1 a = none := (R1.al i a (by rw [hF]; exact List.mem_cons_self)).2
        obtain ⟨F', R'⟩ := R1.mut (H' := upd H1 a (.ins (He.ga X.K c0) dx (putF n v vfs))) (k := .slf a) (d' := .ins c0 (putD n d fs)) (v := .ref a) (G := [a]) e h1 (fun b hb _ => upd_ne fun z => hb (by rw [hF, z]; exact List.mem_cons_self))
          (R1.sub.own hne fun _ h => nomatch h) (fun b hb => by
            by_cases q : b = a
            · rw [q, upd_same]; simp
            · rw [upd_ne q]; exact hb) (by simp) (fun b hb => .inl (by rw [hF]; exact hb)) (by
            rw [hi]
            exact ⟨c0, dx, _, _, rfl, rfl, upd_same, rfl, hf.put rd⟩)
        exact p1 σ _ Hs1 F' R' g1.exs
      · exact p1.elim
    · exact p1.elim
end

/-! ### the making of instances -/
structure InGrow (a : Addr) (H Hs H' Hs' : Hp) : Prop where
  ex : ∀ b o, b ≠ a → H b = some o → H' b = some o
  exs : Ext Hs Hs'
  sub : Sub Hs' H'
  fr : ∀ b o, Hs' b = some o → Hs b = none → H b = none
def spI (K : PySem.W.Frag) (c : Str) (dd : List D) (m : List D → O D) : Sp := fun vs H Q E => ∃ Hs ds a us dx, vs = .ref a :: us ∧ Sub Hs H ∧ Reps K Hs (ds ++ dd) us ∧ H a = some (.ins (He.ga K c) dx []) ∧ Hs a = none ∧ match m ds with
  | .stuck => False
  | .ok d => ∀ H' Hs' fs dx' vfs, InGrow a H Hs H' Hs' → d = .ins c fs → H' a = some (.ins (He.ga K c) dx' vfs) → FReps K Hs' fs vfs → Q .non H'
  | .exc x fs => ∀ cls dx' H' Hs', InGrow a H Hs H' Hs' → XRep K Hs' x fs cls dx' → E cls dx' H'
theorem spI_len {K : PySem.W.Frag} {c : Str} {n : Nat} {dd : List D} {m : List D → O D} (ar : Ar n m) {vs : List V} {H : Hp} {Q : VK} {E : XK} (h : spI K c dd m vs H Q E) : vs.length = n + dd.length + 1 := by
  obtain ⟨Hs, ds, a, us, dx, rfl, _, r, _, _, q⟩ := h
  rw [List.length_cons, ← r.length, List.length_append]
  by_cases e : ds.length = n
  · rw [e]
  · rw [ar ds e] at q; exact q.elim
/-- c(..) at level k -/
def CalleeI (P : Program) (w : World) (K : PySem.W.Frag) (mg : Str → Option Value) (base : Heap) (c : Str) (k : Nat) (m : List D → O D) : Prop :=
  ∃ (f : Addr) (fd : FuncData) (ps : List Str) (dvs : List V) (ds : List Value) (dd : List D), mg c = some (.ref (He.ga K c)) ∧ Mk K (He.ga K c) f ∧ FnOk P w K mg base (L2N.CX P w) k f fd ps (spI K c dd m) ∧ Binds K fd ps ds ∧ Vals dvs ds ∧ ∀ Hs, Reps K Hs dd dvs
theorem CalleeI.is {P : Program} {w : World} {K : PySem.W.Frag} {mg : Str → Option Value} {base : Heap} {c : Str} {k : Nat} {m n : List D → O D} (C : CalleeI P w K mg base c k m) (h : ∀ a, n a = .stuck ∨ m a = n a) : CalleeI P w K mg base c k n := by
  obtain ⟨f, fd, ps, dvs, ds, dd, h1, h2, h3, h4⟩ := C
  refine ⟨f, fd, ps, dvs, ds, dd, h1, h2, h3.imp fun vs H Q E q => ?_, h4⟩
  obtain ⟨Hs, es, a, us, dx, q1, q2, q3, q4, q5, q6⟩ := q
  refine ⟨Hs, es, a, us, dx, q1, q2, q3, q4, q5, ?_⟩
  rcases h es with z | z
  · rw [z] at q6; exact q6.elim
  · rw [z]; exact q6
section
variable {X : Cx} {W : WX} {κ : List Kd}
def tMakeX (C : Addr) (sp : Sp) (dvs : List V) (E : St → XK) (t : TA) : TE := fun σ H Q => t σ H fun vs H1 => ∀ x dx, H1 x = none → H1 dx = none → dx ≠ x → sp (.ref x :: (vs ++ dvs)) (upd (upd H1 dx (.own x)) x (.ins C dx [])) (fun v H2 => v = .non ∧ Q (.ref x) H2) (E σ)
theorem run_makeX {CX : CXT} {k : Nat} {f C : Addr} {fd : FuncData} {ps : List Str} {sp : Sp} {dvs : List V} {ds us : List Value} {vs : List V} {E : XK} {Q : VK} {pins : List (Addr × Obj)} {σ : St} {H : Hp} {s : Shared} (M : Mk X.K C f) (F : FnOk X.prog X.w X.K X.mg X.base CX k f fd ps sp) (hr : Room (k + 1) X.A) (hb : Binds X.K fd ps ds) (hd : Vals dvs ds)
    (hx : PassesAt CX X σ E) (I : Inv X pins σ H s) (r : Vals vs us) (h : ∀ x dx, H x = none → H dx = none → dx ≠ x → sp (.ref x :: (vs ++ dvs)) (upd (upd H dx (.own x)) x (.ins C dx [])) (fun v H2 => v = .non ∧ Q (.ref x) H2) E) : wpAny (model X.prog X.w) X.A (call (.ref C) us) (EP X pins σ Q) X.xe s := by
  have J := Inv.made (C := C) I
  have hq := h (s.heap.objs.size + 1) s.heap.objs.size (I.hok.fresh (Nat.le_succ _)) (I.hok.fresh (Nat.le_refl _)) (Nat.ne_of_lt (Nat.lt_succ_self _))
  have rr : Vals (V.ref (s.heap.objs.size + 1) :: (vs ++ dvs)) (Value.ref (s.heap.objs.size + 1) :: (us ++ ds)) := .cons rfl (r.append hd)
  have hl : (Value.ref (s.heap.objs.size + 1) :: us ++ ds).length = ps.length := (F.len _ _ _ _ hq ▸ rr.length).symm
  refine wpAny_call (make_map (f := f) I.kIn M.makes M.init (beq_iff_eq.mp M.fn) (codeAny_mono (F.run _ X.stack _ _ ⟨Value.ref (s.heap.objs.size + 1) :: us, []⟩ (Value.ref (s.heap.objs.size + 1) :: (us ++ ds)) _ _ E (hr.make C us []) (J.env0.make C us []) (hb _ (Value.ref (s.heap.objs.size + 1) :: us) J.kIn hl) rr hq) fun r s' hq' => ?_))
  cases r with
  | error e => exact hx pins _ _ e s' J hq'
  | ok fl =>
    cases fl with
    | ret u =>
      obtain ⟨v, H', I3, rv, ev, q3⟩ := J.after hq'
      cases ev
      exact ⟨rv, V.ref (s.heap.objs.size + 1), H', I3, rfl, q3⟩
    | next => cases hq'
    | brk => cases hq'
    | cont => cases hq'
theorem pe_makeX {CX : CXT} {k : Nat} {f C : Addr} {x : Str} {fd : FuncData} {ps : List Str} {sp : Sp} {dvs : List V} {ds : List Value} {E : St → XK} {e : Expr} {es : List Expr} {p pos : Pos} {t : TA} (M : Mk X.K C f) (F : FnOk X.prog X.w X.K X.mg X.base CX k f fd ps sp) (hr : Room (k + 1) X.A) (hg : Gl X x) (hm : X.mg x = some (.ref C)) (hb : Binds X.K fd ps ds) (hd : Vals dvs ds) (hx : ∀ σ, PassesAt CX X σ (E σ)) (ha : PA X (e :: es) t)
    (hdb : (x == ("__debug__" : Str)) = false) (he : starEach (e :: es) X.env = (false, eval e X.env) :: starEach es X.env) (hpl : (backTo pos (starEach es X.env)).any (·.1) = false) : PE X (.Call (.Name x p) (e :: es) [] pos) (tMakeX C sp dvs E t) :=
  ⟨fun pins s σ H Q I h => wpAny_Call_Name_kw (ld_glob I hg hm (PySem.W.callWith_K (h₀ := X.base) I.ok.mod.kin M.kp (thn (ha.run pos pins s σ H _ I h) fun us s1 ⟨vs, H1, I1, r, q⟩ => ⟨I1.kIn, run_makeX M F hr hb hd (hx σ) I1 r q⟩) he hpl) hdb)⟩
theorem InGrow.grow {a dx : Addr} {o u : HO} {H1 Hs1 H' Hs' : Hp} (ha : H1 a = none) (hd : H1 dx = none) (g : InGrow a (upd (upd H1 dx o) a u) Hs1 H' Hs') : Grow H1 Hs1 H' Hs' := ⟨fun b z e => g.ex b z (ne_of_none e ha) (by rw [upd_ne (ne_of_none e ha), upd_ne (ne_of_none e hd)]; exact e), g.exs, g.sub, fun b z e n => by
  have q := g.fr b z e n
  by_cases h1 : b = a
  · rw [h1]; exact ha
  · rw [upd_ne h1] at q
    by_cases h2 : b = dx
    · rw [h2]; exact hd
    · rw [upd_ne h2] at q; exact q⟩
theorem make_run {K : PySem.W.Frag} {c : Str} {m : List D → O D} {f : Env → O (List D)} {dd : List D} {dvs : List V} {σ : L2.St} {H : Hp} {Q : VK} {E : St → XK} (hE : ∀ cls dx H', W cls dx σ H' → E σ cls dx H') (hdd : ∀ Hs, Reps K Hs dd dvs) (h : tE K W κ .sh (mApp m f) σ H Q) :
    tMakeX (He.ga K c) (spI K c dd m) dvs E (tA K W κ f) σ H Q := by
  obtain ⟨S, H0, Hs0, ρ, Hs, F, R, p⟩ := h
  refine stepA R p fun ds vs H1 Hs1 _ g1 R1 rs p1 => fun x dx hx hdx hne => ?_
  refine ⟨Hs1, ds, x, vs ++ dvs, dx, rfl, (R1.sub.own (R1.sub.none hdx) (fun _ h => by cases h)).own (R1.sub.none hx) (fun _ h => by cases h), rs.append (hdd _), upd_same, R1.sub.none hx, ?_⟩
  cases em : m ds with
  | stuck => rw [em] at p1; exact p1
  | ok d =>
    rw [em] at p1
    intro H' Hs' fs dx' vfs g e ha hf
    subst e
    have gg := g.grow hx hdx
    have hs : Hs' x = none := by
      cases q : Hs' x with
      | none => rfl
      | some o =>
        have z := g.fr x o q (R1.sub.none hx)
        rw [upd_same] at z; cases z
    refine ⟨rfl, p1 _ _ (.sh (Hs' := join Hs' H' [x]) ⟨gg.ex, gg.exs.trans (join_ext gg.sub), join_sub gg.sub, fun b o e n => ?_⟩ (.ins (vfs := vfs) (dx := dx') (by rw [join_in (List.mem_singleton.mpr rfl)]; exact ha) (hf.mono (join_ext gg.sub))))⟩
    by_cases hb : b ∈ [x]
    · rw [List.mem_singleton.mp hb]; exact hx
    · rw [join_out hb] at e; exact gg.fr b o e n
  | exc y gs =>
    rw [em] at p1
    exact fun cls dx' H' Hs' g xr => hE _ _ _ (p1 cls dx' H' ⟨Hs', g.grow hx hdx, xr⟩)
theorem ce_make {c : Str} {k : Nat} {m : List D → O D} {e : Expr} {es : List Expr} {p pos : Pos} {f : Env → O (List D)} (C : CalleeI X.prog X.w X.K X.mg X.base c k m) (hr : Room (k + 1) X.A) (tk : L2N.Takes X W) (hg : Gl X c) (ha : CA X W κ (e :: es) f)
    (hdb : (c == ("__debug__" : Str)) = false := by decide) (he : starEach (e :: es) X.env = (false, eval e X.env) :: starEach es X.env := by rfl) (hpl : (backTo pos (starEach es X.env)).any (·.1) = false := by rfl) : CE X W κ .sh (.Call (.Name c p) (e :: es) [] pos) (mApp m f) := by
  obtain ⟨fa, fd, ps, dvs, ds, dd, hm, M, F, hb, hd, hdd⟩ := C
  exact PE.imp (pe_makeX (E := fun σ => WE W σ) M F hr hg hm hb hd (fun σ => L2N.passAt tk σ) ha hdb he hpl) fun σ H Q q => make_run (fun _ _ _ h => h) hdd q
end
/-! ### __init__ by its body -/
def endI (c0 : Str) : SO → O D
  | .nx ρ => (match ρ[0]? with
    | some (some (D.ins c fs)) => if c = c0 then .ok (.ins c fs) else .stuck
    | _ => .stuck)
  | .exc _ c fs => .exc c fs
  | _ => .stuck
def mInit (c : Str) (N n : Nat) (g : Env → SO) : List D → O D := fun ds => if ds.length = n then endI c (g (some (.ins c []) :: startD (N - 1) ds)) else .stuck
theorem ar_init {c : Str} {N n : Nat} {g : Env → SO} : Ar n (mInit c N n g) := fun ds h => if_neg h
def cInit (E : XK) : Cf := { W := fun cls d _ H => E cls d H, rr := .sh, κl := [], κx := fun _ => True, pu := false }
theorem kAt_cons {k : Kd} {κ : List Kd} (i : Nat) : kAt (k :: κ) (i + 1) = kAt κ i := by unfold kAt; simp
theorem rel_init {K : PySem.W.Frag} {x c : Str} {N : List Str} {κ : List Kd} {ds : List D} {vs : List V} {H Hs : Hp} {a dx : Addr} (hk : ∀ i, kAt κ i = .sh) (sub : Sub Hs H) (r : Reps K Hs ds vs) (ha : H a = some (.ins (He.ga K c) dx [])) (hs : Hs a = none) :
    Rel K [a] H Hs (.slf a :: κ) (some (.ins c []) :: startD N.length ds) (L2.start (x :: N) (.ref a :: vs)) H Hs (fun i => if i = 0 then [a] else []) := by
  have e : L2.start (x :: N) (.ref a :: vs) = some (.ref a) :: L2.start N vs := by unfold L2.start; simp
  rw [e]
  have R := rel_start (K := K) (N := N) hk sub r
  refine ⟨by rw [List.length_cons, List.length_cons, R.len], fun i d h => ?_, fun i => ?_, fun i j b h1 h2 => ?_, fun i b h => ?_, fun i b h => ?_, .refl _, sub, fun b o e _ => e, fun b h => h, fun b o e n => by rw [e] at n; cases n⟩
  · cases i with
    | zero =>
      have e : D.ins c [] = d := by simpa using h
      subst e
      exact ⟨.ref a, rfl, c, dx, [], [], rfl, rfl, ha, rfl, .nil⟩
    | succ i =>
      obtain ⟨v, h1, h2⟩ := R.sl i d h
      exact ⟨v, h1, by rw [kAt_cons, if_neg (Nat.succ_ne_zero _)]; exact h2⟩
  · split <;> simp
  · split at h1
    · split at h2
      · omega
      · cases h2
    · cases h1
  · split at h
    · have e : b = a := by simpa using h
      subst e
      exact ⟨by rw [ha]; simp, hs⟩
    · cases h
  · split at h
    · rename_i hi
      have e : b = a := by simpa using h
      subst e
      exact ⟨hs, .inr ⟨List.mem_singleton.mpr rfl, hi⟩⟩
    · cases h
theorem Rel.inGrow {K : PySem.W.Frag} {a : Addr} {H0 Hs0 : Hp} {κ : List Kd} {ρ : Env} {σ : L2.St} {H Hs : Hp} {F : Foot} (R : Rel K [a] H0 Hs0 κ ρ σ H Hs F) : InGrow a H0 Hs0 H Hs :=
  ⟨fun b o h e => R.old b o e (fun z => h (List.mem_singleton.mp z)), R.g, R.sub, R.new⟩
section
variable {P : Program} {w : World} {K : PySem.W.Frag} {mg : Str → Option Value} {base : Heap} {x qual : Str} {params : Arguments} {body : List Stmt} {scope : Scope} {dvs : List V} {kws : List (Str × V)} {f : Addr} {fd : FuncData}
theorem init_ok {c s0 : Str} {N ps : List Str} {k : Nat} {κ : List Kd} {κ' : Addr → List Kd} {g : Env → SO} (F : FunD K x qual params body scope dvs kws f fd) (S : FnScope (s0 :: N) (s0 :: ps) scope) (hκ : ∀ i, kAt κ i = .sh) (hκ' : ∀ a, kAt (κ' a) 0 = .slf a)
    (hb : ∀ (a : Addr) (cdv : Value) (A : Around) (outer : List PySem.Env) (s : Shared) (H : Hp) (E : XK), Room k (A.deeper (PyProof.Rows.envOfC qual scope s.heap.objs.size f cdv)) →
      CSs (cxOf (L2N.CX P w) P w K mg base (s0 :: N) qual scope f cdv A outer s H E) (cInit E) (.slf a :: κ) (κ' a) body g) : FnOk P w K mg base (L2N.CX P w) (k + 1) f fd (s0 :: ps) (spI K c [] (mInit c (N.length + 1) ps.length g)) := by
  refine F.ok S (fun vs H Q E h => by have e := spI_len ar_init h; rw [e]; rfl) fun cdv A outer s H vs Q E hr h => ?_
  obtain ⟨Hs, ds, a, us, dx, rfl, sub, r, ha, hs, q⟩ := h
  refine ⟨_, hb a cdv A outer s H E hr, ?_⟩
  rw [List.append_nil] at r
  refine ⟨[a], H, Hs, some (.ins c []) :: startD N.length ds, Hs, fun i => if i = 0 then [a] else [], (fun z => by cases z), rel_init hκ sub r ha hs, ?_⟩
  unfold mInit at q
  by_cases hl : ds.length = ps.length
  · rw [if_pos hl] at q
    rw [Nat.add_sub_cancel] at q
    cases e : g (some (.ins c []) :: startD N.length ds) with
    | stuck => rw [e] at q; exact q
    | bk ρ => rw [e] at q; exact q.elim
    | ct ρ => rw [e] at q; exact q.elim
    | rt d => rw [e] at q; exact q.elim
    | nx ρ =>
      rw [e] at q
      intro σ' H' Hs' F' R' xx
      unfold endI at q
      dsimp only at q
      cases h0 : ρ[0]? with
      | none => rw [h0] at q; exact q.elim
      | some o =>
        rw [h0] at q
        cases o with
        | none => exact q.elim
        | some d =>
          cases d with
          | ins c1 fs =>
            obtain ⟨v, h1, h2⟩ := R'.sl 0 _ h0
            rw [hκ'] at h2
            obtain ⟨c2, dx2, fs2, vfs, rfl, h3, h4, h5, h6⟩ := h2
            cases h3
            dsimp only at q
            by_cases hc : c1 = c
            · rw [if_pos hc] at q
              subst hc
              exact q H' Hs' fs dx2 vfs R'.inGrow rfl h4 h6
            · rw [if_neg hc] at q; exact q.elim
          | _ => exact q.elim
    | exc ρ y gs =>
      rw [e] at q
      exact fun κ'' cls dx' σ' H' Hs' F' _ R' xx xr => q cls dx' H' Hs' R'.inGrow xr
  · rw [if_neg hl] at q; exact q.elim
end
end T

set_option Elab.async false
set_option linter.all false
set_option maxRecDepth 100000
set_option maxHeartbeats 2000000
/-! T9: errors: their classes, raise, try .. except .. as e, what a suite asks of e, calls within a suite. -/
namespace T
open PySem L2

/-! ### the error classes -/
def xis (base : Str) (c : Str) : Ty → Bool
  | .o e => decide (e = c) || decide (e = base)
  | .b n => decide (n = "ValueError")
def oexB (K : PySem.W.Frag) (C : Addr) : Bool := match K.lookup C with
  | some ⟨.type "type", _, .cls cd, sl⟩ => (match cd.mro, sl.toList with
    | .ref C' :: bm, [_, _, _, _, some (.builtin n), _] => C' == C && n == "ValueError.__new__" && !cd.hasDel && cd.hasDict && PySem.HandSPX.refsVE bm
    | _, _ => false)
  | _ => false
theorem oexB_ok {K : PySem.W.Frag} {C : Addr} (h : oexB K C = true) : ∃ nm q N bs bm sn sub ab col dd k0 k1 k2 k3 k5, K.lookup C = some (excClassObj nm q C N bs bm true sn sub ab col dd k0 k1 k2 k3 k5 "ValueError.__new__") ∧ PySem.HandSPX.refsVE bm = true := by
  unfold oexB at h
  split at h
  · rename_i dd cd sl ho
    split at h
    · rename_i C' bm k0 k1 k2 k3 n k5 hm hs
      simp only [Bool.and_eq_true, beq_iff_eq, Bool.not_eq_true'] at h
      obtain ⟨⟨⟨⟨rfl, rfl⟩, hdel⟩, hdict⟩, hr⟩ := h
      obtain ⟨nm, bs, mro, ns, qn, hd, sn, sub, ab, col, del⟩ := cd
      dsimp only at hm hdel hdict
      subst hm hdel hdict
      have es : sl = #[k0, k1, k2, k3, some (.builtin "ValueError.__new__"), k5] := by
        cases sl with
        | mk l => simp only at hs; rw [hs]
      subst es
      exact ⟨_, _, _, _, bm, _, _, _, _, _, _, _, _, _, _, ho, hr⟩
    · cases h
  · cases h
/-- the text's error classes errs below base (over ValueError); us: the classes that isinstance is asked with; fns: the fields -/
structure ErrK (K : PySem.W.Frag) (base : Str) (errs : List Str) (us : List Ty) (fns : List Str) : Prop where
  oex : ∀ c ∈ errs, OexC K (He.ga K c)
  hcl : ∀ c ∈ errs, (PySem.W.clsIn K (He.ga K c)).isSome = true
  xf : ∀ c ∈ errs, XfC K (He.ga K c)
  ob : ∀ c ∈ errs, PySem.W.findIn K (.ref (He.ga K c)) "__class__" = some (some (.builtin "object.__class__")) ∧ PySem.W.mroIn K (He.ga K c) (.type "object") = some true
  spc : PySem.W.specialIn K (.builtin "object.__class__") "__get__" = some (some (.builtin "getset_descriptor.__get__"))
  tak : PySem.W.takesIn K (.builtin "object.__class__") = some true
  one : ∀ c ∈ errs, ∀ u ∈ us, PySem.W.kitOne K (.ref (He.ga K c)) (u.v K) = some (xis base c u)
  exm : ∀ c ∈ errs, PySem.W.exmOne K (.ref (He.ga K c)) (.ref (He.ga K base)) = some true
  no : ∀ c ∈ errs, ∀ f ∈ fns, PySem.W.findIn K (.ref (He.ga K c)) f = some none
def errC (K : PySem.W.Frag) (base : Str) (errs : List Str) (us : List Ty) (fns : List Str) : Bool :=
  errs.all (fun c => (oexB K (He.ga K c) && (decide (PySem.W.findIn K (.ref (He.ga K c)) "__setattr__" = some (some (.builtin "object.__setattr__"))) && (decide (PySem.W.subIn K (.ref (He.ga K c)) (.type "BaseException") = some true) && (decide (PySem.W.typeIn K (.ref (He.ga K c)) = some (.type "type")) && PySem.W.keepIn K (.ref (He.ga K c)))))) &&
    ((PySem.W.clsIn K (He.ga K c)).isSome && (xfB K (He.ga K c) && (decide (PySem.W.findIn K (.ref (He.ga K c)) "__class__" = some (some (.builtin "object.__class__"))) && decide (PySem.W.mroIn K (He.ga K c) (.type "object") = some true)))) &&
    (us.all (fun u => decide (PySem.W.kitOne K (.ref (He.ga K c)) (u.v K) = some (xis base c u))) && (decide (PySem.W.exmOne K (.ref (He.ga K c)) (.ref (He.ga K base)) = some true) && fns.all fun f => decide (PySem.W.findIn K (.ref (He.ga K c)) f = some none)))) &&
  (decide (PySem.W.specialIn K (.builtin "object.__class__") "__get__" = some (some (.builtin "getset_descriptor.__get__"))) && decide (PySem.W.takesIn K (.builtin "object.__class__") = some true))
theorem err_by {K : PySem.W.Frag} {base : Str} {errs : List Str} {us : List Ty} {fns : List Str} (h : errC K base errs us fns = true) : ErrK K base errs us fns := by
  unfold errC at h
  rw [Bool.and_eq_true, Bool.and_eq_true] at h
  obtain ⟨h, h2, h3⟩ := h
  have h4 : ∀ c ∈ errs, _ := fun c hc => List.all_eq_true.mp h c hc
  simp only [Bool.and_eq_true, decide_eq_true_eq] at h4
  refine ⟨fun c hc => ?_, fun c hc => (h4 c hc).1.2.1, fun c hc => xfB_ok (h4 c hc).1.2.2.1, fun c hc => ⟨(h4 c hc).1.2.2.2.1, (h4 c hc).1.2.2.2.2⟩, of_decide_eq_true h2, of_decide_eq_true h3, fun c hc u hu => ?_, fun c hc => (h4 c hc).2.2.1, fun c hc f hf => ?_⟩
  · obtain ⟨a1, a2, a3, a4, a5⟩ := (h4 c hc).1.1
    exact ⟨oexB_ok a1, a2, a3, a4, a5⟩
  · exact of_decide_eq_true (List.all_eq_true.mp (h4 c hc).2.1 u hu)
  · exact of_decide_eq_true (List.all_eq_true.mp (h4 c hc).2.2.2 f hf)

/-! ### their __init__ -/
/-- what __init__(self, y1, ..) of an error promises -/
def spX (K : PySem.W.Frag) (c : Str) (ns : List Str) : Sp := fun vs H Q _ => ∃ a ys, vs = .ref a :: ys ∧ ys.length = ns.length ∧ H a = some (exo a (He.ga K c) none) ∧ ∀ d, H d = none → d ≠ a → Q .non (upd (upd H d (exd d (ns.zip ys).reverse)) a (exo a (He.ga K c) (some d)))
def tInX (K : PySem.W.Frag) : List (Nat × Str) → TS
  | [] => tNext
  | (i, f) :: r => tSeq (tOst K f (tVar 0) (tVar i)) (tInX K r)
theorem upd_upd {H : Hp} {a : Addr} {o u : HO} : upd (upd H a o) a u = upd H a u := by
  funext b
  by_cases h : b = a
  · rw [h, upd_same, upd_same]
  · rw [upd_ne h, upd_ne h, upd_ne h]
theorem upd_swap {H : Hp} {a b : Addr} {o u : HO} (h : a ≠ b) : upd (upd H a o) b u = upd (upd H b u) a o := by
  funext c
  by_cases h1 : c = a
  · subst h1; rw [upd_ne h, upd_same, upd_same]
  · by_cases h2 : c = b
    · subst h2; rw [upd_same, upd_ne h1, upd_same]
    · rw [upd_ne h2, upd_ne h1, upd_ne h1, upd_ne h2]
theorem inX_rest {K : PySem.W.Frag} {C a d : Addr} {H : Hp} (T : OexC K C) (hne : d ≠ a) : ∀ (l : List (Nat × Str)) (ys : List V) (fs : List (Str × V)) (σ : L2.St) (D : Ends), σ[0]? = some (some (.ref a)) → (∀ p ∈ l, PySem.W.findIn K (.ref C) p.2 = some none) →
    ys.length = l.length → (∀ (j i : Nat) (f : Str) (y : V), l[j]? = some (i, f) → ys[j]? = some y → σ[i]? = some (some y)) → fs.length + l.length ≤ 900 →
    D.nx σ (upd (upd H d (exd d (((l.map (·.2)).zip ys).reverse ++ fs))) a (exo a C (some d))) → tInX K l D σ (upd (upd H d (exd d fs)) a (exo a C (some d)))
  | [], ys, fs, σ, D, _, _, _, _, _, q => q
  | (i, f) :: r, ys, fs, σ, D, h0, hn, hl, hv, hz, q => by
    cases ys with
    | nil => cases hl
    | cons y ys =>
      refine ⟨y, hv 0 i f y rfl rfl, .ref a, h0, a, C, rfl, T, hn _ List.mem_cons_self, .inr ⟨d, fs, upd_same, ?_, by rw [List.length_cons] at hz; omega, ?_⟩⟩
      · rw [upd_ne hne, upd_same]
      · have e : upd (upd (upd H d (exd d fs)) a (exo a C (some d))) d (exd d ((f, y) :: fs)) = upd (upd H d (exd d ((f, y) :: fs))) a (exo a C (some d)) := by
          rw [← upd_swap (Ne.symm (Ne.symm hne)), upd_upd]
        rw [e]
        refine inX_rest T hne r ys ((f, y) :: fs) σ D h0 (fun p hp => hn p (List.mem_cons_of_mem _ hp)) (by simpa using hl) (fun j i f y h1 h2 => hv (j + 1) i f y h1 h2) (by rw [List.length_cons] at hz ⊢; omega) ?_
        rw [show (((i, f) :: r).map (·.2)).zip (y :: ys) = (f, y) :: (r.map (·.2)).zip ys from rfl, List.reverse_cons, List.append_assoc] at q
        exact q
theorem inX_all {K : PySem.W.Frag} {C a : Addr} {H : Hp} (T : OexC K C) {i : Nat} {f : Str} {r : List (Nat × Str)} {y : V} {ys : List V} {σ : L2.St} {D : Ends} (h0 : σ[0]? = some (some (.ref a))) (hn : ∀ p ∈ (i, f) :: r, PySem.W.findIn K (.ref C) p.2 = some none) (hl : ys.length = r.length) (ha : H a = some (exo a C none))
    (hv : ∀ (j k : Nat) (g : Str) (z : V), ((i, f) :: r)[j]? = some (k, g) → (y :: ys)[j]? = some z → σ[k]? = some (some z)) (hz : r.length ≤ 800) (q : ∀ d, H d = none → d ≠ a → D.nx σ (upd (upd H d (exd d ((f :: r.map (·.2)).zip (y :: ys)).reverse)) a (exo a C (some d)))) : tInX K ((i, f) :: r) D σ H := by
  refine ⟨y, hv 0 i f y rfl rfl, .ref a, h0, a, C, rfl, T, hn _ List.mem_cons_self, .inl ⟨ha, fun d hd hne => ?_⟩⟩
  refine inX_rest T hne r ys [(f, y)] σ D h0 (fun p hp => hn p (List.mem_cons_of_mem _ hp)) hl (fun j k g z h1 h2 => hv (j + 1) k g z h1 h2) (by rw [List.length_singleton]; omega) ?_
  have q' := q d hd hne
  rw [List.zip_cons_cons, List.reverse_cons] at q'
  exact q'
section
variable {P : Program} {w : World} {K : PySem.W.Frag} {mg : Str → Option Value} {base : Heap} {x qual : Str} {params : Arguments} {body : List Stmt} {scope : Scope} {f : Addr} {fd : FuncData}
theorem idx_get : ∀ (ns : List Str) (n j : Nat), (ns.zipIdx n)[j]? = (ns[j]?).map fun f => (f, n + j)
  | [], n, j => by simp
  | a :: r, n, 0 => by simp
  | a :: r, n, j + 1 => by
    rw [List.zipIdx_cons, List.getElem?_cons_succ, List.getElem?_cons_succ, idx_get]
    congr 1; funext f; rw [show n + 1 + j = n + (j + 1) by omega]
def slotsX : List Str → Nat → List (Nat × Str)
  | [], _ => []
  | f :: r, n => (n, f) :: slotsX r (n + 1)
theorem slotsX_get : ∀ (ns : List Str) (n j : Nat), (slotsX ns n)[j]? = (ns[j]?).map fun f => (n + j, f)
  | [], n, j => by simp [slotsX]
  | a :: r, n, 0 => by simp [slotsX]
  | a :: r, n, j + 1 => by
    rw [slotsX, List.getElem?_cons_succ, List.getElem?_cons_succ, slotsX_get]
    congr 1; funext f; rw [show n + 1 + j = n + (j + 1) by omega]
theorem slotsX_len : ∀ (ns : List Str) (n : Nat), (slotsX ns n).length = ns.length
  | [], _ => rfl
  | _ :: r, n => by rw [slotsX, List.length_cons, List.length_cons, slotsX_len]
theorem slotsX_map : ∀ (ns : List Str) (n : Nat), (slotsX ns n).map (·.2) = ns
  | [], _ => rfl
  | _ :: r, n => by rw [slotsX, List.map_cons, slotsX_map]
theorem slotsX_mem : ∀ {ns : List Str} {n : Nat} {p : Nat × Str}, p ∈ slotsX ns n → p.2 ∈ ns
  | [], _, _, h => nomatch h
  | a :: r, n, p, h => by
    rcases List.mem_cons.mp h with e | h
    · rw [e]; exact List.mem_cons_self
    · exact List.mem_cons_of_mem _ (slotsX_mem h)
theorem xinit_ok {c s0 n1 : Str} {ns : List Str} {k : Nat} (F : FunD K x qual params body scope [] [] f fd) (S : FnScope (s0 :: n1 :: ns) (s0 :: n1 :: ns) scope) (T : OexC K (He.ga K c)) (hn : ∀ f ∈ n1 :: ns, PySem.W.findIn K (.ref (He.ga K c)) f = some none) (hz : ns.length ≤ 800)
    (hb : ∀ (cdv : Value) (A : Around) (outer : List PySem.Env) (s : Shared) (H : Hp) (E : XK), Room k (A.deeper (PyProof.Rows.envOfC qual scope s.heap.objs.size f cdv)) →
      PSs (cxOf (L2N.CX P w) P w K mg base (s0 :: n1 :: ns) qual scope f cdv A outer s H E) body (tInX K (slotsX (n1 :: ns) 1))) : FnOk P w K mg base (L2N.CX P w) (k + 1) f fd (s0 :: n1 :: ns) (spX K c (n1 :: ns)) := by
  refine F.ok S (fun vs H Q E h => ?_) fun cdv A outer s H vs Q E hr h => ⟨_, hb cdv A outer s H E hr, ?_⟩
  · obtain ⟨a, ys, rfl, hl, _⟩ := h
    rw [List.length_cons, List.length_cons, hl]
  · obtain ⟨a, ys, rfl, hl, ha, q⟩ := h
    cases ys with
    | nil => cases hl
    | cons y ys =>
      have e0 : L2.start (s0 :: n1 :: ns) (.ref a :: y :: ys) = (V.ref a :: y :: ys).map some ++ List.replicate ((s0 :: n1 :: ns).length - (V.ref a :: y :: ys).length) none := rfl
      refine inX_all (a := a) (y := y) (ys := ys) T rfl (fun p hp => hn _ (slotsX_mem (ns := n1 :: ns) (n := 1) hp)) (by rw [slotsX_len]; simpa using hl) ha (fun j k g z h1 h2 => ?_) (by rw [slotsX_len]; exact hz) (fun d hd hne => ?_)
      · have h1' : (slotsX (n1 :: ns) 1)[j]? = some (k, g) := h1
        rw [slotsX_get] at h1'
        cases e : (n1 :: ns)[j]? with
        | none => rw [e] at h1'; cases h1'
        | some f =>
          rw [e] at h1'
          cases h1'
          rw [e0, List.getElem?_append_left (by
            rw [List.length_map, List.length_cons]
            have := (List.getElem?_eq_some_iff.mp h2).1
            omega), List.getElem?_map, show (V.ref a :: y :: ys)[1 + j]? = (y :: ys)[j]? by rw [Nat.add_comm, List.getElem?_cons_succ], h2]
          rfl
      · rw [slotsX_map]
        exact q d hd hne
end
/-- c(..), an error, at level k: ns its fields -/
def CalleeX (P : Program) (w : World) (K : PySem.W.Frag) (mg : Str → Option Value) (base : Heap) (c : Str) (k : Nat) (ns : List Str) : Prop :=
  ∃ (f : Addr) (fd : FuncData) (ps : List Str), mg c = some (.ref (He.ga K c)) ∧ OexC K (He.ga K c) ∧ PySem.W.findIn K (.ref (He.ga K c)) "__init__" = some (some (.ref f)) ∧ PySem.W.typeIn K (.ref f) = some (.type "function") ∧ FnOk P w K mg base (L2N.CX P w) k f fd ps (spX K c ns) ∧ Binds K fd ps []
theorem pmk_oexN {X : Cx} {CX : CXT} {x : Str} {C fI : Addr} {k : Nat} {fd : FuncData} {ps : List Str} {sp : Sp} {e : Expr} {es : List Expr} {p pos : Pos} {ta : TA} (T : OexC X.K C) (iC : PySem.W.findIn X.K (.ref C) "__init__" = some (some (.ref fI))) (tI : PySem.W.typeIn X.K (.ref fI) = some (.type "function"))
    (F1 : FnOk X.prog X.w X.K X.mg X.base CX k fI fd ps sp) (hr : Room (k + 1) X.A) (hb : Binds X.K fd ps []) (hx : Passes CX X (fun _ _ _ => False)) (hg : Gl X x) (hm : X.mg x = some (.ref C)) (ha : PA X (e :: es) ta)
    (hdb : (x == ("__debug__" : Str)) = false) (he : starEach (e :: es) X.env = (false, eval e X.env) :: starEach es X.env) (hpl : (backTo pos (starEach es X.env)).any (·.1) = false) : L2N.PMk X (.Call (.Name x p) (e :: es) [] pos) (tMkO C sp [] ta) := by
  intro pins s σ H Q I h
  obtain ⟨nm, q, N, bs, bm, sn, sub, ab, col, dd, k0, k1, k2, k3, k5, hC, hbm⟩ := T.cls
  refine wpAny_Call_Name_kw (ld_glob I hg hm (PySem.W.callWith_K (h₀ := X.base) I.ok.mod.kin T.kC (thn (ha.run pos pins s σ H _ I h) fun us s1 ⟨vs, H1, I1, r1, hz, q1⟩ => ⟨I1.kIn, ?_⟩) he hpl) hdb)
  show wpAny _ _ (call (.ref C) us) _ _ _
  obtain ⟨hp, g, dr, tk, os⟩ := s1
  have up : hp.objs.size ≤ hp.objs.size + 1 := Nat.le_succ _
  have hq := q1 (hp.objs.size + 1) (I1.hok.fresh up)
  rw [List.append_nil] at hq
  have kk : ∀ b o, hp.get? b = some o → ((hp.push (PySem.W.kdv_tup us)).push (PySem.HandSPX.excO C hp.objs.size)).get? b = some o := fun b o z => Heap.get?_push_of_some _ (Heap.get?_push_of_some _ z)
  have hget : ((hp.push (PySem.W.kdv_tup us)).push (PySem.HandSPX.excO C hp.objs.size)).get? (hp.objs.size + 1) = some (PySem.HandSPX.excO C hp.objs.size) := by heap_get
  have J : Inv X pins σ (upd H1 (hp.objs.size + 1) (exo (hp.objs.size + 1) C none)) ⟨(hp.push (PySem.W.kdv_tup us)).push (PySem.HandSPX.excO C hp.objs.size), g, dr, tk, os⟩ := I1.laid (t' := tk) (a := hp.objs.size + 1) (o := exo (hp.objs.size + 1) C none) (h' := (hp.push (PySem.W.kdv_tup us)).push (PySem.HandSPX.excO C hp.objs.size)) kk up (exo_ok hget)
  have r2 : Vals (V.ref (hp.objs.size + 1) :: vs) (Value.ref (hp.objs.size + 1) :: us) := .cons rfl r1
  have hl : (Value.ref (hp.objs.size + 1) :: us ++ []).length = ps.length := by rw [List.append_nil, ← r2.length]; exact F1.len _ _ _ _ hq
  have b2 := hb _ (Value.ref (hp.objs.size + 1) :: us) J.kIn hl
  rw [List.append_nil] at b2
  refine wpAny_call (PySem.HandSPX.call_own F.excBase_ValueError (fun Y => PySem.HandSPX.refsVE_contains Y bm hbm) (I1.kIn _ _ hC) (PySem.W.looks_findIn I1.kIn iC) (fun self => PySem.W.bind_fn I1.kIn self tI) (by rw [← Paired.length r1, sizeLine_eq]; omega)
    (codeAny_mono (F1.run _ X.stack _ _ ⟨Value.ref (hp.objs.size + 1) :: us, []⟩ (Value.ref (hp.objs.size + 1) :: us) _ _ (fun _ _ _ => False) (hr.make C us []) (J.env0.make C us []) b2 r2 hq) fun r s' hq' => ?_))
  cases r with
  | error er => exact hx pins σ _ _ er s' J hq'
  | ok fl =>
    cases fl with
    | ret u =>
      obtain ⟨v, H2, os2, bare2, un2, hok2, rv, ev, d, fs, ea, ed, hd1, q2⟩ := hq'
      cases ev
      obtain ⟨h2, g2, d2, t2, os'⟩ := s'
      obtain ⟨t0, G, J2, kG, ge, hoe, na⟩ := mk_end0 (d2 := d2) (t2 := t2) I1 up kk un2 hok2 os2 bare2 ea ed hd1
      exact ⟨rv, hp.objs.size + 1, _, _, ⟨G, g2, d2, t2, os'⟩, _, .ref C, some d, rfl, J2, kG, ge, hoe, ⟨rfl, rfl, fun vs hv => by cases hv; rfl⟩, rfl, rfl, na, rfl, bare2, raises_own T.exC T.tyC, q2⟩
    | next => cases hq'
    | brk => cases hq'
    | cont => cases hq'
section
variable {X : Cx} {c : Cf} {κ κ' : List Kd}
def sRaise (n : Str) (ns : List Str) (f : Env → O (List D)) : Env → SO := fun ρ => match f ρ with
  | .ok ds => if ds.length = ns.length ∧ ds.length ≤ 1000 then .exc ρ n (ns.zip ds).reverse else .stuck
  | .exc x fs => .exc ρ x fs
  | .stuck => .stuck
theorem FReps.append {K : PySem.W.Frag} {Hs : Hp} {fs gs : List (Str × D)} {vfs wfs : List (Str × V)} : FReps K Hs fs vfs → FReps K Hs gs wfs → FReps K Hs (fs ++ gs) (vfs ++ wfs)
  | .nil, h => h
  | .cons a b, h => .cons a (FReps.append b h)
theorem FReps.reverse {K : PySem.W.Frag} {Hs : Hp} : ∀ {fs : List (Str × D)} {vfs : List (Str × V)}, FReps K Hs fs vfs → FReps K Hs fs.reverse vfs.reverse
  | _, _, .nil => .nil
  | _, _, .cons a b => by rw [List.reverse_cons, List.reverse_cons]; exact (FReps.reverse b).append (.cons a .nil)
theorem FReps.zip {K : PySem.W.Frag} {Hs : Hp} : ∀ (ns : List Str) {ds : List D} {vs : List V}, Reps K Hs ds vs → FReps K Hs (ns.zip ds) (ns.zip vs)
  | [], _, _, _ => .nil
  | n :: ns, _, _, .nil => .nil
  | n :: ns, _, _, .cons a b => .cons a (FReps.zip ns b)
theorem cs_raise {n : Str} {ns : List Str} {k : Nat} {e : Expr} {es : List Expr} {p pos cpos : Pos} {f : Env → O (List D)} (C : CalleeX X.prog X.w X.K X.mg X.base n k ns) (hr : Room (k + 1) X.A) (hc : X.calm = true) (tk : L2N.Takes X c.W) (hg : Gl X n) (ha : CA X c.W κ (e :: es) f) (hx : c.κx κ)
    (hdb : (n == ("__debug__" : Str)) = false := by decide) (he : starEach (e :: es) X.env = (false, eval e X.env) :: starEach es X.env := by rfl) (hpl : (backTo cpos (starEach es X.env)).any (·.1) = false := by rfl) : CS X c κ κ' (.Raise (some (.Call (.Name n p) (e :: es) [] cpos)) none pos) (sRaise n ns f) := by
  obtain ⟨fa, fd, ps, hm, T, iC, tI, F, hb⟩ := C
  exact PS.imp (L2N.ps_raise hc tk (pmk_oexN T iC tI F hr hb no_passes hg hm ha hdb he hpl)) fun Dn σ H q => by
    obtain ⟨S, H0, Hs0, ρ, Hs, F, hS, R, p⟩ := q
    refine ⟨S, H0, Hs0, ρ, Hs, F, R, ?_⟩
    unfold sRaise at p
    cases ef : f ρ with
    | stuck => rw [ef] at p; exact p
    | exc y fs =>
      rw [ef] at p
      exact fun cls dx H' ⟨Hs', g, xr⟩ => p κ cls dx σ H' Hs' F hx (R.grow g) g.exs xr
    | ok ds =>
      rw [ef] at p
      dsimp only at p
      by_cases hl : ds.length = ns.length ∧ ds.length ≤ 1000
      · rw [if_pos hl] at p
        intro vs H1 Hs1 g rs
        refine ⟨by rw [← rs.length]; exact hl.2, fun a haa => ⟨a, vs, by rw [List.append_nil], by rw [← rs.length]; exact hl.1, upd_same, fun d hd hne => ?_⟩⟩
        have hd1 : H1 d = none := by rw [upd_ne hne] at hd; exact hd
        refine ⟨rfl, d, (ns.zip vs).reverse, upd_same, by rw [upd_ne hne, upd_same], hd1, ?_⟩
        have eh : upd (del (upd (upd (upd H1 a (exo a (He.ga X.K n) none)) d (exd d (ns.zip vs).reverse)) a (exo a (He.ga X.K n) (some d))) a) d (.xd (ns.zip vs).reverse) = upd H1 d (.xd (ns.zip vs).reverse) := by
          funext b
          by_cases h1 : b = d
          · rw [h1, upd_same, upd_same]
          · rw [upd_ne h1, upd_ne h1]
            by_cases h2 : b = a
            · rw [h2, del_same, haa]
            · rw [del_ne h2, upd_ne h2, upd_ne h1, upd_ne h2]
        rw [eh]
        have g2 := g.trans (.new (o := .xd (ns.zip vs).reverse) g.sub hd1)
        exact p κ _ _ σ _ _ F hx (R.grow g2) g2.exs ⟨rfl, .inr ⟨d, _, rfl, upd_same, ((FReps.zip ns rs).reverse).mono (.new (g.sub.none hd1))⟩⟩
      · rw [if_neg hl] at p; exact p.elim
end

/-! ### try .. except .. as e -/
def SO.unset (i : Nat) : SO → SO
  | .nx ρ => .nx (ρ.set i none)
  | .bk ρ => .bk (ρ.set i none)
  | .ct ρ => .ct (ρ.set i none)
  | o => o
def sTry (errs : List Str) (i : Nat) (g h : Env → SO) : Env → SO := fun ρ => match g ρ with
  | .exc ρ' c fs => if c ∈ errs then (match h (ρ'.set i (some (.exc c fs))) with
    | .exc _ _ _ => .stuck
    | o => o.unset i) else .stuck
  | o => o
section
variable {X : Cx} {c : Cf} {κ κ' κb : List Kd}
theorem cs_try {base : Str} {errs : List Str} {us : List Ty} {fns : List Str} {n : Str} {i : Nat} {body suite : List Stmt} {b₀ : Stmt} {np pos pos' : Pos} {g h : Env → SO} (T : ErrK X.K base errs us fns) (hs : X.stack = X.env :: X.outer) (hf : X.env.frame = some X.env.locals) (hN : X.N.Nodup) (hi : X.N[i]? = some n) (hln : X.env.kindOf n = some .local) (hbase : Names X base (.ref (He.ga X.K base)))
    (tk : L2N.Takes X c.W) (hiκ : i < κb.length) (hki : kAt κ' i = .sh) (hkl : kAt c.κl i = .sh)
    (hb : ∀ (W : WX) (pn : List (Addr × Obj)) (xe : Value → Shared → Prop), L2N.Takes (X.tr pn xe) W → PassesOwn (model X.prog X.w) X.A X.env xe → CSs (X.tr pn xe) { c with W := W, κx := fun κ => κ = κb } κ κ' body g)
    (hsu : ∀ (a : Addr) (oe : Obj) (C : Addr) (d : Option Addr) (pn : List (Addr × Obj)), L2N.Zn (.ref C) d oe → (∃ vs, oe.data = .fields vs) → CSs (X.suite a ((a, oe) :: pn)) { c with W := WF, κx := fun _ => True } (κb.set i (.exc a d C)) κ' (b₀ :: suite) h) :
    CS X c κ κ' (.Try body [.ExceptHandler (some (.Name base np)) (some n) (b₀ :: suite) pos'] [] [] pos) (sTry errs i g h) := by
  have R0 := L2N.ps_try_as (X := X) (i := i) (np := np) (pos := pos) (pos' := pos') (Wout := c.W) (tb := fun W => tS X.K { c with W := W, κx := fun κ => κ = κb } κ κ' g) (ts := fun a cls d Dn σ H => ∃ C, cls = .ref C ∧ tS X.K { c with W := WF, κx := fun _ => True } (κb.set i (.exc a d C)) κ' h Dn σ H) hs hf hN hi hln hbase tk hb
    (fun a oe cls d pn hz hv => by
      cases cls with
      | ref C =>
        refine PSs.imp (hsu a oe C d pn hz hv) fun Dn σ H q => ?_
        obtain ⟨C', e, q⟩ := q
        cases e
        exact q
      | _ => exact ⟨fun pins s σ H Dn I q => by obtain ⟨C', e, _⟩ := q; cases e⟩)
  refine PS.imp R0 fun Dn σ H q => ?_
  obtain ⟨S, H0, Hs0, ρ, Hs, F, hS, R, p⟩ := q
  refine ⟨S, H0, Hs0, ρ, Hs, F, hS, R, ?_⟩
  unfold sTry at p
  cases eg : g ρ with
  | stuck => rw [eg] at p; exact p
  | nx ρ' => rw [eg] at p; exact p
  | rt d => rw [eg] at p; exact p
  | bk ρ' => rw [eg] at p; exact p
  | ct ρ' => rw [eg] at p; exact p
  | exc ρ' x fs =>
    rw [eg] at p
    dsimp only at p
    by_cases hx : x ∈ errs
    · rw [if_pos hx] at p
      intro κ'' cls dx σ' H' Hs' F' hk R' e' xr
      subst hk
      obtain ⟨rfl, xr2⟩ := xr
      refine ⟨true, T.exm x hx, fun _ a ha => ?_, fun z => by cases z⟩
      have q : Res X.K (.exc a dx (He.ga X.K x)) (.exc x fs) (.ref a) H' Hs' H' := ⟨Hs', [], .refl R'.sub, List.nodup_nil, (fun _ z => nomatch z), rfl, rfl, x, fs, rfl, rfl, xr2⟩
      obtain ⟨Hs1, F1, R1, e1⟩ := R'.put hiκ q
      refine ⟨_, rfl, S, H0, Hs0, _, Hs1, F1, hS, R1, ?_⟩
      have ee := e'.trans e1
      cases eh : h (ρ'.set i (some (.exc x fs))) with
      | stuck => rw [eh] at p; exact p
      | nx ρ2 => rw [eh] at p; exact fun σ2 H2 Hs2 F2 R2 e2 => p _ H2 Hs2 F2 (R2.unset i) (ee.trans e2)
      | bk ρ2 => rw [eh] at p; exact fun σ2 H2 Hs2 F2 R2 e2 => p _ H2 Hs2 F2 (R2.unset i) (ee.trans e2)
      | ct ρ2 => rw [eh] at p; exact fun σ2 H2 Hs2 F2 R2 e2 => p _ H2 Hs2 F2 (R2.unset i) (ee.trans e2)
      | rt d => rw [eh] at p; exact p
      | exc ρ2 y gs => rw [eh] at p; exact p.elim
    · rw [if_neg hx] at p; exact p.elim
end
end T

set_option Elab.async false
set_option linter.all false
set_option maxRecDepth 100000
set_option maxHeartbeats 2000000
/-! TA: what a suite asks of its error; calls within a suite; texts; tables of the top; own == and len; keywords. -/
namespace T
open PySem L2

/-! ### the caught error -/
section
variable {X : Cx} {κ : List Kd} {W : WX} {base : Str} {errs : List Str} {us : List Ty} {fns : List Str} {a C : Addr} {d : Option Addr} {oe : Obj} {pn : List (Addr × Obj)}
theorem Rel.caught {K : PySem.W.Frag} {S : List Addr} {H0 Hs0 : Hp} {ρ : Env} {σ : L2.St} {H Hs : Hp} {F : Foot} (R : Rel K S H0 Hs0 κ ρ σ H Hs F) {i : Nat} {c : Str} {fs : List (Str × D)} (hk : kAt κ i = .exc a d C) (e : ρ[i]? = some (some (.exc c fs))) :
    σ[i]? = some (some (.ref a)) ∧ C = He.ga K c ∧ ((fs = [] ∧ d = none) ∨ ∃ dd vfs, d = some dd ∧ H dd = some (.xd vfs) ∧ FReps K Hs fs vfs) := by
  obtain ⟨v, h1, h2⟩ := R.sl i _ e
  rw [hk] at h2
  obtain ⟨rfl, _, c', fs', h3, h4, h5⟩ := h2
  cases h3
  refine ⟨h1, by injection h4, h5.imp (fun z => z) fun ⟨dd, vfs, z1, z2, z3⟩ => ⟨dd, vfs, z1, R.sub _ _ z2, z3⟩⟩
def mXf (errs fns : List Str) (i : Nat) (f : Str) : Env → O D := fun ρ => match ρ[i]? with
  | some (some (.exc c fs)) => if c ∈ errs ∧ f ∈ fns then (match fs.lookup f with
    | some z => .ok z
    | none => .stuck) else .stuck
  | _ => .stuck
theorem ce_xf (i : Nat) {x f : Str} {p pos : Pos} (T : ErrK X.K base errs us fns) (hz : L2N.Zn (.ref C) d oe) (hv : ∃ vs, oe.data = .fields vs) (hk : kAt κ i = .exc a d C) (hp : PE (X.suite a ((a, oe) :: pn)) (.Name x p) (tVar i)) :
    CE (X.suite a ((a, oe) :: pn)) W κ .sh (.Attribute (.Name x p) f pos) (mXf errs fns i f) := by
  refine ⟨fun pins s σ H Q I h => ?_⟩
  obtain ⟨S, H0, Hs0, ρ, Hs, F, R, q⟩ := h
  unfold mXf at q
  split at q
  · rename_i c fs e
    by_cases hc : c ∈ errs ∧ f ∈ fns
    · rw [if_pos hc] at q
      split at q
      · rename_i z hl
        obtain ⟨h1, h2, h3⟩ := R.caught hk e
        rcases h3 with ⟨h3, _⟩ | ⟨dd, vfs, h4, h5, h6⟩
        · rw [h3] at hl; cases hl
        · obtain ⟨v, h7, h8⟩ := h6.get hl
          subst h2
          refine (pe_xf (cls := .ref (He.ga X.K c)) (T.xf c hc.1) (T.no c hc.1 f hc.2) hz.zc hv hp).run pins s σ H Q I ⟨_, h1, rfl, rfl, dd, vfs, v, h4, h5, h7, ?_⟩
          exact q v H (.sh (.refl R.sub) h8)
      · exact q.elim
    · rw [if_neg hc] at q; exact q.elim
  · exact q.elim
/-- isinstance(e, T) -/
def rXis (K : PySem.W.Frag) (C a : Addr) (d : Option Addr) : List V → Hp → VK → Prop := fun xs H Q => ∃ (c : V) (cv : Value) (b : Bool), xs = [.ref a, c] ∧ (∀ u, RelV c u → u = cv) ∧ (d = none ∨ ∃ dd vfs, d = some dd ∧ H dd = some (.xd vfs)) ∧ PySem.W.kitOne K (.ref C) cv = some b ∧ Q (.bl b) H
theorem call_xis {c : Str} (T : ErrK X.K base errs us fns) (hc : c ∈ errs) (hz : L2N.Zn (.ref (He.ga X.K c)) d oe) (hv : ∃ vs, oe.data = .fields vs) : CallR (X.suite a ((a, oe) :: pn)) (.builtin "isinstance") (rXis X.K (He.ga X.K c) a d) := by
  intro pins s σ H xs vs Q I r h
  obtain ⟨ct, cv, b, rfl, hcv, hd, e, q⟩ := h
  cases r with
  | cons rx rr =>
    cases rr with
    | cons rt rr =>
      cases rr
      cases rx
      have ec := hcv _ rt
      subst ec
      obtain ⟨hget, _⟩ := I.pin (a, oe) (List.mem_append.mpr (.inl List.mem_cons_self))
      obtain ⟨fv, hfv⟩ := hv
      have J : ∃ od, PySem.W.InstAt s.heap a oe (He.ga X.K c) od := by
        rcases hd with hd | ⟨dd, vfs, hd, hx⟩
        · exact ⟨none, hget, hz.1, by unfold PySem.W.notCls; rw [hfv] <;> rfl, by rw [hz.2.1, hd]; trivial⟩
        · have hok : ObjOk X.prog X.w H s.heap dd (.xd vfs) := I.hok dd _ hx
          obtain ⟨mA, hns, hr⟩ := hok
          obtain ⟨od, ho, hl⟩ := lookIn_ns hns
          exact ⟨some od, hget, hz.1, by unfold PySem.W.notCls; rw [hfv] <;> rfl, by rw [hz.2.1, hd]; exact ho⟩
      obtain ⟨od, J⟩ := J
      exact PySem.W.kia_one (PySem.W.kitx_exc (T.hcl c hc) (T.xf c hc).ga (T.xf c hc).gg (T.xf c hc).exC (T.ob c hc).1 T.spc T.tak (T.ob c hc).2) I.kIn J e (fun z => nomatch z) fun tk => ⟨.bl b, H, I.kept (t' := tk) fun _ _ z => z, rfl, q⟩
def mXis (base : Str) (errs : List Str) (us : List Ty) (i : Nat) (u : Ty) : Env → O D := fun ρ => match ρ[i]? with
  | some (some (.exc c _)) => if c ∈ errs ∧ u ∈ us then .ok (.bl (xis base c u)) else .stuck
  | _ => .stuck
theorem ce_xis (i : Nat) {x : Str} {ce : Expr} {p0 p pos : Pos} {u : Ty} (TT : ErrK X.K base errs us fns) (hz : L2N.Zn (.ref C) d oe) (hv : ∃ vs, oe.data = .fields vs) (hk : kAt κ i = .exc a d C) (hg : Gl (X.suite a ((a, oe) :: pn)) "isinstance") (hm : X.mg "isinstance" = none) (hp : PE (X.suite a ((a, oe) :: pn)) (.Name x p0) (tVar i)) (hc : PE (X.suite a ((a, oe) :: pn)) ce (tC (u.w X.K)))
    (he : starEach [.Name x p0, ce] (X.suite a ((a, oe) :: pn)).env = (false, eval (.Name x p0) (X.suite a ((a, oe) :: pn)).env) :: starEach [ce] (X.suite a ((a, oe) :: pn)).env := by rfl) (he2 : starEach [ce] (X.suite a ((a, oe) :: pn)).env = (false, eval ce (X.suite a ((a, oe) :: pn)).env) :: starEach [] (X.suite a ((a, oe) :: pn)).env := by rfl)
    (hpl : (backTo pos (starEach [ce] (X.suite a ((a, oe) :: pn)).env)).any (·.1) = false := by rfl) : CE (X.suite a ((a, oe) :: pn)) W κ .sh (.Call (.Name "isinstance" p) [.Name x p0, ce] [] pos) (mXis base errs us i u) := by
  refine ⟨fun pins s σ H Q I h => ?_⟩
  obtain ⟨S, H0, Hs0, ρ, Hs, F, R, q⟩ := h
  unfold mXis at q
  split at q
  · rename_i c fs e
    by_cases hcc : c ∈ errs ∧ u ∈ us
    · rw [if_pos hcc] at q
      obtain ⟨h1, h2, h3⟩ := R.caught hk e
      subst h2
      refine (pe_callB (call_xis TT hcc.1 hz hv) hg hm (by decide +kernel) (pa_cons hp (pa_cons hc pa_nil he2) he) (by decide) (by decide) he hpl).run pins s σ H Q I ?_
      refine ⟨_, h1, u.w X.K, u.v X.K, _, rfl, fun z hz => ?_, h3.imp (·.2) fun ⟨dd, vfs, z1, z2, _⟩ => ⟨dd, vfs, z1, z2⟩, TT.one c hcc.1 u hcc.2, q _ _ (.sh (.refl R.sub) (.bl _))⟩
      cases u with
      | b n => exact hz
      | o c => exact hz
    · rw [if_neg hcc] at q; exact q.elim
  · exact q.elim
end

/-! ### a def that is called within a suite -/
def CalleeH (P : Program) (w : World) (K : PySem.W.Frag) (mg : Str → Option Value) (base : Heap) (x : Str) (k : Nat) (m : List D → O D) (rr : Kd) : Prop :=
  ∃ (f : Addr) (fd : FuncData) (ps : List Str), mg x = some (.ref f) ∧ PySem.W.keepIn K (.ref f) = true ∧ L2H.FnH P w K mg base (L2N.CX P w) k f fd ps (spM K [] m rr) ∧ Binds K fd ps []
section
variable {P : Program} {w : World} {K : PySem.W.Frag} {mg : Str → Option Value} {base : Heap} {x qual : Str} {params : Arguments} {body : List Stmt} {scope : Scope} {f : Addr} {fd : FuncData}
theorem def_okH {N ps : List Str} {k : Nat} {rr : Kd} {κ κ' : List Kd} {g : Env → SO} (F : FunD K x qual params body scope [] [] f fd) (S : FnScope N ps scope) (hκ : ∀ i, kAt κ i = .sh)
    (hb : ∀ (cdv : Value) (A : Around) (outer : List PySem.Env) (s : Shared) (H : Hp) (E : XK) (p : Addr × Obj), L2H.Hot1 A p → L2H.RoomH k (A.deeper (PyProof.Rows.envOfC qual scope s.heap.objs.size f cdv)) →
      CSs (L2H.cxH (L2N.CX P w) P w K mg base N qual scope f cdv A outer s H E p) (cDef E rr) κ κ' body g) : L2H.FnH P w K mg base (L2N.CX P w) (k + 1) f fd ps (spM K [] (mDef N.length ps.length rr g) rr) := by
  obtain ⟨oc, od, dV, kV, doc, pm, an, cdv, ct, osl, rfl, lk, hcd, _, _⟩ := F.ex
  refine L2H.fn_ofH lk hcd S (fun vs H Q E h => by have e := spM_len ar_def h; rw [e]; rfl) fun A outer s H vs Q E p hot hr h => ⟨_, hb cdv A outer s H E p hot hr, ?_⟩
  obtain ⟨Hs, ds, sub, r, q⟩ := h
  rw [List.append_nil] at r
  refine ⟨[], H, Hs, startD N.length ds, Hs, fun _ => [], fun _ => rfl, rel_start hκ sub r, ?_⟩
  unfold mDef at q
  by_cases hl : ds.length = ps.length
  · rw [if_pos hl] at q
    cases e : g (startD N.length ds) with
    | stuck => rw [e] at q; exact q
    | bk ρ => rw [e] at q; exact q.elim
    | ct ρ => rw [e] at q; exact q.elim
    | rt d => rw [e] at q; exact q
    | nx ρ =>
      rw [e] at q
      unfold endD at q
      dsimp only at q
      by_cases hrr : rr = .sh
      · rw [if_pos hrr] at q
        subst hrr
        exact fun σ' H' Hs' F' R' x => q .non H' (.sh R'.all .non)
      · rw [if_neg hrr] at q; exact q.elim
    | exc ρ c fs =>
      rw [e] at q
      exact fun κ'' cls dx σ' H' Hs' F' _ R' x xr => q cls dx H' ⟨Hs', R'.all, xr⟩
  · rw [if_neg hl] at q; exact q.elim
end
section
variable {X : Cx} {W : WX} {κ : List Kd}
theorem ce_callH {x : Str} {k : Nat} {m : List D → O D} {rr : Kd} {p pos : Pos} {e : Expr} {es : List Expr} {f : Env → O (List D)} (C : CalleeH X.prog X.w X.K X.mg X.base x k m rr) (hr : L2H.RoomH k X.A) (hc : L2H.HotC X) (tk : L2N.Takes X W) (hg : Gl X x) (ha : CA X W κ (e :: es) f)
    (hdb : (x == ("__debug__" : Str)) = false := by decide) (he : starEach (e :: es) X.env = (false, eval e X.env) :: starEach es X.env := by rfl) (hpl : (backTo pos (starEach es X.env)).any (·.1) = false := by rfl) : CE X W κ rr (.Call (.Name x p) (e :: es) [] pos) (mApp m f) := by
  obtain ⟨fa, fd, ps, hm, hk, F, hb⟩ := C
  refine PE.imp (L2H.pe_callH (E := fun σ => WE W σ) F hr hc hg hm hk hb (fun σ => L2N.passAt tk σ) ha hdb he hpl) fun σ H Q q => ?_
  have z := app_run (dvs := []) (E := WE W σ) (fun _ _ _ h => h) (fun _ => .nil) q
  obtain ⟨S, H0, Hs0, ρ, Hs, F, R, p⟩ := z
  refine ⟨S, H0, Hs0, ρ, Hs, F, R, ?_⟩
  cases ef : f ρ with
  | stuck => rw [ef] at p; exact p
  | exc c fs => rw [ef] at p; exact p
  | ok ds =>
    rw [ef] at p
    intro vs H' Hs' g rs
    have q2 : spM X.K [] m rr (vs ++ []) H' Q (WE W σ) := p vs H' Hs' g rs
    rw [List.append_nil] at q2
    exact q2
theorem hotC_suite {a C : Addr} {d : Option Addr} {oe : Obj} {pn : List (Addr × Obj)} (hz : L2N.Zn (.ref C) d oe) (hv : ∃ vs, oe.data = .fields vs) : L2H.HotC (X.suite a ((a, oe) :: pn)) := by
  obtain ⟨vs, hv⟩ := hv
  exact ⟨(a, oe), ⟨rfl, vs, hv, hz.2.2 vs hv⟩, List.mem_cons_self⟩
theorem takes_suite {a : Addr} {pn : List (Addr × Obj)} : L2N.Takes (X.suite a pn) WF := fun u s' h => by
  obtain ⟨_, _, _, _, _, _, _, _, _, _, _, _, _, _, _, _, z⟩ := h
  exact z.elim
def isSh : Kd → Bool
  | .sh => true
  | _ => false
theorem isSh_ok {k : Kd} (h : isSh k = true) : k = .sh := by cases k <;> first | rfl | cases h
theorem slots_sh {κ : List Kd} {is : List Nat} (h : is.all (fun i => isSh (kAt κ i)) = true) : ∀ i ∈ is, kAt κ i = .sh := fun i hi => isSh_ok (List.all_eq_true.mp h i hi)
theorem slots_own {κ : List Kd} {is own : List Nat} (h : is.all (fun i => own.contains i && isSh (kAt κ i)) = true) : ∀ i ∈ is, i ∈ own ∧ kAt κ i = .sh := fun i hi => by
  have := List.all_eq_true.mp h i hi
  rw [Bool.and_eq_true] at this
  exact ⟨by simpa using this.1, isSh_ok this.2⟩
theorem q64 {n : Nat} (h : n + 65 < cLine) : n + 64 < cLine := by omega
theorem u65H {k : Nat} {A : Around} (hr : L2H.RoomH k A) : A.units + 65 < cLine := by have := hr.un; omega

/-! ### tests that read lists of their own -/
def mFlatT (f : Env → O Bool) : Env → O Bool := fun ρ => match f ρ with
  | .ok b => .ok b
  | _ => .stuck
theorem ct_borrow {e : Expr} {f : Env → O Bool} (h : CT X W [] e f) : CT X W κ e (mFlatT f) :=
  PT.imp h fun σ H Q q => by
    obtain ⟨S, H0, Hs0, ρ, Hs, F, R, p⟩ := q
    refine ⟨[], H, H, ρ, H, fun _ => [], R.open_ kAt_nil, ?_⟩
    unfold mFlatT at p
    cases e : f ρ with
    | stuck => rw [e] at p; exact p
    | ok b =>
      rw [e] at p
      intro H' Hs' g
      obtain ⟨Hs2, g2⟩ := g.back R.sub
      exact p H' Hs2 g2
    | exc c fs => rw [e] at p; exact p.elim
/-- tuple(xs), xs a list of its own -/
def mTupO (i : Nat) : Env → O D := fun ρ => match ρ[i]? with
  | some (some (.lst ds)) => .ok (.tup ds)
  | _ => .stuck
theorem own_reps {K : PySem.W.Frag} {H Hs : Hp} {ds : List D} {vs : List V} {Fs : List (List Addr)} (h : All3 (Own K .sh H Hs) ds vs Fs) : Reps K Hs ds vs := by
  induction h with
  | nil => exact .nil
  | cons q _ ih => exact .cons q.1 ih
theorem ce_tupO (i : Nat) {x : Str} {p0 p pos : Pos} (hg : Gl X "tuple") (hm : X.mg "tuple" = none) (hk : kAt κ i = .ls .sh) (hp : PE X (.Name x p0) (tVar i))
    (he : starEach [.Name x p0] X.env = (false, eval (.Name x p0) X.env) :: starEach [] X.env := by rfl) (hpl : (backTo pos (starEach [] X.env)).any (·.1) = false := by rfl) : CE X W κ .sh (.Call (.Name "tuple" p) [.Name x p0] [] pos) (mTupO i) :=
  PE.imp (pe_callTy call_tuple_of hg hm (by decide +kernel) (pa_cons hp pa_nil he) (by decide) (by decide) he hpl) fun σ H Q q => by
    obtain ⟨S, H0, Hs0, ρ, Hs, F, R, p⟩ := q
    unfold mTupO at p
    split at p
    · rename_i ds e
      obtain ⟨a, vs, Fs, hv, ha, hF, al⟩ := R.own e hk
      exact ⟨_, hv, a, vs, rfl, .inl ⟨SqL.of ha, fun l hl => p _ _ (.tuple R.sub (own_reps al) hl)⟩⟩
    · exact p.elim

/-! ### methods of texts -/
def MetSem (K : PySem.W.Frag) (r : V → List V → Hp → VK → Prop) (rr : Kd) (o : D → List D → O D) : Prop :=
  ∀ (H Hs : Hp) (d : D) (ds : List D) (z : D) (x : V) (vs : List V) (Q : VK), Sub Hs H → Rep K Hs d x → Reps K Hs ds vs → o d ds = .ok z → (∀ v H', Res K rr z v H Hs H' → Q v H') → r x vs H Q
def isStr : D → Bool
  | .str _ => true
  | _ => false
def mM0 (o : D → List D → O D) (f : Env → O D) : Env → O D := fun ρ => f ρ >>= fun x => if isStr x = true then noX (o x []) else .stuck
def mM1 (o : D → List D → O D) (f g : Env → O D) : Env → O D := fun ρ => f ρ >>= fun x => if isStr x = true then g ρ >>= fun y => noX (o x [y]) else .stuck
theorem isStr_V {K : PySem.W.Frag} {H : Hp} {d : D} {v : V} (r : Rep K H d v) (h : isStr d = true) : ∃ a, v = .str a := by
  cases r <;> first | exact ⟨_, rfl⟩ | cases h
theorem ce_m0 {id : String} {name : Str} {apos pos : Pos} {r : V → List V → Hp → VK → Prop} {rr : Kd} {o : D → List D → O D} {e : Expr} {f : Env → O D} (hs : MetSem X.K r rr o) (slot : Slot "str" name id) (ty : typeOf (.builtin id) = pure (.type "method_descriptor")) (rule : MtR X id r) (ho : CE X W κ .sh e f)
    (hbase : attributeBase e name X.env (eval e X.env) = eval e X.env := by rfl) (hline : (apos.endLine == pos.line) = true := by rfl) : CE X W κ rr (.Call (.Attribute e name apos) [] [] pos) (mM0 o f) :=
  PE.imp (pe_m0 slot ty rule ho hbase hline) fun σ H Q q => by
    obtain ⟨S, H0, Hs0, ρ, Hs, F, R, p⟩ := q
    refine step R p fun d v H1 Hs1 _ g1 R1 rd p1 => ?_
    by_cases hd : isStr d = true
    · rw [if_pos hd] at p1
      refine ⟨isStr_V rd hd, ?_⟩
      cases e : o d [] with
      | stuck => rw [e] at p1; exact p1.elim
      | exc c fs => rw [e] at p1; exact p1.elim
      | ok z => rw [e] at p1; exact hs H1 Hs1 d [] z v [] Q R1.sub rd .nil e p1
    · rw [if_neg hd] at p1; exact p1.elim
theorem ce_m1 {id : String} {name : Str} {apos pos : Pos} {r : V → List V → Hp → VK → Prop} {rr : Kd} {o : D → List D → O D} {e e1 : Expr} {f g : Env → O D} (hs : MetSem X.K r rr o) (slot : Slot "str" name id) (ty : typeOf (.builtin id) = pure (.type "method_descriptor")) (rule : MtR X id r) (ho : CE X W κ .sh e f) (h1 : CE X W κ .sh e1 g)
    (hst : starEach [e1] X.env = [(false, eval e1 X.env)] := by rfl) (hbase : attributeBase e name X.env (eval e X.env) = eval e X.env := by rfl) (hline : (apos.endLine == pos.line) = true := by rfl) : CE X W κ rr (.Call (.Attribute e name apos) [e1] [] pos) (mM1 o f g) :=
  PE.imp (pe_m1 slot ty rule ho h1 hst hbase hline) fun σ H Q q => by
    obtain ⟨S, H0, Hs0, ρ, Hs, F, R, p⟩ := q
    refine step R p fun d v H1 Hs1 _ g1 R1 rd p1 => ?_
    by_cases hd : isStr d = true
    · rw [if_pos hd] at p1
      refine ⟨isStr_V rd hd, step R1 p1 fun y u H2 Hs2 _ g2 R2 ry p2 => ?_⟩
      cases e : o d [y] with
      | stuck => rw [e] at p2; exact p2.elim
      | exc c fs => rw [e] at p2; exact p2.elim
      | ok z => rw [e] at p2; exact hs H2 Hs2 d [y] z v [u] Q R2.sub (rd.mono g2.exs) (.cons ry .nil) e p2
    · rw [if_neg hd] at p1; exact p1.elim
def dSplit (d : D) (ds : List D) : O D := match d, ds with
  | .str a, [.str b] => if (b.length == 0) = false ∧ a.length + 2 ≤ sizeLine then .ok (.lst ((Txt.split a b).map .str)) else .stuck
  | _, _ => .stuck
theorem sem_split {K : PySem.W.Frag} : MetSem K (fun x xs H Q => ∃ a b, x = .str a ∧ xs = [.str b] ∧ (b.length == 0) = false ∧ a.length + 2 ≤ sizeLine ∧ rNewStrs (Txt.split a b) H Q) (.ls .sh) dSplit := fun H Hs d ds z x vs Q sub rd rs hz q => by
  unfold dSplit at hz
  split at hz
  · cases rd
    cases rs with | cons r1 r2 =>
      cases r2
      cases r1
      split at hz
      · rename_i hc
        cases hz
        exact ⟨_, _, rfl, rfl, hc.1, hc.2, fun p hp => q _ _ (.list sub (Reps.ofStrs _) hp)⟩
      · cases hz
  · cases hz
theorem MetSem.share {K : PySem.W.Frag} {r : V → List V → Hp → VK → Prop} {k : Kd} {o : D → List D → O D} (h : MetSem K r k o) : MetSem K r .sh o := fun H Hs d ds z x vs Q sub rd rs hz q => h H Hs d ds z x vs Q sub rd rs hz fun v H' r => q v H' r.share
def strsOf : List D → Option (List Str)
  | [] => some []
  | .str i :: r => (strsOf r).map fun l => i :: l
  | _ :: _ => none
theorem strsOf_eq : ∀ {ds : List D} {ns : List Str}, strsOf ds = some ns → ds = ns.map D.str
  | [], _, h => by cases h; rfl
  | d :: r, ns, h => by
    cases d with
    | str i =>
      unfold strsOf at h
      cases e : strsOf r with
      | none => rw [e] at h; cases h
      | some l => rw [e] at h; cases h; rw [strsOf_eq e]; rfl
    | _ => cases h
@[simp] theorem strsOf_map (ns : List Str) : strsOf (ns.map D.str) = some ns := by
  induction ns with
  | nil => rfl
  | cons n ns ih => rw [List.map_cons, strsOf, ih]; rfl
def joinS (a : Str) (xs : List D) : O D := match strsOf xs with
  | some ys => if (ys.map (·.length)).sum + ys.length * a.length ≤ 16777216 then .ok (.str (Txt.join a ys)) else .stuck
  | none => .stuck
def dJoin (d : D) (ds : List D) : O D := match d, ds with
  | .str a, [.lst xs] => joinS a xs
  | .str a, [.tup xs] => joinS a xs
  | _, _ => .stuck
theorem sem_join {K : PySem.W.Frag} : MetSem K (fun x xs H Q => ∃ a p, ∃ ys : List Str, x = .str a ∧ xs = [.ref p] ∧ (SqL K H p (ys.map V.str) ∨ SqT K H p (ys.map V.str)) ∧ (ys.map (·.length)).sum + ys.length * a.length ≤ 16777216 ∧ Q (.str (Txt.join a ys)) H) .sh dJoin := fun H Hs d ds z x vs Q sub rd rs hz q => by
  unfold dJoin at hz
  split at hz
  · cases rd
    cases rs with | cons r1 r2 =>
      cases r2
      cases r1 with | lst h r =>
        unfold joinS at hz
        split at hz
        · rename_i ys e
          split at hz
          · rename_i hl
            cases hz
            rw [strsOf_eq e] at r
            rw [Reps.strs r] at h
            exact ⟨_, _, ys, rfl, rfl, .inl (SqL.of (sub _ _ h)), hl, q _ _ (.sh (.refl sub) (.str _))⟩
          · cases hz
        · cases hz
  · cases rd
    cases rs with | cons r1 r2 =>
      cases r2
      cases r1 with | tup h r =>
        unfold joinS at hz
        split at hz
        · rename_i ys e
          split at hz
          · rename_i hl
            cases hz
            rw [strsOf_eq e] at r
            rw [Reps.strs r] at h
            exact ⟨_, _, ys, rfl, rfl, .inr (sub.sqt h), hl, q _ _ (.sh (.refl sub) (.str _))⟩
          · cases hz
        · cases hz
  · cases hz
def dUpper (d : D) (ds : List D) : O D := match d, ds with
  | .str a, [] => if a.length ≤ 5592405 then .ok (.str (Txt.upper a)) else .stuck
  | _, _ => .stuck
theorem sem_upper {K : PySem.W.Frag} : MetSem K (fun x xs H Q => ∃ a, x = .str a ∧ xs = [] ∧ a.length ≤ 5592405 ∧ Q (.str (Txt.upper a)) H) .sh dUpper := fun H Hs d ds z x vs Q sub rd rs hz q => by
  unfold dUpper at hz
  split at hz
  · cases rd
    cases rs
    split at hz
    · rename_i hl
      cases hz
      exact ⟨_, rfl, rfl, hl, q _ _ (.sh (.refl sub) (.str _))⟩
    · cases hz
  · cases hz
def dStarts (d : D) (ds : List D) : O D := match d, ds with
  | .str a, [.str b] => .ok (.bl (Txt.startswith a b))
  | _, _ => .stuck
theorem sem_starts {K : PySem.W.Frag} : MetSem K (fun x xs H Q => ∃ a b, x = .str a ∧ xs = [.str b] ∧ Q (.bl (Txt.startswith a b)) H) .sh dStarts := fun H Hs d ds z x vs Q sub rd rs hz q => by
  unfold dStarts at hz
  split at hz
  · cases rd
    cases rs with | cons r1 r2 =>
      cases r2
      cases r1
      cases hz
      exact ⟨_, _, rfl, rfl, q _ _ (.sh (.refl sub) (.bl _))⟩
  · cases hz

/-! ### methods of lists that change nothing -/
def isLst : D → Bool
  | .lst _ => true
  | _ => false
def mL1 (o : D → List D → O D) (f g : Env → O D) : Env → O D := fun ρ => f ρ >>= fun x => if isLst x = true then g ρ >>= fun y => noX (o x [y]) else .stuck
theorem isLst_V {K : PySem.W.Frag} {H Hs : Hp} {d : D} {v : V} (sub : Sub Hs H) (r : Rep K Hs d v) (h : isLst d = true) : tyV K "list" v H := by
  cases r with
  | lst h1 r1 => exact isList (sub _ _ h1)
  | _ => cases h
theorem ce_l1 {id : String} {name : Str} {apos pos : Pos} {r : V → List V → Hp → VK → Prop} {rr : Kd} {o : D → List D → O D} {e e1 : Expr} {f g : Env → O D} (hs : MetSem X.K r rr o) (slot : Slot "list" name id) (ty : typeOf (.builtin id) = pure (.type "method_descriptor")) (rule : MtR X id r) (ho : CE X W κ .sh e f) (h1 : CE X W κ .sh e1 g)
    (ht : PE X (.Call (.Attribute e name apos) [e1] [] pos) (tBM X.K "list" r (tE X.K W κ .sh f) (tCons (tE X.K W κ .sh g) tNil))) : CE X W κ rr (.Call (.Attribute e name apos) [e1] [] pos) (mL1 o f g) :=
  PE.imp ht fun σ H Q q => by
    obtain ⟨S, H0, Hs0, ρ, Hs, F, R, p⟩ := q
    refine step R p fun d v H1 Hs1 _ g1 R1 rd p1 => ?_
    by_cases hd : isLst d = true
    · rw [if_pos hd] at p1
      refine ⟨isLst_V R1.sub rd hd, step R1 p1 fun y u H2 Hs2 _ g2 R2 ry p2 => ?_⟩
      cases e : o d [y] with
      | stuck => rw [e] at p2; exact p2.elim
      | exc c fs => rw [e] at p2; exact p2.elim
      | ok z => rw [e] at p2; exact hs H2 Hs2 d [y] z v [u] Q R2.sub (rd.mono g2.exs) (.cons ry .nil) e p2
    · rw [if_neg hd] at p1; exact p1.elim
def eqF : D → D → Bool
  | .non, .non => true
  | .bl a, .bl b => a == b
  | .bl a, .int b => (if a then 1 else 0) == b
  | .int a, .bl b => a == (if b then 1 else 0)
  | .int a, .int b => a == b
  | .str a, .str b => a == b
  | _, _ => false
theorem eqF_V {K : PySem.W.Frag} {H : Hp} {d e : D} {x y : V} (rd : Rep K H d x) (re : Rep K H e y) (hd : d.flat = true) (he : e.flat = true) : eqV x y = eqF d e := by
  cases rd <;> cases re <;> first | rfl | (cases hd; done) | (cases he; done)
def idxF (y : D) : List D → Nat → Option Nat
  | [], _ => none
  | x :: xs, n => if eqF x y = true then some n else idxF y xs (n + 1)
theorem idxF_ok {y : D} : ∀ {xs : List D} {n j : Nat}, idxF y xs n = some j → n ≤ j ∧ (∃ z, xs[j - n]? = some z ∧ eqF z y = true) ∧ ∀ m z, m < j - n → xs[m]? = some z → eqF z y = false
  | [], _, _, h => by cases h
  | x :: xs, n, j, h => by
    unfold idxF at h
    by_cases e : eqF x y = true
    · rw [if_pos e] at h
      cases h
      refine ⟨Nat.le_refl _, ⟨x, by simp, e⟩, fun m z hm => by omega⟩
    · rw [if_neg e] at h
      obtain ⟨h1, ⟨z, h2, h3⟩, h4⟩ := idxF_ok h
      refine ⟨by omega, ⟨z, ?_, h3⟩, fun m z hm hz => ?_⟩
      · rw [show j - n = (j - (n + 1)) + 1 by omega, List.getElem?_cons_succ]; exact h2
      · cases m with
        | zero => simp at hz; subst hz; exact Bool.eq_false_iff.mpr e
        | succ m => exact h4 m z (by omega) (by simpa using hz)
def dIndex (d : D) (ds : List D) : O D := match d, ds with
  | .lst xs, [y] => if y.flat = true ∧ xs.all D.flat = true then (match idxF y xs 0 with
    | some j => .ok (.int (j : Nat))
    | none => .stuck) else .stuck
  | _, _ => .stuck
theorem sem_index {K : PySem.W.Frag} : MetSem K (rIndex K) .sh dIndex := fun H Hs d ds z x vs Q sub rd rs hz q => by
  unfold dIndex at hz
  split at hz
  · rename_i xs y
    cases rs with | cons r1 r2 =>
      cases r2
      cases rd with | lst h r =>
        split at hz
        · rename_i hc
          split at hz
          · rename_i j e
            cases hz
            obtain ⟨_, ⟨w, h2, h3⟩, h4⟩ := idxF_ok e
            rw [Nat.sub_zero] at h2 h4
            obtain ⟨v, h5, h6⟩ := r.get h2
            have hfl : ∀ {d : D}, d ∈ xs → d.flat = true := fun hd => List.all_eq_true.mp hc.2 _ hd
            refine ⟨_, _, _, j, v, rfl, rfl, SqL.of (sub _ _ h), flat_V r1 hc.1, flat_Vs r hc.2, h5, ?_, fun m z' hm hz' => ?_, q _ _ (.sh (.refl sub) (.int _))⟩
            · rw [eqF_V h6 r1 (hfl (List.mem_of_getElem? h2)) hc.1]; exact h3
            · obtain ⟨w', h7, h8⟩ := r.getV hz'
              rw [eqF_V h8 r1 (hfl (List.mem_of_getElem? h7)) hc.1]
              exact h4 m w' hm h7
          · cases hz
        · cases hz
  · cases hz
/-! list.count of flat items -/
def fvV : Value → V
  | .none => .non
  | .bool b => .bl b
  | .int i _ => .int i
  | .str s _ => .str s
  | _ => .non
theorem fvV_eq {v : V} {u : Value} (r : RelV v u) (h : flatV v = true) : fvV u = v := by
  cases v with
  | non => cases (show u = Value.none from r); rfl
  | bl b => cases (show u = Value.bool b from r); rfl
  | int i => obtain ⟨t, e⟩ := (show ∃ t, u = Value.int i t from r); cases e; rfl
  | str i => obtain ⟨t, e⟩ := (show ∃ t, u = Value.str i t from r); cases e; rfl
  | _ => cases h
def rCntF (K : PySem.W.Frag) : V → List V → Hp → VK → Prop := fun x xs H Q => ∃ (p : Addr) (ys : List V) (y : V), x = .ref p ∧ xs = [y] ∧ SqL K H p ys ∧ flatV y = true ∧ ys.all flatV = true ∧ Q (.int (ys.countP fun z => eqV z y : Nat)) H
theorem mt_cntF : MtR X "list.count" (rCntF X.K) := by
  intro pins s σ H x xs v us Q I rx rxs h
  obtain ⟨p, ys, y, rfl, rfl, hs, fy, fys, q⟩ := h
  cases rx
  obtain ⟨u, rfl, ru⟩ := rxs.one
  obtain ⟨its, rv, ⟨⟨cls, dd, data, sl⟩, n, ho, hc, hdn, hd⟩, hlen⟩ := I.list hs
  simp only at hc hd
  subst hc hd
  have cnt : ∀ {ys : List V} {its : List Value}, Vals ys its → ys.all flatV = true → its.countP (fun u => eqV (fvV u) y) = ys.countP fun z => eqV z y := by
    intro ys
    induction ys with
    | nil => intro its r _; cases r; rfl
    | cons z zs ih =>
      intro its r hf
      cases r with
      | cons r1 r2 =>
        rw [List.all_cons, Bool.and_eq_true] at hf
        rw [List.countP_cons, List.countP_cons, ih r2 hf.2, fvV_eq r1 hf.1]
  have each : ∀ w, w ∈ its.toArray → SeqAt.EqAt X.A.in1 s w u (eqV (fvV w) y) := fun w hw => by
    obtain ⟨i, hi, e⟩ := List.getElem_of_mem (show w ∈ its by simpa using hw)
    have hg : its[i]? = some w := by rw [List.getElem?_eq_getElem hi, e]
    have hyi : i < ys.length := by rw [rv.length]; exact hi
    obtain ⟨w', e1, rw'⟩ := rv.get (List.getElem?_eq_getElem hyi)
    rw [hg] at e1
    cases e1
    have hf := List.all_eq_true.mp fys _ (List.getElem_mem hyi)
    rw [fvV_eq rw' hf]
    exact eqAt_V rw' ru hf fy
  refine call_meets PySem.F.slot_list_count ⟨_, ho, rfl⟩ PySem.F.entry_list_count (PySem.F.args_list_count_2 _ _) (SeqAt.list_countAt p its.toArray n dd sl u fun w => eqV (fvV w) y) ⟨ho, each, ?_⟩
  refine ⟨.int (ys.countP fun z => eqV z y : Nat), H, I.tok _, ⟨s.toks, ?_⟩, q⟩
  show Value.int ((its.toArray.toList.countP _ : Nat) : Int) s.toks = Value.int _ s.toks
  rw [cnt rv fys]
def dCount (d : D) (ds : List D) : O D := match d, ds with
  | .lst xs, [y] => if y.flat = true ∧ xs.all D.flat = true then .ok (.int (xs.countP fun z => eqF z y : Nat)) else .stuck
  | _, _ => .stuck
theorem cnt_F {K : PySem.W.Frag} {H : Hp} {y : D} {u : V} (r1 : Rep K H y u) (hy : y.flat = true) : ∀ {xs : List D} {ws : List V}, Reps K H xs ws → xs.all D.flat = true → ws.countP (fun z => eqV z u) = xs.countP fun z => eqF z y
  | _, _, .nil, _ => rfl
  | d :: ds, _, .cons a b, hf => by
    rw [List.all_cons, Bool.and_eq_true] at hf
    rw [List.countP_cons, List.countP_cons, cnt_F r1 hy b hf.2, eqF_V a r1 hf.1 hy]
theorem sem_count {K : PySem.W.Frag} : MetSem K (rCntF K) .sh dCount := fun H Hs d ds z x vs Q sub rd rs hz q => by
  unfold dCount at hz
  split at hz
  · rename_i xs y
    cases rs with | cons r1 r2 =>
      cases r2
      cases rd with | lst h r =>
        split at hz
        · rename_i hc
          cases hz
          exact ⟨_, _, _, rfl, rfl, SqL.of (sub _ _ h), flat_V r1 hc.1, flat_Vs r hc.2, by rw [cnt_F r1 hc.1 r hc.2]; exact q _ _ (.sh (.refl sub) (.int _))⟩
        · cases hz
  · cases hz

/-! ### f-strings -/
def dFmt : D → O D
  | .str y => if y.length ≤ sizeLine then .ok (.str y) else .stuck
  | .int i => if i.natAbs.log2 < 1920 then .ok (.str (toString i)) else .stuck
  | _ => .stuck
theorem ce_fmt {e : Expr} {pos : Pos} {f : Env → O D} (he : CE X W κ .sh e f) : CE X W κ .sh (.FormattedValue e (-1) none pos) (mUn dFmt f) :=
  PE.imp (pe_fmt he) fun σ H Q q => by
    obtain ⟨S, H0, Hs0, ρ, Hs, F, R, p⟩ := q
    refine step R p fun d v H1 Hs1 _ g1 R1 rd p1 => ?_
    cases rd <;> first | exact p1.elim | skip
    · rename_i i _
      have p2 : EPost X.K W .sh σ H1 Hs1 Q (if i.natAbs.log2 < 1920 then .ok (.str (toString i)) else .stuck) := p1
      by_cases h : i.natAbs.log2 < 1920
      · rw [if_pos h] at p2; exact .inr ⟨i, rfl, h, p2 _ _ (.sh (.refl R1.sub) (.str _))⟩
      · rw [if_neg h] at p2; exact p2.elim
    · rename_i y _
      have p2 : EPost X.K W .sh σ H1 Hs1 Q (if y.length ≤ sizeLine then .ok (.str y) else .stuck) := p1
      by_cases h : y.length ≤ sizeLine
      · rw [if_pos h] at p2; exact .inl ⟨y, rfl, h, p2 _ _ (.sh (.refl R1.sub) (.str _))⟩
      · rw [if_neg h] at p2; exact p2.elim
def asStr : D → O Str
  | .str y => .ok y
  | _ => .stuck
def mFS : List (Env → O D) → Str → Env → O D
  | [], acc, _ => .ok (.str acc)
  | f :: fs, acc, ρ => f ρ >>= asStr >>= fun y => if (acc ++ y).length ≤ sizeLine then mFS fs (acc ++ y) ρ else .stuck
inductive CFS (X : Cx) (W : WX) (κ : List Kd) : List Expr → List (Env → O D) → Prop
  | nil : CFS X W κ [] []
  | cons {e : Expr} {f : Env → O D} {es : List Expr} {fs : List (Env → O D)} (h : CE X W κ .sh e f) (r : CFS X W κ es fs) : CFS X W κ (e :: es) (f :: fs)
theorem CFS.pj : ∀ {es : List Expr} {fs : List (Env → O D)}, CFS X W κ es fs → PJ X es (fs.map fun f => tE X.K W κ .sh f)
  | _, _, .nil => .nil
  | _, _, .cons h r => .cons h r.pj
theorem fs_run {K : PySem.W.Frag} {σ : L2.St} {Q : VK} : ∀ (fs : List (Env → O D)) (acc : Str) (H : Hp), tE K W κ .sh (mFS fs acc) σ H Q → tJs (fs.map fun f => tE K W κ .sh f) acc σ H fun out H1 => Q (.str out) H1
  | [], acc, H, q => by
    obtain ⟨S, H0, Hs0, ρ, Hs, F, R, p⟩ := q
    exact p _ _ (.sh (.refl R.sub) (.str _))
  | f :: fs, acc, H, q => by
    obtain ⟨S, H0, Hs0, ρ, Hs, F, R, p⟩ := q
    have p' : EPost K W .sh σ H Hs Q (f ρ >>= fun d => asStr d >>= fun y => if (acc ++ y).length ≤ sizeLine then mFS fs (acc ++ y) ρ else .stuck) := by rw [← bind_assoc]; exact p
    refine step R p' fun d v H1 Hs1 _ g1 R1 rd p1 => ?_
    cases rd <;> first | exact p1.elim | skip
    rename_i y _
    have p2 : EPost K W .sh σ H1 Hs1 Q (if (acc ++ y).length ≤ sizeLine then mFS fs (acc ++ y) ρ else .stuck) := p1
    by_cases h : (acc ++ y).length ≤ sizeLine
    · rw [if_pos h] at p2
      exact ⟨y, rfl, h, fs_run fs (acc ++ y) H1 ⟨S, H0, Hs0, ρ, Hs1, F, R1, p2⟩⟩
    · rw [if_neg h] at p2; exact p2.elim
theorem ce_fs {v1 v2 : Expr} {rest : List Expr} {fs : List (Env → O D)} {pos : Pos} (h : CFS X W κ (v1 :: v2 :: rest) fs) : CE X W κ .sh (.JoinedStr (v1 :: v2 :: rest) pos) (mFS fs Str.empty) := PE.imp (pe_joined h.pj) fun σ H Q q => fs_run fs _ H q
theorem ce_fs1 {e : Expr} {f : Env → O D} {pos : Pos} (h : CE X W κ .sh e f) : CE X W κ .sh (.JoinedStr [e] pos) f := pe_joined1 h

/-! ### tables of the top (text keys) -/
def D.fv : D → V
  | .bl b => .bl b
  | .int i => .int i
  | .str s => .str s
  | _ => .non
def TabOk (K : PySem.W.Frag) (w : World) (x : Str) (kvs : List (Str × D)) : Prop := ∀ z d, kvs.lookup z = some d → d.flat = true ∧ KDct K w (He.ga K x) z d.fv
def dTab (kvs : List (Str × D)) : D → O D
  | .str z => (match kvs.lookup z with
    | some d => .ok d
    | none => .stuck)
  | _ => .stuck
theorem fv_rep {K : PySem.W.Frag} {H : Hp} {d : D} (h : d.flat = true) : Rep K H d d.fv := by
  cases d <;> first | (cases h; done) | constructor
theorem ce_tab {x : Str} {kvs : List (Str × D)} {p pos : Pos} {b : Expr} {g : Env → O D} (TT : TabOk X.K X.w x kvs) (hg : Gl X x) (hm : X.mg x = some (.ref (He.ga X.K x))) (hb : CE X W κ .sh b g) (hd : (x == ("__debug__" : Str)) = false := by decide) (hs : PlainIx b := by exact fun _ _ => rfl) : CE X W κ .sh (.Subscript (.Name x p) b pos) (mUn (dTab kvs) g) :=
  PE.imp (pe_ix ix_kdict (pe_glob (v := .ref (He.ga X.K x)) hg hm rfl hd) hb hs) fun σ H Q q => by
    obtain ⟨S, H0, Hs0, ρ, Hs, F, R, p⟩ := q
    refine step R p fun d v H1 Hs1 _ g1 R1 rd p1 => ?_
    cases rd <;> first | exact p1.elim | skip
    rename_i z _
    have p2 : EPost X.K W .sh σ H1 Hs1 Q (match kvs.lookup z with
      | some d => .ok d
      | none => .stuck) := p1
    cases e : kvs.lookup z with
    | none => rw [e] at p2; exact p2.elim
    | some d =>
      rw [e] at p2
      obtain ⟨h1, h2⟩ := TT z d e
      exact ⟨_, z, d.fv, rfl, rfl, h2, p2 _ _ (.sh (.refl R1.sub) (fv_rep h1))⟩
/-! ### is True, is not True -/
def dIsB : D → D → O D
  | .bl a, .bl b => .ok (.bl (decide (a = b)))
  | _, _ => .stuck
def dNotB : D → D → O D
  | .bl a, .bl b => .ok (.bl (!decide (a = b)))
  | _, _ => .stuck
theorem sem_isB {K : PySem.W.Frag} : BinSem K rIsB .sh dIsB := .flat fun H Hs d e z x y Q sub rx ry hz q => by
  cases rx <;> first | (cases hz; done) | skip
  cases ry <;> first | (cases hz; done) | skip
  cases hz
  exact ⟨_, _, rfl, rfl, q _ (.bl _)⟩
theorem sem_notB {K : PySem.W.Frag} : BinSem K rNotB .sh dNotB := .flat fun H Hs d e z x y Q sub rx ry hz q => by
  cases rx <;> first | (cases hz; done) | skip
  cases ry <;> first | (cases hz; done) | skip
  cases hz
  exact ⟨_, _, rfl, rfl, q _ (.bl _)⟩
/-! ### own ==, len -/
def dEqO (c : Str) (m : List D → O D) : D → D → O D
  | .ins c1 fs, .ins c2 gs => if c1 = c ∧ c2 = c then noX (m [.ins c1 fs, .ins c2 gs]) else .stuck
  | _, _ => .stuck
def rEqO (K : PySem.W.Frag) (C : Addr) (sp : Sp) (dvs : List V) : R2 := fun x y H Q => ∃ a dx vs b dy ws, x = .ref a ∧ y = .ref b ∧ H a = some (.ins C dx vs) ∧ H b = some (.ins C dy ws) ∧ sp ([x, y] ++ dvs) H Q fun _ _ _ => False
theorem op_eqO {c : Str} {k : Nat} {fd : FuncData} {ps : List Str} {sp : Sp} {dvs : List V} {ds : List Value} {f : Addr} (hm : Meth X.K (He.ga X.K c) "__eq__" f) (F : FnOk X.prog X.w X.K X.mg X.base (L2N.CX X.prog X.w) k f fd ps sp) (hb : Binds X.K fd ps ds) (hd : Vals dvs ds) (hr : Room k X.A) : OpR X (compareOp .Eq) (rEqO X.K (He.ga X.K c) sp dvs) := by
  intro pins s σ H x y v u Q I rx ry h
  obtain ⟨a, dx, vs, b, dy, ws, rfl, rfl, ha, hb', q⟩ := h
  cases (show v = Value.ref a from rx)
  cases (show u = Value.ref b from ry)
  obtain ⟨mA, OA, _⟩ := ins_get I.hok ha
  obtain ⟨od, J, _⟩ := OA.look
  obtain ⟨mB, OB, _⟩ := ins_get I.hok hb'
  obtain ⟨od', J', _⟩ := OB.look
  obtain ⟨m, hF⟩ := I.fr
  show wpAny (model X.prog X.w) X.A (richCompare .Eq (.ref a) (.ref b)) (EP X pins σ Q) X.xe s
  refine PySem.W.cmp_K (op := .Eq) (tb := .ref (He.ga X.K c)) hr.units0 hF I.ok.mod.kin J J'.type (by simp [PySem.W.notFirst]) hm.at_ hm.fn ?_
  refine wpAny_mono (run_fn (us := [.ref a, .ref b]) (vs := [.ref a, .ref b]) F hr hb hd no_passes I (.cons rfl (.cons rfl .nil)) q) (fun w s' z => ?_) fun _ _ x => x
  obtain ⟨z', H', I', rz, qz⟩ := z
  exact SlX.cmpback rz ⟨z', H', I', rz, qz⟩
theorem ce_eqO {c : Str} {k : Nat} {m : List D → O D} {rr : Kd} {a b : Expr} {pos : Pos} {f g : Env → O D} (hm : MetOk X.K c "__eq__") (C : CalleeA X.prog X.w X.K X.mg X.base (He.ma X.K (He.ga X.K c) "__eq__") k m rr) (hr : Room k X.A) (ha : CE X W κ .sh a f) (hb : CE X W κ .sh b g) (hmk : behindInMarks .Eq b = false) :
    CE X W κ .sh (.Compare a [.Eq] [b] pos) (mBin (dEqO c m) f g) := by
  obtain ⟨fd, ps, dvs, ds, dd, F, hb', hd, hdd⟩ := C
  refine ce_cmp (o := dEqO c m) (fun H Hs d e z x y Q sub rx ry hz q => ?_) (op_eqO hm.2 F hb' hd hr) ha hb hmk
  cases rx <;> first | (cases hz; done) | skip
  rename_i c1 a1 dx fs vfs h1 r1
  cases ry <;> first | (cases hz; done) | skip
  rename_i c2 a2 dy gs ws h2 r2
  dsimp only [dEqO] at hz
  by_cases hc : c1 = c ∧ c2 = c
  · rw [if_pos hc] at hz
    obtain ⟨rfl, rfl⟩ := hc
    refine ⟨a1, dx, vfs, a2, dy, ws, rfl, rfl, sub _ _ h1, sub _ _ h2, Hs, [_, _], sub, Reps.append (.cons (.ins h1 r1) (.cons (.ins h2 r2) .nil)) (hdd _), ?_⟩
    cases em : m [.ins c2 fs, .ins c2 gs] with
    | stuck => rw [em] at hz; cases hz
    | exc x gs => rw [em] at hz; cases hz
    | ok d => rw [em] at hz; cases hz; exact fun v H' r => q v H' r.share
  · rw [if_neg hc] at hz; cases hz
def dLenO (c : Str) (m : List D → O D) : List D → O D
  | [.ins c1 fs] => if c1 = c then (match m [.ins c1 fs] with
    | .ok (.int n) => if 0 ≤ n ∧ n.toNat < 2 ^ 63 then .ok (.int n) else .stuck
    | _ => .stuck) else .stuck
  | _ => .stuck
def rLenO (C : Addr) (sp : Sp) (dvs : List V) : List V → Hp → VK → Prop := fun xs H Q => ∃ a dx vs, xs = [.ref a] ∧ H a = some (.ins C dx vs) ∧ sp ([.ref a] ++ dvs) H (fun v H' => ∃ n : Int, v = .int n ∧ 0 ≤ n ∧ n < 2 ^ 63 ∧ Q v H') fun _ _ _ => False
theorem call_lenO {c : Str} {k : Nat} {fd : FuncData} {ps : List Str} {sp : Sp} {dvs : List V} {ds : List Value} {f : Addr} (hm : Meth X.K (He.ga X.K c) "__len__" f) (F : FnOk X.prog X.w X.K X.mg X.base (L2N.CX X.prog X.w) k f fd ps sp) (hb : Binds X.K fd ps ds) (hd : Vals dvs ds) (hr : Room (k + 1) X.A) : CallR X (.builtin "len") (rLenO (He.ga X.K c) sp dvs) := by
  intro pins s σ H xs us Q I r h
  obtain ⟨a, dx, vs, rfl, ha, q⟩ := h
  obtain ⟨u, rfl, ru⟩ := r.one
  cases (show u = Value.ref a from ru)
  obtain ⟨mA, OA, _⟩ := ins_get I.hok ha
  obtain ⟨od, J, _⟩ := OA.look
  obtain ⟨m, hF⟩ := I.fr
  refine PySem.W.len_K hF I.ok.mod.kin J hm.at_ hm.fn (wpAny_call ?_)
  have hl : ([Value.ref a] ++ ds).length = ps.length := by
    have e := F.len _ _ _ _ q
    rw [← e, List.length_append, List.length_append, hd.length]; rfl
  refine codeAny_mono (F.run X.A.in1 X.stack s H ⟨[.ref a], []⟩ ([.ref a] ++ ds) ([.ref a] ++ dvs) _ (fun _ _ _ => False) hr.in1 I.env0.in1 (hb _ [.ref a] I.kIn hl) (.cons (show RelV (.ref a) (.ref a) from rfl) hd) q) fun r s' hq => ?_
  cases r with
  | error er => exact False.elim (no_passes (X := X.nox) pins σ H s er s' (I.wish _) hq)
  | ok fl =>
    cases fl with
    | ret z =>
      obtain ⟨v, H', I3, rv, n, e, h0, h1, q3⟩ := I.after hq
      subst e
      obtain ⟨t, et⟩ := (show ∃ t, z = Value.int n t from rv)
      cases et
      exact ⟨⟨h0, h1⟩, .int n, H', I3.tok _, ⟨s'.toks, rfl⟩, q3⟩
    | next => exact False.elim hq
    | brk => exact False.elim hq
    | cont => exact False.elim hq
theorem ce_lenO {c : Str} {k : Nat} {m : List D → O D} {rr : Kd} {p pos : Pos} {e : Expr} {es : List Expr} {f : Env → O (List D)} (hm : MetOk X.K c "__len__") (C : CalleeA X.prog X.w X.K X.mg X.base (He.ma X.K (He.ga X.K c) "__len__") k m rr) (hr : Room (k + 1) X.A) (hg : Gl X "len") (hmg : X.mg "len" = none) (ha : CA X W κ (e :: es) f)
    (he : starEach (e :: es) X.env = (false, eval e X.env) :: starEach es X.env := by rfl) (hpl : (backTo pos (starEach es X.env)).any (·.1) = false := by rfl) : CE X W κ .sh (.Call (.Name "len" p) (e :: es) [] pos) (mCall (dLenO c m) f) := by
  obtain ⟨fd, ps, dvs, ds, dd, F, hb', hd, hdd⟩ := C
  refine ce_callB (o := dLenO c m) (fun H Hs ds' z vs Q sub rs hz q => ?_) (call_lenO hm.2 F hb' hd hr) hg hmg (by decide +kernel) ha (by decide) (by decide) he hpl
  unfold dLenO at hz
  split at hz
  · rename_i c1 fs
    cases rs with | cons r1 r2 =>
      cases r2
      cases r1 with | ins h1 hf =>
        by_cases hc : c1 = c
        · rw [if_pos hc] at hz
          subst hc
          refine ⟨_, _, _, rfl, sub _ _ h1, Hs, [_], sub, Reps.append (.cons (.ins h1 hf) .nil) (hdd _), ?_⟩
          cases em : m [.ins c1 fs] with
          | stuck => rw [em] at hz; cases hz
          | exc x gs => rw [em] at hz; cases hz
          | ok d =>
            rw [em] at hz
            split at hz
            · rename_i n hn
              cases hn
              split at hz
              · rename_i hb
                cases hz
                intro v H' r
                obtain ⟨Hs', g, rv⟩ := r.share.out
                cases rv
                exact ⟨n, rfl, hb.1, by omega, q _ _ r.share⟩
              · cases hz
            · cases hz
        · rw [if_neg hc] at hz; cases hz
  · cases hz
/-! ### keywords -/
def permL {α : Type} (π : List Nat) (xs : List α) : List α := π.filterMap fun i => xs[i]?
def CalleeK (P : Program) (w : World) (K : PySem.W.Frag) (mg : Str → Option Value) (base : Heap) (x : Str) (k : Nat) (ks : List Str) (π : List Nat) (m : List D → O D) (rr : Kd) : Prop :=
  ∃ (f : Addr) (fd : FuncData) (ps : List Str), mg x = some (.ref f) ∧ PySem.W.keepIn K (.ref f) = true ∧ FnOk P w K mg base (L2N.CX P w) k f fd ps (spM K [] m rr) ∧ π.length = ks.length ∧ (∀ i ∈ π, i < ks.length) ∧ ∀ (s : Shared) (ws : List Value), ws.length = ks.length → BindsTo s fd ⟨[], ks.zip ws⟩ (ps.zip (permL π ws))
theorem perm_reps {K : PySem.W.Frag} {Hs : Hp} {ds : List D} {vs : List V} (r : Reps K Hs ds vs) : ∀ (π : List Nat), (∀ i ∈ π, i < ds.length) → Reps K Hs (permL π ds) (permL π vs)
  | [], _ => .nil
  | i :: π, h => by
    have hi := h i List.mem_cons_self
    obtain ⟨v, h1, h2⟩ := r.get (List.getElem?_eq_getElem hi)
    unfold permL
    rw [List.filterMap_cons, List.filterMap_cons, List.getElem?_eq_getElem hi, h1]
    exact .cons h2 (perm_reps r π fun j hj => h j (List.mem_cons_of_mem _ hj))
theorem perm_vals {vs : List V} {us : List Value} (r : Vals vs us) : ∀ (π : List Nat), (∀ i ∈ π, i < vs.length) → Vals (permL π vs) (permL π us)
  | [], _ => .nil
  | i :: π, h => by
    have hi := h i List.mem_cons_self
    obtain ⟨u, h1, h2⟩ := r.get (List.getElem?_eq_getElem hi)
    unfold permL
    rw [List.filterMap_cons, List.filterMap_cons, List.getElem?_eq_getElem hi, h1]
    exact .cons h2 (perm_vals r π fun j hj => h j (List.mem_cons_of_mem _ hj))
abbrev CK (X : Cx) (W : WX) (κ : List Kd) (kws : List Keyword) (f : Env → O (List D)) : Prop := PK X kws (tA X.K W κ f)
theorem ck_nil : CK X W κ [] mNil := ⟨fun pos pins s σ H Q I h => pk_nil.run pos pins s σ H Q I (by
  obtain ⟨S, H0, Hs0, ρ, Hs, F, R, p⟩ := h
  exact p [] H Hs (.refl R.sub) .nil)⟩
theorem ck_cons {nm : Option Str} {e : Expr} {kpos : Pos} {kws : List Keyword} {f : Env → O D} {g : Env → O (List D)} (ha : CE X W κ .sh e f) (hr : CK X W κ kws g) : CK X W κ (⟨nm, e, kpos⟩ :: kws) (mCons f g) := ⟨fun pos pins s σ H Q I h => (pk_cons (nm := nm) (kpos := kpos) ha hr).run pos pins s σ H Q I (by
  obtain ⟨S, H0, Hs0, ρ, Hs, F, R, p⟩ := h
  refine stepAA R p fun x vx H1 Hs1 _ g1 R1 rx p1 => ⟨S, H0, Hs0, ρ, Hs1, F, R1, ?_⟩
  cases e : g ρ with
  | stuck => rw [e] at p1; exact p1
  | exc c fs => rw [e] at p1; exact p1
  | ok ds => rw [e] at p1; exact fun vs H' Hs' g2 rs => p1 _ H' Hs' g2 (.cons (rx.mono g2.exs) rs))⟩
def mPerm (π : List Nat) (m : List D → O D) : List D → O D := fun ds => m (permL π ds)
theorem ce_callK {x : Str} {k : Nat} {ks : List Str} {π : List Nat} {m : List D → O D} {rr : Kd} {p pos : Pos} {kws : List Keyword} {f : Env → O (List D)} (C : CalleeK X.prog X.w X.K X.mg X.base x k ks π m rr) (hr : Room k X.A) (tk : L2N.Takes X W) (hg : Gl X x) (ha : CK X W κ kws f) (hl : kws.length = ks.length := by rfl)
    (hall : (backToKw pos (keywordEach kws X.env)).all (·.1.isSome) = true := by rfl) (hks : (backToKw pos (keywordEach kws X.env)).filterMap (·.1) = ks := by rfl) (hdb : (x == ("__debug__" : Str)) = false := by decide)
    (hpl : ((backTo pos (starEach [] X.env)).any (·.1) || (backToKw pos (keywordEach kws X.env)).any (·.1.isNone)) = false := by rfl) : CE X W κ rr (.Call (.Name x p) [] kws pos) (mApp (fun ds => if ds.length = ks.length then mPerm π m ds else .stuck) f) := by
  obtain ⟨fa, fd, ps, hm, hk, F, hπ, hπ2, hb⟩ := C
  refine ⟨fun pins s σ H Q I h => ?_⟩
  refine wpAny_Call_Name_kw (ld_glob I hg hm (PySem.W.callWith_KW0 (h₀ := X.base) I.ok.mod.kin hk hall (thn (ha.run pos pins s σ H (fun vs H1 => vs.length = ks.length ∧ spM X.K [] m rr (permL π vs) H1 Q (WE W σ)) I ?_) fun ws s2 hh => ?_) hpl) hdb)
  · obtain ⟨S, H0, Hs0, ρ, Hs, F, R, q⟩ := h
    refine stepA R q fun ds vs H1 Hs1 _ g1 R1 rs p1 => ?_
    by_cases e : ds.length = ks.length
    · rw [if_pos e] at p1
      refine ⟨by rw [← rs.length]; exact e, Hs1, permL π ds, R1.sub, by rw [List.append_nil]; exact perm_reps rs π (fun i hi => by rw [e]; exact hπ2 i hi), ?_⟩
      have p2 : EPost X.K W rr σ H1 Hs1 Q (m (permL π ds)) := p1
      cases em : m (permL π ds) with
      | stuck => rw [em] at p2; exact p2
      | ok z => rw [em] at p2; exact p2
      | exc c fs => rw [em] at p2; exact p2
    · rw [if_neg e] at p1; exact p1.elim
  · obtain ⟨zs, H2, I2, rz, l2, q2⟩ := hh
    refine ⟨I2.kIn, ?_⟩
    rw [hks, List.append_nil]
    have lw : ws.length = ks.length := by rw [← rz.length]; exact l2
    refine wpAny_call (codeAny_mono (F.run X.A X.stack s2 H2 ⟨[], ks.zip ws⟩ (permL π ws) (permL π zs) Q (WE W σ) hr I2.env0 (hb s2 ws lw) (perm_vals rz π fun i hi => by rw [l2]; exact hπ2 i hi) q2) fun r s' hq => ?_)
    cases r with
    | error e => exact L2N.passAt tk σ pins H2 s2 e s' I2 hq
    | ok fl =>
      cases fl with
      | ret u => exact I2.after hq
      | next => exact False.elim hq
      | brk => exact False.elim hq
      | cont => exact False.elim hq
end
end T

set_option Elab.async false
set_option linter.all false
set_option maxRecDepth 100000
set_option maxHeartbeats 1000000
/-! TB: the head's Hook: defs at any path, one Bool, the tables' keys; from a mirror of law to the end. -/
namespace T
open PySem L2
structure DefA where
  at_ : PySem.W.Frag → Addr
  name : Str
  qual : Str
  params : Arguments
  body : List Stmt
  scope : Scope
  dfl : List He.Dv := []
def fnA (K : PySem.W.Frag) (a : Addr) : He.FnW := match K.lookup a with
  | some ⟨_, _, .func fd, _⟩ => some (fd.name, fd.qualname, fd.params, fd.body, fd.scope, fd.globals, fd.closure, fd.builtins)
  | _ => none
def DefA.val (d : DefA) : He.FnW := some (d.name, d.qual, d.params, .stmts d.body, d.scope, mainGlobals, [], builtinsNs)
def DefA.dvs (K : PySem.W.Frag) (d : DefA) : List V := d.dfl.map (He.Dv.v K)
def DefA.ok (K : PySem.W.Frag) (d : DefA) : Bool := PySem.W.keepIn K (.ref (d.at_ K)) && (match K.lookup (d.at_ K) with
  | some ⟨_, _, .func fd, _⟩ => PySem.W.codeIn K fd.code d.qual && He.dflB K fd.defaults (d.dvs K)
  | _ => false)
theorem DefA.funD {K : PySem.W.Frag} {d : DefA} (e : fnA K (d.at_ K) = d.val) (c : d.ok K = true) : ∃ fd, FunD K d.name d.qual d.params d.body d.scope (d.dvs K) [] (d.at_ K) fd := by
  obtain ⟨kp, c2⟩ := He.ba c
  unfold fnA at e
  cases q : K.lookup (d.at_ K) with
  | none => rw [q] at c2; cases c2
  | some o =>
    obtain ⟨oc, od, dt, osl⟩ := o
    rw [q] at c2 e
    cases dt with
    | func fd =>
      obtain ⟨n1, n2, n3, n4, n5, n6, n7, n8, n9, n10, n11, n12, n13, n14, n15⟩ := fd
      have e2 : (some (n1, n2, n3, n4, n5, n6, n7, n15) : He.FnW) = some (d.name, d.qual, d.params, .stmts d.body, d.scope, mainGlobals, [], builtinsNs) := e
      simp only [Option.some.injEq, Prod.mk.injEq] at e2
      obtain ⟨h1, h2, h3, h4, h5, h6, h7, h8⟩ := e2
      subst h1 h2 h3 h4 h5 h6 h7 h8
      obtain ⟨k1, k2⟩ := He.ba (show (PySem.W.codeIn K n13 d.qual && He.dflB K n8 (d.dvs K)) = true from c2)
      exact ⟨_, ⟨oc, od, n8, n9, n10, n11, n12, n13, n14, osl, rfl, q, k1, He.dflB_ok k2, .inl rfl⟩, kp⟩
    | _ => cases c2
abbrev AlA : Type := Bool × List He.FnW × List (Option (List (Option (Str × Int))))
def obsA (ex : PySem.W.Frag → Bool) (fn : List DefA) (ts : List (Str × List Str)) (K : PySem.W.Frag) : AlA := (ex K && fn.all fun d => d.ok K, fn.map fun d => fnA K (d.at_ K), ts.map fun p => He.dicW K (He.ga K p.1))
def valA (fn : List DefA) (ts : List (Str × List Str)) (w : World) : AlA := (true, fn.map DefA.val, ts.map fun p => some (He.keysIn w.params p.2))
def obsAG (n : Nat) (ex : PySem.W.Frag → Bool) (fn : List DefA) (ts : List (Str × List Str)) (g : Addr → Option Obj) : AlA := obsA ex fn ts (He.frG g (He.asD g n))
def hookA (n : Nat) (ex : PySem.W.Frag → Bool) (fn : List DefA) (ts : List (Str × List Str)) : PySem.W.Hook where
  α := AlA
  obs := fun s => obsAG n ex fn ts s.heap.get?
  val := fun w => valA fn ts w
  says := fun w h => ∃ K : PySem.W.Frag, K.In h ∧ obsA ex fn ts K = valA fn ts w
  of := fun _ _ e => ⟨_, He.frG_in, e⟩
  keeps := fun _ _ _ ⟨K, hK, c⟩ k => ⟨K, PySem.W.Frag.In.keeps hK k, c⟩
theorem obsAG_eq {n : Nat} {ex : PySem.W.Frag → Bool} {fn : List DefA} {ts : List (Str × List Str)} {g : Addr → Option Obj} {s : Shared} (h : ∀ a, g a = s.heap.get? a) : obsAG n ex fn ts g = (hookA n ex fn ts).obs s := by
  have e : g = s.heap.get? := funext h
  rw [e] <;> rfl
section
variable {ex : PySem.W.Frag → Bool} {fn : List DefA} {ts : List (Str × List Str)} {K : PySem.W.Frag} {w : World}
theorem saysA_ex (c : obsA ex fn ts K = valA fn ts w) : ex K = true := (He.ba (show (ex K && fn.all fun d => d.ok K) = true from congrArg (fun z : AlA => z.1) c)).1
theorem saysA_def (c : obsA ex fn ts K = valA fn ts w) (i : Nat) {d : DefA} (h : fn[i]? = some d := by rfl) : ∃ fd, FunD K d.name d.qual d.params d.body d.scope (d.dvs K) [] (d.at_ K) fd := by
  have c2 := (He.ba (show (ex K && fn.all fun d => d.ok K) = true from congrArg (fun z : AlA => z.1) c)).2
  have e : fn.map (fun d => fnA K (d.at_ K)) = fn.map DefA.val := congrArg (fun z : AlA => z.2.1) c
  have e2 : (fn.map fun d => fnA K (d.at_ K))[i]? = (fn.map DefA.val)[i]? := by rw [e]
  rw [List.getElem?_map, List.getElem?_map, h] at e2
  exact DefA.funD (Option.some.inj e2) (List.all_eq_true.mp c2 d (List.mem_of_getElem? h))
theorem saysA_tab (c : obsA ex fn ts K = valA fn ts w) (i : Nat) {t : Str × List Str} (h : ts[i]? = some t := by rfl) : ∃ es n, KDict K w (He.ga K t.1) es n := by
  have e : ts.map (fun p => He.dicW K (He.ga K p.1)) = ts.map fun p => some (He.keysIn w.params p.2) := congrArg (fun z : AlA => z.2.2) c
  have e2 : (ts.map fun p => He.dicW K (He.ga K p.1))[i]? = (ts.map fun p => some (He.keysIn w.params p.2))[i]? := by rw [e]
  rw [List.getElem?_map, List.getElem?_map, h] at e2
  exact He.dicW_ok (Option.some.inj e2)
end
def tabC (K : PySem.W.Frag) (x : Str) (kvs : List (Str × D)) : Bool := kvs.all fun q => q.2.flat && (match PySem.W.nsIn K (He.ga K x) q.1 with
  | some (some u) => He.relB q.2.fv u
  | _ => false)
theorem lookup_memS {z : Str} {d : D} : ∀ {l : List (Str × D)}, l.lookup z = some d → (z, d) ∈ l
  | [], h => by simp at h
  | (y, e) :: r, h => by
    rw [List.lookup_cons] at h
    cases q : (z == y) with
    | true => rw [q] at h; cases h; rw [beq_iff_eq.mp q]; exact List.mem_cons_self
    | false => rw [q] at h; exact List.mem_cons_of_mem _ (lookup_memS h)
theorem tab_by {K : PySem.W.Frag} {w : World} {x : Str} {kvs : List (Str × D)} (h : tabC K x kvs = true) (t : ∃ es n, KDict K w (He.ga K x) es n) : TabOk K w x kvs := fun z d hz => by
  have h1 := List.all_eq_true.mp h _ (lookup_memS hz)
  dsimp only at h1
  rw [Bool.and_eq_true] at h1
  refine ⟨h1.1, ?_⟩
  obtain ⟨es, n, kd⟩ := t
  have h2 := h1.2
  cases e : PySem.W.nsIn K (He.ga K x) z with
  | none => rw [e] at h2; cases h2
  | some o =>
    rw [e] at h2
    cases o with
    | none => cases h2
    | some u => exact ⟨es, n, u, kd.at_, kd.lit, e, He.relB_ok h2⟩
/-- an error's own __init__ -/
def xinB (K : PySem.W.Frag) (c : Str) : Bool := He.eqO (PySem.W.findIn K (.ref (He.ga K c)) "__init__") (some (some (.ref (He.ma K (He.ga K c) "__init__")))) && decide (PySem.W.typeIn K (.ref (He.ma K (He.ga K c) "__init__")) = some (.type "function"))
theorem xin_by {K : PySem.W.Frag} {c : Str} (h : xinB K c = true) : PySem.W.findIn K (.ref (He.ga K c)) "__init__" = some (some (.ref (He.ma K (He.ga K c) "__init__"))) ∧ PySem.W.typeIn K (.ref (He.ma K (He.ga K c) "__init__")) = some (.type "function") :=
  ⟨He.eqO_ok (He.ba h).1, of_decide_eq_true (He.ba h).2⟩
/-- what law promises -/
theorem law_sp {K : PySem.W.Frag} {m : List D → O D} {H : Hp} {a : Addr} {ns : List Int} (hs : SqL K H a (ns.map V.int)) (hm : m [.scr ns] = .ok (.bl true)) : spM K [] m .sh [.ref a] H (fun v _ => v = .bl true) fun _ _ _ => False := by
  refine ⟨H, [.scr ns], .refl _, .cons (.scr hs) .nil, ?_⟩
  rw [hm]
  intro v H' r
  obtain ⟨Hs', g, rv⟩ := r.out
  cases rv
  rfl
/-- law's errors, whatever the world -/
def CXA (P : Program) : CXT := fun l H s E e s' => ∃ w, L2N.CX P w l H s E e s'
theorem fn_cxA {P : Program} {w : World} {K : PySem.W.Frag} {mg : Str → Option Value} {base : Heap} {k : Nat} {f : Addr} {fd : FuncData} {ps : List Str} {sp : Sp} (F : FnOk P w K mg base (L2N.CX P w) k f fd ps sp) : FnOk P w K mg base (CXA P) k f fd ps sp :=
  ⟨F.len, fun A outer s H args us vs Q E hr e0 hb r h => codeAny_mono (F.run A outer s H args us vs Q E hr e0 hb r h) fun r s' q => by
    cases r with
    | error e => exact ⟨w, q⟩
    | ok fl => cases fl <;> exact q⟩
theorem calleeK_of {P : Program} {w : World} {K : PySem.W.Frag} {mg : Str → Option Value} {base : Heap} {x qual : Str} {params : Arguments} {body : List Stmt} {scope : Scope} {f : Addr} {fd : FuncData} {k : Nat} {m : List D → O D} {rr : Kd} {ps ks : List Str} {π : List Nat} (hm : mg x = some (.ref f))
    (F : FunD K x qual params body scope [] [] f fd) (G : FnOk P w K mg base (L2N.CX P w) k f fd ps (spM K [] m rr)) (hπ : π.length = ks.length) (hπ2 : ∀ i ∈ π, i < ks.length)
    (h : ∀ (kV doc pm : Value) (an : Option Addr) (cdv ct : Value) (ws : List Value), ws.length = ks.length → bindArgs (PySem.W.fnOf x qual params body scope .none kV doc pm an cdv ct) ⟨[], ks.zip ws⟩ = pure (ps.zip (permL π ws))) : CalleeK P w K mg base x k ks π m rr := by
  refine ⟨f, fd, ps, hm, F.kp, G, hπ, hπ2, fun s ws hl => ?_⟩
  obtain ⟨oc, od, dV, kV, doc, pm, an, cdv, ct, osl, rfl, lk, hcd, hD, hK⟩ := F.ex
  rcases hD with ⟨_, rfl⟩ | ⟨e, _⟩
  · exact .of_eq (h kV doc pm an cdv ct ws hl)
  · exact absurd rfl e
theorem no_cx {P : Program} {w : World} {l : List PySem.Env} {H : Hp} {s s' : Shared} {e : Value} (h : L2N.CX P w l H s (fun _ _ _ => False) e s') : False := by
  obtain ⟨_, _, _, _, _, _, _, _, _, _, _, _, z⟩ := h
  exact z
theorem no_cxA {P : Program} {l : List PySem.Env} {H : Hp} {s s' : Shared} {e : Value} (h : CXA P l H s (fun _ _ _ => False) e s') : False := by
  obtain ⟨w, h⟩ := h
  exact no_cx h
end T

set_option Elab.async false
set_option linter.all false
set_option maxRecDepth 100000
set_option maxHeartbeats 1000000
/-! TC: the mirrors' combinators as rewriting rules (plain Lean, no program in sight). -/
namespace T
open PySem L2
section
variable (ρ : Env) (f g h : Env → O D) (b b' : Env → O Bool) (s s' : Env → SO) (a : Env → O (List D))
@[simp] theorem e_mC (d : D) : mC d ρ = .ok d := nd rfl
@[simp] theorem e_mVar (i : Nat) : mVar i ρ = match ρ[i]? with
  | some (some d) => .ok d
  | _ => .stuck := nd rfl
@[simp] theorem e_mBin (o : D → D → O D) : mBin o f g ρ = f ρ >>= fun x => g ρ >>= fun y => match o x y with
  | .ok z => .ok z
  | _ => .stuck := nd rfl
@[simp] theorem e_mUn (o : D → O D) : mUn o f ρ = f ρ >>= o := nd rfl
@[simp] theorem e_mNil : mNil ρ = .ok [] := nd rfl
@[simp] theorem e_mCons : mCons f a ρ = f ρ >>= fun d => a ρ >>= fun ds => .ok (d :: ds) := nd rfl
@[simp] theorem e_mTup : mTup a ρ = a ρ >>= mkT := nd rfl
@[simp] theorem e_mLst : mLst a ρ = a ρ >>= mkL := nd rfl
@[simp] theorem e_mIf : mIf b f g ρ = b ρ >>= fun b => if b = true then f ρ else g ρ := nd rfl
@[simp] theorem e_mTest : mTest f ρ = f ρ >>= asB := nd rfl
@[simp] theorem e_asB (k : Bool) : asB (.bl k) = .ok k := nd rfl
@[simp] theorem e_mNot : mNot b ρ = b ρ >>= fun b => .ok (!b) := nd rfl
@[simp] theorem e_mAnd : mAnd b b' ρ = b ρ >>= fun z => if z = true then b' ρ else .ok false := nd rfl
@[simp] theorem e_mOr : mOr b b' ρ = b ρ >>= fun z => if z = true then .ok true else b' ρ := nd rfl
@[simp] theorem e_mAndV : mAndV f g ρ = f ρ >>= asB >>= fun b => if b = true then g ρ else .ok (.bl false) := nd rfl
@[simp] theorem e_mOrV : mOrV f g ρ = f ρ >>= asB >>= fun b => if b = true then .ok (.bl true) else g ρ := nd rfl
@[simp] theorem e_mNotV : mNotV f ρ = f ρ >>= asB >>= fun b => .ok (.bl (!b)) := nd rfl
@[simp] theorem e_noX (d : D) : noX (.ok d) = .ok d := nd rfl
@[simp] theorem e_noXs : noX .stuck = .stuck := nd rfl
@[simp] theorem e_mCall (o : List D → O D) : mCall o a ρ = a ρ >>= fun ds => noX (o ds) := nd rfl
@[simp] theorem e_mApp (m : List D → O D) : mApp m a ρ = a ρ >>= m := nd rfl
@[simp] theorem e_mSl (o : D → Option Int → Option Int → O D) (l h : Env → O (Option Int)) : mSl o f l h ρ = f ρ >>= fun d => l ρ >>= fun l => h ρ >>= fun h => o d l h := nd rfl
@[simp] theorem e_mB0 : mB0 ρ = .ok none := nd rfl
@[simp] theorem e_mB1 : mB1 f ρ = f ρ >>= asInt >>= fun i => .ok (some i) := nd rfl
@[simp] theorem e_asInt (i : Int) : asInt (.int i) = .ok i := nd rfl
@[simp] theorem e_mIxO (i : Nat) : mIxO i g ρ = match ρ[i]? with
  | some (some d) => g ρ >>= fun e => dIx d e
  | _ => .stuck := nd rfl
@[simp] theorem e_mFlat : mFlat f ρ = match f ρ with
  | .ok d => asFlat d
  | _ => .stuck := nd rfl
@[simp] theorem e_asFlatI (i : Int) : asFlat (.int i) = .ok (.int i) := nd rfl
@[simp] theorem e_asFlatB (i : Bool) : asFlat (.bl i) = .ok (.bl i) := nd rfl
@[simp] theorem e_asFlatS (i : Str) : asFlat (.str i) = .ok (.str i) := nd rfl
@[simp] theorem e_mFlatT : mFlatT b ρ = match b ρ with
  | .ok b => .ok b
  | _ => .stuck := nd rfl
@[simp] theorem e_mProp (c : Str) (m : List D → O D) : mProp c m f ρ = f ρ >>= fun x => match x with
  | .ins c' fs => if c' = c then noX (m [.ins c' fs]) else .stuck
  | _ => .stuck := nd rfl
@[simp] theorem e_mMeth (c n : Str) (m : List D → O D) : mMeth c n m f a ρ = f ρ >>= fun x => match x with
  | .ins c' fs => if c' = c ∧ fs.lookup n = none then a ρ >>= fun ds => m (.ins c' fs :: ds) else .stuck
  | _ => .stuck := nd rfl
@[simp] theorem e_dFld (cs : List Str) (n c : Str) (fs : List (Str × D)) : dFld cs n (.ins c fs) = fldIn cs n c fs := nd rfl
@[simp] theorem e_fldIn (cs : List Str) (n c : Str) (fs : List (Str × D)) : fldIn cs n c fs = if c ∈ cs then (match fs.lookup n with
  | some z => .ok z
  | none => .stuck) else .stuck := nd rfl
@[simp] theorem e_mSelf (cs : List Str) (i : Nat) (n : Str) : mSelf cs i n ρ = match ρ[i]? with
  | some (some (.ins c fs)) => fldIn cs n c fs
  | _ => .stuck := nd rfl
@[simp] theorem e_mXf (errs fns : List Str) (i : Nat) (n : Str) : mXf errs fns i n ρ = match ρ[i]? with
  | some (some (.exc c fs)) => if c ∈ errs ∧ n ∈ fns then (match fs.lookup n with
    | some z => .ok z
    | none => .stuck) else .stuck
  | _ => .stuck := nd rfl
@[simp] theorem e_mXis (base : Str) (errs : List Str) (us : List Ty) (i : Nat) (u : Ty) : mXis base errs us i u ρ = match ρ[i]? with
  | some (some (.exc c _)) => if c ∈ errs ∧ u ∈ us then .ok (.bl (xis base c u)) else .stuck
  | _ => .stuck := nd rfl
@[simp] theorem e_mM0 (o : D → List D → O D) : mM0 o f ρ = f ρ >>= fun x => if isStr x = true then noX (o x []) else .stuck := nd rfl
@[simp] theorem e_mM1 (o : D → List D → O D) : mM1 o f g ρ = f ρ >>= fun x => if isStr x = true then g ρ >>= fun y => noX (o x [y]) else .stuck := nd rfl
@[simp] theorem e_mL1 (o : D → List D → O D) : mL1 o f g ρ = f ρ >>= fun x => if isLst x = true then g ρ >>= fun y => noX (o x [y]) else .stuck := nd rfl
@[simp] theorem e_isStr (x : Str) : isStr (.str x) = true := nd rfl
@[simp] theorem e_isLst (x : List D) : isLst (.lst x) = true := nd rfl
@[simp] theorem e_mTupO (i : Nat) : mTupO i ρ = match ρ[i]? with
  | some (some (.lst ds)) => .ok (.tup ds)
  | _ => .stuck := nd rfl
@[simp] theorem e_asStr (y : Str) : asStr (.str y) = .ok y := nd rfl
@[simp] theorem e_mFS0 (acc : Str) : mFS [] acc ρ = .ok (.str acc) := nd rfl
@[simp] theorem e_mFS1 (fs : List (Env → O D)) (acc : Str) : mFS (f :: fs) acc ρ = f ρ >>= asStr >>= fun y => if (acc ++ y).length ≤ sizeLine then mFS fs (acc ++ y) ρ else .stuck := nd rfl
/-! statements -/
@[simp] theorem e_sNext : sNext ρ = .nx ρ := nd rfl
@[simp] theorem e_sSeq : sSeq s s' ρ = match s ρ with
  | .nx ρ' => s' ρ'
  | o => o := nd rfl
@[simp] theorem e_sAsg (i : Nat) : sAsg i f ρ = match f ρ with
  | .ok d => .nx (ρ.set i (some d))
  | .exc x fs => .exc ρ x fs
  | .stuck => .stuck := nd rfl
@[simp] theorem e_sDrop : sDrop f ρ = match f ρ with
  | .ok _ => .nx ρ
  | .exc x fs => .exc ρ x fs
  | .stuck => .stuck := nd rfl
@[simp] theorem e_sRet : sRet f ρ = match f ρ with
  | .ok d => .rt d
  | .exc x fs => .exc ρ x fs
  | .stuck => .stuck := nd rfl
@[simp] theorem e_sRetN : sRetN ρ = .rt .non := nd rfl
@[simp] theorem e_sIf : sIf b s s' ρ = match b ρ with
  | .ok true => s ρ
  | .ok false => s' ρ
  | .exc x fs => .exc ρ x fs
  | .stuck => .stuck := nd rfl
@[simp] theorem e_sBreak : sBreak ρ = .bk ρ := nd rfl
@[simp] theorem e_sCont : sCont ρ = .ct ρ := nd rfl
@[simp] theorem e_sApp (i : Nat) : sApp i f ρ = match ρ[i]? with
  | some (some (.lst ds)) => (match f ρ with
    | .ok d => if ds.length < sizeLine then .nx (ρ.set i (some (.lst (ds ++ [d])))) else .stuck
    | .exc x fs => .exc ρ x fs
    | .stuck => .stuck)
  | _ => .stuck := nd rfl
@[simp] theorem e_sFor (it : Env → O (List D)) (tg : Tg) : sFor it tg s ρ = match it ρ with
  | .ok ds => forD tg s ds ρ
  | .exc x fs => .exc ρ x fs
  | .stuck => .stuck := nd rfl
@[simp] theorem e_forD0 (tg : Tg) : forD tg s [] ρ = .nx ρ := nd rfl
@[simp] theorem e_sSetA (cs : List Str) (i : Nat) (n : Str) : sSetA cs i n f ρ = match f ρ with
  | .ok d => (match ρ[i]? with
    | some (some (.ins c fs)) => if c ∈ cs ∧ fs.length < 900 then .nx (ρ.set i (some (.ins c (putD n d fs)))) else .stuck
    | _ => .stuck)
  | .exc x fs => .exc ρ x fs
  | .stuck => .stuck := nd rfl
@[simp] theorem e_sRaise (n : Str) (ns : List Str) : sRaise n ns a ρ = match a ρ with
  | .ok ds => if ds.length = ns.length ∧ ds.length ≤ 1000 then .exc ρ n (ns.zip ds).reverse else .stuck
  | .exc x fs => .exc ρ x fs
  | .stuck => .stuck := nd rfl
@[simp] theorem e_sTry (errs : List Str) (i : Nat) : sTry errs i s s' ρ = match s ρ with
  | .exc ρ' c fs => if c ∈ errs then (match s' (ρ'.set i (some (.exc c fs))) with
    | .exc _ _ _ => .stuck
    | o => o.unset i) else .stuck
  | o => o := nd rfl
@[simp] theorem e_unset_nx (i : Nat) : (SO.nx ρ).unset i = .nx (ρ.set i none) := nd rfl
@[simp] theorem e_unset_rt (i : Nat) (d : D) : (SO.rt d).unset i = .rt d := nd rfl
/-! what is walked -/
@[simp] theorem e_mSeq : mSeq f ρ = f ρ >>= dSeq := nd rfl
@[simp] theorem e_mRange1 : mRange1 a ρ = a ρ >>= dRange1 := nd rfl
@[simp] theorem e_mRange2 : mRange2 a ρ = a ρ >>= dRange2 := nd rfl
@[simp] theorem e_mEnum : mEnum a ρ = a ρ >>= dEnum := nd rfl
@[simp] theorem e_mRev : mRev f ρ = f ρ >>= dRev := nd rfl
@[simp] theorem e_mComp (it : Env → O (List D)) (vs : List Nat) (tg : Tg) : mComp it vs tg b f ρ = it ρ >>= fun ds => compD tg b f (wipeD ρ vs) ds [] >>= fun r => .ok (.lst r) := nd rfl
@[simp] theorem e_mYes : mYes ρ = .ok true := nd rfl
@[simp] theorem e_put1 (i : Nat) (d : D) : (Tg.nm i).put d ρ = some (ρ.set i (some d)) := nd rfl
@[simp] theorem e_put2 (i j : Nat) (d e : D) : (Tg.tp [i, j]).put (.tup [d, e]) ρ = some ((ρ.set i (some d)).set j (some e)) := nd rfl
@[simp] theorem e_put3 (i j k : Nat) (d e c : D) : (Tg.tp [i, j, k]).put (.tup [d, e, c]) ρ = some (((ρ.set i (some d)).set j (some e)).set k (some c)) := nd rfl
@[simp] theorem e_wipe0 : wipeD ρ [] = ρ := nd rfl
@[simp] theorem e_wipe1 (v : Nat) (vs : List Nat) : wipeD ρ (v :: vs) = (wipeD ρ vs).set v none := nd rfl
end
@[simp] theorem e_dSeqL (xs : List D) : dSeq (.lst xs) = .ok xs := nd rfl
@[simp] theorem e_dSeqT (xs : List D) : dSeq (.tup xs) = .ok xs := nd rfl
@[simp] theorem e_dSeqR (xs : List Int) : dSeq (.scr xs) = .ok (xs.map .int) := nd rfl
@[simp] theorem e_dSeqS (s : Str) : dSeq (.str s) = .ok (s.cps.toList.map fun c => .str ⟨#[c]⟩) := nd rfl
@[simp] theorem e_dEnumL (xs : List D) : dEnum [.lst xs] = .ok (enumD 0 xs) := nd rfl
@[simp] theorem e_dRevL (xs : List D) : dRev (.lst xs) = .ok xs.reverse := nd rfl
@[simp] theorem e_dRevT (xs : List D) : dRev (.tup xs) = .ok xs.reverse := nd rfl
@[simp] theorem e_dRange1 (j : Int) : dRange1 [.int j] = if okR 0 j = true then .ok (rangeD 0 j) else .stuck := nd rfl
@[simp] theorem e_dRange2 (i j : Int) : dRange2 [.int i, .int j] = if okR i j = true then .ok (rangeD i j) else .stuck := nd rfl
/-! data -/
@[simp] theorem e_addI (i j : Int) : dAdd (.int i) (.int j) = .ok (.int (i + j)) := nd rfl
@[simp] theorem e_addS (i j : Str) : dAdd (.str i) (.str j) = if i.length + j.length ≤ sizeLine then .ok (.str (i ++ j)) else .stuck := nd rfl
@[simp] theorem e_addL (i j : List D) : dAdd (.lst i) (.lst j) = if i.length + j.length ≤ sizeLine then .ok (.lst (i ++ j)) else .stuck := nd rfl
@[simp] theorem e_addT (i j : List D) : dAdd (.tup i) (.tup j) = if i.length + j.length ≤ sizeLine then .ok (.tup (i ++ j)) else .stuck := nd rfl
@[simp] theorem e_subI (i j : Int) : dSub (.int i) (.int j) = .ok (.int (i - j)) := nd rfl
@[simp] theorem e_mulI (i j : Int) : dMul (.int i) (.int j) = if cMul i j = true then .ok (.int (i * j)) else .stuck := nd rfl
@[simp] theorem e_mulL (xs : List D) (k : Int) : dMul (.lst xs) (.int k) = if k.natAbs < 2 ^ 63 ∧ xs.length * k.toNat ≤ sizeLine then .ok (.lst (List.replicate k.toNat xs).flatten) else .stuck := nd rfl
@[simp] theorem e_fdiv (i j : Int) : dFdiv (.int i) (.int j) = if (decide (0 < j) && decide (j.toNat < 1073741824)) = true then .ok (.int (i / j)) else .stuck := nd rfl
@[simp] theorem e_mod (i j : Int) : dMod (.int i) (.int j) = if decide (0 < j) = true then .ok (.int (i % j)) else .stuck := nd rfl
@[simp] theorem e_pow (i j : Int) : dPow (.int i) (.int j) = if (decide (0 ≤ j) && (decide (j.toNat ≤ 1000000) && decide (i.natAbs < 2 ^ 64))) = true then .ok (.int (i ^ j.toNat)) else .stuck := nd rfl
@[simp] theorem e_neg (i : Int) : dNeg (.int i) = .ok (.int (-i)) := nd rfl
@[simp] theorem e_lt (i j : Int) : dLt (.int i) (.int j) = .ok (.bl (decide (i < j))) := nd rfl
@[simp] theorem e_le (i j : Int) : dLe (.int i) (.int j) = .ok (.bl (decide (i ≤ j))) := nd rfl
@[simp] theorem e_gt (i j : Int) : dGt (.int i) (.int j) = .ok (.bl (decide (j < i))) := nd rfl
@[simp] theorem e_ge (i j : Int) : dGe (.int i) (.int j) = .ok (.bl (decide (j ≤ i))) := nd rfl
@[simp] theorem e_eqI (i j : Int) : dEq (.int i) (.int j) = .ok (.bl (decide (i = j))) := nd rfl
@[simp] theorem e_eqS (i j : Str) : dEq (.str i) (.str j) = .ok (.bl (decide (i = j))) := nd rfl
@[simp] theorem e_eqB (i j : Bool) : dEq (.bl i) (.bl j) = .ok (.bl (decide (i = j))) := nd rfl
@[simp] theorem e_neI (i j : Int) : dNe (.int i) (.int j) = .ok (.bl (!decide (i = j))) := nd rfl
@[simp] theorem e_neS (i j : Str) : dNe (.str i) (.str j) = .ok (.bl (!decide (i = j))) := nd rfl
@[simp] theorem e_isN (d : D) : dIsN d .non = .ok (.bl d.isN) := nd rfl
@[simp] theorem e_notN (d : D) : dNotN d .non = .ok (.bl (!d.isN)) := nd rfl
@[simp] theorem e_isN0 : D.isN .non = true := nd rfl
@[simp] theorem e_isNi (i : Int) : D.isN (.int i) = false := nd rfl
@[simp] theorem e_isNt (i : List D) : D.isN (.tup i) = false := nd rfl
@[simp] theorem e_isB (i j : Bool) : dIsB (.bl i) (.bl j) = .ok (.bl (decide (i = j))) := nd rfl
@[simp] theorem e_notB (i j : Bool) : dNotB (.bl i) (.bl j) = .ok (.bl (!decide (i = j))) := nd rfl
@[simp] theorem e_lenL (xs : List D) : dLen [.lst xs] = .ok (.int xs.length) := nd rfl
@[simp] theorem e_lenT (xs : List D) : dLen [.tup xs] = .ok (.int xs.length) := nd rfl
@[simp] theorem e_lenR (xs : List Int) : dLen [.scr xs] = .ok (.int xs.length) := nd rfl
@[simp] theorem e_lenS (s : Str) : dLen [.str s] = if s.length ≤ sizeLine then .ok (.int s.length) else .stuck := nd rfl
@[simp] theorem e_intI (i : Int) : dIntA [.int i] = .ok (.int i) := nd rfl
@[simp] theorem e_intB (k : Bool) : dIntA [.bl k] = .ok (.int (if k then 1 else 0)) := nd rfl
@[simp] theorem e_intS (s : Str) : dIntA [.str s] = (match PySem.intText? s with
  | some n => if s.length ≤ 640 then .ok (.int n) else .stuck
  | none => .stuck) := nd rfl
@[simp] theorem e_strI (i : Int) : dStr [.int i] = if i.natAbs.log2 < 1920 then .ok (.str (toString i)) else .stuck := nd rfl
@[simp] theorem e_fmtS (y : Str) : dFmt (.str y) = if y.length ≤ sizeLine then .ok (.str y) else .stuck := nd rfl
@[simp] theorem e_fmtI (i : Int) : dFmt (.int i) = if i.natAbs.log2 < 1920 then .ok (.str (toString i)) else .stuck := nd rfl
@[simp] theorem e_ixL (xs : List D) (i : Int) : dIx (.lst xs) (.int i) = match atI xs i with
  | some d => .ok d
  | none => .stuck := nd rfl
@[simp] theorem e_ixT (xs : List D) (i : Int) : dIx (.tup xs) (.int i) = match atI xs i with
  | some d => .ok d
  | none => .stuck := nd rfl
@[simp] theorem e_ixR (xs : List Int) (i : Int) : dIx (.scr xs) (.int i) = match atI xs i with
  | some d => .ok (.int d)
  | none => .stuck := nd rfl
@[simp] theorem e_ixS (s : Str) (i : Int) : dIx (.str s) (.int i) = if s.length ≤ sizeLine then (match atI s.cps.toList i with
  | some c => .ok (.str ⟨#[c]⟩)
  | none => .stuck) else .stuck := nd rfl
@[simp] theorem e_slL (xs : List D) (l h : Option Int) : dSl (.lst xs) l h = .ok (.lst (cutD xs l h)) := nd rfl
@[simp] theorem e_slT (xs : List D) (l h : Option Int) : dSl (.tup xs) l h = .ok (.tup (cutD xs l h)) := nd rfl
@[simp] theorem e_slS (s : Str) (l h : Option Int) : dSl (.str s) l h = if s.length ≤ sizeLine then .ok (.str (cutS s l h)) else .stuck := nd rfl
@[simp] theorem e_split (x y : Str) : dSplit (.str x) [.str y] = if (y.length == 0) = false ∧ x.length + 2 ≤ sizeLine then .ok (.lst ((Txt.split x y).map .str)) else .stuck := nd rfl
@[simp] theorem e_joinL (x : Str) (xs : List D) : dJoin (.str x) [.lst xs] = joinS x xs := nd rfl
@[simp] theorem e_joinT (x : Str) (xs : List D) : dJoin (.str x) [.tup xs] = joinS x xs := nd rfl
@[simp] theorem e_joinS (x : Str) (ys : List Str) : joinS x (ys.map .str) = if (ys.map (·.length)).sum + ys.length * x.length ≤ 16777216 then .ok (.str (Txt.join x ys)) else .stuck := by unfold joinS; rw [strsOf_map]
@[simp] theorem e_starts (x y : Str) : dStarts (.str x) [.str y] = .ok (.bl (Txt.startswith x y)) := nd rfl
@[simp] theorem e_upper (x : Str) : dUpper (.str x) [] = if x.length ≤ 5592405 then .ok (.str (Txt.upper x)) else .stuck := nd rfl
@[simp] theorem e_tab (kvs : List (Str × D)) (z : Str) : dTab kvs (.str z) = (match kvs.lookup z with
  | some d => .ok d
  | none => .stuck) := nd rfl
theorem e_mkT {ds : List D} (h : ds.length ≤ sizeLine) : mkT ds = .ok (.tup ds) := if_pos h
theorem e_mkL {ds : List D} (h : ds.length ≤ sizeLine) : mkL ds = .ok (.lst ds) := if_pos h
@[simp] theorem e_mkT1 (x : D) : mkT [x] = .ok (.tup [x]) := nd rfl
@[simp] theorem e_mkT2 (x y : D) : mkT [x, y] = .ok (.tup [x, y]) := nd rfl
@[simp] theorem e_mkT3 (x y z : D) : mkT [x, y, z] = .ok (.tup [x, y, z]) := nd rfl
@[simp] theorem e_mkL0 : mkL [] = .ok (.lst []) := nd rfl
@[simp] theorem e_mkL1 (x : D) : mkL [x] = .ok (.lst [x]) := nd rfl
@[simp] theorem e_mkL2 (x y : D) : mkL [x, y] = .ok (.lst [x, y]) := nd rfl
@[simp] theorem e_mkL3 (x y z : D) : mkL [x, y, z] = .ok (.lst [x, y, z]) := nd rfl
@[simp] theorem e_mkL4 (x y z a : D) : mkL [x, y, z, a] = .ok (.lst [x, y, z, a]) := nd rfl
@[simp] theorem e_mkL5 (x y z a b : D) : mkL [x, y, z, a, b] = .ok (.lst [x, y, z, a, b]) := nd rfl
@[simp] theorem e_mkL6 (x y z a b c : D) : mkL [x, y, z, a, b, c] = .ok (.lst [x, y, z, a, b, c]) := nd rfl
@[simp] theorem e_mkL8 (x y z a b c d e : D) : mkL [x, y, z, a, b, c, d, e] = .ok (.lst [x, y, z, a, b, c, d, e]) := nd rfl
/-! items -/
theorem atI_nat {α : Type} {xs : List α} {n : Nat} : atI xs (n : Int) = xs[n]? := by
  unfold atI ixN
  by_cases h : n < xs.length
  · simp [h]
  · rw [List.getElem?_eq_none (by omega)]
    split <;> rename_i h2 <;> simp_all
    all_goals omega
@[simp] theorem atI_0 {α : Type} {xs : List α} : atI xs 0 = xs[0]? := atI_nat (n := 0)
@[simp] theorem atI_1 {α : Type} {xs : List α} : atI xs 1 = xs[1]? := atI_nat (n := 1)
@[simp] theorem atI_2 {α : Type} {xs : List α} : atI xs 2 = xs[2]? := atI_nat (n := 2)
@[simp] theorem atI_3 {α : Type} {xs : List α} : atI xs 3 = xs[3]? := atI_nat (n := 3)
@[simp] theorem atI_4 {α : Type} {xs : List α} : atI xs 4 = xs[4]? := atI_nat (n := 4)
@[simp] theorem atI_5 {α : Type} {xs : List α} : atI xs 5 = xs[5]? := atI_nat (n := 5)
theorem inS1 (c : Nat) (s : Str) : inB (.str ⟨#[c]⟩) (.str s) = .ok (decide (c ∈ s.cps.toList)) := by
  show O.ok (!(Builtin.Str.occurrences s ⟨#[c]⟩ 0 s.length 1).isEmpty) = _
  rw [StrLaws.found_one]
@[simp] theorem e_in1 (c : Nat) (s : Str) : dIn (.str ⟨#[c]⟩) (.str s) = .ok (.bl (decide (c ∈ s.cps.toList))) := by unfold dIn; rw [inS1]; rfl
@[simp] theorem e_notIn1 (c : Nat) (s : Str) : dNotIn (.str ⟨#[c]⟩) (.str s) = .ok (.bl (!decide (c ∈ s.cps.toList))) := by unfold dNotIn; rw [inS1]; rfl
@[simp] theorem e_def (N n : Nat) (rr : Kd) (g : Env → SO) (ds : List D) : mDef N n rr g ds = if ds.length = n then endD rr (g (startD N ds)) else .stuck := nd rfl
@[simp] theorem e_init (c : Str) (N n : Nat) (g : Env → SO) (ds : List D) : mInit c N n g ds = if ds.length = n then endI c (g (some (.ins c []) :: startD (N - 1) ds)) else .stuck := nd rfl
@[simp] theorem e_start (N : Nat) (ds : List D) : startD N ds = ds.map some ++ List.replicate (N - ds.length) none := nd rfl
@[simp] theorem e_end1 (rr : Kd) (d : D) : endD rr (.rt d) = .ok d := nd rfl
@[simp] theorem e_end2 (rr : Kd) (ρ : Env) (c : Str) (fs : List (Str × D)) : endD rr (.exc ρ c fs) = .exc c fs := nd rfl
@[simp] theorem e_end3 (ρ : Env) : endD .sh (.nx ρ) = .ok .non := nd rfl
@[simp] theorem e_endI1 (c0 : Str) (ρ : Env) : endI c0 (.nx ρ) = (match ρ[0]? with
    | some (some (D.ins c fs)) => if c = c0 then .ok (.ins c fs) else .stuck
    | _ => .stuck) := nd rfl
@[simp] theorem e_endI2 (c0 : Str) (ρ : Env) (c : Str) (fs : List (Str × D)) : endI c0 (.exc ρ c fs) = .exc c fs := nd rfl
theorem forD_cons (tg : Tg) (s : Env → SO) (d : D) (ds : List D) (ρ : Env) : forD tg s (d :: ds) ρ = match tg.put d ρ with
    | none => .stuck
    | some ρ1 => match s ρ1 with
      | .nx ρ' => forD tg s ds ρ'
      | .ct ρ' => forD tg s ds ρ'
      | .bk ρ' => .nx ρ'
      | o => o := nd rfl
theorem compD_nil (tg : Tg) (t : Env → O Bool) (e : Env → O D) (ρ : Env) (acc : List D) : compD tg t e ρ [] acc = .ok acc := nd rfl
theorem compD_cons (tg : Tg) (t : Env → O Bool) (e : Env → O D) (ρ : Env) (d : D) (ds acc : List D) : compD tg t e ρ (d :: ds) acc = match tg.put d ρ with
    | none => .stuck
    | some ρ1 => match t ρ1 with
      | .ok true => (match e ρ1 with
        | .ok z => if acc.length < sizeLine then compD tg t e ρ ds (acc ++ [z]) else .stuck
        | _ => .stuck)
      | .ok false => compD tg t e ρ ds acc
      | _ => .stuck := nd rfl
/-- a comprehension without a test is a map -/
theorem compD_map {tg : Tg} {e : Env → O D} {ρ : Env} {α : Type} {fd fz : α → D} (h : ∀ x, ∃ ρ1, tg.put (fd x) ρ = some ρ1 ∧ e ρ1 = .ok (fz x)) : ∀ (xs : List α) (acc : List D), acc.length + xs.length ≤ sizeLine → compD tg mYes e ρ (xs.map fd) acc = .ok (acc ++ xs.map fz)
  | [], acc, _ => by rw [List.map_nil, compD_nil, List.map_nil, List.append_nil]
  | x :: xs, acc, hl => by
    obtain ⟨ρ1, h1, h2⟩ := h x
    rw [List.map_cons, compD_cons, h1]
    dsimp only
    rw [e_mYes, h2]
    dsimp only
    rw [List.length_cons] at hl
    rw [if_pos (by omega), compD_map h xs _ (by rw [List.length_append, List.length_singleton]; omega), List.map_cons, List.append_assoc]
    rfl
end T

set_option Elab.async false
set_option linter.all false
set_option maxRecDepth 100000
set_option maxHeartbeats 1000000
/-! TD: dicts of a slot's own; pairs as keys; sorted keys; unpacking. -/
namespace T
open PySem L2

/-! ### keys -/
def keyO : D → Option Key
  | .int i => some (.inl i)
  | .str s => some (.inr s)
  | _ => none
def keysO : List D → Option (List Key)
  | [] => some []
  | d :: ds => (keyO d).bind fun k => (keysO ds).map fun ks => k :: ks
def keyT : D → Option (List Key)
  | .tup ds => keysO ds
  | _ => none
def kD : Key → D
  | .inl i => .int i
  | .inr s => .str s
def kT (ks : List Key) : D := .tup (ks.map kD)
theorem keyO_rep {K : PySem.W.Frag} {H : Hp} {d : D} {v : V} {k : Key} (h : keyO d = some k) (r : Rep K H d v) : v = kV k := by
  cases r <;> first | (cases h; done) | (cases h; rfl)
theorem keysO_rep {K : PySem.W.Frag} {H : Hp} : ∀ {ds : List D} {vs : List V} {ks : List Key}, keysO ds = some ks → Reps K H ds vs → vs = ks.map kV
  | [], _, _, h, .nil => by cases h; rfl
  | d :: ds, _, ks, h, .cons a b => by
    unfold keysO at h
    cases e : keyO d with
    | none => rw [e] at h; cases h
    | some k =>
      rw [e] at h
      cases e2 : keysO ds with
      | none => rw [e2] at h; cases h
      | some ks' =>
        rw [e2] at h
        cases h
        rw [keyO_rep e a, keysO_rep e2 b]; rfl
theorem rep_kD {K : PySem.W.Frag} {H : Hp} (k : Key) : Rep K H (kD k) (kV k) := by
  cases k with
  | inl i => exact .int i
  | inr s => exact .str s
theorem reps_kD {K : PySem.W.Frag} {H : Hp} : ∀ ks : List Key, Reps K H (ks.map kD) (ks.map kV)
  | [] => .nil
  | k :: ks => .cons (rep_kD k) (reps_kD ks)
section
variable {κ : Type} [DecidableEq κ]
def findK (ks : List (κ × D)) (k : κ) : Option D := (ks.find? fun e => decide (e.1 = k)).map (·.2)
def storeK (ks : List (κ × D)) (k : κ) (d : D) : List (κ × D) :=
  if (ks.any fun e => decide (e.1 = k)) = true then ks.map (fun e => if e.1 = k then (e.1, d) else e) else ks ++ [(k, d)]
end
section
variable {K : PySem.W.Frag} {H : Hp}
theorem TReps.length {ks : List (List Key × D)} {vs : List (List Key × V)} : TReps K H ks vs → ks.length = vs.length
  | .nil => rfl
  | .cons _ b => by simp [TReps.length b]
theorem TReps.keys {ks : List (List Key × D)} {vs : List (List Key × V)} : TReps K H ks vs → ks.map (·.1) = vs.map (·.1)
  | .nil => rfl
  | .cons _ b => by simp [TReps.keys b]
theorem TReps.find {ks : List (List Key × D)} {vs : List (List Key × V)} (k : List Key) : TReps K H ks vs → (∃ d v, findK ks k = some d ∧ valV vs k = some v ∧ Rep K H d v) ∨ (findK ks k = none ∧ valV vs k = none)
  | .nil => .inr ⟨rfl, rfl⟩
  | .cons (k := j) (d := d) (v := v) (ds := ds) (vs := vs) a b => by
    by_cases e : j = k
    · exact .inl ⟨d, v, by unfold findK; rw [List.find?_cons_of_pos (by simpa using e)]; rfl, valV_pos e, a⟩
    · have e1 : findK ((j, d) :: ds) k = findK ds k := by unfold findK; rw [List.find?_cons_of_neg (by simpa using e)]
      rw [e1, valV_neg (p := (j, v)) e]
      exact TReps.find k b
theorem TReps.any {ks : List (List Key × D)} {vs : List (List Key × V)} (k : List Key) : TReps K H ks vs → (ks.any fun e => decide (e.1 = k)) = vs.any fun e => decide (e.1 = k)
  | .nil => rfl
  | .cons _ b => by rw [List.any_cons, List.any_cons, TReps.any k b]
theorem TReps.app {ks js : List (List Key × D)} {vs us : List (List Key × V)} : TReps K H ks vs → TReps K H js us → TReps K H (ks ++ js) (vs ++ us)
  | .nil, h => h
  | .cons a b, h => .cons a (TReps.app b h)
theorem TReps.repl {ks : List (List Key × D)} {vs : List (List Key × V)} (k : List Key) {d : D} {v : V} (r : Rep K H d v) : TReps K H ks vs → TReps K H (ks.map fun e => if e.1 = k then (e.1, d) else e) (vs.map fun e => if e.1 = k then (e.1, v) else e)
  | .nil => .nil
  | .cons (k := j) a b => by
    rw [List.map_cons, List.map_cons]
    by_cases e : j = k
    · rw [if_pos e, if_pos e]; exact .cons r (TReps.repl k r b)
    · rw [if_neg e, if_neg e]; exact .cons a (TReps.repl k r b)
theorem TReps.put {ks : List (List Key × D)} {vs : List (List Key × V)} (k : List Key) {d : D} {v : V} (h : TReps K H ks vs) (r : Rep K H d v) : TReps K H (storeK ks k d) (putK vs k v) := by
  unfold storeK putK
  rw [h.any k]
  split
  · exact h.repl k r
  · exact h.app (.cons r .nil)
end

section
variable {X : Cx} {W : WX} {κ : List Kd} {c : Cf}
/-- an outcome of a kind, then the rest -/
theorem stepK {S : List Addr} {H0 Hs0 : Hp} {ρ : Env} {σ : L2.St} {H Hs : Hp} {F : Foot} {K : PySem.W.Frag} {f : Env → O D} {k : D → O D} {r rf : Kd} {Q : VK} (R : Rel K S H0 Hs0 κ ρ σ H Hs F) (p : EPost K W r σ H Hs Q (f ρ >>= k))
    {R2 : V → Hp → Prop} (h : ∀ d v H1 Hs1 G, f ρ = .ok d → Grow H Hs H1 Hs1 → Rel K S H0 Hs0 κ ρ σ H1 Hs1 F → Own K rf H1 Hs1 d v G → EPost K W r σ H1 Hs1 Q (k d) → R2 v H1) : tE K W κ rf f σ H R2 := by
  refine ⟨S, H0, Hs0, ρ, Hs, F, R, ?_⟩
  cases e : f ρ with
  | stuck => rw [e] at p; exact p
  | exc c fs => rw [e] at p; exact p
  | ok d =>
    rw [e] at p
    intro v H1 q
    obtain ⟨Hs1, G, g, _, _, ow⟩ := q
    refine h d v H1 Hs1 G e g (R.grow g) ow ?_
    have p' : EPost K W r σ H Hs Q (k d) := p
    cases ek : k d with
    | stuck => rw [ek] at p'; exact p'
    | ok z => rw [ek] at p'; exact fun v' H' q' => p' v' H' (q'.pre g)
    | exc c fs => rw [ek] at p'; exact fun cls dx H' q' => p' cls dx H' (xres_pre g q')
/-- a display of a tuple: a plain tuple -/
theorem ce_tupP {es : List Expr} {x1 : _} {pos : Pos} {f : Env → O (List D)} (h : CA X W κ es f) : CE X W κ .pt (.Tuple es x1 pos) (mTup f) :=
  PE.imp (pe_tup h) fun σ H Q q => by
    obtain ⟨S, H0, Hs0, ρ, Hs, F, R, p⟩ := q
    refine stepA R p fun ds vs H1 Hs1 _ g1 R1 rs p1 => ?_
    unfold mkT at p1
    split at p1
    · rename_i hl
      refine ⟨by rw [← rs.length]; exact hl, fun t ht => p1 _ _ ⟨upd Hs1 t (.tup vs), [], .new R1.sub ht, List.nodup_nil, (fun _ h => nomatch h), t, ds, vs, rfl, rfl, upd_same, rfl, rs.mono (.new (R1.sub.none ht))⟩⟩
    · exact p1.elim
theorem ce_varP (i : Nat) {x : Str} {pos : Pos} (hk : kAt κ i = .pt) (hp : PE X (.Name x pos) (tVar i)) : CE X W κ .pt (.Name x pos) (mVar i) :=
  PE.imp hp fun σ H Q h => by
    obtain ⟨S, H0, Hs0, ρ, Hs, F, R, p⟩ := h
    unfold mVar at p
    split at p
    · rename_i d e
      obtain ⟨v, h1, h2⟩ := R.sl i d e
      rw [hk] at h2
      refine ⟨v, h1, p v H ⟨Hs, [], .refl R.sub, List.nodup_nil, (fun _ h => nomatch h), ?_⟩⟩
      obtain ⟨a, ds, vs, e1, e2, e3, e4, e5⟩ := h2
      exact ⟨a, ds, vs, e1, e2, e3, rfl, e5⟩
    · exact p.elim
/-! ### dicts with tuples as keys -/
theorem ce_dnewT {pos : Pos} : CE X W κ .dt (.Dict [] [] pos) (mC (.dct [])) :=
  PE.imp pe_dnewT fun σ H Q q => by
    obtain ⟨S, H0, Hs0, ρ, Hs, F, R, p⟩ := q
    refine fun l hl => p _ _ ⟨Hs, [l], .newOwn R.sub hl (fun _ h => by cases h), by simp, fun a ha => ?_, l, [], [], rfl, rfl, upd_same, rfl, .nil⟩
    have e : a = l := by simpa using ha
    subst e
    exact ⟨hl, R.sub.none hl, by rw [upd_same]; simp⟩
def kGet (ks : List (List Key × D)) (y : D) : O D := match keyT y with
  | some k => (match findK ks k with
    | some d => .ok d
    | none => .stuck)
  | none => .stuck
def mDget (i : Nat) (g : Env → O D) : Env → O D := fun ρ => match ρ[i]? with
  | some (some (.dct ks)) => g ρ >>= kGet ks
  | _ => .stuck
theorem own_dt {K : PySem.W.Frag} {S : List Addr} {H0 Hs0 : Hp} {ρ : Env} {σ : L2.St} {H Hs : Hp} {F : Foot} (R : Rel K S H0 Hs0 κ ρ σ H Hs F) {i : Nat} {ks : List (List Key × D)} (hd : ρ[i]? = some (some (.dct ks))) (hk : kAt κ i = .dt) :
    ∃ a vs, σ[i]? = some (some (.ref a)) ∧ H a = some (.dT vs) ∧ F i = [a] ∧ TReps K Hs ks vs := by
  obtain ⟨v, h1, h2⟩ := R.sl i _ hd
  rw [hk] at h2
  obtain ⟨a, ks', vs, rfl, e, h3, h4, h5⟩ := h2
  cases e
  exact ⟨a, vs, h1, h3, h4, h5⟩
theorem own_pt {K : PySem.W.Frag} {H Hs : Hp} {d : D} {v : V} {G : List Addr} {k : List Key} (h : Own K .pt H Hs d v G) (sub : Sub Hs H) (hk : keyT d = some k) : ∃ b, v = .ref b ∧ H b = some (.tup (k.map kV)) := by
  obtain ⟨a, ds, vs, rfl, rfl, e3, _, e5⟩ := h
  exact ⟨a, rfl, by rw [← keysO_rep hk e5]; exact sub _ _ e3⟩
theorem ce_dget (i : Nat) {x : Str} {p pos : Pos} {e : Expr} {g : Env → O D} (hu : X.A.units + 65 < cLine) (hk : kAt κ i = .dt) (hp : PE X (.Name x p) (tVar i)) (hi : CE X W κ .pt e g) (hs : NoSl e := by exact fun _ _ => rfl) :
    CE X W κ .sh (.Subscript (.Name x p) e pos) (mDget i g) :=
  PE.imp (pe_dget (by omega) hp hi hs) fun σ H Q q => by
    obtain ⟨S, H0, Hs0, ρ, Hs, F, R, p⟩ := q
    unfold mDget at p
    split at p
    · rename_i ks hd
      obtain ⟨a, vs, hv, ha, hF, rs⟩ := own_dt R hd hk
      refine ⟨_, hv, ?_⟩
      refine stepK R p fun y w H1 Hs1 G _ g1 R1 ow p1 => ?_
      unfold kGet at p1
      cases ek : keyT y with
      | none => rw [ek] at p1; exact p1.elim
      | some k =>
        rw [ek] at p1
        dsimp only at p1
        obtain ⟨b, rfl, hb⟩ := own_pt ow R1.sub ek
        rcases (rs.mono g1.exs).find k with ⟨d, v, f1, f2, f3⟩ | ⟨f1, _⟩
        · rw [f1] at p1
          refine ⟨a, v, rfl, .inr ⟨vs, k, b, .inl (g1.ex _ _ ha), rfl, hb, f2.symm⟩, p1 v H1 (.sh (.refl R1.sub) f3)⟩
        · rw [f1] at p1; exact p1.elim
    · exact p.elim
def kGet2 (ks : List (List Key × D)) (y z : D) : O D := match keyT y with
  | some k => .ok ((findK ks k).getD z)
  | none => .stuck
def mDgetD (i : Nat) (g h : Env → O D) : Env → O D := fun ρ => match ρ[i]? with
  | some (some (.dct ks)) => g ρ >>= fun y => h ρ >>= fun z => kGet2 ks y z
  | _ => .stuck
theorem ce_dgetD (i : Nat) {x : Str} {p apos cpos : Pos} {e e2 : Expr} {g h : Env → O D} (hu : X.A.units + 65 < cLine) (hk : kAt κ i = .dt) (hp : PE X (.Name x p) (tVar i)) (hi : CE X W κ .pt e g) (hj : CE X W κ .sh e2 h) (m : M2 X (.Name x p) "get" apos e e2 cpos := by exact ⟨rfl, rfl, rfl, rfl⟩) :
    CE X W κ .sh (.Call (.Attribute (.Name x p) "get" apos) [e, e2] [] cpos) (mDgetD i g h) :=
  PE.imp (pe_dget2 (by omega) hp hi hj m) fun σ H Q q => by
    obtain ⟨S, H0, Hs0, ρ, Hs, F, R, p⟩ := q
    unfold mDgetD at p
    split at p
    · rename_i ks hd
      obtain ⟨a, vs, hv, ha, hF, rs⟩ := own_dt R hd hk
      refine ⟨_, hv, a, rfl, .inr ⟨vs, .inl ha⟩, ?_⟩
      refine stepK R p fun y w H1 Hs1 G _ g1 R1 ow p1 => ?_
      refine step R1 p1 fun z u H2 Hs2 _ g2 R2 rz p2 => ?_
      unfold kGet2 at p2
      cases ek : keyT y with
      | none => rw [ek] at p2; exact p2.elim
      | some k =>
        rw [ek] at p2
        dsimp only at p2
        obtain ⟨b, rfl, hb⟩ := own_pt ow R1.sub ek
        have g12 := g1.trans g2
        rcases (rs.mono g12.exs).find k with ⟨d, v, f1, f2, f3⟩ | ⟨f1, f2⟩
        · rw [f1] at p2
          refine ⟨some v, .inr ⟨vs, k, b, .inl (g12.ex _ _ ha), rfl, g2.ex _ _ hb, f2.symm⟩, p2 v H2 (.sh (.refl R2.sub) f3)⟩
        · rw [f1] at p2
          refine ⟨none, .inr ⟨vs, k, b, .inl (g12.ex _ _ ha), rfl, g2.ex _ _ hb, f2.symm⟩, p2 u H2 (.sh (.refl R2.sub) rz)⟩
    · exact p.elim
def kIn (ks : List (List Key × D)) (y : D) : O D := match keyT y with
  | some k => .ok (.bl (findK ks k).isSome)
  | none => .stuck
def mDin (i : Nat) (g : Env → O D) : Env → O D := fun ρ => match ρ[i]? with
  | some (some (.dct ks)) => g ρ >>= kIn ks
  | _ => .stuck
/-- a slot gets another dict -/
theorem Rel.dict {K : PySem.W.Frag} {S : List Addr} {H0 Hs0 : Hp} {ρ : Env} {σ : L2.St} {H Hs : Hp} {F : Foot} (R : Rel K S H0 Hs0 κ ρ σ H Hs F) {i : Nat} {d : D} {a : Addr} {ks' : List (List Key × D)} {vs' : List (List Key × V)} (hd : ρ[i]? = some (some d)) (hv : σ[i]? = some (some (.ref a)))
    (hk : kAt κ i = .dt) (hF : F i = [a]) (r : TReps K Hs ks' vs') : ∃ F', Rel K S H0 Hs0 κ (ρ.set i (some (.dct ks'))) σ (upd H a (.dT vs')) Hs F' := by
  have hne : Hs a = none := (R.al i a (by rw [hF]; exact List.mem_cons_self)).2
  refine R.mut (k := .dt) (H' := upd H a (.dT vs')) (d' := .dct ks') (v := .ref a) (G := [a]) hd hv (fun b hb _ => upd_ne fun z => hb (by rw [hF, z]; exact List.mem_cons_self))
    (R.sub.own hne fun _ h => by cases h) (fun b hb => by
      by_cases q : b = a
      · rw [q, upd_same]; simp
      · rw [upd_ne q]; exact hb) (by simp) (fun b hb => .inl (by rw [hF]; exact hb)) ?_
  rw [hk]
  exact ⟨a, _, _, rfl, rfl, upd_same, rfl, r⟩
/-- d[k] = v -/
def sDput (i : Nat) (f g : Env → O D) : Env → SO := sE f fun d ρ => match ρ[i]? with
  | some (some (.dct ks)) => sE g (fun y ρ => match keyT y with
    | some k => if ks.length < sizeLine then .nx (ρ.set i (some (.dct (storeK ks k d)))) else .stuck
    | none => .stuck) ρ
  | _ => .stuck
theorem stepSK {κ' : List Kd} {S : List Addr} {H0 Hs0 : Hp} {ρ : Env} {σ : L2.St} {H Hs : Hp} {F : Foot} {K : PySem.W.Frag} {f : Env → O D} {k : D → Env → SO} {r : Kd} {Dn : Ends} (hx : c.κx κ) (R : Rel K S H0 Hs0 κ ρ σ H Hs F) (p : SPost K c S H0 Hs0 κ' Hs Dn (sE f k ρ))
    {R2 : V → Hp → Prop} (h : ∀ d v H1 Hs1 G, f ρ = .ok d → Grow H Hs H1 Hs1 → Rel K S H0 Hs0 κ ρ σ H1 Hs1 F → Own K r H1 Hs1 d v G → SPost K c S H0 Hs0 κ' Hs1 Dn (k d ρ) → R2 v H1) : tE K c.W κ r f σ H R2 :=
  stepS hx R p fun d v H1 e q p1 => by
    obtain ⟨Hs1, G, g, _, _, ow⟩ := q
    exact h d v H1 Hs1 G e g (R.grow g) ow (p1.mono g.exs)
theorem cs_dput (i : Nat) {x : Str} {p p' pos : Pos} {e v : Expr} {f g : Env → O D} (hu : X.A.units + 65 < cLine) (hk : kAt κ i = .dt) (hx : c.κx κ) (hp : PE X (.Name x p) (tVar i)) (hv : CE X c.W κ .sh v f) (hi : CE X c.W κ .pt e g)
    (hs : swapsWith v (some (.Subscript (.Name x p) e p')) pos.line X.env = pure false := by rfl) : CS X c κ κ (.Assign [.Subscript (.Name x p) e p'] v pos) (sDput i f g) :=
  PS.imp (ps_dput (by omega) hp hi hv hs) fun Dn σ H q => by
    obtain ⟨S, H0, Hs0, ρ, Hs, F, hS, R, p⟩ := q
    unfold sDput at p
    refine stepSK hx R p fun d v H1 Hs1 G _ g1 R1 ow p1 => ?_
    obtain ⟨rd, _⟩ := ow
    split at p1
    · rename_i ks hd
      obtain ⟨a, vs, hv, ha, hF, rs⟩ := own_dt R1 hd hk
      refine ⟨_, hv, ?_⟩
      refine stepSK hx R1 p1 fun y w H2 Hs2 G2 _ g2 R2 ow2 p2 => ?_
      cases ek : keyT y with
      | none => rw [ek] at p2; exact p2.elim
      | some k =>
        rw [ek] at p2
        dsimp only at p2
        obtain ⟨b, rfl, hb⟩ := own_pt ow2 R2.sub ek
        by_cases hl : ks.length < sizeLine
        · rw [if_pos hl] at p2
          have rs2 := rs.mono g2.exs
          refine ⟨a, _, rfl, .inr ⟨vs, k, b, g2.ex _ _ ha, rfl, hb, by rw [← rs.length]; exact hl, rfl⟩, ?_⟩
          obtain ⟨F', R'⟩ := R2.dict hd hv hk hF (rs2.put k (rd.mono g2.exs))
          exact p2 σ _ Hs2 F' R' (.refl _)
        · rw [if_neg hl] at p2; exact p2.elim
    · exact p1.elim
end
end T

set_option Elab.async false
set_option linter.all false
set_option maxRecDepth 100000
set_option maxHeartbeats 4000000
/-! TE: sorted(d) of a dict with pairs of ints as keys. -/
namespace T
open PySem L2 SrtO PyProof.Rows
/-- the address of a reference -/
def adrV : Value → Addr
  | .ref a => a
  | _ => 0
/-- the two ints of a pair in the heap -/
def pairAt (H : Hp) (v : Value) : Int × Int := match H (adrV v) with
  | some (.tup [.int i, .int j]) => (i, j)
  | _ => (0, 0)
def pairK (e : Int × Int) : List Key := [.inl e.1, .inl e.2]
theorem call_sortedDT {X : Cx} (hc : X.calm = true) : CallR X (.builtin "sorted") (fun xs H Q => ∃ a kvs, xs = [V.ref a] ∧ Rd H a (.dT kvs) ∧ (∀ e ∈ kvs, ∃ p : Int × Int, e.1 = pairK p) ∧
    ∀ (p : Addr) (L : List (Addr × Int × Int)), H p = none → (L.map (·.2)).Pairwise (fun x y => lexB y x = false) → (L.map fun e => pairK e.2).Perm (kvs.map (·.1)) → (∀ e ∈ L, H e.1 = some (.tup [.int e.2.1, .int e.2.2])) → Q (.ref p) (upd H p (.lst (L.map fun e => V.ref e.1)))) := by
  intro pins s σ H xs us Q I r h
  obtain ⟨d, kvs, rfl, hd, hk, q⟩ := h
  obtain ⟨u, rfl, rx⟩ := r.one
  cases rx
  obtain ⟨z, hs, ks, pr, o, es, ep, ho, hx, hdt, he, hn⟩ := (show ObjOk X.prog X.w H s.heap d (.dT kvs) from hd.ok I.hok)
  have l1 : es.size = ks.length := size_of_entries he
  have l2 : kvs.length = ks.length := Paired.length pr
  refine Calls.call_function_entry kind_sorted plain_sorted entry_sorted (args_sorted1 _) ?_
  unfold Builtin.«sorted»
  refine wpAny_bind (m := checkCount "sorted" 1 1 _) (wpAny_pure ?_)
  refine wpAny_bind (PySem.W.kdu_collect (A := X.A.in1) (kdl_raw hs hx hdt) (I.ok.hd hc) ho (by omega) fun h' tk acc' kp it => ?_)
  have ea : acc'.toList = ks.map fun x => Value.ref x.2.1 := by
    have hl : acc'.toList.length = ks.length := by rw [Array.length_toList, it.1]; exact l1
    apply List.ext_getElem?
    intro j
    rw [List.getElem?_map]
    cases hj : acc'.toList[j]? with
    | none =>
      have h1 := List.getElem?_eq_none_iff.mp hj
      rw [List.getElem?_eq_none (by omega)]
      all_goals rfl
    | some v =>
      obtain ⟨en, hen, hv⟩ := it.2 j v (by rw [← Array.getElem?_toList]; exact hj)
      have qe := entry_at he j
      rw [hen] at qe
      cases hb : ks[j]? with
      | none =>
        rw [hb] at qe
        exact nomatch (show some en = none from qe)
      | some b =>
        rw [hb] at qe
        have e2 : en = entryOfKey (tupleKind (mixKind X.prog X.w)) b := Option.some.inj qe
        rw [hv, e2]
        all_goals rfl
  have I1 : Inv X pins σ H { s with heap := h', toks := tk } := I.kept kp
  -- the keys, as they stand in the heap
  have hK : ∀ x ∈ ks, ∃ p : Int × Int, x.1 = pairK p ∧ H x.2.1 = some (.tup [.int p.1, .int p.2]) := by
    clear l1 he it ea l2 z q hd r I I1 hs hn
    induction pr with
    | nil => intro x hx; cases hx
    | cons a b ih =>
      intro x hx
      rcases List.mem_cons.mp hx with e | hx
      · subst e
        obtain ⟨p, hp⟩ := hk _ List.mem_cons_self
        refine ⟨p, by rw [← a.1, hp], ?_⟩
        have := a.2.1
        rw [hp] at this
        exact this
      · exact ih (fun e he => hk e (List.mem_cons_of_mem _ he)) x hx
  have hV : ∀ v ∈ acc'.toList, ∃ b, v = Value.ref b ∧ H b = some (.tup [.int (pairAt H v).1, .int (pairAt H v).2]) := fun v hv => by
    rw [ea] at hv
    obtain ⟨x, hx, rfl⟩ := List.mem_map.mp hv
    obtain ⟨p, hp1, hp2⟩ := hK x hx
    refine ⟨_, rfl, ?_⟩
    have e : pairAt H (.ref x.2.1) = p := by unfold pairAt adrV; rw [hp2]
    rw [e]
    exact hp2
  have hlen : acc'.toList.length = ks.length := by rw [ea, List.length_map]
  have hz : acc'.toList.length ≤ sizeLine := by omega
  refine wpAny_bind (wpAny_newList ?_ hz)
  have hoL : (h'.push (seqObj "list" acc'.toList.toArray 0)).get? h'.objs.size = some (seqObj "list" acc'.toList.toArray 0) := Heap.get?_push_size _ rfl
  show wpAny _ _ _ _ _ { s with heap := h'.push (seqObj "list" acc'.toList.toArray 0), toks := tk }
  have hpair : ∀ v ∈ acc'.toList, Srt.IsPair (h'.push (seqObj "list" acc'.toList.toArray 0)) v (pairAt H v).1 (pairAt H v).2 := fun v hv => by
    obtain ⟨b, e, ht⟩ := hV v hv
    obtain ⟨_, its2, r2, o, ho, hc, n, hd⟩ := I1.hok _ _ ht
    obtain ⟨u1, u2, rfl, ri, rj⟩ := vals2 r2
    obtain ⟨t1, rfl⟩ := ri
    obtain ⟨t2, rfl⟩ := rj
    exact ⟨b, o, t1, t2, n, e, Heap.get?_push_of_some _ ho, hc, hd⟩
  refine wpAny_bind (wpAny_holding (wpAny_call_entry slot_list_sort ⟨_, hoL, rfl⟩ entry_list_sort
    (list_sort_ord (s := { s with heap := h'.push (seqObj "list" acc'.toList.toArray 0), toks := tk }) (swo_lex (pairAt H)) hoL hz (fun h2 => pairs_sortableO (by omega) hpair fun o e => ?_) fun out hs hb => ⟨_, rfl, ?_⟩) (args_list_sort _)))
  · have e' : some o = some (seqObj "list" acc'.toList.toArray 0) := e.symm.trans hoL
    cases e'
    intro c
    exact absurd (Value.type.inj c) (by decide)
  · obtain ⟨e', he'⟩ := sortedHeap_at (vs := acc'.toList) (out := out.toArray) hoL
    have hV2 : ∀ v ∈ out, ∃ b, v = Value.ref b ∧ H b = some (.tup [.int (pairAt H v).1, .int (pairAt H v).2]) := fun v hv => hV v (hb.perm.mem_iff.mp hv)
    have hvs : Vals (out.map fun v => V.ref (adrV v)) out := by
      clear hs hb he' e'
      induction out with
      | nil => exact .nil
      | cons v vs ih =>
        obtain ⟨b, e, _⟩ := hV2 v List.mem_cons_self
        subst e
        exact .cons rfl (ih fun u hu => hV2 u (List.mem_cons_of_mem _ hu))
    have hl2 : (out.map fun v => V.ref (adrV v)).length ≤ sizeLine := by rw [List.length_map, hb.perm.length_eq]; exact hz
    have q2 := q h'.objs.size (out.map fun v => (adrV v, pairAt H v)) (I1.hok.fresh (Nat.le_refl _)) (by
      rw [List.map_map]
      exact List.pairwise_map.mpr (hs.imp fun h => h)) (by
      rw [List.map_map]
      have e1 : (kvs.map (·.1)) = acc'.toList.map fun v => pairK (pairAt H v) := by
        rw [ea, List.map_map]
        clear l1 he it ea l2 z q hV hlen hz hoL hpair hs hb he' e' hV2 hvs hl2 hk hd r I I1 hn
        induction pr with
        | nil => rfl
        | cons a b ih =>
          obtain ⟨p, hp1, hp2⟩ := hK _ List.mem_cons_self
          rw [List.map_cons, List.map_cons, ih (fun x hx => hK x (List.mem_cons_of_mem _ hx)), a.1, hp1]
          congr 1
          show pairK p = pairK (pairAt H (.ref _))
          unfold pairAt adrV
          rw [hp2]
      rw [e1]
      exact hb.perm.map _) (by
      intro e he
      obtain ⟨v, hv, rfl⟩ := List.mem_map.mp he
      obtain ⟨b, e, h1⟩ := hV2 v hv
      subst e
      exact h1)
    rw [List.map_map] at q2
    refine wpAny_pure ⟨_, rfl, .ref h'.objs.size, _, I1.laid (t' := tk) (o := .lst (out.map fun v => V.ref (adrV v))) (fun b u e => ?_) (Nat.le_refl _) ?_, rfl, q2⟩
    · have hb : b < h'.objs.size := Heap.lt_size e
      rw [sortedHeap_old (Nat.ne_of_lt hb) (by rw [size_push']; exact Nat.lt_succ_of_lt hb)]
      exact Heap.get?_push_of_some _ e
    · exact ⟨hl2, out, e', hvs, he'⟩
end T

set_option Elab.async false
set_option linter.all false
set_option maxRecDepth 100000
set_option maxHeartbeats 1000000
/-! TF: sorted keys as data; unpacking; membership of own dicts. -/
namespace T
open PySem L2 SrtO
def insP (x : Int × Int) : List (Int × Int) → List (Int × Int)
  | [] => [x]
  | y :: l => if lexB x y = true then x :: y :: l else y :: insP x l
def srtP : List (Int × Int) → List (Int × Int)
  | [] => []
  | x :: l => insP x (srtP l)
theorem insP_perm (x : Int × Int) : ∀ l, (insP x l).Perm (x :: l)
  | [] => .refl _
  | y :: l => by
    unfold insP
    split
    · exact .refl _
    · exact ((insP_perm x l).cons y).trans (.swap x y l)
theorem srtP_perm : ∀ l, (srtP l).Perm l
  | [] => .refl _
  | x :: l => (insP_perm x (srtP l)).trans ((srtP_perm l).cons x)
abbrev SrtdP (l : List (Int × Int)) : Prop := l.Pairwise fun x y => lexB y x = false
theorem insP_srtd (x : Int × Int) : ∀ l, SrtdP l → SrtdP (insP x l)
  | [], _ => List.pairwise_singleton _ _
  | y :: l, h => by
    unfold insP
    obtain ⟨h1, h2⟩ := List.pairwise_cons.mp h
    split
    · rename_i hx
      have a := lexB_iff.mp hx
      refine List.pairwise_cons.mpr ⟨fun z hz => ?_, h⟩
      rcases List.mem_cons.mp hz with e | hz
      · subst e
        refine lexB_no.mpr ?_
        omega
      · have b := lexB_no.mp (h1 z hz)
        refine lexB_no.mpr ?_
        omega
    · rename_i hx
      refine List.pairwise_cons.mpr ⟨fun z hz => ?_, insP_srtd x l h2⟩
      rcases List.mem_cons.mp ((insP_perm x l).mem_iff.mp hz) with e | hz
      · subst e
        cases e : lexB z y with
        | true => exact absurd e hx
        | false => rfl
      · exact h1 z hz
theorem srtP_srtd : ∀ l, SrtdP (srtP l)
  | [] => .nil
  | x :: l => insP_srtd x _ (srtP_srtd l)
theorem srt_uniq : ∀ {l m : List (Int × Int)}, SrtdP l → SrtdP m → l.Perm m → l = m
  | [], m, _, _, h => (List.Perm.eq_nil h.symm).symm
  | x :: l, [], _, _, h => absurd h.length_eq (by simp)
  | x :: l, y :: m, hl, hm, h => by
    obtain ⟨l1, l2⟩ := List.pairwise_cons.mp hl
    obtain ⟨m1, m2⟩ := List.pairwise_cons.mp hm
    have e : x = y := by
      rcases List.mem_cons.mp (h.mem_iff.mp (List.mem_cons_self (a := x) (l := l))) with e | hx
      · exact e
      · rcases List.mem_cons.mp (h.mem_iff.mpr (List.mem_cons_self (a := y) (l := m))) with e | hy
        · exact e.symm
        · have a := lexB_no.mp (l1 y hy)
          have b := lexB_no.mp (m1 x hx)
          obtain ⟨x1, x2⟩ := x
          obtain ⟨y1, y2⟩ := y
          simp only at a b
          have e1 : x1 = y1 := by omega
          have e2 : x2 = y2 := by omega
          rw [e1, e2]
    subst e
    rw [srt_uniq l2 m2 h.cons_inv]
def pairO : List Key → Option (Int × Int)
  | [.inl i, .inl j] => some (i, j)
  | _ => none
def pairsO : List (List Key) → Option (List (Int × Int))
  | [] => some []
  | k :: ks => (pairO k).bind fun p => (pairsO ks).map fun ps => p :: ps
theorem pairO_is {k : List Key} {p : Int × Int} (h : pairO k = some p) : k = pairK p := by
  unfold pairO at h
  split at h
  · cases h; rfl
  · cases h
theorem pairsO_is : ∀ {ks : List (List Key)} {ps : List (Int × Int)}, pairsO ks = some ps → ks = ps.map pairK
  | [], _, h => by cases h; rfl
  | k :: ks, ps, h => by
    unfold pairsO at h
    cases e : pairO k with
    | none => rw [e] at h; cases h
    | some p =>
      rw [e] at h
      cases e2 : pairsO ks with
      | none => rw [e2] at h; cases h
      | some q =>
        rw [e2] at h
        cases h
        rw [pairO_is e, pairsO_is e2]; rfl
theorem pairsO_map (ps : List (Int × Int)) : pairsO (ps.map pairK) = some ps := by
  induction ps with
  | nil => rfl
  | cons p ps ih =>
    rw [List.map_cons]
    unfold pairsO
    rw [ih]
    rfl
theorem pairK_inj : ∀ {l m : List (Int × Int)}, (l.map pairK).Perm (m.map pairK) → l.Perm m := fun {l m} h => by
  have e : ∀ l : List (Int × Int), (l.map pairK).filterMap pairO = l := fun l => by
    induction l with
    | nil => rfl
    | cons p ps ih => rw [List.map_cons, List.filterMap_cons]; show p :: _ = _; rw [ih]
  have := h.filterMap pairO
  rw [e, e] at this
  exact this
def pairD (p : Int × Int) : D := .tup [.int p.1, .int p.2]
def dSortT (ks : List (List Key × D)) : O D := match pairsO (ks.map (·.1)) with
  | some ps => .ok (.lst ((srtP ps).map pairD))
  | none => .stuck
def mSortT (i : Nat) : Env → O D := fun ρ => match ρ[i]? with
  | some (some (.dct ks)) => dSortT ks
  | _ => .stuck
section
variable {X : Cx} {W : WX} {κ : List Kd} {c : Cf}
theorem ce_sortT (i : Nat) {x : Str} {p0 p pos : Pos} (hg : Gl X "sorted") (hm : X.mg "sorted" = none) (hk : kAt κ i = .dt) (hp : PE X (.Name x p0) (tVar i)) (hc : X.calm = true := by rfl)
    (he : starEach [.Name x p0] X.env = (false, eval (.Name x p0) X.env) :: starEach [] X.env := by rfl) (hpl : (backTo pos (starEach [] X.env)).any (·.1) = false := by rfl) : CE X W κ (.ls .sh) (.Call (.Name "sorted" p) [.Name x p0] [] pos) (mSortT i) :=
  PE.imp (pe_callB (call_sortedDT hc) hg hm (by decide +kernel) (pa_cons hp pa_nil he) (by decide) (by decide) he hpl) fun σ H Q q => by
    obtain ⟨S, H0, Hs0, ρ, Hs, F, R, p⟩ := q
    unfold mSortT at p
    split at p
    · rename_i ks e
      obtain ⟨a, vs, hv, ha, hF, rs⟩ := own_dt R e hk
      unfold dSortT at p
      cases ep : pairsO (ks.map (·.1)) with
      | none => rw [ep] at p; exact p.elim
      | some ps =>
        rw [ep] at p
        have ek := pairsO_is ep
        refine ⟨_, hv, a, vs, rfl, .inl ha, fun e he => ?_, fun l L hl hs hp hL => ?_⟩
        · have : e.1 ∈ ps.map pairK := by rw [← ek, rs.keys]; exact List.mem_map.mpr ⟨e, he, rfl⟩
          obtain ⟨p, _, hp⟩ := List.mem_map.mp this
          exact ⟨p, hp.symm⟩
        · have e1 : L.map (·.2) = srtP ps := by
            refine srt_uniq hs (srtP_srtd ps) (pairK_inj ?_)
            rw [List.map_map]
            refine (show (L.map fun e => pairK e.2).Perm _ from hp).trans ?_
            rw [← rs.keys, ek]
            exact ((srtP_perm ps).map pairK).symm
          refine p _ _ (.list R.sub ?_ hl)
          rw [← e1, List.map_map]
          clear hs hp e1
          induction L with
          | nil => exact .nil
          | cons e L ih => exact .cons (.tup (SqT.of (R.sub.tu _ _ (hL e List.mem_cons_self))) (.cons (.int _) (.cons (.int _) .nil))) (ih fun z hz => hL z (List.mem_cons_of_mem _ hz))
    · exact p.elim
/-! ### a, b, .. = e -/
def sUnp (is : List Nat) (f : Env → O D) : Env → SO := sE f fun d ρ => match (Tg.tp is).put d ρ with
  | some ρ' => .nx ρ'
  | none => .stuck
theorem cs_unp (is : List Nat) {st : Stmt} {f : Env → O D} (hx : c.κx κ) (hk : ∀ i ∈ is, kAt κ i = .sh) (hp : PS X st (tAsg (tE X.K c.W κ .sh f) ((Tg.tp is).tg X.K))) : CS X c κ κ st (sUnp is f) :=
  PS.imp hp fun Dn σ H q => by
    obtain ⟨S, H0, Hs0, ρ, Hs, F, hS, R, p⟩ := q
    refine stepSK hx R p fun d v H1 Hs1 G _ g1 R1 ow p1 => ?_
    obtain ⟨rd, _⟩ := ow
    cases e : (Tg.tp is).put d ρ with
    | none => rw [e] at p1; exact p1.elim
    | some ρ' =>
      rw [e] at p1
      exact (Tg.tp is).run hk R1 rd e fun σ' F' R' _ => p1 σ' H1 Hs1 F' R' (.refl _)
end
end T

set_option Elab.async false
set_option linter.all false
set_option maxRecDepth 100000
set_option maxHeartbeats 2000000
/-! TG: errors as values: C(e, ..) and C(k=e, ..), their fields, isinstance of them. -/
namespace PySem
namespace OwnErr
open Builtin Builtin.ObjectAttr HandSPX
section
variable {M : Model} {prog : Program} {w : World} {A : Around} {R : Result → Shared → Prop} {E : Value → Shared → Prop} {hp : Heap} {gs : Array GenState} {dr : Drawn} {tk : Nat} {os : OsState} {ar : List Value} {kw : List (Str × Value)}
variable {nm q : Str} {C N : Addr} {bs bm bmB : List Value} {hdct : Bool} {sn : List Str} {sub : List Value} {ab : Bool} {col : Option Bool} {dd : Option Addr} {k0 k1 k2 k3 k5 : Option Value} {B newId initId : String}
/-- __new__ of such a class may be called with any keywords -/
theorem newChecks (F : ExcBaseFacts B newId initId bmB) (same : ∀ X : String, bm.contains (.type X) = bmB.contains (.type X)) {Q : Unit → Shared → Prop}
    (at_ : hp.get? C = some (excClassObj nm q C N bs bm hdct sn sub ab col dd k0 k1 k2 k3 k5 newId)) (z : Q () ⟨hp, gs, dr, tk, os⟩) : wpAny M A (checkBuiltinCall newId ⟨.ref C :: ar, kw⟩) Q E ⟨hp, gs, dr, tk, os⟩ := by
  have below : (Value.ref C :: bm).contains (.type B) = true := by
    rw [List.contains_cons, same, F.hasB, Bool.or_true]
  have hstar := F.noStar
  simp only [checkBuiltinCall, F.newKind, F.newSplit, F.newRow]
  repeat (first
    | refine wpAny_loadPart_at at_ ?_
    | (refine wpAny_isSubtype_exc at_ ?_; rw [below])
    | refine wpAny_staticBase_exc at_ ?_
    | refine wpAny_madeBy_exc at_ ?_
    | simp only [bne_self_eq_false, Bool.false_eq_true, if_false]
    | wp_step)
  exact z
theorem newRuns (F : ExcBaseFacts B newId initId bmB) (same : ∀ X : String, bm.contains (.type X) = bmB.contains (.type X))
    (at_ : hp.get? C = some (excClassObj nm q C N bs bm hdct sn sub ab col dd k0 k1 k2 k3 k5 newId)) (few : ar.length ≤ sizeLine)
    (z : R (.ok (.ret (.ref (hp.objs.size + 1)))) ⟨(hp.push (W.kdv_tup ar)).push (excO C hp.objs.size), gs, dr, tk, os⟩) : codeAny (model prog w) A (.builtin newId ⟨.ref C :: ar, kw⟩) R ⟨hp, gs, dr, tk, os⟩ := by
  have hends := F.ends
  have below : (Value.ref C :: bm).contains (.type B) = true := by
    rw [List.contains_cons, same, F.hasB, Bool.or_true]
  have offA : (Value.ref C :: bm).contains (.type "AttributeError") = false := by
    rw [List.contains_cons, same, F.noAttr]; rfl
  have offN : (Value.ref C :: bm).contains (.type "NameError") = false := by
    rw [List.contains_cons, same, F.noName]; rfl
  refine codeAny_builtinAt F.entry ?_
  unfold Builtin.«BaseException.__new__»
  refine wpAt_bind ?_
  show wpAt _ _ _ (stack >>= _) _ _ _
  refine wpAt_bind (wpAt_stack fun p bl => wpAt_of_wpAny ?_)
  wp_walk
  refine wpAt_of_wpAny ?_
  rw [F.owner]
  repeat (first
    | with_reducible refine wpAny_madeHere_exc F.canon at_ ?_
    | with_reducible refine wpAny_loadPart_at at_ ?_
    | (with_reducible refine wpAny_isSubtype_exc at_ ?_; first | rw [below] | rw [offA] | rw [offN])
    | wp_step)
  show R _ _
  rw [Heap.size_push]
  exact z
theorem typeCalls (F : ExcBaseFacts B newId initId bmB) (same : ∀ X : String, bm.contains (.type X) = bmB.contains (.type X)) {fI : Addr} {Q : Fin → Shared → Prop}
    (at_ : hp.get? C = some (excClassObj nm q C N bs bm hdct sn sub ab col dd k0 k1 k2 k3 k5 newId)) (few : ar.length ≤ sizeLine)
    (hi : W.Looks (model prog w) hp (typeLookup (.ref C) "__init__") (some (.ref fI))) (hb : ∀ self, W.Looks (model prog w) hp (bindSpecial (.ref fI) self) (.ref fI, [self]))
    (z : codeAny (model prog w) A (.call (.ref fI) ⟨.ref (hp.objs.size + 1) :: ar, kw⟩) (fun r s' => match r with
        | .ok (.ret v) => v = .none ∧ Q (.done (.ret (.ref (hp.objs.size + 1)))) s'
        | .ok _ => False
        | .error e => E e s') ⟨(hp.push (W.kdv_tup ar)).push (excO C hp.objs.size), gs, dr, tk, os⟩) : wpAny (model prog w) A (Builtin.«type.__call__» ⟨.ref C :: ar, kw⟩) Q E ⟨hp, gs, dr, tk, os⟩ := by
  repeat (first | with_reducible refine wpAny_loadPart_at at_ ?_ | with_reducible refine wpAny_madeBy_exc at_ ?_ | wp_step)
  refine codeAny_call_builtin_code (Code.quiet_builtin _ F.quiet) (newChecks F same at_ ?_)
  refine newRuns F same at_ few ?_
  show wpAny _ _ _ _ _ _
  have old : ∀ b o, hp.get? b = some o → ((hp.push (W.kdv_tup ar)).push (excO C hp.objs.size)).get? b = some o := fun b o e => Heap.get?_push_of_some _ (Heap.get?_push_of_some _ e)
  have at2 := old _ _ at_
  have got : ((hp.push (W.kdv_tup ar)).push (excO C hp.objs.size)).get? (hp.objs.size + 1) = some (excO C hp.objs.size) := by heap_get
  have itself : (Value.ref C :: bm).contains (.ref C) = true := by simp
  have i2 := hi.keeps old
  have b2 := (hb (.ref (hp.objs.size + 1))).keeps old
  unfold isInstance
  repeat (first
    | with_reducible refine wpAny_loadPart_at got ?_
    | (with_reducible refine wpAny_isSubtype_exc at2 ?_; rw [itself])
    | wp_step)
  show wpAny _ _ (typeLookup (.ref C) _) _ _ _
  refine i2.at ?_
  refine wpAny_holding (wpAny_bind (b2.at ?_))
  refine wpAny_bind (wpAny_call (codeAny_mono z fun r s' y => ?_))
  rcases r with e | (v | _ | _ | _) <;> first | exact y | exact y.elim | skip
  obtain ⟨rfl, y⟩ := y
  first
    | exact wpAny_pure (wpAny_pure y)
    | (wp_walk; exact y)
theorem calls (F : ExcBaseFacts B newId initId bmB) (same : ∀ X : String, bm.contains (.type X) = bmB.contains (.type X)) {fI : Addr}
    (at_ : hp.get? C = some (excClassObj nm q C N bs bm hdct sn sub ab col dd k0 k1 k2 k3 k5 newId)) (few : ar.length ≤ sizeLine)
    (hi : W.Looks (model prog w) hp (typeLookup (.ref C) "__init__") (some (.ref fI))) (hb : ∀ self, W.Looks (model prog w) hp (bindSpecial (.ref fI) self) (.ref fI, [self]))
    (z : codeAny (model prog w) (A.under (.builtin "type.__call__" ⟨.ref C :: ar, kw⟩)) (.call (.ref fI) ⟨.ref (hp.objs.size + 1) :: ar, kw⟩) (W.InitBack (hp.objs.size + 1) R) ⟨(hp.push (W.kdv_tup ar)).push (excO C hp.objs.size), gs, dr, tk, os⟩) :
    codeAny (model prog w) A (.call (.ref C) ⟨ar, kw⟩) R ⟨hp, gs, dr, tk, os⟩ := by
  have f1 := tc_lookup
  have f2 := tc_bind (.ref C)
  have isT : (⟨hp, gs, dr, tk, os⟩ : Shared).TypeIs (.ref C) "type" := ⟨_, at_, rfl⟩
  refine codeAny_of_tree ?_
  show wpAny _ _ (callAny (.ref C) _) _ _ _
  repeat (any_goals (first | assumption | with_reducible refine wpAny_loadPart_at at_ ?_ | wp_step))
  refine ⟨rfl, ?_⟩
  refine codeAny_call_builtin_at (Code.quiet_builtin _ (by decide +kernel)) entry_typeCall (wpAny_check_type_call_sub at_ (typeCalls F same at_ few hi hb ?_))
  refine codeAny_mono z fun r s' y => ?_
  rcases r with e | (v | _ | _ | _) <;> exact y
end
end OwnErr
end PySem

set_option Elab.async false
set_option linter.all false
set_option maxRecDepth 100000
set_option maxHeartbeats 2000000
/-! TH: errors as values, as data. -/
namespace T
open PySem L2
section
variable {X : Cx} {W : WX} {κ : List Kd}
theorem zip_reps {K : PySem.W.Frag} {H : Hp} : ∀ {ns : List Str} {ds : List D} {vs : List V}, Reps K H ds vs → FReps K H (ns.zip ds) (ns.zip vs)
  | [], _, _, _ => by rw [List.zip_nil_left, List.zip_nil_left]; exact .nil
  | _ :: _, _, _, .nil => .nil
  | _ :: ns, _, _, .cons a b => .cons a (zip_reps b)
theorem FReps.app {K : PySem.W.Frag} {H : Hp} {ds es : List (Str × D)} {vs us : List (Str × V)} : FReps K H ds vs → FReps K H es us → FReps K H (ds ++ es) (vs ++ us)
  | .nil, h => h
  | .cons a b, h => .cons a (FReps.app b h)
theorem FReps.rev {K : PySem.W.Frag} {H : Hp} {ds : List (Str × D)} {vs : List (Str × V)} : FReps K H ds vs → FReps K H ds.reverse vs.reverse
  | .nil => .nil
  | .cons a b => by rw [List.reverse_cons, List.reverse_cons]; exact (FReps.rev b).app (.cons a .nil)
/-- C(..) of an error class: a new object with its fields -/
theorem errV {c : Str} {fI : Addr} {k : Nat} {fd : FuncData} {ps ns : List Str} {pins : List (Addr × Obj)} {σ : L2.St} {H : Hp} {s : Shared} {us zs : List Value} {kv : List (Str × Value)} {ys : List V} {Q : VK} (T : OexC X.K (He.ga X.K c)) (iC : PySem.W.findIn X.K (.ref (He.ga X.K c)) "__init__" = some (some (.ref fI)))
    (tI : PySem.W.typeIn X.K (.ref fI) = some (.type "function")) (F1 : FnOk X.prog X.w X.K X.mg X.base (L2N.CX X.prog X.w) k fI fd ps (spX X.K c ns)) (hr : Room (k + 1) X.A) (I : Inv X pins σ H s) (few : us.length ≤ sizeLine)
    (bnd : ∀ (s' : Shared) (e : Addr), X.K.In s'.heap → BindsTo s' fd ⟨.ref e :: us, kv⟩ (ps.zip (.ref e :: zs))) (rz : Vals ys zs) (hl : ys.length = ns.length) (hx : Passes (L2N.CX X.prog X.w) X (fun _ _ _ => False))
    (q : ∀ a d, H a = none → H d = none → d ≠ a → Q (.ref a) (upd (upd H d (exd d (ns.zip ys).reverse)) a (exo a (He.ga X.K c) (some d)))) : wpAny (model X.prog X.w) X.A (call (.ref (He.ga X.K c)) us kv) (EP X pins σ Q) X.xe s := by
  obtain ⟨nm, qn, N, bs, bm, sn, sub, ab, col, dd, k0, k1, k2, k3, k5, hC, hbm⟩ := T.cls
  obtain ⟨hp, gs, dr, tk, os⟩ := s
  have up : hp.objs.size ≤ hp.objs.size + 1 := Nat.le_succ _
  have fresh := I.hok.fresh up
  have got : ((hp.push (PySem.W.kdv_tup us)).push (PySem.HandSPX.excO (He.ga X.K c) hp.objs.size)).get? (hp.objs.size + 1) = some (PySem.HandSPX.excO (He.ga X.K c) hp.objs.size) := by heap_get
  have J : Inv X pins σ (upd H (hp.objs.size + 1) (exo (hp.objs.size + 1) (He.ga X.K c) none)) ⟨(hp.push (PySem.W.kdv_tup us)).push (PySem.HandSPX.excO (He.ga X.K c) hp.objs.size), gs, dr, tk, os⟩ :=
    I.laid (t' := tk) (fun b o z => Heap.get?_push_of_some _ (Heap.get?_push_of_some _ z)) up (exo_ok got)
  refine wpAny_call (OwnErr.calls F.excBase_ValueError (fun Y => PySem.HandSPX.refsVE_contains Y bm hbm) (I.kIn _ _ hC) few (PySem.W.looks_findIn I.kIn iC) (fun self => PySem.W.bind_fn I.kIn self tI)
    (codeAny_mono (F1.run _ X.stack _ _ ⟨Value.ref (hp.objs.size + 1) :: us, kv⟩ (Value.ref (hp.objs.size + 1) :: zs) (V.ref (hp.objs.size + 1) :: ys) (fun v H2 => v = .non ∧ Q (.ref (hp.objs.size + 1)) H2) (fun _ _ _ => False) (hr.make (He.ga X.K c) us kv) (J.env0.make (He.ga X.K c) us kv) (bnd _ _ J.kIn) (.cons rfl rz)
      ⟨_, ys, rfl, hl, upd_same, fun d hd hne => ⟨rfl, ?_⟩⟩) fun r s' hq' => ?_))
  · rw [upd_ne hne] at hd
    rw [upd_swap (Ne.symm hne), upd_upd]
    exact q _ d fresh hd hne
  · cases r with
    | error er => exact hx pins σ _ _ er s' J hq'
    | ok fl =>
      cases fl with
      | ret u =>
        obtain ⟨v, H', I3, rv, ev, q3⟩ := J.after hq'
        subst ev
        exact ⟨rv, ⟨V.ref (hp.objs.size + 1), H', I3, rfl, q3⟩⟩
      | next => exact False.elim hq'
      | brk => exact False.elim hq'
      | cont => exact False.elim hq'
def mErr (c : Str) (ns : List Str) : List D → O D := fun ds => if ds.length = ns.length then .ok (.exv c (ns.zip ds).reverse) else .stuck
theorem res_err {K : PySem.W.Frag} {c : Str} {ns : List Str} {ds : List D} {ys : List V} {H Hs : Hp} {a d : Addr} (sub : Sub Hs H) (r : Reps K Hs ds ys) (ha : H a = none) (hd : H d = none) (hne : d ≠ a) :
    Res K .sh (.exv c (ns.zip ds).reverse) (.ref a) H Hs (upd (upd H d (exd d (ns.zip ys).reverse)) a (exo a (He.ga K c) (some d))) := by
  have g1 : Grow H Hs _ _ := .new (o := exd d (ns.zip ys).reverse) sub hd
  have ha2 : upd H d (exd d (ns.zip ys).reverse) a = none := by rw [upd_ne (Ne.symm hne)]; exact ha
  have g2 : Grow _ _ _ _ := .new (o := exo a (He.ga K c) (some d)) g1.sub ha2
  refine .sh (g1.trans g2) (.exv (dx := d) (vfs := (ns.zip ys).reverse) upd_same (by rw [upd_ne hne, upd_same]) ((zip_reps r).rev.mono (g1.exs.trans g2.exs)))
/-- C(e, ..) -/
theorem ce_err {x : Str} {k : Nat} {ns : List Str} {p pos : Pos} {e : Expr} {es : List Expr} {f : Env → O (List D)} (C : CalleeX X.prog X.w X.K X.mg X.base x k ns) (hr : Room (k + 1) X.A) (hx : Passes (L2N.CX X.prog X.w) X (fun _ _ _ => False)) (hg : Gl X x) (ha : CA X W κ (e :: es) f) (hn : ns.length ≤ 1000 := by decide)
    (hdb : (x == ("__debug__" : Str)) = false := by decide) (he : starEach (e :: es) X.env = (false, eval e X.env) :: starEach es X.env := by rfl) (hpl : (backTo pos (starEach es X.env)).any (·.1) = false := by rfl) : CE X W κ .sh (.Call (.Name x p) (e :: es) [] pos) (mApp (mErr x ns) f) := by
  obtain ⟨fI, fd, ps, hm, T, iC, tI, F1, hb⟩ := C
  refine ⟨fun pins s σ H Q I h => ?_⟩
  obtain ⟨S, H0, Hs0, ρ, Hs, F, R, q⟩ := h
  refine wpAny_Call_Name_kw (ld_glob I hg hm (PySem.W.callWith_K (h₀ := X.base) I.ok.mod.kin T.kC (thn (ha.run pos pins s σ H (fun vs H1 => vs.length = ns.length ∧ ∀ a d, H1 a = none → H1 d = none → d ≠ a → Q (.ref a) (upd (upd H1 d (exd d (ns.zip vs).reverse)) a (exo a (He.ga X.K x) (some d)))) I (stepA R q fun ds vs H1 Hs1 _ g1 R1 rs p1 => ?_)) fun us s1 ⟨vs, H1, I1, r1, hl, q1⟩ => ⟨I1.kIn, ?_⟩) he hpl) hdb)
  · unfold mErr at p1
    by_cases e : ds.length = ns.length
    · rw [if_pos e] at p1
      exact ⟨by rw [← rs.length]; exact e, fun a d h1 h2 h3 => p1 _ _ (res_err R1.sub rs h1 h2 h3)⟩
    · rw [if_neg e] at p1; exact p1.elim
  · have hus : us.length ≤ sizeLine := by
      rw [← Paired.length r1, hl, sizeLine_eq]
      omega
    refine errV (us := us) (zs := us) (kv := []) T iC tI F1 hr I1 hus (fun s' e X' => ?_) r1 hl hx q1
    have hlen : (Value.ref e :: us ++ []).length = ps.length := by
      have z := F1.len (.ref 0 :: vs) (upd (fun _ => none) 0 (exo 0 (He.ga X.K x) none)) (fun _ _ => True) (fun _ _ _ => True) ⟨0, vs, rfl, hl, upd_same, fun _ _ _ => trivial⟩
      rw [List.append_nil, ← z, List.length_cons, List.length_cons, r1.length]
    have b := hb s' (Value.ref e :: us) X' hlen
    rw [List.append_nil] at b
    exact b
/-- C(k=e, ..) -/
def CalleeXK (P : Program) (w : World) (K : PySem.W.Frag) (mg : Str → Option Value) (base : Heap) (c : Str) (k : Nat) (ns ks : List Str) (π : List Nat) : Prop :=
  ∃ (f : Addr) (fd : FuncData) (ps : List Str), mg c = some (.ref (He.ga K c)) ∧ OexC K (He.ga K c) ∧ PySem.W.findIn K (.ref (He.ga K c)) "__init__" = some (some (.ref f)) ∧ PySem.W.typeIn K (.ref f) = some (.type "function") ∧ FnOk P w K mg base (L2N.CX P w) k f fd ps (spX K c ns) ∧
    π.length = ns.length ∧ (∀ i ∈ π, i < ks.length) ∧ ∀ (s : Shared) (e : Addr) (ws : List Value), ws.length = ks.length → BindsTo s fd ⟨[.ref e], ks.zip ws⟩ (ps.zip (.ref e :: permL π ws))
theorem permL_len {α : Type} {xs : List α} : ∀ {π : List Nat}, (∀ i ∈ π, i < xs.length) → (permL π xs).length = π.length
  | [], _ => rfl
  | i :: π, h => by
    unfold permL
    rw [List.filterMap_cons, List.getElem?_eq_getElem (h i List.mem_cons_self)]
    show ((permL π xs).length + 1) = _
    rw [permL_len fun j hj => h j (List.mem_cons_of_mem _ hj)]; rfl
theorem ce_errK {x : Str} {k : Nat} {ns ks : List Str} {π : List Nat} {p pos : Pos} {kws : List Keyword} {f : Env → O (List D)} (C : CalleeXK X.prog X.w X.K X.mg X.base x k ns ks π) (hr : Room (k + 1) X.A) (hx : Passes (L2N.CX X.prog X.w) X (fun _ _ _ => False)) (hg : Gl X x) (ha : CK X W κ kws f)
    (hall : (backToKw pos (keywordEach kws X.env)).all (·.1.isSome) = true := by rfl) (hks : (backToKw pos (keywordEach kws X.env)).filterMap (·.1) = ks := by rfl) (hdb : (x == ("__debug__" : Str)) = false := by decide)
    (hpl : ((backTo pos (starEach [] X.env)).any (·.1) || (backToKw pos (keywordEach kws X.env)).any (·.1.isNone)) = false := by rfl) : CE X W κ .sh (.Call (.Name x p) [] kws pos) (mApp (fun ds => if ds.length = ks.length then mErr x ns (permL π ds) else .stuck) f) := by
  obtain ⟨fI, fd, ps, hm, T, iC, tI, F1, hπ, hπ2, hb⟩ := C
  refine ⟨fun pins s σ H Q I h => ?_⟩
  obtain ⟨S, H0, Hs0, ρ, Hs, F, R, q⟩ := h
  refine wpAny_Call_Name_kw (ld_glob I hg hm (PySem.W.callWith_KW0 (h₀ := X.base) I.ok.mod.kin T.kC hall (thn (ha.run pos pins s σ H (fun vs H1 => vs.length = ks.length ∧ ∀ a d, H1 a = none → H1 d = none → d ≠ a → Q (.ref a) (upd (upd H1 d (exd d (ns.zip (permL π vs)).reverse)) a (exo a (He.ga X.K x) (some d)))) I (stepA R q fun ds vs H1 Hs1 _ g1 R1 rs p1 => ?_)) fun ws s2 ⟨zs, H2, I2, rz, l2, q2⟩ => ?_) hpl) hdb)
  · by_cases e : ds.length = ks.length
    · rw [if_pos e] at p1
      unfold mErr at p1
      have hl : (permL π ds).length = ns.length := by rw [permL_len fun i hi => by rw [e]; exact hπ2 i hi, hπ]
      rw [if_pos hl] at p1
      exact ⟨by rw [← rs.length]; exact e, fun a d h1 h2 h3 => p1 _ _ (res_err R1.sub (perm_reps rs π fun i hi => by rw [e]; exact hπ2 i hi) h1 h2 h3)⟩
    · rw [if_neg e] at p1; exact p1.elim
  · refine ⟨I2.kIn, ?_⟩
    rw [hks, List.append_nil]
    have lw : ws.length = ks.length := by rw [← rz.length]; exact l2
    exact errV (us := []) (zs := permL π ws) (kv := ks.zip ws) T iC tI F1 hr I2 (Nat.zero_le _) (fun s' e _ => hb s' e ws lw) (perm_vals rz π fun i hi => by rw [l2]; exact hπ2 i hi) (by rw [permL_len fun i hi => by rw [l2]; exact hπ2 i hi, hπ]) hx q2
/-- C() of an error class without an __init__ of its own -/
def OexN (K : PySem.W.Frag) (C : Addr) : Prop := PySem.W.excIn K C PySem.HandSPX.veTail "ValueError.__new__" = true ∧ PySem.W.keepIn K (.ref C) = true
def oexnB (K : PySem.W.Frag) (C : Addr) : Bool := PySem.W.excIn K C PySem.HandSPX.veTail "ValueError.__new__" && PySem.W.keepIn K (.ref C)
theorem oexn_by {K : PySem.W.Frag} {C : Addr} (h : oexnB K C = true) : OexN K C := Bool.and_eq_true_iff.mp h
def mErr0 (c : Str) : Env → O D := fun _ => .ok (.exv c [])
theorem ce_err0 {x : Str} {p pos : Pos} (hm : X.mg x = some (.ref (He.ga X.K x))) (TN : OexN X.K (He.ga X.K x)) (hg : Gl X x) (hdb : (x == ("__debug__" : Str)) = false := by decide) : CE X W κ .sh (.Call (.Name x p) [] [] pos) (mErr0 x) := by
  obtain ⟨q, kC⟩ := TN
  refine ⟨fun pins s σ H Q I h => ?_⟩
  obtain ⟨S, H0, Hs0, ρ, Hs, Ft, R, z⟩ := h
  refine wpAny_Call_Name_kw (ld_glob I hg hm ?_ hdb)
  refine PySem.W.callWith_K0 I.kIn kC ?_
  obtain ⟨bm, N, nm, qn, bs, hdct, sn, sub, ab, col, dd, k0, k1, k2, k3, k5, mN, hC, hN, hni, tail⟩ := exc_obj I.kIn q
  refine PySem.wpAny_call_exc_subT F.excBase_ValueError tail hC hN hni (fun h' a hm => ?_) (Nat.zero_le _)
  have hn : H a = none := I.hok.gone hm.new
  obtain ⟨t, ht, _, _⟩ := hm.there
  exact ⟨.ref a, upd H a (exo a (He.ga X.K x) none), I.laidN hm.keeps hm.new hn (exo_ok ht), rfl, z _ _ (.sh (.new R.sub hn) (.exv0 upd_same))⟩
/-- fields of an error that is a value -/
def xGet (errs fns : List Str) (f : Str) : D → O D
  | .exv c fs => if c ∈ errs ∧ f ∈ fns then (match fs.lookup f with
    | some z => .ok z
    | none => .stuck) else .stuck
  | _ => .stuck
theorem exd_inst {pins : List (Addr × Obj)} {σ : L2.St} {H : Hp} {s : Shared} {a dd C : Addr} {vfs : List (Str × V)} (I : Inv X pins σ H s) (ha : H a = some (exo a C (some dd))) (hd : H dd = some (exd dd vfs)) :
    ∃ (o od : Obj) (mA : Str → Option Value), PySem.W.InstAt s.heap a o C (some od) ∧ (∀ n, PySem.W.lookIn n od = some (mA n)) ∧ ∀ f, RelO (vfs.lookup f) (mA f) := by
  obtain ⟨t1, ho⟩ := exo_at I.hok ha
  obtain ⟨mA, hns, hr⟩ := exd_at I.hok hd
  obtain ⟨od, hod, hl⟩ := lookIn_ns hns
  exact ⟨_, od, mA, ⟨ho, rfl, rfl, hod⟩, hl, hr⟩
theorem ce_xfV {base : Str} {errs : List Str} {us : List Ty} {fns : List Str} {f : Str} {e : Expr} {pos : Pos} {g : Env → O D} (TT : ErrK X.K base errs us fns) (he : CE X W κ .sh e g) (hb : attributeBase e f X.env (eval e X.env) = eval e X.env := by rfl) : CE X W κ .sh (.Attribute e f pos) (mUn (xGet errs fns f) g) := by
  refine ⟨fun pins s σ H Q I h => ?_⟩
  obtain ⟨S, H0, Hs0, ρ, Hs, F, R, q⟩ := h
  refine attr_of hb (thn (he.run pins s σ H (fun x H1 => ∃ a dd c vfs v, x = .ref a ∧ c ∈ errs ∧ f ∈ fns ∧ H1 a = some (exo a (He.ga X.K c) (some dd)) ∧ H1 dd = some (exd dd vfs) ∧ vfs.lookup f = some v ∧ Q v H1) I (step R q fun d x H1 Hs1 _ g1 R1 rd p1 => ?_)) fun u s1 hh => ?_)
  · cases rd with
    | @exv c a dx fs vfs h1 h2 r =>
      have p1 : EPost X.K W .sh σ H1 Hs1 Q (if c ∈ errs ∧ f ∈ fns then (match fs.lookup f with
        | some z => .ok z
        | none => .stuck) else .stuck) := p1
      by_cases hc : c ∈ errs ∧ f ∈ fns
      · rw [if_pos hc] at p1
        · cases hl : fs.lookup f with
          | none => rw [hl] at p1; exact p1.elim
          | some z =>
            rw [hl] at p1
            obtain ⟨v, h7, h8⟩ := r.get hl
            exact ⟨_, _, c, _, v, rfl, hc.1, hc.2, R1.sub _ _ h1, R1.sub _ _ h2, h7, p1 v H1 (.sh (.refl R1.sub) h8)⟩
      · rw [if_neg hc] at p1; exact p1.elim
    | @exv0 c a h1 =>
      have p1 : EPost X.K W .sh σ H1 Hs1 Q (if c ∈ errs ∧ f ∈ fns then .stuck else .stuck) := p1
      split at p1 <;> exact p1.elim
    | _ => exact p1.elim
  · obtain ⟨x, H1, I1, rx, a, dd, c, vfs, v, ex, hc, hf, h1, h2, h3, q⟩ := hh
    subst ex
    obtain rfl : u = Value.ref a := rx
    obtain ⟨o, od, mA, J, hl, hr⟩ := exd_inst I1 h1 h2
    obtain ⟨u, hu, ru⟩ := RelO.some_of (v := v) (o := mA f) (by rw [← h3]; exact hr f)
    exact HandSPX.exc_get I1.kIn J (TT.xf c hc).ga (TT.xf c hc).gg (TT.xf c hc).exC (PySem.W.findObj_own (TT.xf c hc).hdC (TT.no c hc f hf) rfl (by rw [hl, hu])) (handed_of ru) ⟨v, H1, I1.tok _, ru, q⟩
/-- isinstance(e, T), e an error that is a value -/
def xIs (base : Str) (errs : List Str) (us : List Ty) (u : Ty) : D → O D
  | .exv c _ => if c ∈ errs ∧ u ∈ us then .ok (.bl (xis base c u)) else .stuck
  | _ => .stuck
def rIsV (K : PySem.W.Frag) (errs : List Str) : List V → Hp → VK → Prop := fun xs H Q => ∃ (c : V) (cv : Value) (b : Bool) (n : Str) (a : Addr) (d : Option Addr), xs = [.ref a, c] ∧ (∀ u, RelV c u → u = cv) ∧ n ∈ errs ∧ H a = some (exo a (He.ga K n) d) ∧ (d = none ∨ ∃ dd vfs, d = some dd ∧ H dd = some (exd dd vfs)) ∧ PySem.W.kitOne K (.ref (He.ga K n)) cv = some b ∧ Q (.bl b) H
theorem call_isV {base : Str} {errs : List Str} {us : List Ty} {fns : List Str} (T : ErrK X.K base errs us fns) : CallR X (.builtin "isinstance") (rIsV X.K errs) := by
  intro pins s σ H xs vs Q I r h
  obtain ⟨ct, cv, b, n, a, d, rfl, hcv, hn, ha, hd, e, q⟩ := h
  cases r with
  | cons rx rr =>
    cases rr with
    | cons rt rr =>
      cases rr
      cases rx
      have ec := hcv _ rt
      subst ec
      have J : ∃ o od, PySem.W.InstAt s.heap a o (He.ga X.K n) od := by
        rcases hd with hd | ⟨dd, vfs, hd, hx⟩
        · subst hd
          obtain ⟨t1, ho⟩ := exo_at I.hok ha
          exact ⟨_, none, ho, rfl, rfl, trivial⟩
        · subst hd
          obtain ⟨o, od, mA, J, _⟩ := exd_inst I ha hx
          exact ⟨o, some od, J⟩
      obtain ⟨o, od, J⟩ := J
      exact PySem.W.kia_one (PySem.W.kitx_exc (T.hcl n hn) (T.xf n hn).ga (T.xf n hn).gg (T.xf n hn).exC (T.ob n hn).1 T.spc T.tak (T.ob n hn).2) I.kIn J e (fun z => nomatch z) fun tk => ⟨.bl b, H, I.kept (t' := tk) fun _ _ z => z, rfl, q⟩
theorem ce_isV {base : Str} {errs : List Str} {us : List Ty} {fns : List Str} {e ce : Expr} {p pos : Pos} {u : Ty} {g : Env → O D} (TT : ErrK X.K base errs us fns) (hg : Gl X "isinstance") (hm : X.mg "isinstance" = none) (ha : CE X W κ .sh e g) (hc : PE X ce (tC (u.w X.K)))
    (he : starEach [e, ce] X.env = (false, eval e X.env) :: starEach [ce] X.env := by rfl) (he2 : starEach [ce] X.env = (false, eval ce X.env) :: starEach [] X.env := by rfl) (hpl : (backTo pos (starEach [ce] X.env)).any (·.1) = false := by rfl) :
    CE X W κ .sh (.Call (.Name "isinstance" p) [e, ce] [] pos) (mUn (xIs base errs us u) g) :=
  PE.imp (pe_callB (call_isV TT) hg hm (by decide +kernel) (pa_cons ha (pa_cons hc pa_nil he2) he) (by decide) (by decide) he hpl) fun σ H Q q => by
    obtain ⟨S, H0, Hs0, ρ, Hs, F, R, q⟩ := q
    refine step R q fun d x H1 Hs1 _ g1 R1 rd p1 => ?_
    have fin : ∀ (c : Str) (fs : List (Str × D)) (a : Addr) (dd : Option Addr), EPost X.K W .sh σ H1 Hs1 Q (if c ∈ errs ∧ u ∈ us then .ok (.bl (xis base c u)) else .stuck) → x = .ref a → H1 a = some (exo a (He.ga X.K c) dd) → (dd = none ∨ ∃ d' vfs, dd = some d' ∧ H1 d' = some (exd d' vfs)) → rIsV X.K errs [x, u.w X.K] H1 Q := fun c fs a dd p1 ex h1 h2 => by
      by_cases hcc : c ∈ errs ∧ u ∈ us
      · rw [if_pos hcc] at p1
        subst ex
        refine ⟨u.w X.K, u.v X.K, _, c, a, dd, rfl, fun z hz => ?_, hcc.1, h1, h2, TT.one c hcc.1 u hcc.2, p1 _ _ (.sh (.refl R1.sub) (.bl _))⟩
        cases u with
        | b n => exact hz
        | o c => exact hz
      · rw [if_neg hcc] at p1; exact p1.elim
    cases rd with
    | @exv c a dx fs vfs h1 h2 r =>
      exact fin c fs _ _ p1 rfl (R1.sub _ _ h1) (.inr ⟨_, _, rfl, R1.sub _ _ h2⟩)
    | @exv0 c a h1 => exact fin c [] _ _ p1 rfl (R1.sub _ _ h1) (.inl rfl)
    | _ => exact p1.elim
end
section
variable {P : Program} {w : World} {K : PySem.W.Frag} {mg : Str → Option Value} {base : Heap} {x qual c : Str} {params : Arguments} {body : List Stmt} {scope : Scope} {f : Addr} {fd : FuncData}
theorem calleeXK_of {k : Nat} {ps ns ks : List Str} {π : List Nat} (F : FunD K x qual params body scope [] [] f fd) (hm : mg c = some (.ref (He.ga K c))) (TC : OexC K (He.ga K c)) (hi : PySem.W.findIn K (.ref (He.ga K c)) "__init__" = some (some (.ref f))) (ht : PySem.W.typeIn K (.ref f) = some (.type "function"))
    (G : FnOk P w K mg base (L2N.CX P w) k f fd ps (spX K c ns)) (hπ : π.length = ns.length) (hπ2 : ∀ i ∈ π, i < ks.length)
    (h : ∀ (kV doc pm : Value) (an : Option Addr) (cdv ct : Value) (e : Addr) (ws : List Value), ws.length = ks.length → bindArgs (PySem.W.fnOf x qual params body scope .none kV doc pm an cdv ct) ⟨[.ref e], ks.zip ws⟩ = pure (ps.zip (.ref e :: permL π ws))) : CalleeXK P w K mg base c k ns ks π := by
  refine ⟨f, fd, ps, hm, TC, hi, ht, G, hπ, hπ2, fun s e ws hl => ?_⟩
  obtain ⟨oc, od, dV, kV, doc, pm, an, cdv, ct, osl, rfl, lk, hcd, hD, hK⟩ := F.ex
  rcases hD with ⟨_, rfl⟩ | ⟨e, _⟩
  · exact .of_eq (h kV doc pm an cdv ct e ws hl)
  · exact absurd rfl e
/-- a def of which nothing is asked -/
theorem fn_stuck {ps : List Str} {k : Nat} {rr : Kd} : FnOk P w K mg base (L2N.CX P w) k f fd ps (spM K [] (fun _ => .stuck) rr) :=
  ⟨fun vs H Q E h => (by obtain ⟨_, _, _, _, q⟩ := h; exact q.elim), fun A outer s H args us vs Q E _ _ _ _ h => (by obtain ⟨_, _, _, _, q⟩ := h; exact q.elim)⟩
end
end T

set_option Elab.async false
set_option linter.all false
set_option maxRecDepth 100000
/-! TI: the top's run in three declarations, each with a look of its own. -/
namespace T
open PySem PySem.W PySem.Calls PyProof.Rows HandSHeadRun
/-- a look at the state behind the top -/
def BackAt (r : OpenRow) (M : Nat) (w : World) {α : Type} (f : SharedT → α) (a : α) : Prop :=
  ∀ os : OsState, (endF (stepQ (denQ tabQ) r.prog w) M r.prog w os).map f = some a
theorem BackAt.pair {r : OpenRow} {M : Nat} {w : World} {α β : Type} {f : SharedT → α} {g : SharedT → β} {a : α} {b : β} (x : BackAt r M w f a) (y : BackAt r M w g b) : BackAt r M w (fun s => (f s, g s)) (a, b) := fun os => by
  have y1 := y os
  obtain ⟨s, hs, e⟩ := Option.map_eq_some_iff.mp (x os)
  rw [hs] at y1 ⊢
  exact congrArg some (Prod.ext e (Option.some.inj y1))
theorem run_join {r : OpenRow} {q : Program} {H : Hook} {ob : SharedT → H.α} {M : Nat} {loose : List PySem.Str} {w : World}
    (x : BackAt r M w (fun s => looksF r.prog (boot_heap w.params) s.abs) true)
    (y : BackAt r M w (fun s => seenQ q loose (importedModules r.prog.main.body) (fun s => xlAt q [] s && recOk r.toRowW.records s) s.abs) (openGood q loose))
    (z : BackAt r M w ob (H.val w)) : RunEq r q H ob M loose w := x.pair (y.pair z)
end T

set_option Elab.async false
set_option linter.all false
set_option maxRecDepth 100000
/-! TJ: the same Hook over a reach that marks what it has seen in the bits of one number. -/
namespace T
open PySem L2
/-- mark (mask, found) by the addresses of a list -/
def markB : List Addr → Nat → List Addr → Nat × List Addr
  | [], m, l => (m, l)
  | a :: r, m, l => match Nat.beq (Nat.land (Nat.shiftRight m a) 1) 0 with
    | true => HandSHeadRun.frNat (Nat.lor m (Nat.shiftLeft 1 a)) fun m => HandSHeadRun.frNat a fun a => markB r m (a :: l)
    | false => markB r m l
def refsAll (g : Addr → Option Obj) : List Addr → List Addr
  | [] => []
  | a :: r => (match g a with
    | some o => He.refsD o
    | none => []) ++ refsAll g r
/-- n turns: mask, all found, the last turn's -/
def reachB (g : Addr → Option Obj) : Nat → Nat → List Addr → List Addr → List Addr
  | 0, _, all, _ => all
  | n + 1, m, all, l => match markB (refsAll g l) m [] with
    | (m', l') => reachB g n m' (all ++ l') l'
def reachM (g : Addr → Option Obj) (n : Nat) : List Addr := match markB [mainGlobals] 0 [] with
  | (m, l) => reachB g n m l l
def obsBG (n : Nat) (ex : PySem.W.Frag → Bool) (fn : List DefA) (ts : List (Str × List Str)) (g : Addr → Option Obj) : AlA := obsA ex fn ts (He.frG g (reachM g n))
def hookB (n : Nat) (ex : PySem.W.Frag → Bool) (fn : List DefA) (ts : List (Str × List Str)) : PySem.W.Hook where
  α := AlA
  obs := fun s => obsBG n ex fn ts s.heap.get?
  val := fun w => valA fn ts w
  says := fun w h => ∃ K : PySem.W.Frag, K.In h ∧ obsA ex fn ts K = valA fn ts w
  of := fun _ _ e => ⟨_, He.frG_in, e⟩
  keeps := fun _ _ _ ⟨K, hK, c⟩ k => ⟨K, PySem.W.Frag.In.keeps hK k, c⟩
theorem obsBG_eq {n : Nat} {ex : PySem.W.Frag → Bool} {fn : List DefA} {ts : List (Str × List Str)} {g : Addr → Option Obj} {s : Shared} (h : ∀ a, g a = s.heap.get? a) : obsBG n ex fn ts g = (hookB n ex fn ts).obs s := by
  have e : g = s.heap.get? := funext h
  rw [e] <;> rfl

section
variable {r : PySem.W.OpenRow} {M n : Nat} {w : World} {ex : PySem.W.Frag → Bool} {fn : List DefA} {ts : List (Str × List Str)}
def lookK (n : Nat) {α : Type} (f : PySem.W.Frag → α) (s : PySem.W.SharedT) : α := f (He.frG (HandSHeadRun.getT s) (reachM (HandSHeadRun.getT s) n))
theorem BackAt.and {f g : PySem.W.Frag → Bool} (x : BackAt r M w (lookK n f) true) (y : BackAt r M w (lookK n g) true) : BackAt r M w (lookK n fun K => f K && g K) true := fun os => by
  have z := x.pair y os
  obtain ⟨s, hs, e⟩ := Option.map_eq_some_iff.mp z
  rw [hs]
  have e1 : lookK n f s = true := congrArg Prod.fst e
  have e2 : lookK n g s = true := congrArg Prod.snd e
  show some (lookK n f s && lookK n g s) = some true
  rw [e1, e2]
  rfl
theorem BackAt.app {β : Type} {f g : PySem.W.Frag → List β} {a b : List β} (x : BackAt r M w (lookK n f) a) (y : BackAt r M w (lookK n g) b) : BackAt r M w (lookK n fun K => f K ++ g K) (a ++ b) := fun os => by
  have z := x.pair y os
  obtain ⟨s, hs, e⟩ := Option.map_eq_some_iff.mp z
  rw [hs]
  have e1 : lookK n f s = a := congrArg Prod.fst e
  have e2 : lookK n g s = b := congrArg Prod.snd e
  show some (lookK n f s ++ lookK n g s) = some (a ++ b)
  rw [e1, e2]
theorem backB (x : BackAt r M w (lookK n ex) true) (y : BackAt r M w (lookK n fun K => fn.all fun d => d.ok K) true) (z : BackAt r M w (lookK n fun K => fn.map fun d => fnA K (d.at_ K)) (fn.map DefA.val)) (u : BackAt r M w (lookK n fun K => ts.map fun p => He.dicW K (He.ga K p.1)) (ts.map fun p => some (He.keysIn w.params p.2))) :
    BackAt r M w (fun s => obsBG n ex fn ts (HandSHeadRun.getT s)) (valA fn ts w) := by
  have h := (BackAt.and x y).pair (z.pair u)
  exact h
end
end T
namespace T
theorem BackAt.const {r : PySem.W.OpenRow} {M : Nat} {w : PySem.World} {α β : Type} {f : PySem.W.SharedT → α} {a : α} (b : β) (x : BackAt r M w f a) : BackAt r M w (fun _ => b) b := fun os => by
  obtain ⟨s, hs, _⟩ := Option.map_eq_some_iff.mp (x os)
  rw [hs]
  rfl
end T

set_option Elab.async false
set_option linter.all false
set_option maxRecDepth 100000
set_option maxHeartbeats 4000000
namespace K90
open PySem L2 T
abbrev fc_pins : List Str := ["Lot"]
abbrev fc_cords : List Str := ["Lot"]
def cl : List Str := ["Lot"]
abbrev erb : Str := "RimError"
abbrev ers : List Str := [Str.ofString "BadPins", Str.ofString "BadPin", Str.ofString "SamePin", Str.ofString "BadGap", Str.ofString "NoPair", Str.ofString "OddPin", Str.ofString "UnlikePins", Str.ofString "BadCord", Str.ofString "NotPart", Str.ofString "BadNumber", Str.ofString "BadTable", Str.ofString "NoLot", Str.ofString "NoMove", Str.ofString "OddEnds", Str.ofString "Barred", Str.ofString "TooMany", Str.ofString "BadWidth", Str.ofString "BadTurn", Str.ofString "DoubleEnd", Str.ofString "MissingEnd", Str.ofString "LooseJoint", Str.ofString "NotPlane", Str.ofString "BadItem", Str.ofString "BadJoint", Str.ofString "BadTrack", Str.ofString "OddJoint", Str.ofString "BadDeed", Str.ofString "Refused", Str.ofString "BadWire", Str.ofString "SharedLand", Str.ofString "OddLand", Str.ofString "BadLanes", Str.ofString "BadLetter", Str.ofString "UnlikeLanes", Str.ofString "BadPairing", Str.ofString "BadCap", Str.ofString "BadPair", Str.ofString "NoWishes", Str.ofString "NothingToUndo", Str.ofString "NoteError"]
abbrev eru : List Ty := [.o "BadGap", .o "SamePin", .o "BadPin", .o "BadPins", .o "BadCord", .o "UnlikePins", .o "OddPin", .o "NoPair", .o "NoLot", .o "BadTable", .o "BadNumber", .o "NotPart", .o "TooMany", .o "Barred", .o "OddEnds", .o "NoMove", .o "DoubleEnd", .o "BadTurn", .o "BadWidth", .o "NotPlane", .o "LooseJoint", .o "MissingEnd", .o "OddJoint", .o "BadTrack", .o "BadJoint", .o "BadItem", .o "SharedLand", .o "BadWire", .o "Refused", .o "BadDeed", .o "BadLetter", .o "BadLanes", .o "OddLand", .o "BadCap", .o "BadPairing", .o "UnlikeLanes", .o "NothingToUndo", .o "NoWishes", .o "BadPair", .o "NoteError", .o "RimError", .b "ValueError"]
abbrev erf : List Str := [Str.ofString "pins", Str.ofString "pin", Str.ofString "gap", Str.ofString "one", Str.ofString "other", Str.ofString "entry", Str.ofString "a", Str.ofString "b", Str.ofString "number", Str.ofString "row", Str.ofString "column", Str.ofString "twice", Str.ofString "move", Str.ofString "first", Str.ofString "last", Str.ofString "held", Str.ofString "wished", Str.ofString "track", Str.ofString "joint", Str.ofString "end", Str.ofString "found", Str.ofString "due", Str.ofString "item", Str.ofString "place", Str.ofString "deed", Str.ofString "wire", Str.ofString "land", Str.ofString "letter", Str.ofString "lot", Str.ofString "pair", Str.ofString "line"]
def g_is_whole : T.Env → SO := sRet (mAndV (mUn (dIsi cl [.b "int"]) (mVar 0)) (mNotV (mUn (dIsi cl [.b "bool"]) (mVar 0))))
def m_is_whole : List D → O D := mDef 1 1 .sh g_is_whole
def g_combined : T.Env → SO := sSeq (sAsg 1 (mC (.dct []))) (sSeq (sFor (mSeq (mVar 0)) (.tp [2, 3, 4]) (sSeq (sIf (mAnd (mTest (mBin dNe (mVar 2) (mVar 3))) (mTest (mBin dGt (mVar 4) (mC (.int 0))))) (sSeq (sAsg 5 (mTup (mCons (mCall dMin2 (mCons (mVar 2) (mCons (mVar 3) (mNil)))) (mCons (mCall dMax2 (mCons (mVar 2) (mCons (mVar 3) (mNil)))) (mNil))))) (sSeq (sDput 1 (mBin dAdd (mDgetD 1 (mVar 5) (mC (.int 0))) (mVar 4)) (mVar 5)) (sNext))) (sNext)) (sNext))) (sRet (mCall dTuple (mCons (mComp (mSeq (mSortT 1)) [2, 3] (.tp [2, 3]) (mYes) (mTup (mCons (mVar 2) (mCons (mVar 3) (mCons (mDget 1 (mTup (mCons (mVar 2) (mCons (mVar 3) (mNil))))) (mNil)))))) (mNil)))))
def m_combined : List D → O D := mDef 6 1 .sh g_combined
def g_is_pin : T.Env → SO := sRet (mAndV (mApp m_is_whole (mCons (mVar 1) (mNil))) (mChain dLe dLt (mC (.int 0)) (mVar 1) (mVar 0)))
def m_is_pin : List D → O D := mDef 2 2 .sh g_is_pin
def g_is_entry : T.Env → SO := sSeq (sIf (mOr (mNot (mTest (mUn (dIsi cl [.b "list", .b "tuple"]) (mVar 1)))) (mTest (mBin dNe (mCall dLen (mCons (mVar 1) (mNil))) (mC (.int 3))))) (sRet (mC (.bl false))) (sNext)) (sSeq (sUnp [2, 3, 4] (mVar 1)) (sRet (mAndV (mApp m_is_pin (mCons (mVar 0) (mCons (mVar 2) (mNil)))) (mAndV (mApp m_is_pin (mCons (mVar 0) (mCons (mVar 3) (mNil)))) (mAndV (mBin dNe (mVar 2) (mVar 3)) (mAndV (mApp m_is_whole (mCons (mVar 4) (mNil))) (mBin dGe (mVar 4) (mC (.int 1)))))))))
def m_is_entry : List D → O D := mDef 5 2 .sh g_is_entry
def g_Lot___init__ : T.Env → SO := sSeq (sIf (mOr (mNot (mTest (mApp m_is_whole (mCons (mVar 1) (mNil))))) (mTest (mBin dLt (mVar 1) (mC (.int 0))))) (sRaise "BadPins" ["pins"] (mCons (mVar 1) (mNil))) (sNext)) (sSeq (sFor (mSeq (mVar 2)) (.nm 3) (sSeq (sIf (mNot (mTest (mApp m_is_entry (mCons (mVar 1) (mCons (mVar 3) (mNil)))))) (sRaise "BadCord" ["entry"] (mCons (mVar 3) (mNil))) (sNext)) (sNext))) (sSeq (sSetA fc_pins 0 "pins" (mVar 1)) (sSeq (sSetA fc_cords 0 "cords" (mApp m_combined (mCons (mVar 2) (mNil)))) (sNext))))
def m_Lot___init__ : List D → O D := mInit "Lot" 4 2 g_Lot___init__
def g__law_whole : T.Env → SO := sRet (mAndV (mUn (dIsi cl [.b "int"]) (mVar 0)) (mNotV (mUn (dIsi cl [.b "bool"]) (mVar 0))))
def m__law_whole : List D → O D := mDef 1 1 .sh g__law_whole
def g__law_cell : T.Env → SO := sSeq (sIf (mTest (mBin dLt (mVar 1) (mCall dLen (mCons (mVar 0) (mNil))))) (sRet (mBin dIx (mVar 0) (mVar 1))) (sNext)) (sSeq (sAsg 2 (mC (.int 17))) (sSeq (sFor (mSeq (mVar 0)) (.nm 3) (sSeq (sAsg 2 (mBin dMod (mCall dIntA (mCons (mBin dAdd (mBin dMul (mVar 2) (mC (.int 31))) (mBin dMod (mCall dIntA (mCons (mVar 3) (mNil))) (mC (.int 1000003)))) (mNil))) (mC (.int 1000003)))) (sNext))) (sRet (mBin dMod (mCall dIntA (mCons (mBin dMul (mBin dMul (mBin dAdd (mVar 2) (mC (.int 7))) (mBin dAdd (mVar 1) (mC (.int 3)))) (mC (.int 69621))) (mNil))) (mC (.int 2147483647))))))
def m__law_cell : List D → O D := mDef 4 2 .sh g__law_cell
def g__law_digits : T.Env → SO := sSeq (sAsg 2 (mC (.lst []))) (sSeq (sAsg 3 (mCall dIntA (mCons (mVar 0) (mNil)))) (sSeq (sIf (mTest (mBin dGe (mVar 3) (mBin dPow (mC (.int 10)) (mC (.int 18))))) (sSeq (sAsg 3 (mBin dSub (mVar 3) (mBin dPow (mC (.int 10)) (mC (.int 18))))) (sSeq (sFor (mSeq (mVar 1)) (.nm 4) (sSeq (sApp 2 (mBin dMod (mCall dIntA (mCons (mVar 3) (mNil))) (mVar 4))) (sSeq (sAsg 3 (mBin dFdiv (mCall dIntA (mCons (mVar 3) (mNil))) (mVar 4))) (sNext)))) (sRet (mVar 2)))) (sNext)) (sSeq (sAsg 5 (mBin dMod (mCall dIntA (mCons (mVar 3) (mNil))) (mC (.int 2147483629)))) (sSeq (sFor (mRange1 (mCons (mCall dLen (mCons (mVar 1) (mNil))) (mNil))) (.nm 6) (sSeq (sAsg 5 (mBin dMod (mCall dIntA (mCons (mBin dAdd (mBin dAdd (mBin dMul (mVar 5) (mC (.int 48271))) (mBin dMul (mC (.int 974711)) (mVar 6))) (mC (.int 12345))) (mNil))) (mC (.int 2147483647)))) (sSeq (sAsg 7 (mBin dMod (mCall dIntA (mCons (mBin dMul (mVar 5) (mBin dAdd (mBin dFdiv (mVar 5) (mC (.int 65537))) (mC (.int 3)))) (mNil))) (mC (.int 2147483629)))) (sSeq (sApp 2 (mBin dMod (mBin dFdiv (mVar 7) (mC (.int 19))) (mBin dIx (mVar 1) (mVar 6)))) (sNext))))) (sRet (mVar 2))))))
def m__law_digits : List D → O D := mDef 8 2 .sh g__law_digits
def g__law_number : T.Env → SO := sSeq (sAsg 1 (mApp m__law_digits (mCons (mVar 0) (mCons (mLst (mCons (mC (.int 5)) (mCons (mC (.int 10)) (mCons (mBin dAdd (mBin dPow (mC (.int 10)) (mC (.int 9))) (mC (.int 1))) (mNil))))) (mNil))))) (sRet (mBin dIx (mLst (mCons (mBin dIx (mVar 1) (mC (.int 1))) (mCons (mBin dIx (mVar 1) (mC (.int 2))) (mCons (mBin dSub (mUn dNeg (mC (.int 1))) (mBin dIx (mVar 1) (mC (.int 1)))) (mCons (mUn dNeg (mBin dIx (mVar 1) (mC (.int 2)))) (mCons (mBin dIx (mVar 1) (mC (.int 1))) (mNil))))))) (mBin dIx (mVar 1) (mC (.int 0)))))
def m__law_number : List D → O D := mDef 2 1 .sh g__law_number
def g__law_thing : T.Env → SO := sSeq (sAsg 3 (mLst (mCons (mTup (mCons (mVar 1) (mCons (mVar 2) (mCons (mC (.int 1)) (mNil))))) (mCons (mLst (mCons (mVar 1) (mCons (mVar 2) (mCons (mC (.int 1)) (mNil))))) (mCons (mLst (mCons (mVar 1) (mCons (mLst (mCons (mVar 2) (mCons (mC (.int 2)) (mNil)))) (mNil)))) (mCons (mTup (mCons (mVar 1) (mCons (mLst (mCons (mVar 2) (mNil))) (mCons (mC .non) (mNil))))) (mCons (mTup (mCons (mC (.str "pin")) (mCons (mVar 1) (mNil)))) (mCons (mLst (mCons (mC (.str "track")) (mCons (mVar 1) (mCons (mVar 2) (mNil))))) (mCons (mTup (mNil)) (mCons (mLst (mNil)) (mCons (mC (.str "")) (mCons (mC (.str "0 1 2")) (mNil))))))))))))) (sSeq (sAsg 3 (mBin dAdd (mVar 3) (mLst (mCons (mC .non) (mCons (mC (.bl true)) (mCons (mC (.bl false)) (mCons (mVar 1) (mCons (mUn dNeg (mC (.int 1))) (mCons (mLst (mCons (mTup (mCons (mVar 1) (mCons (mVar 2) (mNil)))) (mCons (mTup (mCons (mVar 2) (mCons (mVar 1) (mNil)))) (mNil)))) (mCons (mTup (mCons (mTup (mCons (mVar 1) (mNil))) (mCons (mLst (mCons (mVar 2) (mCons (mC (.bl true)) (mNil)))) (mNil)))) (mNil))))))))))) (sRet (mBin dIx (mVar 3) (mBin dIx (mApp m__law_digits (mCons (mVar 0) (mCons (mLst (mCons (mC (.int 17)) (mNil))) (mNil)))) (mC (.int 0))))))
def m__law_thing : List D → O D := mDef 4 3 .sh g__law_thing
def g__law_bag : T.Env → SO := sSeq (sAsg 1 (mApp m__law_digits (mCons (mVar 0) (mCons (mLst (mCons (mC (.int 2)) (mCons (mC (.int 2)) (mCons (mC (.int 2)) (mCons (mC (.int 2)) (mCons (mC (.int 2)) (mCons (mC (.int 2)) (mNil)))))))) (mNil))))) (sRet (mCall dTuple (mCons (mComp (mRange1 (mCons (mC (.int 6)) (mNil))) [2] (.nm 2) (mTest (mBin dEq (mBin dIx (mVar 1) (mVar 2)) (mC (.int 1)))) (mVar 2)) (mNil))))
def m__law_bag : List D → O D := mDef 3 1 .sh g__law_bag
def g__law_lot : T.Env → SO := sSeq (sAsg 1 (mApp m__law_digits (mCons (mVar 0) (mCons (mLst (mCons (mC (.int 5)) (mCons (mC (.int 3)) (mCons (mC (.int 4)) (mCons (mC (.int 3)) (mCons (mC (.int 4)) (mCons (mC (.int 3)) (mNil)))))))) (mNil))))) (sRet (mLst (mCons (mBin dAdd (mC (.int 2)) (mBin dIx (mVar 1) (mC (.int 0)))) (mCons (mCall dTuple (mCons (mComp (mRange2 (mCons (mC (.int 1)) (mCons (mBin dAdd (mC (.int 2)) (mBin dIx (mVar 1) (mC (.int 0)))) (mNil)))) [2] (.nm 2) (mTest (mBin dGt (mBin dIx (mVar 1) (mVar 2)) (mC (.int 0)))) (mTup (mCons (mC (.int 0)) (mCons (mVar 2) (mCons (mBin dIx (mVar 1) (mVar 2)) (mNil)))))) (mNil))) (mNil)))))
def m__law_lot : List D → O D := mDef 3 1 .sh g__law_lot
def g__law_same (rec : List D → O D) : T.Env → SO := sSeq (sIf (mTest (mBin dIsN (mVar 1) (mC .non))) (sRet (mBin dIsN (mVar 0) (mC .non))) (sNext)) (sSeq (sIf (mTest (mUn (dIsi cl [.b "bool"]) (mVar 1))) (sRet (mAndV (mUn (dIsi cl [.b "bool"]) (mVar 0)) (mBin dEq (mVar 0) (mVar 1)))) (sNext)) (sSeq (sIf (mTest (mUn (dIsi cl [.b "int"]) (mVar 1))) (sRet (mAndV (mApp m__law_whole (mCons (mVar 0) (mNil))) (mBin dEq (mVar 0) (mVar 1)))) (sNext)) (sSeq (sIf (mTest (mUn (dIsi cl [.b "str"]) (mVar 1))) (sRet (mAndV (mUn (dIsi cl [.b "str"]) (mVar 0)) (mBin dEq (mVar 0) (mVar 1)))) (sNext)) (sSeq (sIf (mAnd (mTest (mUn (dIsi cl [.b "list"]) (mVar 1))) (mNot (mTest (mUn (dIsi cl [.b "list"]) (mVar 0))))) (sRet (mC (.bl false))) (sNext)) (sSeq (sIf (mAnd (mTest (mUn (dIsi cl [.b "tuple"]) (mVar 1))) (mNot (mTest (mUn (dIsi cl [.b "tuple"]) (mVar 0))))) (sRet (mC (.bl false))) (sNext)) (sSeq (sIf (mTest (mBin dNe (mCall dLen (mCons (mVar 0) (mNil))) (mCall dLen (mCons (mVar 1) (mNil))))) (sRet (mC (.bl false))) (sNext)) (sSeq (sFor (mRange1 (mCons (mCall dLen (mCons (mVar 1) (mNil))) (mNil))) (.nm 2) (sSeq (sIf (mNot (mTest (mApp rec (mCons (mBin dIx (mVar 0) (mVar 2)) (mCons (mBin dIx (mVar 1) (mVar 2)) (mNil)))))) (sRet (mC (.bl false))) (sNext)) (sNext))) (sRet (mC (.bl true))))))))))
def m__law_same (rec : List D → O D) : List D → O D := mDef 3 2 .sh (g__law_same rec)
def mr__law_same : Nat → List D → O D
  | 0 => fun _ => .stuck
  | n + 1 => m__law_same (mr__law_same n)
def g__law_placed : T.Env → SO := sSeq (sAsg 7 (mLst (mCons (mApp (mErr "BadPins" ["pins"]) (mCons (mVar 4) (mNil))) (mCons (mApp (mErr "BadPin" ["pin"]) (mCons (mVar 4) (mNil))) (mCons (mApp (mErr "SamePin" ["pin"]) (mCons (mVar 0) (mNil))) (mCons (mApp (mErr "BadGap" ["gap"]) (mCons (mVar 4) (mNil))) (mCons (mApp (mErr "NoPair" ["pins"]) (mCons (mVar 0) (mNil))) (mCons (mApp (mErr "OddPin" ["pin"]) (mCons (mVar 0) (mNil))) (mCons (mApp (mErr "UnlikePins" ["one", "other"]) (mCons (mVar 0) (mCons (mVar 1) (mNil)))) (mNil)))))))))) (sSeq (sAsg 7 (mBin dAdd (mVar 7) (mLst (mCons (mApp (mErr "BadCord" ["entry"]) (mCons (mVar 4) (mNil))) (mCons (mApp (mErr "NotPart" ["a", "b"]) (mCons (mVar 0) (mCons (mVar 1) (mNil)))) (mCons (mApp (mErr "BadNumber" ["number"]) (mCons (mVar 4) (mNil))) (mCons (mApp (mErr "BadTable" ["row", "column"]) (mCons (mVar 0) (mCons (mVar 1) (mNil)))) (mCons (mApp (mErr "NoLot" ["a", "b", "twice"]) (mCons (mVar 0) (mCons (mVar 1) (mCons (mVar 2) (mNil))))) (mCons (mApp (mErr "NoMove" ["move"]) (mCons (mVar 4) (mNil))) (mNil)))))))))) (sSeq (sAsg 7 (mBin dAdd (mVar 7) (mLst (mCons (mApp (mErr "OddEnds" ["pins"]) (mCons (mVar 5) (mNil))) (mCons (mApp (mErr "Barred" ["first", "last", "held", "wished"]) (mCons (mVar 0) (mCons (mVar 1) (mCons (mVar 2) (mCons (mVar 3) (mNil)))))) (mCons (mApp (mErr "TooMany" ["number"]) (mCons (mVar 0) (mNil))) (mCons (mApp (mErr "BadWidth" ["track"]) (mCons (mVar 0) (mNil))) (mCons (mApp (mErr "BadTurn" ["joint"]) (mCons (mVar 0) (mNil))) (mCons (mApp (mErr "DoubleEnd" ["end"]) (mCons (mVar 0) (mNil))) (mCons (mApp (mErr "MissingEnd" ["end"]) (mCons (mVar 0) (mNil))) (mNil))))))))))) (sSeq (sAsg 7 (mBin dAdd (mVar 7) (mLst (mCons (mApp (mErr "LooseJoint" ["joint"]) (mCons (mVar 0) (mNil))) (mCons (mApp (mErr "NotPlane" ["found", "due"]) (mCons (mVar 0) (mCons (mVar 1) (mNil)))) (mCons (mApp (mErr "BadItem" ["item"]) (mCons (mVar 4) (mNil))) (mCons (mApp (mErr "BadJoint" ["joint"]) (mCons (mVar 4) (mNil))) (mCons (mApp (mErr "BadTrack" ["track"]) (mCons (mVar 4) (mNil))) (mCons (mApp (mErr "OddJoint" ["joint"]) (mCons (mVar 0) (mNil))) (mNil)))))))))) (sSeq (sAsg 7 (mBin dAdd (mVar 7) (mLst (mCons (mApp (mErr "BadDeed" ["place", "deed"]) (mCons (mVar 0) (mCons (mVar 4) (mNil)))) (mCons (mApp (mErr "Refused" ["place", "deed"]) (mCons (mVar 0) (mCons (mVar 5) (mNil)))) (mCons (mApp (mErr "BadWire" ["wire"]) (mCons (mVar 4) (mNil))) (mCons (mApp (mErr "SharedLand" ["first", "last"]) (mCons (mVar 0) (mCons (mVar 1) (mNil)))) (mCons (mApp (mErr "OddLand" ["land"]) (mCons (mVar 0) (mNil))) (mCons (mApp (mErr "BadLanes" ["number"]) (mCons (mVar 4) (mNil))) (mNil)))))))))) (sSeq (sAsg 7 (mBin dAdd (mVar 7) (mLst (mCons (mApp (mErr "BadLetter" ["place", "letter"]) (mCons (mVar 0) (mCons (mVar 4) (mNil)))) (mCons (mApp (mErr "UnlikeLanes" ["one", "other"]) (mCons (mVar 0) (mCons (mVar 1) (mNil)))) (mCons (mApp (mErr "BadPairing" ["lot"]) (mCons (mVar 6) (mNil))) (mCons (mApp (mErr "BadCap" ["pin"]) (mCons (mVar 0) (mNil))) (mCons (mApp (mErr "BadPair" ["pair"]) (mCons (mVar 4) (mNil))) (mCons (mErr0 "NoWishes") (mNil)))))))))) (sRet (mBin dAdd (mVar 7) (mLst (mCons (mErr0 "NothingToUndo") (mCons (mApp (mErr "NoteError" ["line"]) (mCons (mVar 0) (mNil))) (mNil)))))))))))
def m__law_placed : List D → O D := mDef 8 7 .sh g__law_placed
def g__law_named : T.Env → SO := sSeq (sAsg 7 (mLst (mCons (mApp (fun ds => if ds.length = 1 then mErr "BadPins" ["pins"] (permL [0] ds) else .stuck) (mCons (mVar 4) (mNil))) (mCons (mApp (fun ds => if ds.length = 1 then mErr "BadPin" ["pin"] (permL [0] ds) else .stuck) (mCons (mVar 4) (mNil))) (mCons (mApp (fun ds => if ds.length = 1 then mErr "SamePin" ["pin"] (permL [0] ds) else .stuck) (mCons (mVar 0) (mNil))) (mCons (mApp (fun ds => if ds.length = 1 then mErr "BadGap" ["gap"] (permL [0] ds) else .stuck) (mCons (mVar 4) (mNil))) (mCons (mApp (fun ds => if ds.length = 1 then mErr "NoPair" ["pins"] (permL [0] ds) else .stuck) (mCons (mVar 0) (mNil))) (mCons (mApp (fun ds => if ds.length = 1 then mErr "OddPin" ["pin"] (permL [0] ds) else .stuck) (mCons (mVar 0) (mNil))) (mNil))))))))) (sSeq (sAsg 7 (mBin dAdd (mVar 7) (mLst (mCons (mApp (fun ds => if ds.length = 2 then mErr "UnlikePins" ["one", "other"] (permL [1, 0] ds) else .stuck) (mCons (mVar 1) (mCons (mVar 0) (mNil)))) (mCons (mApp (fun ds => if ds.length = 1 then mErr "BadCord" ["entry"] (permL [0] ds) else .stuck) (mCons (mVar 4) (mNil))) (mCons (mApp (fun ds => if ds.length = 2 then mErr "NotPart" ["a", "b"] (permL [1, 0] ds) else .stuck) (mCons (mVar 1) (mCons (mVar 0) (mNil)))) (mCons (mApp (fun ds => if ds.length = 1 then mErr "BadNumber" ["number"] (permL [0] ds) else .stuck) (mCons (mVar 4) (mNil))) (mNil)))))))) (sSeq (sAsg 7 (mBin dAdd (mVar 7) (mLst (mCons (mApp (fun ds => if ds.length = 2 then mErr "BadTable" ["row", "column"] (permL [1, 0] ds) else .stuck) (mCons (mVar 1) (mCons (mVar 0) (mNil)))) (mCons (mApp (fun ds => if ds.length = 3 then mErr "NoLot" ["a", "b", "twice"] (permL [2, 1, 0] ds) else .stuck) (mCons (mVar 2) (mCons (mVar 1) (mCons (mVar 0) (mNil))))) (mCons (mApp (fun ds => if ds.length = 1 then mErr "NoMove" ["move"] (permL [0] ds) else .stuck) (mCons (mVar 4) (mNil))) (mCons (mApp (fun ds => if ds.length = 1 then mErr "OddEnds" ["pins"] (permL [0] ds) else .stuck) (mCons (mVar 5) (mNil))) (mNil)))))))) (sSeq (sAsg 7 (mBin dAdd (mVar 7) (mLst (mCons (mApp (fun ds => if ds.length = 4 then mErr "Barred" ["first", "last", "held", "wished"] (permL [3, 2, 1, 0] ds) else .stuck) (mCons (mVar 3) (mCons (mVar 2) (mCons (mVar 1) (mCons (mVar 0) (mNil)))))) (mCons (mApp (fun ds => if ds.length = 1 then mErr "TooMany" ["number"] (permL [0] ds) else .stuck) (mCons (mVar 0) (mNil))) (mCons (mApp (fun ds => if ds.length = 1 then mErr "BadWidth" ["track"] (permL [0] ds) else .stuck) (mCons (mVar 0) (mNil))) (mCons (mApp (fun ds => if ds.length = 1 then mErr "BadTurn" ["joint"] (permL [0] ds) else .stuck) (mCons (mVar 0) (mNil))) (mNil)))))))) (sSeq (sAsg 7 (mBin dAdd (mVar 7) (mLst (mCons (mApp (fun ds => if ds.length = 1 then mErr "DoubleEnd" ["end"] (permL [0] ds) else .stuck) (mCons (mVar 0) (mNil))) (mCons (mApp (fun ds => if ds.length = 1 then mErr "MissingEnd" ["end"] (permL [0] ds) else .stuck) (mCons (mVar 0) (mNil))) (mCons (mApp (fun ds => if ds.length = 1 then mErr "LooseJoint" ["joint"] (permL [0] ds) else .stuck) (mCons (mVar 0) (mNil))) (mCons (mApp (fun ds => if ds.length = 2 then mErr "NotPlane" ["found", "due"] (permL [1, 0] ds) else .stuck) (mCons (mVar 1) (mCons (mVar 0) (mNil)))) (mNil)))))))) (sSeq (sAsg 7 (mBin dAdd (mVar 7) (mLst (mCons (mApp (fun ds => if ds.length = 1 then mErr "BadItem" ["item"] (permL [0] ds) else .stuck) (mCons (mVar 4) (mNil))) (mCons (mApp (fun ds => if ds.length = 1 then mErr "BadJoint" ["joint"] (permL [0] ds) else .stuck) (mCons (mVar 4) (mNil))) (mCons (mApp (fun ds => if ds.length = 1 then mErr "BadTrack" ["track"] (permL [0] ds) else .stuck) (mCons (mVar 4) (mNil))) (mCons (mApp (fun ds => if ds.length = 1 then mErr "OddJoint" ["joint"] (permL [0] ds) else .stuck) (mCons (mVar 0) (mNil))) (mNil)))))))) (sSeq (sAsg 7 (mBin dAdd (mVar 7) (mLst (mCons (mApp (fun ds => if ds.length = 2 then mErr "BadDeed" ["place", "deed"] (permL [1, 0] ds) else .stuck) (mCons (mVar 4) (mCons (mVar 0) (mNil)))) (mCons (mApp (fun ds => if ds.length = 2 then mErr "Refused" ["place", "deed"] (permL [1, 0] ds) else .stuck) (mCons (mVar 5) (mCons (mVar 0) (mNil)))) (mCons (mApp (fun ds => if ds.length = 1 then mErr "BadWire" ["wire"] (permL [0] ds) else .stuck) (mCons (mVar 4) (mNil))) (mNil))))))) (sSeq (sAsg 7 (mBin dAdd (mVar 7) (mLst (mCons (mApp (fun ds => if ds.length = 2 then mErr "SharedLand" ["first", "last"] (permL [1, 0] ds) else .stuck) (mCons (mVar 1) (mCons (mVar 0) (mNil)))) (mCons (mApp (fun ds => if ds.length = 1 then mErr "OddLand" ["land"] (permL [0] ds) else .stuck) (mCons (mVar 0) (mNil))) (mCons (mApp (fun ds => if ds.length = 1 then mErr "BadLanes" ["number"] (permL [0] ds) else .stuck) (mCons (mVar 4) (mNil))) (mNil))))))) (sSeq (sAsg 7 (mBin dAdd (mVar 7) (mLst (mCons (mApp (fun ds => if ds.length = 2 then mErr "BadLetter" ["place", "letter"] (permL [1, 0] ds) else .stuck) (mCons (mVar 4) (mCons (mVar 0) (mNil)))) (mCons (mApp (fun ds => if ds.length = 2 then mErr "UnlikeLanes" ["one", "other"] (permL [1, 0] ds) else .stuck) (mCons (mVar 1) (mCons (mVar 0) (mNil)))) (mCons (mApp (fun ds => if ds.length = 1 then mErr "BadPairing" ["lot"] (permL [0] ds) else .stuck) (mCons (mVar 6) (mNil))) (mCons (mApp (fun ds => if ds.length = 1 then mErr "BadCap" ["pin"] (permL [0] ds) else .stuck) (mCons (mVar 0) (mNil))) (mNil)))))))) (sRet (mBin dAdd (mVar 7) (mLst (mCons (mApp (fun ds => if ds.length = 1 then mErr "BadPair" ["pair"] (permL [0] ds) else .stuck) (mCons (mVar 4) (mNil))) (mCons (mErr0 "NoWishes") (mCons (mErr0 "NothingToUndo") (mCons (mApp (fun ds => if ds.length = 1 then mErr "NoteError" ["line"] (permL [0] ds) else .stuck) (mCons (mVar 0) (mNil))) (mNil))))))))))))))))
def m__law_named : List D → O D := mDef 8 7 .sh g__law_named
def g__law_fields : T.Env → SO := sSeq (sAsg 1 (mLst (mCons (mLst (mCons (mUn (xGet ers erf "pins") (mBin dIx (mVar 0) (mC (.int 0)))) (mNil))) (mCons (mLst (mCons (mUn (xGet ers erf "pin") (mBin dIx (mVar 0) (mC (.int 1)))) (mNil))) (mCons (mLst (mCons (mUn (xGet ers erf "pin") (mBin dIx (mVar 0) (mC (.int 2)))) (mNil))) (mCons (mLst (mCons (mUn (xGet ers erf "gap") (mBin dIx (mVar 0) (mC (.int 3)))) (mNil))) (mCons (mLst (mCons (mUn (xGet ers erf "pins") (mBin dIx (mVar 0) (mC (.int 4)))) (mNil))) (mCons (mLst (mCons (mUn (xGet ers erf "pin") (mBin dIx (mVar 0) (mC (.int 5)))) (mNil))) (mNil))))))))) (sSeq (sAsg 1 (mBin dAdd (mVar 1) (mLst (mCons (mLst (mCons (mUn (xGet ers erf "one") (mBin dIx (mVar 0) (mC (.int 6)))) (mCons (mUn (xGet ers erf "other") (mBin dIx (mVar 0) (mC (.int 6)))) (mNil)))) (mCons (mLst (mCons (mUn (xGet ers erf "entry") (mBin dIx (mVar 0) (mC (.int 7)))) (mNil))) (mCons (mLst (mCons (mUn (xGet ers erf "a") (mBin dIx (mVar 0) (mC (.int 8)))) (mCons (mUn (xGet ers erf "b") (mBin dIx (mVar 0) (mC (.int 8)))) (mNil)))) (mCons (mLst (mCons (mUn (xGet ers erf "number") (mBin dIx (mVar 0) (mC (.int 9)))) (mNil))) (mNil)))))))) (sSeq (sAsg 1 (mBin dAdd (mVar 1) (mLst (mCons (mLst (mCons (mUn (xGet ers erf "row") (mBin dIx (mVar 0) (mC (.int 10)))) (mCons (mUn (xGet ers erf "column") (mBin dIx (mVar 0) (mC (.int 10)))) (mNil)))) (mCons (mLst (mCons (mUn (xGet ers erf "a") (mBin dIx (mVar 0) (mC (.int 11)))) (mCons (mUn (xGet ers erf "b") (mBin dIx (mVar 0) (mC (.int 11)))) (mCons (mUn (xGet ers erf "twice") (mBin dIx (mVar 0) (mC (.int 11)))) (mNil))))) (mCons (mLst (mCons (mUn (xGet ers erf "move") (mBin dIx (mVar 0) (mC (.int 12)))) (mNil))) (mNil))))))) (sSeq (sAsg 1 (mBin dAdd (mVar 1) (mLst (mCons (mLst (mCons (mUn (xGet ers erf "pins") (mBin dIx (mVar 0) (mC (.int 13)))) (mNil))) (mCons (mLst (mCons (mUn (xGet ers erf "first") (mBin dIx (mVar 0) (mC (.int 14)))) (mCons (mUn (xGet ers erf "last") (mBin dIx (mVar 0) (mC (.int 14)))) (mCons (mUn (xGet ers erf "held") (mBin dIx (mVar 0) (mC (.int 14)))) (mCons (mUn (xGet ers erf "wished") (mBin dIx (mVar 0) (mC (.int 14)))) (mNil)))))) (mNil)))))) (sSeq (sAsg 1 (mBin dAdd (mVar 1) (mLst (mCons (mLst (mCons (mUn (xGet ers erf "number") (mBin dIx (mVar 0) (mC (.int 15)))) (mNil))) (mCons (mLst (mCons (mUn (xGet ers erf "track") (mBin dIx (mVar 0) (mC (.int 16)))) (mNil))) (mCons (mLst (mCons (mUn (xGet ers erf "joint") (mBin dIx (mVar 0) (mC (.int 17)))) (mNil))) (mCons (mLst (mCons (mUn (xGet ers erf "end") (mBin dIx (mVar 0) (mC (.int 18)))) (mNil))) (mCons (mLst (mCons (mUn (xGet ers erf "end") (mBin dIx (mVar 0) (mC (.int 19)))) (mNil))) (mNil))))))))) (sSeq (sAsg 1 (mBin dAdd (mVar 1) (mLst (mCons (mLst (mCons (mUn (xGet ers erf "joint") (mBin dIx (mVar 0) (mC (.int 20)))) (mNil))) (mCons (mLst (mCons (mUn (xGet ers erf "found") (mBin dIx (mVar 0) (mC (.int 21)))) (mCons (mUn (xGet ers erf "due") (mBin dIx (mVar 0) (mC (.int 21)))) (mNil)))) (mCons (mLst (mCons (mUn (xGet ers erf "item") (mBin dIx (mVar 0) (mC (.int 22)))) (mNil))) (mCons (mLst (mCons (mUn (xGet ers erf "joint") (mBin dIx (mVar 0) (mC (.int 23)))) (mNil))) (mNil)))))))) (sSeq (sAsg 1 (mBin dAdd (mVar 1) (mLst (mCons (mLst (mCons (mUn (xGet ers erf "track") (mBin dIx (mVar 0) (mC (.int 24)))) (mNil))) (mCons (mLst (mCons (mUn (xGet ers erf "joint") (mBin dIx (mVar 0) (mC (.int 25)))) (mNil))) (mCons (mLst (mCons (mUn (xGet ers erf "place") (mBin dIx (mVar 0) (mC (.int 26)))) (mCons (mUn (xGet ers erf "deed") (mBin dIx (mVar 0) (mC (.int 26)))) (mNil)))) (mNil))))))) (sSeq (sAsg 1 (mBin dAdd (mVar 1) (mLst (mCons (mLst (mCons (mUn (xGet ers erf "place") (mBin dIx (mVar 0) (mC (.int 27)))) (mCons (mUn (xGet ers erf "deed") (mBin dIx (mVar 0) (mC (.int 27)))) (mNil)))) (mCons (mLst (mCons (mUn (xGet ers erf "wire") (mBin dIx (mVar 0) (mC (.int 28)))) (mNil))) (mCons (mLst (mCons (mUn (xGet ers erf "first") (mBin dIx (mVar 0) (mC (.int 29)))) (mCons (mUn (xGet ers erf "last") (mBin dIx (mVar 0) (mC (.int 29)))) (mNil)))) (mCons (mLst (mCons (mUn (xGet ers erf "land") (mBin dIx (mVar 0) (mC (.int 30)))) (mNil))) (mNil)))))))) (sSeq (sAsg 1 (mBin dAdd (mVar 1) (mLst (mCons (mLst (mCons (mUn (xGet ers erf "number") (mBin dIx (mVar 0) (mC (.int 31)))) (mNil))) (mCons (mLst (mCons (mUn (xGet ers erf "place") (mBin dIx (mVar 0) (mC (.int 32)))) (mCons (mUn (xGet ers erf "letter") (mBin dIx (mVar 0) (mC (.int 32)))) (mNil)))) (mCons (mLst (mCons (mUn (xGet ers erf "one") (mBin dIx (mVar 0) (mC (.int 33)))) (mCons (mUn (xGet ers erf "other") (mBin dIx (mVar 0) (mC (.int 33)))) (mNil)))) (mNil))))))) (sRet (mBin dAdd (mVar 1) (mLst (mCons (mLst (mCons (mUn (xGet ers erf "pin") (mBin dIx (mVar 0) (mC (.int 35)))) (mNil))) (mCons (mLst (mCons (mUn (xGet ers erf "pair") (mBin dIx (mVar 0) (mC (.int 36)))) (mNil))) (mCons (mLst (mCons (mUn (xGet ers erf "line") (mBin dIx (mVar 0) (mC (.int 39)))) (mNil))) (mNil)))))))))))))))
def m__law_fields : List D → O D := mDef 2 1 .sh g__law_fields
def g__law_passed : T.Env → SO := sSeq (sAsg 6 (mLst (mCons (mLst (mCons (mVar 4) (mNil))) (mCons (mLst (mCons (mVar 4) (mNil))) (mCons (mLst (mCons (mVar 0) (mNil))) (mCons (mLst (mCons (mVar 4) (mNil))) (mCons (mLst (mCons (mVar 0) (mNil))) (mCons (mLst (mCons (mVar 0) (mNil))) (mCons (mLst (mCons (mVar 0) (mCons (mVar 1) (mNil)))) (mCons (mLst (mCons (mVar 4) (mNil))) (mCons (mLst (mCons (mVar 0) (mCons (mVar 1) (mNil)))) (mCons (mLst (mCons (mVar 4) (mNil))) (mCons (mLst (mCons (mVar 0) (mCons (mVar 1) (mNil)))) (mCons (mLst (mCons (mVar 0) (mCons (mVar 1) (mCons (mVar 2) (mNil))))) (mCons (mLst (mCons (mVar 4) (mNil))) (mNil)))))))))))))))) (sSeq (sAsg 6 (mBin dAdd (mVar 6) (mLst (mCons (mLst (mCons (mVar 5) (mNil))) (mCons (mLst (mCons (mVar 0) (mCons (mVar 1) (mCons (mVar 2) (mCons (mVar 3) (mNil)))))) (mCons (mLst (mCons (mVar 0) (mNil))) (mCons (mLst (mCons (mVar 0) (mNil))) (mCons (mLst (mCons (mVar 0) (mNil))) (mCons (mLst (mCons (mVar 0) (mNil))) (mCons (mLst (mCons (mVar 0) (mNil))) (mCons (mLst (mCons (mVar 0) (mNil))) (mCons (mLst (mCons (mVar 0) (mCons (mVar 1) (mNil)))) (mCons (mLst (mCons (mVar 4) (mNil))) (mCons (mLst (mCons (mVar 4) (mNil))) (mCons (mLst (mCons (mVar 4) (mNil))) (mCons (mLst (mCons (mVar 0) (mNil))) (mNil))))))))))))))))) (sSeq (sAsg 6 (mBin dAdd (mVar 6) (mLst (mCons (mLst (mCons (mVar 0) (mCons (mVar 4) (mNil)))) (mCons (mLst (mCons (mVar 0) (mCons (mVar 5) (mNil)))) (mCons (mLst (mCons (mVar 4) (mNil))) (mCons (mLst (mCons (mVar 0) (mCons (mVar 1) (mNil)))) (mCons (mLst (mCons (mVar 0) (mNil))) (mCons (mLst (mCons (mVar 4) (mNil))) (mCons (mLst (mCons (mVar 0) (mCons (mVar 4) (mNil)))) (mCons (mLst (mCons (mVar 0) (mCons (mVar 1) (mNil)))) (mCons (mLst (mCons (mVar 0) (mNil))) (mCons (mLst (mCons (mVar 4) (mNil))) (mCons (mLst (mCons (mVar 0) (mNil))) (mNil))))))))))))))) (sRet (mVar 6))))
def m__law_passed : List D → O D := mDef 7 6 .sh g__law_passed
def g__law_kinds : T.Env → SO := sSeq (sAsg 1 (mLst (mCons (mUn (xIs erb ers eru (.o "BadPins")) (mVar 0)) (mCons (mUn (xIs erb ers eru (.o "BadPin")) (mVar 0)) (mCons (mUn (xIs erb ers eru (.o "SamePin")) (mVar 0)) (mCons (mUn (xIs erb ers eru (.o "BadGap")) (mVar 0)) (mNil))))))) (sSeq (sAsg 1 (mBin dAdd (mVar 1) (mLst (mCons (mUn (xIs erb ers eru (.o "NoPair")) (mVar 0)) (mCons (mUn (xIs erb ers eru (.o "OddPin")) (mVar 0)) (mCons (mUn (xIs erb ers eru (.o "UnlikePins")) (mVar 0)) (mCons (mUn (xIs erb ers eru (.o "BadCord")) (mVar 0)) (mNil)))))))) (sSeq (sAsg 1 (mBin dAdd (mVar 1) (mLst (mCons (mUn (xIs erb ers eru (.o "NotPart")) (mVar 0)) (mCons (mUn (xIs erb ers eru (.o "BadNumber")) (mVar 0)) (mCons (mUn (xIs erb ers eru (.o "BadTable")) (mVar 0)) (mCons (mUn (xIs erb ers eru (.o "NoLot")) (mVar 0)) (mNil)))))))) (sSeq (sAsg 1 (mBin dAdd (mVar 1) (mLst (mCons (mUn (xIs erb ers eru (.o "NoMove")) (mVar 0)) (mCons (mUn (xIs erb ers eru (.o "OddEnds")) (mVar 0)) (mCons (mUn (xIs erb ers eru (.o "Barred")) (mVar 0)) (mCons (mUn (xIs erb ers eru (.o "TooMany")) (mVar 0)) (mNil)))))))) (sSeq (sAsg 1 (mBin dAdd (mVar 1) (mLst (mCons (mUn (xIs erb ers eru (.o "BadWidth")) (mVar 0)) (mCons (mUn (xIs erb ers eru (.o "BadTurn")) (mVar 0)) (mCons (mUn (xIs erb ers eru (.o "DoubleEnd")) (mVar 0)) (mNil))))))) (sSeq (sAsg 1 (mBin dAdd (mVar 1) (mLst (mCons (mUn (xIs erb ers eru (.o "MissingEnd")) (mVar 0)) (mCons (mUn (xIs erb ers eru (.o "LooseJoint")) (mVar 0)) (mCons (mUn (xIs erb ers eru (.o "NotPlane")) (mVar 0)) (mNil))))))) (sSeq (sAsg 1 (mBin dAdd (mVar 1) (mLst (mCons (mUn (xIs erb ers eru (.o "BadItem")) (mVar 0)) (mCons (mUn (xIs erb ers eru (.o "BadJoint")) (mVar 0)) (mCons (mUn (xIs erb ers eru (.o "BadTrack")) (mVar 0)) (mCons (mUn (xIs erb ers eru (.o "OddJoint")) (mVar 0)) (mNil)))))))) (sSeq (sAsg 1 (mBin dAdd (mVar 1) (mLst (mCons (mUn (xIs erb ers eru (.o "BadDeed")) (mVar 0)) (mCons (mUn (xIs erb ers eru (.o "Refused")) (mVar 0)) (mCons (mUn (xIs erb ers eru (.o "BadWire")) (mVar 0)) (mCons (mUn (xIs erb ers eru (.o "SharedLand")) (mVar 0)) (mNil)))))))) (sSeq (sAsg 1 (mBin dAdd (mVar 1) (mLst (mCons (mUn (xIs erb ers eru (.o "OddLand")) (mVar 0)) (mCons (mUn (xIs erb ers eru (.o "BadLanes")) (mVar 0)) (mCons (mUn (xIs erb ers eru (.o "BadLetter")) (mVar 0)) (mNil))))))) (sSeq (sAsg 1 (mBin dAdd (mVar 1) (mLst (mCons (mUn (xIs erb ers eru (.o "UnlikeLanes")) (mVar 0)) (mCons (mUn (xIs erb ers eru (.o "BadPairing")) (mVar 0)) (mCons (mUn (xIs erb ers eru (.o "BadCap")) (mVar 0)) (mNil))))))) (sSeq (sAsg 1 (mBin dAdd (mVar 1) (mLst (mCons (mUn (xIs erb ers eru (.o "BadPair")) (mVar 0)) (mCons (mUn (xIs erb ers eru (.o "NoWishes")) (mVar 0)) (mCons (mUn (xIs erb ers eru (.o "NothingToUndo")) (mVar 0)) (mNil))))))) (sRet (mBin dAdd (mVar 1) (mLst (mCons (mUn (xIs erb ers eru (.o "NoteError")) (mVar 0)) (mNil)))))))))))))))
def m__law_kinds : List D → O D := mDef 2 1 .sh g__law_kinds
def g__law_right : T.Env → SO := sSeq (sFor (mRange1 (mCons (mC (.int 40)) (mNil))) (.nm 2) (sSeq (sIf (mOr (mNot (mTest (mUn (xIs erb ers eru (.o "RimError")) (mBin dIx (mVar 0) (mVar 2))))) (mNot (mTest (mUn (xIs erb ers eru (.b "ValueError")) (mBin dIx (mVar 0) (mVar 2)))))) (sRet (mC (.bl false))) (sNext)) (sSeq (sIf (mTest (mBin dNe (mApp m__law_kinds (mCons (mBin dIx (mVar 0) (mVar 2)) (mNil))) (mComp (mRange1 (mCons (mC (.int 40)) (mNil))) [3] (.nm 3) (mYes) (mBin dEq (mVar 3) (mVar 2))))) (sRet (mC (.bl false))) (sNext)) (sNext)))) (sSeq (sAsg 4 (mUn (xGet ers erf "lot") (mBin dIx (mVar 0) (mC (.int 34))))) (sRet (mAndV (mUn (dIsi cl [.o "Lot"]) (mVar 4)) (mApp (mr__law_same 12) (mCons (mLst (mCons (mUn (dFld fc_pins "pins") (mVar 4)) (mCons (mUn (dFld fc_cords "cords") (mVar 4)) (mNil)))) (mCons (mVar 1) (mNil)))))))
def m__law_right : List D → O D := mDef 5 2 .sh g__law_right
def g_law : T.Env → SO := sSeq (sAsg 1 (mApp m__law_number (mCons (mApp m__law_cell (mCons (mVar 0) (mCons (mC (.int 0)) (mNil)))) (mNil)))) (sSeq (sAsg 2 (mApp m__law_number (mCons (mApp m__law_cell (mCons (mVar 0) (mCons (mC (.int 1)) (mNil)))) (mNil)))) (sSeq (sAsg 3 (mApp m__law_number (mCons (mApp m__law_cell (mCons (mVar 0) (mCons (mC (.int 2)) (mNil)))) (mNil)))) (sSeq (sAsg 4 (mApp m__law_number (mCons (mApp m__law_cell (mCons (mVar 0) (mCons (mC (.int 3)) (mNil)))) (mNil)))) (sSeq (sAsg 5 (mLst (mCons (mApp m__law_thing (mCons (mApp m__law_cell (mCons (mVar 0) (mCons (mC (.int 4)) (mNil)))) (mCons (mVar 1) (mCons (mVar 2) (mNil))))) (mCons (mApp m__law_thing (mCons (mApp m__law_cell (mCons (mVar 0) (mCons (mC (.int 5)) (mNil)))) (mCons (mVar 3) (mCons (mVar 4) (mNil))))) (mNil))))) (sSeq (sAsg 6 (mLst (mCons (mApp m__law_bag (mCons (mApp m__law_cell (mCons (mVar 0) (mCons (mC (.int 6)) (mNil)))) (mNil))) (mCons (mApp m__law_bag (mCons (mApp m__law_cell (mCons (mVar 0) (mCons (mC (.int 7)) (mNil)))) (mNil))) (mNil))))) (sSeq (sAsg 7 (mLst (mCons (mApp m__law_lot (mCons (mApp m__law_cell (mCons (mVar 0) (mCons (mC (.int 8)) (mNil)))) (mNil))) (mCons (mApp m__law_lot (mCons (mApp m__law_cell (mCons (mVar 0) (mCons (mC (.int 9)) (mNil)))) (mNil))) (mNil))))) (sSeq (sAsg 8 (mApp m__law_placed (mCons (mVar 1) (mCons (mVar 2) (mCons (mVar 3) (mCons (mVar 4) (mCons (mBin dIx (mVar 5) (mC (.int 0))) (mCons (mBin dIx (mVar 6) (mC (.int 0))) (mCons (mApp m_Lot___init__ (mCons (mBin dIx (mBin dIx (mVar 7) (mC (.int 0))) (mC (.int 0))) (mCons (mBin dIx (mBin dIx (mVar 7) (mC (.int 0))) (mC (.int 1))) (mNil)))) (mNil)))))))))) (sSeq (sAsg 9 (mApp m__law_named (mCons (mVar 4) (mCons (mVar 3) (mCons (mVar 2) (mCons (mVar 1) (mCons (mBin dIx (mVar 5) (mC (.int 1))) (mCons (mBin dIx (mVar 6) (mC (.int 1))) (mCons (mApp m_Lot___init__ (mCons (mBin dIx (mBin dIx (mVar 7) (mC (.int 1))) (mC (.int 0))) (mCons (mCall dList (mCons (mBin dIx (mBin dIx (mVar 7) (mC (.int 1))) (mC (.int 1))) (mNil))) (mNil)))) (mNil)))))))))) (sSeq (sIf (mOr (mNot (mTest (mApp m__law_right (mCons (mVar 8) (mCons (mBin dIx (mVar 7) (mC (.int 0))) (mNil)))))) (mNot (mTest (mApp m__law_right (mCons (mVar 9) (mCons (mBin dIx (mVar 7) (mC (.int 1))) (mNil))))))) (sRet (mC (.bl false))) (sNext)) (sSeq (sIf (mNot (mTest (mApp (mr__law_same 12) (mCons (mApp m__law_fields (mCons (mVar 9) (mNil))) (mCons (mApp m__law_passed (mCons (mVar 4) (mCons (mVar 3) (mCons (mVar 2) (mCons (mVar 1) (mCons (mBin dIx (mVar 5) (mC (.int 1))) (mCons (mBin dIx (mVar 6) (mC (.int 1))) (mNil)))))))) (mNil)))))) (sRet (mC (.bl false))) (sNext)) (sRet (mApp (mr__law_same 12) (mCons (mApp m__law_fields (mCons (mVar 8) (mNil))) (mCons (mApp m__law_passed (mCons (mVar 1) (mCons (mVar 2) (mCons (mVar 3) (mCons (mVar 4) (mCons (mBin dIx (mVar 5) (mC (.int 0))) (mCons (mBin dIx (mVar 6) (mC (.int 0))) (mNil)))))))) (mNil)))))))))))))))
def m_law : List D → O D := mDef 10 1 .sh g_law
end K90

set_option Elab.async false
set_option linter.all false
set_option maxRecDepth 100000
set_option maxHeartbeats 1000000
/-! CM: plain facts that every law wants: ranges, cells of the script, digits. -/
namespace CM
open PySem L2 T
theorem big {n : Nat} (h : n ≤ 100000) : n ≤ sizeLine := Nat.le_trans h (by decide)
theorem rangeD_nat (a b : Nat) : rangeD (a : Int) (b : Int) = (List.range' a (b - a)).map fun (i : Nat) => D.int i := by
  unfold rangeD
  rw [List.range'_eq_map_range, List.map_map, show ((b : Int) - (a : Int)).toNat = b - a by omega]
  apply List.map_congr_left
  intro i _
  show D.int ((a : Int) + i) = D.int ((a + i : Nat) : Int)
  rw [Int.natCast_add]
theorem range0 (n : Nat) : rangeD 0 (n : Int) = (List.range' 0 n).map fun (i : Nat) => D.int i := rangeD_nat 0 n
theorem range1 (n : Nat) : rangeD 1 ((n + 1 : Nat) : Int) = (List.range' 1 n).map fun (i : Nat) => D.int i := by
  have := rangeD_nat 1 (n + 1)
  rw [Nat.add_sub_cancel] at this
  exact this
theorem okR_nat {a b : Nat} (h1 : a ≤ 100002) (h2 : b ≤ 100002) : okR (a : Int) (b : Int) = true := by
  unfold okR
  simp only [Bool.and_eq_true, decide_eq_true_eq]
  omega
theorem seq_nx {s s' : T.Env → SO} {ρ ρ' : T.Env} (h : s ρ = .nx ρ') : sSeq s s' ρ = s' ρ' := by rw [e_sSeq, h]
theorem seq_rt {s s' : T.Env → SO} {ρ : T.Env} {d : D} (h : s ρ = .rt d) : sSeq s s' ρ = .rt d := by rw [e_sSeq, h]
theorem forD_nx {tg : Tg} {s : T.Env → SO} {d : D} {ds : List D} {ρ ρ1 ρ2 : T.Env} (h1 : tg.put d ρ = some ρ1) (h2 : s ρ1 = .nx ρ2) : forD tg s (d :: ds) ρ = forD tg s ds ρ2 := by
  rw [forD_cons, h1]
  dsimp only
  rw [h2]
theorem forD_rt {tg : Tg} {s : T.Env → SO} {d z : D} {ds : List D} {ρ ρ1 : T.Env} (h1 : tg.put d ρ = some ρ1) (h2 : s ρ1 = .rt z) : forD tg s (d :: ds) ρ = .rt z := by
  rw [forD_cons, h1]
  dsimp only
  rw [h2]
theorem compD_mem {tg : Tg} {e : T.Env → O D} {ρ : T.Env} {α : Type} {fd fz : α → D} : ∀ (xs : List α) (acc : List D), (∀ x ∈ xs, ∃ ρ1, tg.put (fd x) ρ = some ρ1 ∧ e ρ1 = .ok (fz x)) → acc.length + xs.length ≤ sizeLine → compD tg mYes e ρ (xs.map fd) acc = .ok (acc ++ xs.map fz)
  | [], acc, _, _ => by rw [List.map_nil, compD_nil, List.map_nil, List.append_nil]
  | x :: xs, acc, h, hl => by
    obtain ⟨ρ1, h1, h2⟩ := h x List.mem_cons_self
    rw [List.map_cons, compD_cons, h1]
    dsimp only
    rw [e_mYes, h2]
    dsimp only
    rw [List.length_cons] at hl
    rw [if_pos (by omega), compD_mem xs _ (fun z hz => h z (List.mem_cons_of_mem _ hz)) (by rw [List.length_append, List.length_singleton]; omega), List.map_cons, List.append_assoc]
    rfl
def gCell : T.Env → SO := sSeq (sIf (mTest (mBin dLt (mVar 1) (mCall dLen (mCons (mVar 0) (mNil))))) (sRet (mBin dIx (mVar 0) (mVar 1))) (sNext)) (sSeq (sAsg 2 (mC (.int 17))) (sSeq (sFor (mSeq (mVar 0)) (.nm 3) (sSeq (sAsg 2 (mBin dMod (mCall dIntA (mCons (mBin dAdd (mBin dMul (mVar 2) (mC (.int 31))) (mBin dMod (mCall dIntA (mCons (mVar 3) (mNil))) (mC (.int 1000003)))) (mNil))) (mC (.int 1000003)))) (sNext))) (sRet (mBin dMod (mCall dIntA (mCons (mBin dMul (mBin dMul (mBin dAdd (mVar 2) (mC (.int 7))) (mBin dAdd (mVar 1) (mC (.int 3)))) (mC (.int 69621))) (mNil))) (mC (.int 2147483647))))))
def mCell : List D → O D := mDef 4 2 .sh gCell
def gDigits : T.Env → SO := sSeq (sAsg 2 (mC (.lst []))) (sSeq (sAsg 3 (mCall dIntA (mCons (mVar 0) (mNil)))) (sSeq (sIf (mTest (mBin dGe (mVar 3) (mBin dPow (mC (.int 10)) (mC (.int 18))))) (sSeq (sAsg 3 (mBin dSub (mVar 3) (mBin dPow (mC (.int 10)) (mC (.int 18))))) (sSeq (sFor (mSeq (mVar 1)) (.nm 4) (sSeq (sApp 2 (mBin dMod (mCall dIntA (mCons (mVar 3) (mNil))) (mVar 4))) (sSeq (sAsg 3 (mBin dFdiv (mCall dIntA (mCons (mVar 3) (mNil))) (mVar 4))) (sNext)))) (sRet (mVar 2)))) (sNext)) (sSeq (sAsg 5 (mBin dMod (mCall dIntA (mCons (mVar 3) (mNil))) (mC (.int 2147483629)))) (sSeq (sFor (mRange1 (mCons (mCall dLen (mCons (mVar 1) (mNil))) (mNil))) (.nm 6) (sSeq (sAsg 5 (mBin dMod (mCall dIntA (mCons (mBin dAdd (mBin dAdd (mBin dMul (mVar 5) (mC (.int 48271))) (mBin dMul (mC (.int 974711)) (mVar 6))) (mC (.int 12345))) (mNil))) (mC (.int 2147483647)))) (sSeq (sAsg 7 (mBin dMod (mCall dIntA (mCons (mBin dMul (mVar 5) (mBin dAdd (mBin dFdiv (mVar 5) (mC (.int 65537))) (mC (.int 3)))) (mNil))) (mC (.int 2147483629)))) (sSeq (sApp 2 (mBin dMod (mBin dFdiv (mVar 7) (mC (.int 19))) (mBin dIx (mVar 1) (mVar 6)))) (sNext))))) (sRet (mVar 2))))))
def mDigits : List D → O D := mDef 8 2 .sh gDigits
/-! ### cells of the script -/
theorem cmS {i j : Int} (h : i.natAbs < 2 ^ 64) : cMul i j = true := by
  unfold cMul
  rw [decide_eq_true h, Bool.true_or]
theorem cmT {i j : Int} (h : j.natAbs < 2 ^ 64) : cMul i j = true := by
  unfold cMul
  rw [decide_eq_true h, Bool.or_true]
theorem mulL {i j : Int} (h : i.natAbs < 2 ^ 64) : dMul (.int i) (.int j) = .ok (.int (i * j)) := by rw [e_mulI, if_pos (cmS h)]
theorem mulR {i j : Int} (h : j.natAbs < 2 ^ 64) : dMul (.int i) (.int j) = .ok (.int (i * j)) := by rw [e_mulI, if_pos (cmT h)]
theorem modP {i j : Int} (h : 0 < j) : dMod (.int i) (.int j) = .ok (.int (i % j)) := by rw [e_mod, if_pos (decide_eq_true h)]
theorem divP {i j : Int} (h : 0 < j) (h2 : j < 1073741824) : dFdiv (.int i) (.int j) = .ok (.int (i / j)) := by
  rw [e_fdiv, if_pos]
  rw [Bool.and_eq_true]
  exact ⟨decide_eq_true h, decide_eq_true (by omega)⟩
def ceB : T.Env → SO := sSeq (sAsg 2 (mBin dMod (mCall dIntA (mCons (mBin dAdd (mBin dMul (mVar 2) (mC (.int 31))) (mBin dMod (mCall dIntA (mCons (mVar 3) (mNil))) (mC (.int 1000003)))) (mNil))) (mC (.int 1000003)))) (sNext)
theorem ceB_run (a b : Option D) (s n : Int) : ceB [a, b, some (.int s), some (.int n)] = .nx [a, b, some (.int ((s * 31 + n % 1000003) % 1000003)), some (.int n)] := by
  have m1 : dMul (.int s) (.int 31) = .ok (.int (s * 31)) := mulR (by decide)
  have m2 : ∀ i : Int, dMod (.int i) (.int 1000003) = .ok (.int (i % 1000003)) := fun i => modP (by decide)
  unfold ceB
  simp only [e_sSeq, e_sAsg, e_mBin, e_mCall, e_mCons, e_mNil, e_mVar, e_mC, bind_ok, List.getElem?_cons_succ, List.getElem?_cons_zero, m1, m2, e_intI, e_noX, e_addI, List.set_cons_succ, List.set_cons_zero, e_sNext]
theorem ce_loop (a b : Option D) : ∀ (ns : List Int) (s : Int) (o : Option D), ∃ s' o', forD (.nm 3) ceB (ns.map .int) [a, b, some (.int s), o] = .nx [a, b, some (.int s'), o']
  | [], s, o => ⟨s, o, rfl⟩
  | n :: ns, s, o => by
    obtain ⟨s', o', h⟩ := ce_loop a b ns ((s * 31 + n % 1000003) % 1000003) (some (.int n))
    refine ⟨s', o', ?_⟩
    rw [List.map_cons, forD_cons]
    simp only [e_put1, List.set_cons_succ, List.set_cons_zero]
    rw [ceB_run]
    exact h
theorem cell_eq (ns : List Int) (k : Nat) (hk : k ≤ 100) : ∃ c : Int, mCell [.scr ns, .int k] = .ok (.int c) := by
  have eg : gCell = sSeq (sIf (mTest (mBin dLt (mVar 1) (mCall dLen (mCons (mVar 0) (mNil))))) (sRet (mBin dIx (mVar 0) (mVar 1))) (sNext)) (sSeq (sAsg 2 (mC (.int 17))) (sSeq (sFor (mSeq (mVar 0)) (.nm 3) ceB) (sRet (mBin dMod (mCall dIntA (mCons (mBin dMul (mBin dMul (mBin dAdd (mVar 2) (mC (.int 7))) (mBin dAdd (mVar 1) (mC (.int 3)))) (mC (.int 69621))) (mNil))) (mC (.int 2147483647)))))) := rfl
  unfold mCell
  rw [eg]
  by_cases h : k < ns.length
  · refine ⟨ns[k], ?_⟩
    have hx : atI ns (k : Int) = some ns[k] := by rw [T.atI_nat]; exact List.getElem?_eq_getElem h
    have hd : decide ((k : Int) < (ns.length : Int)) = true := decide_eq_true (by omega)
    simp only [e_def, e_start, List.length_cons, List.length_nil, if_true, List.map_cons, List.map_nil, List.cons_append, List.nil_append, List.replicate, e_sSeq, e_sIf, e_mTest, e_mBin, e_mVar, List.getElem?_cons_succ, List.getElem?_cons_zero, bind_ok, e_mCall, e_mCons, e_mNil, e_lenR, e_noX, e_lt, hd, e_asB, e_sRet, e_ixR, hx, e_end1]
  · have hd : decide ((k : Int) < (ns.length : Int)) = false := decide_eq_false (by omega)
    obtain ⟨s', o', hl⟩ := ce_loop (some (.scr ns)) (some (.int k)) ns 17 none
    refine ⟨((s' + 7) * ((k : Int) + 3) * 69621) % 2147483647, ?_⟩
    have m1 : dMul (.int (s' + 7)) (.int ((k : Int) + 3)) = .ok (.int ((s' + 7) * ((k : Int) + 3))) := mulR (by omega)
    have m2 : ∀ i : Int, dMul (.int i) (.int 69621) = .ok (.int (i * 69621)) := fun i => mulR (by decide)
    have m3 : ∀ i : Int, dMod (.int i) (.int 2147483647) = .ok (.int (i % 2147483647)) := fun i => modP (by decide)
    simp only [e_def, e_start, List.length_cons, List.length_nil, if_true, List.map_cons, List.map_nil, List.cons_append, List.nil_append, List.replicate, e_sSeq, e_sIf, e_mTest, e_mBin, e_mVar, List.getElem?_cons_succ, List.getElem?_cons_zero, bind_ok, e_mCall, e_mCons, e_mNil, e_lenR, e_noX, e_lt, hd, e_asB, e_sNext, e_sAsg, e_mC, List.set_cons_succ, List.set_cons_zero, e_sFor, e_mSeq, e_dSeqR, hl, e_sRet, e_addI, m1, m2, m3, e_intI, e_end1]
/-! ### digits -/
def Dg : List Int → List Int → Prop
  | [], [] => True
  | s :: ss, d :: ds => (0 ≤ d ∧ d < s) ∧ Dg ss ds
  | _, _ => False
theorem Dg.len : ∀ {ss ds : List Int}, Dg ss ds → ds.length = ss.length
  | [], [], _ => rfl
  | _ :: _, _ :: _, h => by rw [List.length_cons, List.length_cons, Dg.len h.2]
  | [], _ :: _, h => h.elim
  | _ :: _, [], h => h.elim
def daB : T.Env → SO := sSeq (sApp 2 (mBin dMod (mCall dIntA (mCons (mVar 3) (mNil))) (mVar 4))) (sSeq (sAsg 3 (mBin dFdiv (mCall dIntA (mCons (mVar 3) (mNil))) (mVar 4))) (sNext))
def dbB : T.Env → SO := sSeq (sAsg 5 (mBin dMod (mCall dIntA (mCons (mBin dAdd (mBin dAdd (mBin dMul (mVar 5) (mC (.int 48271))) (mBin dMul (mC (.int 974711)) (mVar 6))) (mC (.int 12345))) (mNil))) (mC (.int 2147483647)))) (sSeq (sAsg 7 (mBin dMod (mCall dIntA (mCons (mBin dMul (mVar 5) (mBin dAdd (mBin dFdiv (mVar 5) (mC (.int 65537))) (mC (.int 3)))) (mNil))) (mC (.int 2147483629)))) (sSeq (sApp 2 (mBin dMod (mBin dFdiv (mVar 7) (mC (.int 19))) (mBin dIx (mVar 1) (mVar 6)))) (sNext)))
def Szs (ss : List Int) : Prop := ∀ s ∈ ss, 0 < s ∧ s < 1073741824
theorem daB_run (a b o5 o6 o7 : Option D) (ds : List D) (r s : Int) (h1 : 0 < s) (h2 : s < 1073741824) (hz : ds.length < sizeLine) :
    daB [a, b, some (.lst ds), some (.int r), some (.int s), o5, o6, o7] = .nx [a, b, some (.lst (ds ++ [.int (r % s)])), some (.int (r / s)), some (.int s), o5, o6, o7] := by
  unfold daB
  simp only [e_sSeq, e_sApp, e_sAsg, e_mBin, e_mCall, e_mCons, e_mNil, e_mVar, bind_ok, List.getElem?_cons_succ, List.getElem?_cons_zero, e_intI, e_noX, modP h1, divP h1 h2, if_pos hz, List.set_cons_succ, List.set_cons_zero, e_sNext]
theorem da_loop (a b o5 o6 o7 : Option D) : ∀ (ss : List Int) (ds : List D) (r : Int) (o : Option D), Szs ss → ds.length + ss.length ≤ sizeLine →
    ∃ es r' o', Dg ss es ∧ forD (.nm 4) daB (ss.map .int) [a, b, some (.lst ds), some (.int r), o, o5, o6, o7] = .nx [a, b, some (.lst (ds ++ es.map .int)), some (.int r'), o', o5, o6, o7]
  | [], ds, r, o, _, _ => ⟨[], r, o, trivial, by rw [List.map_nil, List.append_nil]; rfl⟩
  | s :: ss, ds, r, o, hs, hz => by
    rw [List.length_cons] at hz
    obtain ⟨p1, p2⟩ := hs s List.mem_cons_self
    obtain ⟨es, r', o', hd, h⟩ := da_loop a b o5 o6 o7 ss (ds ++ [.int (r % s)]) (r / s) (some (.int s)) (fun z hz => hs z (List.mem_cons_of_mem _ hz)) (by rw [List.length_append, List.length_singleton]; omega)
    refine ⟨(r % s) :: es, r', o', ⟨⟨Int.emod_nonneg _ (by omega), Int.emod_lt_of_pos _ p1⟩, hd⟩, ?_⟩
    rw [List.map_cons, forD_cons]
    simp only [e_put1, List.set_cons_succ, List.set_cons_zero]
    rw [daB_run a b o5 o6 o7 ds r s p1 p2 (by omega)]
    dsimp only
    rw [h, List.append_assoc]
    rfl
theorem dbB_run (a o3 o4 o7 : Option D) (ds : List D) (all : List Int) (k : Nat) (s x : Int) (hx : all[k]? = some s) (h1 : 0 < s) (x0 : 0 ≤ x) (x1 : x < 2147483648) (hz : ds.length < sizeLine) :
    ∃ x' d o7', 0 ≤ x' ∧ x' < 2147483648 ∧ 0 ≤ d ∧ d < s ∧ dbB [a, some (.lst (all.map .int)), some (.lst ds), o3, o4, some (.int x), some (.int k), o7] = .nx [a, some (.lst (all.map .int)), some (.lst (ds ++ [.int d])), o3, o4, some (.int x'), some (.int k), o7'] := by
  have hi : atI (all.map D.int) (k : Int) = some (.int s) := by rw [T.atI_nat, List.getElem?_map, hx]; rfl
  have m1 : ∀ i : Int, dMul (.int i) (.int 48271) = .ok (.int (i * 48271)) := fun i => mulR (by decide)
  have m2 : ∀ i : Int, dMul (.int 974711) (.int i) = .ok (.int (974711 * i)) := fun i => mulL (by decide)
  have m3 : ∀ i : Int, dMod (.int i) (.int 2147483647) = .ok (.int (i % 2147483647)) := fun i => modP (by decide)
  have m4 : ∀ i : Int, dMod (.int i) (.int 2147483629) = .ok (.int (i % 2147483629)) := fun i => modP (by decide)
  have m5 : ∀ i : Int, dFdiv (.int i) (.int 65537) = .ok (.int (i / 65537)) := fun i => divP (by decide) (by decide)
  have m6 : ∀ i : Int, dFdiv (.int i) (.int 19) = .ok (.int (i / 19)) := fun i => divP (by decide) (by decide)
  obtain ⟨y, hy⟩ : ∃ y : Int, y = (x * 48271 + 974711 * (k : Int) + 12345) % 2147483647 := ⟨_, rfl⟩
  have y0 : 0 ≤ y := by rw [hy]; exact Int.emod_nonneg _ (by decide)
  have y1 : y < 2147483647 := by rw [hy]; exact Int.emod_lt_of_pos _ (by decide)
  have m7 : dMul (.int y) (.int (y / 65537 + 3)) = .ok (.int (y * (y / 65537 + 3))) := mulL (by omega)
  refine ⟨y, (y * (y / 65537 + 3)) % 2147483629 / 19 % s, some (.int ((y * (y / 65537 + 3)) % 2147483629)), y0, by omega, Int.emod_nonneg _ (by omega), Int.emod_lt_of_pos _ h1, ?_⟩
  unfold dbB
  simp only [e_sSeq, e_sApp, e_sAsg, e_mBin, e_mCall, e_mCons, e_mNil, e_mVar, e_mC, bind_ok, List.getElem?_cons_succ, List.getElem?_cons_zero, e_intI, e_noX, m1, m2, m3, e_addI, ← hy, List.set_cons_succ, List.set_cons_zero, m5, m7, m4, m6, e_ixL, hi, modP h1, if_pos hz, e_sNext]
theorem db_loop (a o3 o4 : Option D) (all : List Int) (ha : Szs all) : ∀ (ss : List Int) (k : Nat) (ds : List D) (x : Int) (o6 o7 : Option D), all.drop k = ss → 0 ≤ x → x < 2147483648 → ds.length + ss.length ≤ sizeLine →
    ∃ es x' p6 p7, Dg ss es ∧ forD (.nm 6) dbB ((List.range' k ss.length).map fun (i : Nat) => .int i) [a, some (.lst (all.map .int)), some (.lst ds), o3, o4, some (.int x), o6, o7] = .nx [a, some (.lst (all.map .int)), some (.lst (ds ++ es.map .int)), o3, o4, some (.int x'), p6, p7]
  | [], k, ds, x, o6, o7, _, _, _, _ => ⟨[], x, o6, o7, trivial, by rw [List.map_nil, List.append_nil]; rfl⟩
  | s :: ss, k, ds, x, o6, o7, hd, x0, x1, hz => by
    rw [List.length_cons] at hz
    have hk : all[k]? = some s := by
      have := congrArg (fun z : List Int => z[0]?) hd
      simpa [List.getElem?_drop] using this
    have hd2 : all.drop (k + 1) = ss := by
      have := congrArg (List.drop 1) hd
      rw [List.drop_drop] at this
      simpa using this
    have hm : s ∈ all := List.mem_of_getElem? hk
    obtain ⟨x', d, o7', a1, a2, a3, a4, hr⟩ := dbB_run a o3 o4 o7 ds all k s x hk (ha s hm).1 x0 x1 (by omega)
    obtain ⟨es, x2, p6, p7, hg, ih⟩ := db_loop a o3 o4 all ha ss (k + 1) (ds ++ [.int d]) x' (some (.int k)) o7' hd2 a1 a2 (by rw [List.length_append, List.length_singleton]; omega)
    refine ⟨d :: es, x2, p6, p7, ⟨⟨a3, a4⟩, hg⟩, ?_⟩
    rw [List.length_cons, List.range'_succ, List.map_cons, forD_cons]
    simp only [e_put1, List.set_cons_succ, List.set_cons_zero]
    rw [hr]
    dsimp only
    rw [ih, List.append_assoc]
    rfl
theorem digits_eq (c : Int) (ss : List Int) (hs : Szs ss) (hz : ss.length ≤ 1000) : ∃ ds, Dg ss ds ∧ mDigits [.int c, .lst (ss.map .int)] = .ok (.lst (ds.map .int)) := by
  have eg : gDigits = sSeq (sAsg 2 (mC (.lst []))) (sSeq (sAsg 3 (mCall dIntA (mCons (mVar 0) (mNil)))) (sSeq (sIf (mTest (mBin dGe (mVar 3) (mBin dPow (mC (.int 10)) (mC (.int 18))))) (sSeq (sAsg 3 (mBin dSub (mVar 3) (mBin dPow (mC (.int 10)) (mC (.int 18))))) (sSeq (sFor (mSeq (mVar 1)) (.nm 4) daB) (sRet (mVar 2)))) (sNext)) (sSeq (sAsg 5 (mBin dMod (mCall dIntA (mCons (mVar 3) (mNil))) (mC (.int 2147483629)))) (sSeq (sFor (mRange1 (mCons (mCall dLen (mCons (mVar 1) (mNil))) (mNil))) (.nm 6) dbB) (sRet (mVar 2)))))) := rfl
  have hp : dPow (.int 10) (.int 18) = .ok (.int 1000000000000000000) := rfl
  have m4 : ∀ i : Int, dMod (.int i) (.int 2147483629) = .ok (.int (i % 2147483629)) := fun i => modP (by decide)
  have hok : okR 0 (ss.length : Int) = true := okR_nat (a := 0) (by omega) (by omega)
  have hz' : ss.length ≤ sizeLine := big (by omega)
  unfold mDigits
  rw [eg]
  by_cases h : (1000000000000000000 : Int) ≤ c
  · obtain ⟨es, r', o', hd, hl⟩ := da_loop (some (.int c)) (some (.lst (ss.map .int))) none none none ss [] (c - 1000000000000000000) none hs (by simpa using hz')
    refine ⟨es, hd, ?_⟩
    rw [List.nil_append] at hl
    simp only [e_def, e_start, List.length_cons, List.length_nil, if_true, List.map_cons, List.map_nil, List.cons_append, List.nil_append, List.replicate, e_sSeq, e_sAsg, e_mC, List.set_cons_succ, List.set_cons_zero, e_mCall, e_mCons, e_mNil, e_mVar, List.getElem?_cons_succ, List.getElem?_cons_zero, bind_ok, e_intI, e_noX, e_sIf, e_mTest, e_mBin, hp, e_ge, decide_eq_true h, e_asB, e_subI, e_sFor, e_mSeq, e_dSeqL, hl, e_sRet, e_end1]
  · obtain ⟨es, x', p6, p7, hd, hl⟩ := db_loop (some (.int c)) (some (.int c)) none ss hs ss 0 [] (c % 2147483629) none none rfl (Int.emod_nonneg _ (by decide)) (by have := Int.emod_lt_of_pos c (b := 2147483629) (by decide); omega) (by simpa using hz')
    refine ⟨es, hd, ?_⟩
    rw [List.nil_append, ← range0] at hl
    simp only [e_def, e_start, List.length_cons, List.length_nil, if_true, List.map_cons, List.map_nil, List.cons_append, List.nil_append, List.replicate, e_sSeq, e_sAsg, e_mC, List.set_cons_succ, List.set_cons_zero, e_mCall, e_mCons, e_mNil, e_mVar, List.getElem?_cons_succ, List.getElem?_cons_zero, bind_ok, e_intI, e_noX, e_sIf, e_mTest, e_mBin, hp, e_ge, decide_eq_false h, e_asB, e_sNext, m4, e_sFor, e_mRange1, e_lenL, List.length_map, e_dRange1, hok, hl, e_sRet, e_end1]
end CM

set_option Elab.async false
set_option linter.all false
set_option maxRecDepth 100000
set_option maxHeartbeats 1000000
/-! CL: lots: is_whole, is_pin, is_entry, combined, Lot(..), for every law that has them. -/
namespace CL
open PySem L2 T CM SrtO
variable (cl : List Str)
def g_is_whole : T.Env → SO := sRet (mAndV (mUn (dIsi cl [.b "int"]) (mVar 0)) (mNotV (mUn (dIsi cl [.b "bool"]) (mVar 0))))
def m_is_whole : List D → O D := mDef 1 1 .sh (g_is_whole cl)
def g_combined : T.Env → SO := sSeq (sAsg 1 (mC (.dct []))) (sSeq (sFor (mSeq (mVar 0)) (.tp [2, 3, 4]) (sSeq (sIf (mAnd (mTest (mBin dNe (mVar 2) (mVar 3))) (mTest (mBin dGt (mVar 4) (mC (.int 0))))) (sSeq (sAsg 5 (mTup (mCons (mCall dMin2 (mCons (mVar 2) (mCons (mVar 3) (mNil)))) (mCons (mCall dMax2 (mCons (mVar 2) (mCons (mVar 3) (mNil)))) (mNil))))) (sSeq (sDput 1 (mBin dAdd (mDgetD 1 (mVar 5) (mC (.int 0))) (mVar 4)) (mVar 5)) (sNext))) (sNext)) (sNext))) (sRet (mCall dTuple (mCons (mComp (mSeq (mSortT 1)) [2, 3] (.tp [2, 3]) (mYes) (mTup (mCons (mVar 2) (mCons (mVar 3) (mCons (mDget 1 (mTup (mCons (mVar 2) (mCons (mVar 3) (mNil))))) (mNil)))))) (mNil)))))
def m_combined : List D → O D := mDef 6 1 .sh g_combined
def g_is_pin : T.Env → SO := sRet (mAndV (mApp (m_is_whole cl) (mCons (mVar 1) (mNil))) (mChain dLe dLt (mC (.int 0)) (mVar 1) (mVar 0)))
def m_is_pin : List D → O D := mDef 2 2 .sh (g_is_pin cl)
def g_is_entry : T.Env → SO := sSeq (sIf (mOr (mNot (mTest (mUn (dIsi cl [.b "list", .b "tuple"]) (mVar 1)))) (mTest (mBin dNe (mCall dLen (mCons (mVar 1) (mNil))) (mC (.int 3))))) (sRet (mC (.bl false))) (sNext)) (sSeq (sUnp [2, 3, 4] (mVar 1)) (sRet (mAndV (mApp (m_is_pin cl) (mCons (mVar 0) (mCons (mVar 2) (mNil)))) (mAndV (mApp (m_is_pin cl) (mCons (mVar 0) (mCons (mVar 3) (mNil)))) (mAndV (mBin dNe (mVar 2) (mVar 3)) (mAndV (mApp (m_is_whole cl) (mCons (mVar 4) (mNil))) (mBin dGe (mVar 4) (mC (.int 1)))))))))
def m_is_entry : List D → O D := mDef 5 2 .sh (g_is_entry cl)
def g_init (fc_pins fc_cords : List Str) : T.Env → SO := sSeq (sIf (mOr (mNot (mTest (mApp (m_is_whole cl) (mCons (mVar 1) (mNil))))) (mTest (mBin dLt (mVar 1) (mC (.int 0))))) (sRaise "BadPins" ["pins"] (mCons (mVar 1) (mNil))) (sNext)) (sSeq (sFor (mSeq (mVar 2)) (.nm 3) (sSeq (sIf (mNot (mTest (mApp (m_is_entry cl) (mCons (mVar 1) (mCons (mVar 3) (mNil)))))) (sRaise "BadCord" ["entry"] (mCons (mVar 3) (mNil))) (sNext)) (sNext))) (sSeq (sSetA fc_pins 0 "pins" (mVar 1)) (sSeq (sSetA fc_cords 0 "cords" (mApp m_combined (mCons (mVar 2) (mNil)))) (sNext))))
def m_init (fc_pins fc_cords : List Str) : List D → O D := mInit "Lot" 4 2 (g_init cl fc_pins fc_cords)
variable {cl}
@[simp] theorem e_mDget (i : Nat) (g : T.Env → O D) (ρ : T.Env) : mDget i g ρ = match ρ[i]? with
  | some (some (.dct ks)) => g ρ >>= kGet ks
  | _ => .stuck := nd rfl
@[simp] theorem e_mDgetD (i : Nat) (g h : T.Env → O D) (ρ : T.Env) : mDgetD i g h ρ = match ρ[i]? with
  | some (some (.dct ks)) => g ρ >>= fun y => h ρ >>= fun z => kGet2 ks y z
  | _ => .stuck := nd rfl
@[simp] theorem e_mSortT (i : Nat) (ρ : T.Env) : mSortT i ρ = match ρ[i]? with
  | some (some (.dct ks)) => dSortT ks
  | _ => .stuck := nd rfl
@[simp] theorem e_sUnp (is : List Nat) (f : T.Env → O D) (ρ : T.Env) : sUnp is f ρ = match f ρ with
  | .ok d => (match (Tg.tp is).put d ρ with
    | some ρ' => .nx ρ'
    | none => .stuck)
  | .exc x fs => .exc ρ x fs
  | .stuck => .stuck := nd rfl
theorem whole_int (i : Int) : m_is_whole cl [.int i] = .ok (.bl true) := rfl
def triD (t : Int × Int × Int) : D := .tup [.int t.1, .int t.2.1, .int t.2.2]
/-- d is a sequence of the three numbers -/
def Tri (d : D) (t : Int × Int × Int) : Prop := d = triD t ∨ d = .lst [.int t.1, .int t.2.1, .int t.2.2]
inductive F2 {α β : Type} (R : α → β → Prop) : List α → List β → Prop
  | nil : F2 R [] []
  | cons {a : α} {b : β} {as : List α} {bs : List β} : R a b → F2 R as bs → F2 R (a :: as) (b :: bs)
theorem F2.len {α β : Type} {R : α → β → Prop} {as : List α} {bs : List β} (h : F2 R as bs) : as.length = bs.length := by
  induction h with
  | nil => rfl
  | cons _ _ ih => rw [List.length_cons, List.length_cons, ih]
theorem F2.map {α β γ : Type} {R : α → β → Prop} {f : γ → α} {g : γ → β} (h : ∀ c, R (f c) (g c)) : ∀ l : List γ, F2 R (l.map f) (l.map g)
  | [] => .nil
  | c :: l => .cons (h c) (F2.map h l)
theorem F2.tri (ts : List (Int × Int × Int)) : F2 Tri (ts.map triD) ts := by
  have := F2.map (R := Tri) (f := triD) (g := fun t => t) (fun t => .inl rfl) ts
  rw [List.map_id'] at this
  exact this
/-! ### combined -/
abbrev Acc := List ((Int × Int) × Int)
def accD (acc : Acc) : List (List Key × D) := acc.map fun e => (pairK e.1, .int e.2)
def getA (acc : Acc) (p : Int × Int) : Option Int := (acc.find? fun e => decide (e.1 = p)).map (·.2)
def putA (acc : Acc) (p : Int × Int) (v : Int) : Acc := if (acc.any fun e => decide (e.1 = p)) = true then acc.map (fun e => if e.1 = p then (e.1, v) else e) else acc ++ [(p, v)]
def minI (a b : Int) : Int := if b < a then b else a
def maxI (a b : Int) : Int := if b > a then b else a
def keyP (a b : Int) : Int × Int := (minI a b, maxI a b)
def stepA (acc : Acc) (t : Int × Int × Int) : Acc := if t.1 ≠ t.2.1 ∧ 0 < t.2.2 then putA acc (keyP t.1 t.2.1) ((getA acc (keyP t.1 t.2.1)).getD 0 + t.2.2) else acc
def comb (ts : List (Int × Int × Int)) : List (Int × Int × Int) := (srtP ((ts.foldl stepA []).map (·.1))).map fun p => (p.1, p.2, (getA (ts.foldl stepA []) p).getD 0)
theorem pairK_eq {p q : Int × Int} : pairK p = pairK q ↔ p = q := by
  constructor
  · intro h
    unfold pairK at h
    injection h with h1 h2
    injection h2 with h2 _
    injection h1 with h1
    injection h2 with h2
    exact Prod.ext h1 h2
  · intro h; rw [h]
theorem find_acc (p : Int × Int) : ∀ acc : Acc, findK (accD acc) (pairK p) = (getA acc p).map .int
  | [] => rfl
  | e :: acc => by
    have ih := find_acc p acc
    unfold findK getA accD at ih ⊢
    rw [List.map_cons]
    by_cases h : e.1 = p
    · rw [List.find?_cons_of_pos (by simpa [pairK_eq] using h), List.find?_cons_of_pos (by simpa using h)]; rfl
    · rw [List.find?_cons_of_neg (by simpa [pairK_eq] using h), List.find?_cons_of_neg (by simpa using h)]; exact ih
theorem store_acc (acc : Acc) (p : Int × Int) (v : Int) : storeK (accD acc) (pairK p) (.int v) = accD (putA acc p v) := by
  have ha : ((accD acc).any fun e => decide (e.1 = pairK p)) = acc.any fun e => decide (e.1 = p) := by
    unfold accD
    rw [List.any_map]
    congr 1
    funext e
    simp [pairK_eq]
  unfold storeK putA
  rw [ha]
  split
  · unfold accD
    rw [List.map_map, List.map_map]
    apply List.map_congr_left
    intro e _
    show (if pairK e.1 = pairK p then _ else _) = _
    by_cases h : e.1 = p
    · rw [if_pos (pairK_eq.mpr h)]
      show _ = (pairK (if e.1 = p then (e.1, v) else e).1, D.int (if e.1 = p then (e.1, v) else e).2)
      rw [if_pos h]
    · rw [if_neg (fun z => h (pairK_eq.mp z))]
      show _ = (pairK (if e.1 = p then (e.1, v) else e).1, D.int (if e.1 = p then (e.1, v) else e).2)
      rw [if_neg h]
  · unfold accD
    rw [List.map_append]; rfl
theorem putA_len (acc : Acc) (p : Int × Int) (v : Int) : (putA acc p v).length ≤ acc.length + 1 := by
  unfold putA
  split
  · rw [List.length_map]; omega
  · rw [List.length_append, List.length_singleton]; omega
theorem stepA_len (acc : Acc) (t : Int × Int × Int) : (stepA acc t).length ≤ acc.length + 1 := by
  unfold stepA
  split
  · exact putA_len _ _ _
  · omega
def cbB : T.Env → SO := sSeq (sIf (mAnd (mTest (mBin dNe (mVar 2) (mVar 3))) (mTest (mBin dGt (mVar 4) (mC (.int 0))))) (sSeq (sAsg 5 (mTup (mCons (mCall dMin2 (mCons (mVar 2) (mCons (mVar 3) (mNil)))) (mCons (mCall dMax2 (mCons (mVar 2) (mCons (mVar 3) (mNil)))) (mNil))))) (sSeq (sDput 1 (mBin dAdd (mDgetD 1 (mVar 5) (mC (.int 0))) (mVar 4)) (mVar 5)) (sNext))) (sNext)) (sNext)
theorem cb_run (c : Option D) (acc : Acc) (t : Int × Int × Int) (o5 : Option D) (hz : acc.length < sizeLine) :
    ∃ p5, cbB [c, some (.dct (accD acc)), some (.int t.1), some (.int t.2.1), some (.int t.2.2), o5] = .nx [c, some (.dct (accD (stepA acc t))), some (.int t.1), some (.int t.2.1), some (.int t.2.2), p5] := by
  obtain ⟨a, b, n⟩ := t
  have hmin : dMin2 [.int a, .int b] = .ok (.int (minI a b)) := rfl
  have hmax : dMax2 [.int a, .int b] = .ok (.int (maxI a b)) := rfl
  by_cases h1 : a = b
  · refine ⟨o5, ?_⟩
    have e : stepA acc (a, b, n) = acc := if_neg fun z => z.1 h1
    rw [e]
    unfold cbB
    simp only [e_sSeq, e_sIf, e_mAnd, e_mTest, e_mBin, e_mVar, List.getElem?_cons_succ, List.getElem?_cons_zero, bind_ok, e_neI, decide_eq_true h1, Bool.not_true, e_asB, Bool.false_eq_true, if_false, e_sNext]
  · by_cases h2 : 0 < n
    · have e : stepA acc (a, b, n) = putA acc (keyP a b) ((getA acc (keyP a b)).getD 0 + n) := if_pos ⟨h1, h2⟩
      rw [e]
      refine ⟨some (.tup [.int (minI a b), .int (maxI a b)]), ?_⟩
      have hk : keyT (.tup [.int (minI a b), .int (maxI a b)]) = some (pairK (keyP a b)) := rfl
      have hg : kGet2 (accD acc) (.tup [.int (minI a b), .int (maxI a b)]) (.int 0) = .ok (.int ((getA acc (keyP a b)).getD 0)) := by
        unfold kGet2
        rw [hk]
        dsimp only
        rw [find_acc]
        cases getA acc (keyP a b) <;> rfl
      have hp : ∀ (ρ : T.Env), ρ = [c, some (.dct (accD acc)), some (.int a), some (.int b), some (.int n), some (.tup [.int (minI a b), .int (maxI a b)])] → sDput 1 (mBin dAdd (mDgetD 1 (mVar 5) (mC (.int 0))) (mVar 4)) (mVar 5) ρ = .nx [c, some (.dct (accD (putA acc (keyP a b) ((getA acc (keyP a b)).getD 0 + n)))), some (.int a), some (.int b), some (.int n), some (.tup [.int (minI a b), .int (maxI a b)])] := fun ρ hρ => by
        have hv : mBin dAdd (mDgetD 1 (mVar 5) (mC (.int 0))) (mVar 4) ρ = .ok (.int ((getA acc (keyP a b)).getD 0 + n)) := by
          rw [hρ]
          simp only [e_mBin, e_mDgetD, e_mVar, e_mC, List.getElem?_cons_succ, List.getElem?_cons_zero, bind_ok, hg, e_addI]
        have hy : mVar 5 ρ = .ok (.tup [.int (minI a b), .int (maxI a b)]) := by rw [hρ, e_mVar]; rfl
        have hl : (accD acc).length < sizeLine := by unfold accD; rw [List.length_map]; exact hz
        unfold sDput sE
        rw [hv]
        dsimp only
        rw [show ρ[1]? = some (some (.dct (accD acc))) by rw [hρ]; rfl]
        dsimp only
        rw [hy]
        dsimp only
        rw [hk]
        dsimp only
        rw [if_pos hl, store_acc, hρ]
        rfl
      unfold cbB
      simp only [e_sSeq, e_sIf, e_mAnd, e_mTest, e_mBin, e_mVar, List.getElem?_cons_succ, List.getElem?_cons_zero, bind_ok, e_neI, decide_eq_false h1, Bool.not_false, e_asB, if_true, e_mC, e_gt, decide_eq_true h2, e_sAsg, e_mTup, e_mCons, e_mCall, e_mNil, hmin, hmax, e_noX, e_mkT2, List.set_cons_succ, List.set_cons_zero]
      rw [hp _ rfl]
      simp only [e_sNext]
    · refine ⟨o5, ?_⟩
      have e : stepA acc (a, b, n) = acc := if_neg fun z => h2 z.2
      rw [e]
      unfold cbB
      simp only [e_sSeq, e_sIf, e_mAnd, e_mTest, e_mBin, e_mVar, List.getElem?_cons_succ, List.getElem?_cons_zero, bind_ok, e_neI, decide_eq_false h1, Bool.not_false, e_asB, if_true, e_mC, e_gt, decide_eq_false h2, e_sNext]
theorem put_tri {d : D} {t : Int × Int × Int} (h : Tri d t) (a b o2 o3 o4 o5 : Option D) : (Tg.tp [2, 3, 4]).put d [a, b, o2, o3, o4, o5] = some [a, b, some (.int t.1), some (.int t.2.1), some (.int t.2.2), o5] := by
  rcases h with h | h <;> subst h <;> rfl
theorem cb_loop (c : Option D) : ∀ (ds : List D) (ts : List (Int × Int × Int)) (acc : Acc) (o2 o3 o4 o5 : Option D), F2 Tri ds ts → acc.length + ts.length ≤ sizeLine →
    ∃ p2 p3 p4 p5, forD (.tp [2, 3, 4]) cbB ds [c, some (.dct (accD acc)), o2, o3, o4, o5] = .nx [c, some (.dct (accD (ts.foldl stepA acc))), p2, p3, p4, p5]
  | [], _, acc, o2, o3, o4, o5, .nil, _ => ⟨o2, o3, o4, o5, e_forD0 _ _ _⟩
  | d :: ds, t :: ts, acc, o2, o3, o4, o5, .cons h hs, hz => by
    rw [List.length_cons] at hz
    obtain ⟨p5, h1⟩ := cb_run c acc t o5 (by omega)
    obtain ⟨q2, q3, q4, q5, h2⟩ := cb_loop c ds ts (stepA acc t) (some (.int t.1)) (some (.int t.2.1)) (some (.int t.2.2)) p5 hs (by have := stepA_len acc t; omega)
    exact ⟨q2, q3, q4, q5, by rw [forD_nx (put_tri h _ _ _ _ _ _) h1]; exact h2⟩
theorem foldA_len : ∀ (ts : List (Int × Int × Int)) (acc : Acc), (ts.foldl stepA acc).length ≤ acc.length + ts.length
  | [], _ => Nat.le_refl _
  | t :: ts, acc => by
    have := foldA_len ts (stepA acc t)
    have := stepA_len acc t
    rw [List.foldl_cons, List.length_cons]
    omega
theorem mem_keys {acc : Acc} {p : Int × Int} (h : p ∈ acc.map (·.1)) : ∃ v, getA acc p = some v := by
  induction acc with
  | nil => cases h
  | cons e acc ih =>
    unfold getA
    by_cases q : e.1 = p
    · exact ⟨e.2, by rw [List.find?_cons_of_pos (by simpa using q)]; rfl⟩
    · rw [List.find?_cons_of_neg (by simpa using q)]
      rcases List.mem_cons.mp h with z | z
      · exact absurd z.symm q
      · exact ih z
theorem combined_eq (s : D) (ds : List D) (ts : List (Int × Int × Int)) (hs : dSeq s = .ok ds) (h : F2 Tri ds ts) (hz : ts.length ≤ 100000) : m_combined [s] = .ok (.tup ((comb ts).map triD)) := by
  have eg : g_combined = sSeq (sAsg 1 (mC (.dct []))) (sSeq (sFor (mSeq (mVar 0)) (.tp [2, 3, 4]) cbB) (sRet (mCall dTuple (mCons (mComp (mSeq (mSortT 1)) [2, 3] (.tp [2, 3]) (mYes) (mTup (mCons (mVar 2) (mCons (mVar 3) (mCons (mDget 1 (mTup (mCons (mVar 2) (mCons (mVar 3) (mNil))))) (mNil)))))) (mNil))))) := rfl
  obtain ⟨p2, p3, p4, p5, hl⟩ := cb_loop (some s) ds ts [] none none none none h (by rw [List.length_nil]; exact big (by omega))
  have ha0 : accD [] = [] := rfl
  rw [ha0] at hl
  obtain ⟨acc, hacc⟩ : ∃ acc, acc = ts.foldl stepA [] := ⟨_, rfl⟩
  have hlen : acc.length ≤ ts.length := by rw [hacc]; have := foldA_len ts []; simpa using this
  rw [← hacc] at hl
  have hsort : dSortT (accD acc) = .ok (.lst ((srtP (acc.map (·.1))).map pairD)) := by
    unfold dSortT
    have : (accD acc).map (·.1) = (acc.map (·.1)).map pairK := by unfold accD; rw [List.map_map, List.map_map]; rfl
    rw [this, pairsO_map]
  have hc := compD_mem (tg := .tp [2, 3]) (e := mTup (mCons (mVar 2) (mCons (mVar 3) (mCons (mDget 1 (mTup (mCons (mVar 2) (mCons (mVar 3) (mNil))))) (mNil))))) (ρ := [some s, some (.dct (accD acc)), none, none, p4, p5]) (fd := pairD) (fz := fun p => triD (p.1, p.2, (getA acc p).getD 0)) (srtP (acc.map (·.1))) [] (fun p hp => by
    refine ⟨[some s, some (.dct (accD acc)), some (.int p.1), some (.int p.2), p4, p5], rfl, ?_⟩
    obtain ⟨v, hv⟩ := mem_keys ((srtP_perm _).mem_iff.mp hp)
    have hg : kGet (accD acc) (.tup [.int p.1, .int p.2]) = .ok (.int v) := by
      unfold kGet
      rw [show keyT (.tup [.int p.1, .int p.2]) = some (pairK p) from rfl]
      dsimp only
      rw [find_acc, hv]
      rfl
    simp only [e_mTup, e_mCons, e_mVar, List.getElem?_cons_succ, List.getElem?_cons_zero, bind_ok, e_mDget, e_mNil, e_mkT2, hg, e_mkT3, hv, Option.getD_some]
    rfl) (by rw [List.length_nil, Nat.zero_add, (srtP_perm _).length_eq, List.length_map]; exact big (by omega))
  rw [List.nil_append] at hc
  have ht : ∀ xs : List D, dTuple [.lst xs] = .ok (.tup xs) := fun _ => rfl
  unfold m_combined
  rw [eg]
  simp only [e_def, e_start, List.length_cons, List.length_nil, if_true, List.map_cons, List.map_nil, List.cons_append, List.nil_append, List.replicate, e_sSeq, e_sAsg, e_mC, List.set_cons_succ, List.set_cons_zero, e_sFor, e_mSeq, e_mVar, List.getElem?_cons_succ, List.getElem?_cons_zero, bind_ok, hs, hl, e_sRet, e_mCall, e_mCons, e_mComp, e_mSortT, hsort, e_dSeqL, e_wipe1, e_wipe0, hc, e_mNil, ht, e_noX, e_end1]
  rw [hacc]
  unfold comb
  rw [List.map_map]
  rfl
/-! ### Lot(pins, cords) -/
def Ent (pins : Int) (t : Int × Int × Int) : Prop := 0 ≤ t.1 ∧ t.1 < pins ∧ 0 ≤ t.2.1 ∧ t.2.1 < pins ∧ t.1 ≠ t.2.1 ∧ 1 ≤ t.2.2
theorem is_pin_eq (pins v : Int) : m_is_pin cl [.int pins, .int v] = .ok (.bl (decide (0 ≤ v ∧ v < pins))) := by
  unfold m_is_pin g_is_pin
  simp only [e_def, e_start, List.length_cons, List.length_nil, if_true, List.map_cons, List.map_nil, List.cons_append, List.nil_append, List.replicate, e_sRet, e_mAndV, e_mApp, e_mCons, e_mVar, List.getElem?_cons_succ, List.getElem?_cons_zero, bind_ok, e_mNil, whole_int, e_asB]
  unfold mChain
  simp only [e_mC, e_mVar, List.getElem?_cons_succ, List.getElem?_cons_zero, bind_ok, e_le, e_lt]
  by_cases h1 : 0 ≤ v
  · by_cases h2 : v < pins
    · rw [decide_eq_true h1, decide_eq_true h2, decide_eq_true ⟨h1, h2⟩]
      dsimp only
      rw [e_end1]
    · rw [decide_eq_true h1, decide_eq_false h2, decide_eq_false (fun z : 0 ≤ v ∧ v < pins => h2 z.2)]
      dsimp only
      rw [e_end1]
  · rw [decide_eq_false h1, decide_eq_false (fun z : 0 ≤ v ∧ v < pins => h1 z.1)]
    dsimp only
    rw [e_end1]
theorem isi_seq {d : D} {t : Int × Int × Int} (h : Tri d t) : dIsi cl [.b "list", .b "tuple"] d = .ok (.bl true) := by
  rcases h with h | h <;> subst h <;> rfl
theorem len_tri {d : D} {t : Int × Int × Int} (h : Tri d t) : dLen [d] = .ok (.int 3) := by
  rcases h with h | h <;> subst h <;> rfl
theorem is_entry_eq {pins : Int} {d : D} {t : Int × Int × Int} (h : Tri d t) (he : Ent pins t) : m_is_entry cl [.int pins, d] = .ok (.bl true) := by
  obtain ⟨h1, h2, h3, h4, h5, h6⟩ := he
  have p1 := is_pin_eq (cl := cl) pins t.1
  have p2 := is_pin_eq (cl := cl) pins t.2.1
  rw [decide_eq_true ⟨h1, h2⟩] at p1
  rw [decide_eq_true ⟨h3, h4⟩] at p2
  have hput := put_tri h (some (.int pins)) (some d) none none none
  have hput' : (Tg.tp [2, 3, 4]).put d [some (.int pins), some d, none, none, none] = some [some (.int pins), some d, some (.int t.1), some (.int t.2.1), some (.int t.2.2)] := by
    rcases h with h | h <;> subst h <;> rfl
  unfold m_is_entry g_is_entry
  simp only [e_def, e_start, List.length_cons, List.length_nil, if_true, List.map_cons, List.map_nil, List.cons_append, List.nil_append, List.replicate, e_sSeq, e_sIf, e_mOr, e_mNot, e_mTest, e_mUn, e_mVar, List.getElem?_cons_succ, List.getElem?_cons_zero, bind_ok, isi_seq h, e_asB, Bool.not_true, Bool.false_eq_true, if_false, e_mBin, e_mCall, e_mCons, e_mNil, len_tri h, e_noX, e_mC, e_neI, decide_true, e_sNext, e_sUnp, hput', e_sRet, e_mAndV, e_mApp, p1, p2, decide_eq_false h5, Bool.not_false, whole_int, e_ge, decide_eq_true h6, e_end1]
def lotD (pins : Int) (cs : List (Int × Int × Int)) : D := .ins "Lot" [("pins", .int pins), ("cords", .tup (cs.map triD))]
def inB : T.Env → SO := sSeq (sIf (mNot (mTest (mApp (m_is_entry cl) (mCons (mVar 1) (mCons (mVar 3) (mNil)))))) (sRaise "BadCord" ["entry"] (mCons (mVar 3) (mNil))) (sNext)) (sNext)
theorem in_loop (a c : Option D) (pins : Int) : ∀ (ds : List D) (ts : List (Int × Int × Int)) (o3 : Option D), F2 Tri ds ts → (∀ t ∈ ts, Ent pins t) → ∃ p3, forD (.nm 3) (inB (cl := cl)) ds [a, some (.int pins), c, o3] = .nx [a, some (.int pins), c, p3]
  | [], _, o3, .nil, _ => ⟨o3, e_forD0 _ _ _⟩
  | d :: ds, t :: ts, o3, .cons h hs, he => by
    obtain ⟨p3, h2⟩ := in_loop a c pins ds ts (some d) hs fun z hz => he z (List.mem_cons_of_mem _ hz)
    refine ⟨p3, ?_⟩
    rw [forD_nx (ρ1 := [a, some (.int pins), c, some d]) (ρ2 := [a, some (.int pins), c, some d]) rfl ?_]
    · exact h2
    · unfold inB
      simp only [e_sSeq, e_sIf, e_mNot, e_mTest, e_mApp, e_mCons, e_mVar, List.getElem?_cons_succ, List.getElem?_cons_zero, bind_ok, e_mNil, is_entry_eq h (he t List.mem_cons_self), e_asB, Bool.not_true, e_sNext]
theorem init_eq {fp fc : List Str} (hp : ("Lot" : Str) ∈ fp) (hc : ("Lot" : Str) ∈ fc) {pins : Int} {s : D} {ds : List D} {ts : List (Int × Int × Int)} (h0 : 0 ≤ pins) (hs : dSeq s = .ok ds) (h : F2 Tri ds ts) (he : ∀ t ∈ ts, Ent pins t) (hz : ts.length ≤ 100000) :
    m_init cl fp fc [.int pins, s] = .ok (lotD pins (comb ts)) := by
  have eg : g_init cl fp fc = sSeq (sIf (mOr (mNot (mTest (mApp (m_is_whole cl) (mCons (mVar 1) (mNil))))) (mTest (mBin dLt (mVar 1) (mC (.int 0))))) (sRaise "BadPins" ["pins"] (mCons (mVar 1) (mNil))) (sNext)) (sSeq (sFor (mSeq (mVar 2)) (.nm 3) (inB (cl := cl))) (sSeq (sSetA fp 0 "pins" (mVar 1)) (sSeq (sSetA fc 0 "cords" (mApp m_combined (mCons (mVar 2) (mNil)))) sNext))) := rfl
  obtain ⟨p3, hl⟩ := in_loop (cl := cl) (some (.ins "Lot" [])) (some s) pins ds ts none h he
  have hcomb := combined_eq s ds ts hs h hz
  unfold m_init
  rw [eg]
  simp only [e_init, List.length_cons, List.length_nil, if_true, e_start, List.map_cons, List.map_nil, List.cons_append, List.nil_append, List.replicate, e_sSeq, e_sIf, e_mOr, e_mNot, e_mTest, e_mApp, e_mCons, e_mVar, List.getElem?_cons_succ, List.getElem?_cons_zero, bind_ok, e_mNil, whole_int, e_asB, Bool.not_true, Bool.false_eq_true, if_false, e_mBin, e_mC, e_lt, decide_eq_false (show ¬ pins < 0 by omega), e_sNext, e_sFor, e_mSeq, hs, hl, e_sSetA, if_pos (show ("Lot" : Str) ∈ fp ∧ 0 < 900 from ⟨hp, by decide⟩), List.set_cons_zero, hcomb, putD, if_pos (show ("Lot" : Str) ∈ fc ∧ 0 + 1 < 900 from ⟨hc, by decide⟩)]
  rw [if_neg (show ¬ ("pins" : Str) = "cords" by decide +kernel)]
  rfl
/-! ### normal forms -/
def pr (t : Int × Int × Int) : Int × Int := (t.1, t.2.1)
def Norm (ts : List (Int × Int × Int)) : Prop := (∀ t ∈ ts, t.1 < t.2.1 ∧ 0 < t.2.2) ∧ (ts.map pr).Pairwise fun x y => lexB x y = true
def accOf (ts : List (Int × Int × Int)) : Acc := ts.map fun t => (pr t, t.2.2)
theorem getA_none {acc : Acc} {p : Int × Int} (h : p ∉ acc.map (·.1)) : getA acc p = none := by
  unfold getA
  rw [List.find?_eq_none.mpr]
  · rfl
  · intro e he
    have : e.1 ≠ p := fun z => h (List.mem_map.mpr ⟨e, he, z⟩)
    simpa using this
theorem putA_new {acc : Acc} {p : Int × Int} {v : Int} (h : p ∉ acc.map (·.1)) : putA acc p v = acc ++ [(p, v)] := by
  unfold putA
  rw [if_neg]
  rw [List.any_eq_true]
  rintro ⟨e, he, q⟩
  exact h (List.mem_map.mpr ⟨e, he, of_decide_eq_true q⟩)
theorem keyP_lt {a b : Int} (h : a < b) : keyP a b = (a, b) := by
  unfold keyP minI maxI
  rw [if_neg (by omega), if_pos (by omega)]
theorem lex_irrefl (p : Int × Int) : lexB p p = false := lexB_no.mpr (by omega)
theorem fold_norm : ∀ (ts : List (Int × Int × Int)) (acc : Acc), (∀ t ∈ ts, t.1 < t.2.1 ∧ 0 < t.2.2) → (ts.map pr).Pairwise (fun x y => lexB x y = true) → (∀ t ∈ ts, pr t ∉ acc.map (·.1)) → ts.foldl stepA acc = acc ++ accOf ts
  | [], acc, _, _, _ => (List.append_nil _).symm
  | t :: ts, acc, h1, h2, h3 => by
    obtain ⟨a, b⟩ := h1 t List.mem_cons_self
    rw [List.map_cons] at h2
    obtain ⟨c, d⟩ := List.pairwise_cons.mp h2
    have hn := h3 t List.mem_cons_self
    have hk : keyP t.1 t.2.1 = pr t := keyP_lt a
    have e : stepA acc t = acc ++ [(pr t, t.2.2)] := by
      unfold stepA
      rw [if_pos ⟨by omega, b⟩, hk, getA_none hn, putA_new hn]
      simp
    rw [List.foldl_cons, e, fold_norm ts _ (fun z hz => h1 z (List.mem_cons_of_mem _ hz)) d (fun z hz => by
      rw [List.map_append, List.mem_append]
      rintro (q | q)
      · exact h3 z (List.mem_cons_of_mem _ hz) q
      · have q' : pr z = pr t := by simpa using q
        have := c (pr z) (List.mem_map.mpr ⟨z, hz, rfl⟩)
        rw [q', lex_irrefl] at this
        cases this)]
    unfold accOf
    rw [List.map_cons, List.append_assoc]
    rfl
theorem lex_asymm {p q : Int × Int} (h : lexB p q = true) : lexB q p = false := by
  have a := lexB_iff.mp h
  refine lexB_no.mpr ?_
  omega
theorem getA_norm : ∀ (ts : List (Int × Int × Int)), (ts.map pr).Pairwise (fun x y => lexB x y = true) → ∀ t ∈ ts, getA (accOf ts) (pr t) = some t.2.2
  | [], _, t, h => nomatch h
  | u :: ts, h2, t, h => by
    rw [List.map_cons] at h2
    obtain ⟨c, d⟩ := List.pairwise_cons.mp h2
    unfold getA accOf
    rw [List.map_cons]
    rcases List.mem_cons.mp h with e | h
    · rw [e, List.find?_cons_of_pos (by simp)]; rfl
    · have hne : pr u ≠ pr t := fun z => by
        have := c (pr t) (List.mem_map.mpr ⟨t, h, rfl⟩)
        rw [z, lex_irrefl] at this
        cases this
      rw [List.find?_cons_of_neg (by simpa using hne)]
      exact getA_norm ts d t h
theorem comb_norm {ts : List (Int × Int × Int)} (h : Norm ts) : comb ts = ts := by
  have hf : ts.foldl stepA [] = accOf ts := by
    have := fold_norm ts [] h.1 h.2 (fun _ _ => by simp)
    simpa using this
  unfold comb
  rw [hf]
  have hk : (accOf ts).map (·.1) = ts.map pr := by unfold accOf; rw [List.map_map]; rfl
  rw [hk, srt_uniq (srtP_srtd _) (h.2.imp fun z => lex_asymm z) (srtP_perm _), List.map_map]
  have : ts.map (fun t => t) = ts := List.map_id' ts
  conv => rhs; rw [← this]
  apply List.map_congr_left
  intro t ht
  show ((pr t).1, (pr t).2, (getA (accOf ts) (pr t)).getD 0) = t
  rw [getA_norm ts h.2 t ht]
  rfl

end CL

set_option Elab.async false
set_option linter.all false
set_option maxRecDepth 100000
set_option maxHeartbeats 1000000
/-! CS: _law_whole, _law_same of a value and itself; comprehensions with a test. -/
namespace CS
open PySem L2 T CM
theorem compD_if {tg : Tg} {c : T.Env → O Bool} {e : T.Env → O D} {ρ : T.Env} {α : Type} {fd fz : α → D} (p : α → Bool) : ∀ (xs : List α) (acc : List D), (∀ x ∈ xs, ∃ ρ1, tg.put (fd x) ρ = some ρ1 ∧ c ρ1 = .ok (p x) ∧ (p x = true → e ρ1 = .ok (fz x))) → acc.length + xs.length ≤ sizeLine → compD tg c e ρ (xs.map fd) acc = .ok (acc ++ (xs.filter p).map fz)
  | [], acc, _, _ => by rw [List.map_nil, compD_nil, List.filter_nil, List.map_nil, List.append_nil]
  | x :: xs, acc, h, hl => by
    obtain ⟨ρ1, h1, h2, h3⟩ := h x List.mem_cons_self
    rw [List.map_cons, compD_cons, h1]
    dsimp only
    rw [h2]
    rw [List.length_cons] at hl
    cases hp : p x with
    | false =>
      dsimp only
      rw [compD_if p xs acc (fun z hz => h z (List.mem_cons_of_mem _ hz)) (by omega), List.filter_cons_of_neg (by rw [hp]; decide)]
    | true =>
      dsimp only
      rw [h3 hp]
      dsimp only
      rw [if_pos (by omega), compD_if p xs _ (fun z hz => h z (List.mem_cons_of_mem _ hz)) (by rw [List.length_append, List.length_singleton]; omega), List.filter_cons_of_pos hp, List.map_cons, List.append_assoc]
      rfl
section
variable (cl : List Str)
def gWhole : T.Env → SO := sRet (mAndV (mUn (dIsi cl [.b "int"]) (mVar 0)) (mNotV (mUn (dIsi cl [.b "bool"]) (mVar 0))))
def mWhole : List D → O D := mDef 1 1 .sh (gWhole cl)
def saB (rec : List D → O D) : T.Env → SO := sSeq (sIf (mNot (mTest (mApp rec (mCons (mBin dIx (mVar 0) (mVar 2)) (mCons (mBin dIx (mVar 1) (mVar 2)) (mNil)))))) (sRet (mC (.bl false))) (sNext)) (sNext)
def gSame (rec : List D → O D) : T.Env → SO := sSeq (sIf (mTest (mBin dIsN (mVar 1) (mC .non))) (sRet (mBin dIsN (mVar 0) (mC .non))) (sNext)) (sSeq (sIf (mTest (mUn (dIsi cl [.b "bool"]) (mVar 1))) (sRet (mAndV (mUn (dIsi cl [.b "bool"]) (mVar 0)) (mBin dEq (mVar 0) (mVar 1)))) (sNext)) (sSeq (sIf (mTest (mUn (dIsi cl [.b "int"]) (mVar 1))) (sRet (mAndV (mApp (mWhole cl) (mCons (mVar 0) (mNil))) (mBin dEq (mVar 0) (mVar 1)))) (sNext)) (sSeq (sIf (mTest (mUn (dIsi cl [.b "str"]) (mVar 1))) (sRet (mAndV (mUn (dIsi cl [.b "str"]) (mVar 0)) (mBin dEq (mVar 0) (mVar 1)))) (sNext)) (sSeq (sIf (mAnd (mTest (mUn (dIsi cl [.b "list"]) (mVar 1))) (mNot (mTest (mUn (dIsi cl [.b "list"]) (mVar 0))))) (sRet (mC (.bl false))) (sNext)) (sSeq (sIf (mAnd (mTest (mUn (dIsi cl [.b "tuple"]) (mVar 1))) (mNot (mTest (mUn (dIsi cl [.b "tuple"]) (mVar 0))))) (sRet (mC (.bl false))) (sNext)) (sSeq (sIf (mTest (mBin dNe (mCall dLen (mCons (mVar 0) (mNil))) (mCall dLen (mCons (mVar 1) (mNil))))) (sRet (mC (.bl false))) (sNext)) (sSeq (sFor (mRange1 (mCons (mCall dLen (mCons (mVar 1) (mNil))) (mNil))) (.nm 2) (saB rec)) (sRet (mC (.bl true))))))))))
def mSame (rec : List D → O D) : List D → O D := mDef 3 2 .sh (gSame cl rec)
def rSame : Nat → List D → O D
  | 0 => fun _ => .stuck
  | n + 1 => mSame cl (rSame n)
def okD : Nat → D → Bool
  | 0, _ => false
  | _ + 1, .non => true
  | _ + 1, .bl _ => true
  | _ + 1, .int _ => true
  | _ + 1, .str _ => true
  | n + 1, .lst ds => decide (ds.length ≤ 1000) && ds.all (okD n)
  | n + 1, .tup ds => decide (ds.length ≤ 1000) && ds.all (okD n)
  | _ + 1, _ => false
theorem sa_loop (rec : List D → O D) (a : D) (xs : List D) (ha : a = .lst xs ∨ a = .tup xs) (hr : ∀ d ∈ xs, rec [d, d] = .ok (.bl true)) : ∀ (m k : Nat) (o : Option D), k + m = xs.length → ∃ o', forD (.nm 2) (saB rec) ((List.range' k m).map fun (i : Nat) => D.int i) [some a, some a, o] = .nx [some a, some a, o']
  | 0, k, o, _ => ⟨o, by rw [List.range'_zero, List.map_nil, e_forD0]⟩
  | m + 1, k, o, h => by
    have hk : k < xs.length := by omega
    obtain ⟨o', h2⟩ := sa_loop rec a xs ha hr m (k + 1) (some (.int k)) (by omega)
    refine ⟨o', ?_⟩
    rw [List.range'_succ, List.map_cons, forD_nx (ρ1 := [some a, some a, some (.int k)]) (ρ2 := [some a, some a, some (.int k)]) rfl ?_]
    · exact h2
    · have hx : atI xs (k : Int) = some xs[k] := by rw [T.atI_nat]; exact List.getElem?_eq_getElem hk
      have hi : dIx a (.int k) = .ok xs[k] := by
        rcases ha with rfl | rfl
        · rw [e_ixL, hx]
        · rw [e_ixT, hx]
      have := hr xs[k] (List.getElem_mem hk)
      unfold saB
      simp only [e_def, e_start, List.length_cons, List.length_nil, if_true, List.map_cons, List.map_nil, List.cons_append, List.nil_append, List.replicate, e_sSeq, e_sAsg, e_mC, List.set_cons_succ, List.set_cons_zero, e_mCall, e_mCons, e_mNil, e_mVar, List.getElem?_cons_succ, List.getElem?_cons_zero, bind_ok, e_intI, e_noX, e_sIf, e_mTest, e_mBin, e_mUn, e_asB, e_sRet, e_end1, e_mApp, e_mLst, e_mTup, e_sNext, e_mNot, e_mAnd, e_mOr, e_mAndV, e_mNotV, hi, this, Bool.not_true, Bool.false_eq_true, if_false]
theorem same_seq (rec : List D → O D) (a : D) (xs : List D) (ha : a = .lst xs ∨ a = .tup xs) (hl : xs.length ≤ 1000) (hr : ∀ d ∈ xs, rec [d, d] = .ok (.bl true)) : mSame cl rec [a, a] = .ok (.bl true) := by
  obtain ⟨o', h2⟩ := sa_loop rec a xs ha hr xs.length 0 none (Nat.zero_add _)
  rw [← range0] at h2
  have hok : okR 0 (xs.length : Int) = true := okR_nat (a := 0) (by omega) (by omega)
  have i0 : a.isN = false := by rcases ha with rfl | rfl <;> rfl
  have i1 : dIsi cl [.b "bool"] a = .ok (.bl false) := by rcases ha with rfl | rfl <;> rfl
  have i2 : dIsi cl [.b "int"] a = .ok (.bl false) := by rcases ha with rfl | rfl <;> rfl
  have i3 : dIsi cl [.b "str"] a = .ok (.bl false) := by rcases ha with rfl | rfl <;> rfl
  have i4 : ∃ b, dIsi cl [.b "list"] a = .ok (.bl b) := by rcases ha with rfl | rfl <;> exact ⟨_, rfl⟩
  have i5 : ∃ b, dIsi cl [.b "tuple"] a = .ok (.bl b) := by rcases ha with rfl | rfl <;> exact ⟨_, rfl⟩
  obtain ⟨b4, i4⟩ := i4
  obtain ⟨b5, i5⟩ := i5
  have i6 : dLen [a] = .ok (.int xs.length) := by rcases ha with rfl | rfl <;> rfl
  unfold mSame gSame
  have c4 : (if b4 = true then (O.ok (!b4) : O Bool) else .ok false) = .ok false := by cases b4 <;> rfl
  have c5 : (if b5 = true then (O.ok (!b5) : O Bool) else .ok false) = .ok false := by cases b5 <;> rfl
  simp only [e_def, e_start, List.length_cons, List.length_nil, if_true, List.map_cons, List.map_nil, List.cons_append, List.nil_append, List.replicate, e_sSeq, e_sAsg, e_mC, List.set_cons_succ, List.set_cons_zero, e_mCall, e_mCons, e_mNil, e_mVar, List.getElem?_cons_succ, List.getElem?_cons_zero, bind_ok, e_intI, e_noX, e_sIf, e_mTest, e_mBin, e_mUn, e_asB, e_sRet, e_end1, e_mApp, e_mLst, e_mTup, e_sNext, e_mNot, e_mAnd, e_mOr, e_mAndV, e_mNotV, e_isN, i0, i1, i2, i3, i4, i5, i6, c4, c5, e_neI, decide_true, Bool.not_true, Bool.false_eq_true, if_false, e_sFor, e_mRange1, e_dRange1, hok, h2]
theorem same_ok : ∀ (n : Nat) (d : D), okD n d = true → rSame cl n [d, d] = .ok (.bl true)
  | 0, _, h => by cases h
  | n + 1, .non, _ => rfl
  | n + 1, .bl b, _ => by
    have e : rSame cl (n + 1) [.bl b, .bl b] = .ok (.bl (decide (b = b))) := rfl
    rw [e, decide_eq_true rfl]
  | n + 1, .int i, _ => by
    have e : rSame cl (n + 1) [.int i, .int i] = .ok (.bl (decide (i = i))) := rfl
    rw [e, decide_eq_true rfl]
  | n + 1, .str s, _ => by
    have e : rSame cl (n + 1) [.str s, .str s] = .ok (.bl (decide (s = s))) := rfl
    rw [e, decide_eq_true rfl]
  | n + 1, .lst ds, h => by
    have h : (decide (ds.length ≤ 1000) && ds.all (okD n)) = true := h
    rw [Bool.and_eq_true, decide_eq_true_eq, List.all_eq_true] at h
    exact same_seq cl _ _ ds (.inl rfl) h.1 fun d hd => same_ok n d (h.2 d hd)
  | n + 1, .tup ds, h => by
    have h : (decide (ds.length ≤ 1000) && ds.all (okD n)) = true := h
    rw [Bool.and_eq_true, decide_eq_true_eq, List.all_eq_true] at h
    exact same_seq cl _ _ ds (.inr rfl) h.1 fun d hd => same_ok n d (h.2 d hd)
  | n + 1, .scr _, h => nomatch h
  | n + 1, .ins _ _, h => nomatch h
  | n + 1, .exc _ _, h => nomatch h
  | n + 1, .exv _ _, h => nomatch h
  | n + 1, .dct _, h => nomatch h
  | n + 1, .dck _, h => nomatch h
  | n + 1, .set _, h => nomatch h
theorem okD_up : ∀ (n : Nat) (d : D), okD n d = true → okD (n + 1) d = true
  | 0, _, h => by cases h
  | n + 1, .non, _ => rfl
  | n + 1, .bl _, _ => rfl
  | n + 1, .int _, _ => rfl
  | n + 1, .str _, _ => rfl
  | n + 1, .lst ds, h => by
    have h : (decide (ds.length ≤ 1000) && ds.all (okD n)) = true := h
    show (decide (ds.length ≤ 1000) && ds.all (okD (n + 1))) = true
    rw [Bool.and_eq_true, decide_eq_true_eq, List.all_eq_true] at h ⊢
    exact ⟨h.1, fun d hd => okD_up n d (h.2 d hd)⟩
  | n + 1, .tup ds, h => by
    have h : (decide (ds.length ≤ 1000) && ds.all (okD n)) = true := h
    show (decide (ds.length ≤ 1000) && ds.all (okD (n + 1))) = true
    rw [Bool.and_eq_true, decide_eq_true_eq, List.all_eq_true] at h ⊢
    exact ⟨h.1, fun d hd => okD_up n d (h.2 d hd)⟩
  | n + 1, .scr _, h => nomatch h
  | n + 1, .ins _ _, h => nomatch h
  | n + 1, .exc _ _, h => nomatch h
  | n + 1, .exv _ _, h => nomatch h
  | n + 1, .dct _, h => nomatch h
  | n + 1, .dck _, h => nomatch h
  | n + 1, .set _, h => nomatch h
theorem okD_le {m n : Nat} (h : m ≤ n) {d : D} (o : okD m d = true) : okD n d = true := by
  induction h with
  | refl => exact o
  | step _ ih => exact okD_up _ _ ih
end
end CS

set_option Elab.async false
set_option linter.all false
set_option maxRecDepth 100000
set_option maxHeartbeats 1000000
namespace K90
open PySem L2 T CM
def names : List Str := [Str.ofString "BadPins", Str.ofString "BadPin", Str.ofString "SamePin", Str.ofString "BadGap", Str.ofString "NoPair", Str.ofString "OddPin", Str.ofString "UnlikePins", Str.ofString "BadCord", Str.ofString "NotPart", Str.ofString "BadNumber", Str.ofString "BadTable", Str.ofString "NoLot", Str.ofString "NoMove", Str.ofString "OddEnds", Str.ofString "Barred", Str.ofString "TooMany", Str.ofString "BadWidth", Str.ofString "BadTurn", Str.ofString "DoubleEnd", Str.ofString "MissingEnd", Str.ofString "LooseJoint", Str.ofString "NotPlane", Str.ofString "BadItem", Str.ofString "BadJoint", Str.ofString "BadTrack", Str.ofString "OddJoint", Str.ofString "BadDeed", Str.ofString "Refused", Str.ofString "BadWire", Str.ofString "SharedLand", Str.ofString "OddLand", Str.ofString "BadLanes", Str.ofString "BadLetter", Str.ofString "UnlikeLanes", Str.ofString "BadPairing", Str.ofString "BadCap", Str.ofString "BadPair", Str.ofString "NoWishes", Str.ofString "NothingToUndo", Str.ofString "NoteError"]
def made0 (w x y z : Int) (t b l : D) : List D := [.exv "BadPins" [("pins", t)], .exv "BadPin" [("pin", t)], .exv "SamePin" [("pin", (.int w))], .exv "BadGap" [("gap", t)], .exv "NoPair" [("pins", (.int w))], .exv "OddPin" [("pin", (.int w))], .exv "UnlikePins" [("other", (.int x)), ("one", (.int w))], .exv "BadCord" [("entry", t)], .exv "NotPart" [("b", (.int x)), ("a", (.int w))], .exv "BadNumber" [("number", t)]]
def made1 (w x y z : Int) (t b l : D) : List D := [.exv "BadTable" [("column", (.int x)), ("row", (.int w))], .exv "NoLot" [("twice", (.int y)), ("b", (.int x)), ("a", (.int w))], .exv "NoMove" [("move", t)], .exv "OddEnds" [("pins", b)], .exv "Barred" [("wished", (.int z)), ("held", (.int y)), ("last", (.int x)), ("first", (.int w))], .exv "TooMany" [("number", (.int w))], .exv "BadWidth" [("track", (.int w))], .exv "BadTurn" [("joint", (.int w))], .exv "DoubleEnd" [("end", (.int w))], .exv "MissingEnd" [("end", (.int w))]]
def made2 (w x y z : Int) (t b l : D) : List D := [.exv "LooseJoint" [("joint", (.int w))], .exv "NotPlane" [("due", (.int x)), ("found", (.int w))], .exv "BadItem" [("item", t)], .exv "BadJoint" [("joint", t)], .exv "BadTrack" [("track", t)], .exv "OddJoint" [("joint", (.int w))], .exv "BadDeed" [("deed", t), ("place", (.int w))], .exv "Refused" [("deed", b), ("place", (.int w))], .exv "BadWire" [("wire", t)], .exv "SharedLand" [("last", (.int x)), ("first", (.int w))]]
def made3 (w x y z : Int) (t b l : D) : List D := [.exv "OddLand" [("land", (.int w))], .exv "BadLanes" [("number", t)], .exv "BadLetter" [("letter", t), ("place", (.int w))], .exv "UnlikeLanes" [("other", (.int x)), ("one", (.int w))], .exv "BadPairing" [("lot", l)], .exv "BadCap" [("pin", (.int w))], .exv "BadPair" [("pair", t)], .exv "NoWishes" [], .exv "NothingToUndo" [], .exv "NoteError" [("line", (.int w))]]
def made (w x y z : Int) (t b l : D) : List D := made0 w x y z t b l ++ made1 w x y z t b l ++ made2 w x y z t b l ++ made3 w x y z t b l
theorem placed_eq (w x y z : Int) (t b l : D) : m__law_placed [.int w, .int x, .int y, .int z, t, b, l] = .ok (.lst (made w x y z t b l)) := by kernel_rfl
theorem named_eq (w x y z : Int) (t b l : D) : m__law_named [.int w, .int x, .int y, .int z, t, b, l] = .ok (.lst (made w x y z t b l)) := by kernel_rfl
def toldL (w x y z : Int) (t b : D) : List D := match m__law_passed [.int w, .int x, .int y, .int z, t, b] with
  | .ok (.lst l) => l
  | _ => []
theorem passed_eq (w x y z : Int) (t b : D) : m__law_passed [.int w, .int x, .int y, .int z, t, b] = .ok (.lst (toldL w x y z t b)) := by kernel_rfl
theorem fields_eq (w x y z : Int) (t b l : D) : m__law_fields [.lst (made w x y z t b l)] = .ok (.lst (toldL w x y z t b)) := by kernel_rfl
/-! ### kinds -/
theorem e_xIs {c : Str} {u : Ty} (fs : List (Str × D)) (hc : c ∈ ers) (hu : u ∈ eru) : xIs erb ers eru u (.exv c fs) = .ok (.bl (xis erb c u)) := if_pos ⟨hc, hu⟩
theorem mem_ers : ∀ c ∈ names, c ∈ ers := by decide +kernel
theorem mem_eru : ∀ c ∈ names, Ty.o c ∈ eru := by decide +kernel
def xsM : List Str → T.Env → O (List D)
  | [] => mNil
  | u :: us => mCons (mUn (xIs erb ers eru (.o u)) (mVar 0)) (xsM us)
def xsL (c : Str) (us : List Str) : List D := us.map fun u => D.bl (xis erb c (.o u))
theorem xsM_eq {c : Str} (fs : List (Str × D)) (o : Option D) (hc : c ∈ ers) : ∀ us : List Str, (∀ u ∈ us, u ∈ names) → xsM us [some (.exv c fs), o] = .ok (xsL c us)
  | [], _ => rfl
  | u :: us, h => by
    unfold xsM
    simp only [e_mCons, e_mUn, e_mVar, List.getElem?_cons_zero, bind_ok, e_xIs fs hc (mem_eru u (h u List.mem_cons_self)), xsM_eq fs o hc us fun v hv => h v (List.mem_cons_of_mem _ hv)]
    rfl
def gr0 : List Str := [Str.ofString "BadPins", Str.ofString "BadPin", Str.ofString "SamePin", Str.ofString "BadGap"]
def gr1 : List Str := [Str.ofString "NoPair", Str.ofString "OddPin", Str.ofString "UnlikePins", Str.ofString "BadCord"]
def gr2 : List Str := [Str.ofString "NotPart", Str.ofString "BadNumber", Str.ofString "BadTable", Str.ofString "NoLot"]
def gr3 : List Str := [Str.ofString "NoMove", Str.ofString "OddEnds", Str.ofString "Barred", Str.ofString "TooMany"]
def gr4 : List Str := [Str.ofString "BadWidth", Str.ofString "BadTurn", Str.ofString "DoubleEnd"]
def gr5 : List Str := [Str.ofString "MissingEnd", Str.ofString "LooseJoint", Str.ofString "NotPlane"]
def gr6 : List Str := [Str.ofString "BadItem", Str.ofString "BadJoint", Str.ofString "BadTrack", Str.ofString "OddJoint"]
def gr7 : List Str := [Str.ofString "BadDeed", Str.ofString "Refused", Str.ofString "BadWire", Str.ofString "SharedLand"]
def gr8 : List Str := [Str.ofString "OddLand", Str.ofString "BadLanes", Str.ofString "BadLetter"]
def gr9 : List Str := [Str.ofString "UnlikeLanes", Str.ofString "BadPairing", Str.ofString "BadCap"]
def gr10 : List Str := [Str.ofString "BadPair", Str.ofString "NoWishes", Str.ofString "NothingToUndo"]
def gr11 : List Str := [Str.ofString "NoteError"]
theorem gr_mem : (∀ u ∈ gr0, u ∈ names) ∧ (∀ u ∈ gr1, u ∈ names) ∧ (∀ u ∈ gr2, u ∈ names) ∧ (∀ u ∈ gr3, u ∈ names) ∧ (∀ u ∈ gr4, u ∈ names) ∧ (∀ u ∈ gr5, u ∈ names) ∧ (∀ u ∈ gr6, u ∈ names) ∧ (∀ u ∈ gr7, u ∈ names) ∧ (∀ u ∈ gr8, u ∈ names) ∧ (∀ u ∈ gr9, u ∈ names) ∧ (∀ u ∈ gr10, u ∈ names) ∧ (∀ u ∈ gr11, u ∈ names) := by decide +kernel
theorem kinds_g : g__law_kinds = sSeq (sAsg 1 (mLst (xsM gr0))) (sSeq (sAsg 1 (mBin dAdd (mVar 1) (mLst (xsM gr1)))) (sSeq (sAsg 1 (mBin dAdd (mVar 1) (mLst (xsM gr2)))) (sSeq (sAsg 1 (mBin dAdd (mVar 1) (mLst (xsM gr3)))) (sSeq (sAsg 1 (mBin dAdd (mVar 1) (mLst (xsM gr4)))) (sSeq (sAsg 1 (mBin dAdd (mVar 1) (mLst (xsM gr5)))) (sSeq (sAsg 1 (mBin dAdd (mVar 1) (mLst (xsM gr6)))) (sSeq (sAsg 1 (mBin dAdd (mVar 1) (mLst (xsM gr7)))) (sSeq (sAsg 1 (mBin dAdd (mVar 1) (mLst (xsM gr8)))) (sSeq (sAsg 1 (mBin dAdd (mVar 1) (mLst (xsM gr9)))) (sSeq (sAsg 1 (mBin dAdd (mVar 1) (mLst (xsM gr10)))) (sRet (mBin dAdd (mVar 1) (mLst (xsM gr11)))))))))))))) := rfl
def kindsL (c : Str) : List D := (((((((((((xsL c gr0 ++ xsL c gr1) ++ xsL c gr2) ++ xsL c gr3) ++ xsL c gr4) ++ xsL c gr5) ++ xsL c gr6) ++ xsL c gr7) ++ xsL c gr8) ++ xsL c gr9) ++ xsL c gr10) ++ xsL c gr11)
theorem kinds_eq {c : Str} (fs : List (Str × D)) (hc : c ∈ ers) : m__law_kinds [.exv c fs] = .ok (.lst (kindsL c)) := by
  obtain ⟨h0, h1, h2, h3, h4, h5, h6, h7, h8, h9, h10, h11⟩ := gr_mem
  unfold m__law_kinds
  rw [kinds_g]
  have X : ∀ (us : List Str) (o : Option D), (∀ u ∈ us, u ∈ names) → xsM us [some (.exv c fs), o] = .ok (xsL c us) := fun us o h => xsM_eq fs o hc us h
  have ll : ∀ us : List Str, (xsL c us).length = us.length := fun us => List.length_map _
  have K : ∀ us : List Str, us.length ≤ 40 → mkL (xsL c us) = .ok (.lst (xsL c us)) := fun us h => e_mkL (by rw [ll]; exact big (by omega))
  have Ad : ∀ (as bs : List D), as.length + bs.length ≤ 40 → dAdd (.lst as) (.lst bs) = .ok (.lst (as ++ bs)) := fun as bs h => by rw [e_addL, if_pos (big (by omega))]
  have k0 := K gr0 (by decide)
  have k1 := K gr1 (by decide)
  have k2 := K gr2 (by decide)
  have k3 := K gr3 (by decide)
  have k4 := K gr4 (by decide)
  have k5 := K gr5 (by decide)
  have k6 := K gr6 (by decide)
  have k7 := K gr7 (by decide)
  have k8 := K gr8 (by decide)
  have k9 := K gr9 (by decide)
  have k10 := K gr10 (by decide)
  have k11 := K gr11 (by decide)
  have a1 := Ad (xsL c gr0) (xsL c gr1) (by simp only [List.length_append, ll]; decide)
  have a2 := Ad ((xsL c gr0 ++ xsL c gr1)) (xsL c gr2) (by simp only [List.length_append, ll]; decide)
  have a3 := Ad (((xsL c gr0 ++ xsL c gr1) ++ xsL c gr2)) (xsL c gr3) (by simp only [List.length_append, ll]; decide)
  have a4 := Ad ((((xsL c gr0 ++ xsL c gr1) ++ xsL c gr2) ++ xsL c gr3)) (xsL c gr4) (by simp only [List.length_append, ll]; decide)
  have a5 := Ad (((((xsL c gr0 ++ xsL c gr1) ++ xsL c gr2) ++ xsL c gr3) ++ xsL c gr4)) (xsL c gr5) (by simp only [List.length_append, ll]; decide)
  have a6 := Ad ((((((xsL c gr0 ++ xsL c gr1) ++ xsL c gr2) ++ xsL c gr3) ++ xsL c gr4) ++ xsL c gr5)) (xsL c gr6) (by simp only [List.length_append, ll]; decide)
  have a7 := Ad (((((((xsL c gr0 ++ xsL c gr1) ++ xsL c gr2) ++ xsL c gr3) ++ xsL c gr4) ++ xsL c gr5) ++ xsL c gr6)) (xsL c gr7) (by simp only [List.length_append, ll]; decide)
  have a8 := Ad ((((((((xsL c gr0 ++ xsL c gr1) ++ xsL c gr2) ++ xsL c gr3) ++ xsL c gr4) ++ xsL c gr5) ++ xsL c gr6) ++ xsL c gr7)) (xsL c gr8) (by simp only [List.length_append, ll]; decide)
  have a9 := Ad (((((((((xsL c gr0 ++ xsL c gr1) ++ xsL c gr2) ++ xsL c gr3) ++ xsL c gr4) ++ xsL c gr5) ++ xsL c gr6) ++ xsL c gr7) ++ xsL c gr8)) (xsL c gr9) (by simp only [List.length_append, ll]; decide)
  have a10 := Ad ((((((((((xsL c gr0 ++ xsL c gr1) ++ xsL c gr2) ++ xsL c gr3) ++ xsL c gr4) ++ xsL c gr5) ++ xsL c gr6) ++ xsL c gr7) ++ xsL c gr8) ++ xsL c gr9)) (xsL c gr10) (by simp only [List.length_append, ll]; decide)
  have a11 := Ad (((((((((((xsL c gr0 ++ xsL c gr1) ++ xsL c gr2) ++ xsL c gr3) ++ xsL c gr4) ++ xsL c gr5) ++ xsL c gr6) ++ xsL c gr7) ++ xsL c gr8) ++ xsL c gr9) ++ xsL c gr10)) (xsL c gr11) (by simp only [List.length_append, ll]; decide)
  simp only [e_def, e_start, List.length_cons, List.length_nil, if_true, List.map_cons, List.map_nil, List.cons_append, List.nil_append, List.replicate, e_sSeq, e_sAsg, e_mC, List.set_cons_succ, List.set_cons_zero, e_mCall, e_mCons, e_mNil, e_mVar, List.getElem?_cons_succ, List.getElem?_cons_zero, bind_ok, e_intI, e_noX, e_sIf, e_mTest, e_mBin, e_mUn, e_asB, e_sRet, e_end1, e_mApp, e_mLst, e_mTup, e_sNext, X gr0 _ h0, k0, X gr1 _ h1, k1, X gr2 _ h2, k2, X gr3 _ h3, k3, X gr4 _ h4, k4, X gr5 _ h5, k5, X gr6 _ h6, k6, X gr7 _ h7, k7, X gr8 _ h8, k8, X gr9 _ h9, k9, X gr10 _ h10, k10, X gr11 _ h11, k11, a1, a2, a3, a4, a5, a6, a7, a8, a9, a10, a11]
  rfl
def isF : O D → Bool
  | .ok (.bl false) => true
  | _ => false
theorem isF_ok : ∀ {d : O D}, isF d = true → d = .ok (.bl false)
  | .ok (.bl false), _ => rfl
  | .ok (.bl true), h => nomatch h
  | .ok .non, h => nomatch h
  | .ok (.int _), h => nomatch h
  | .ok (.str _), h => nomatch h
  | .ok (.tup _), h => nomatch h
  | .ok (.lst _), h => nomatch h
  | .ok (.scr _), h => nomatch h
  | .ok (.ins _ _), h => nomatch h
  | .ok (.exc _ _), h => nomatch h
  | .ok (.exv _ _), h => nomatch h
  | .ok (.dct _), h => nomatch h
  | .ok (.dck _), h => nomatch h
  | .ok (.set _), h => nomatch h
  | .exc _ _, h => nomatch h
  | .stuck, h => nomatch h
def ownL (k : Nat) : List D := (List.range' 0 40).map fun (j : Nat) => D.bl (decide ((j : Int) = (k : Int)))
theorem kinds_all : (List.range 40).all (fun k => isF (dNe (.lst (kindsL (names.getD k ""))) (.lst (ownL k)))) = true := by kernel_rfl
theorem err_all : names.all (fun c => xis erb c (.o "RimError") && xis erb c (.b "ValueError")) = true := by kernel_rfl
theorem mem_rim : Ty.o "RimError" ∈ eru ∧ Ty.b "ValueError" ∈ eru := by decide +kernel
end K90

set_option Elab.async false
set_option linter.all false
set_option maxRecDepth 100000
set_option maxHeartbeats 1000000
namespace K90
open PySem L2 T CM
theorem cell90 (ns : List Int) (k : Nat) (hk : k ≤ 100) : ∃ c : Int, m__law_cell [.scr ns, .int k] = .ok (.int c) := cell_eq ns k hk
theorem digits90 (c : Int) (ss : List Int) (hs : Szs ss) (hz : ss.length ≤ 1000) : ∃ ds, Dg ss ds ∧ m__law_digits [.int c, .lst (ss.map .int)] = .ok (.lst (ds.map .int)) := digits_eq c ss hs hz
theorem mkL5 (a b c d e : D) : mkL [a, b, c, d, e] = .ok (.lst [a, b, c, d, e]) := rfl
theorem mkL6 (a b c d e f : D) : mkL [a, b, c, d, e, f] = .ok (.lst [a, b, c, d, e, f]) := rfl
theorem ix_c (xs : List D) (k : Nat) (d : D) (h : xs[k]? = some d) : dIx (.lst xs) (.int k) = .ok d := by
  rw [e_ixL, T.atI_nat, h]
theorem szs_of {ss : List Int} (h : (ss.all fun s => decide (0 < s) && decide (s < 1073741824)) = true) : Szs ss := fun s hs => by
  have := List.all_eq_true.mp h s hs
  rw [Bool.and_eq_true, decide_eq_true_eq, decide_eq_true_eq] at this
  exact this
theorem number_eq (c : Int) : ∃ i : Int, m__law_number [.int c] = .ok (.int i) := by
  obtain ⟨ds, hd, he⟩ := digits90 c [5, 10, 1000000001] (szs_of (by decide)) (by decide)
  match ds, hd, he with
  | [a, b, e], hd, he =>
    obtain ⟨⟨a0, a5⟩, _⟩ := hd
    have hp : dPow (.int 10) (.int 9) = .ok (.int 1000000000) := rfl
    have he' : m__law_digits [.int c, .lst [.int 5, .int 10, .int (1000000000 + 1)]] = .ok (.lst [.int a, .int b, .int e]) := he
    have i1 : dIx (.lst [.int a, .int b, .int e]) (.int 0) = .ok (.int a) := rfl
    have i2 : dIx (.lst [.int a, .int b, .int e]) (.int 1) = .ok (.int b) := rfl
    have i3 : dIx (.lst [.int a, .int b, .int e]) (.int 2) = .ok (.int e) := rfl
    have n1 : dNeg (.int 1) = .ok (.int (-1)) := rfl
    unfold m__law_number g__law_number
    simp only [e_def, e_start, List.length_cons, List.length_nil, if_true, List.map_cons, List.map_nil, List.cons_append, List.nil_append, List.replicate, e_sSeq, e_sAsg, e_mC, List.set_cons_succ, List.set_cons_zero, e_mCall, e_mCons, e_mNil, e_mVar, List.getElem?_cons_succ, List.getElem?_cons_zero, bind_ok, e_intI, e_noX, e_sIf, e_mTest, e_mBin, e_mUn, e_asB, e_sRet, e_end1, e_mApp, e_mLst, e_mTup, e_sNext, e_mNot, e_mAnd, e_mOr, e_mAndV, e_mNotV, hp, e_addI, e_mkL3, he', i1, i2, i3, n1, e_neg, e_subI, mkL5]
    obtain rfl | rfl | rfl | rfl | rfl : a = 0 ∨ a = 1 ∨ a = 2 ∨ a = 3 ∨ a = 4 := by omega
    all_goals exact ⟨_, rfl⟩
def menu (w x : Int) : List D := [.tup [.int w, .int x, .int 1], .lst [.int w, .int x, .int 1], .lst [.int w, .lst [.int x, .int 2]], .tup [.int w, .lst [.int x], .non], .tup [.str "pin", .int w], .lst [.str "track", .int w, .int x], .tup [], .lst [], .str "", .str "0 1 2", .non, .bl true, .bl false, .int w, .int (-1), .lst [.tup [.int w, .int x], .tup [.int x, .int w]], .tup [.tup [.int w], .lst [.int x, .bl true]]]
theorem menu_ok (w x : Int) : ∀ d ∈ menu w x, CS.okD 3 d = true := by
  intro d hd
  simp only [menu, List.mem_cons, List.not_mem_nil, or_false] at hd
  rcases hd with rfl | rfl | rfl | rfl | rfl | rfl | rfl | rfl | rfl | rfl | rfl | rfl | rfl | rfl | rfl | rfl | rfl
  all_goals rfl
theorem thing_eq (c w x : Int) : ∃ t : D, m__law_thing [.int c, .int w, .int x] = .ok t ∧ CS.okD 3 t = true := by
  obtain ⟨ds, hd, he⟩ := digits90 c [17] (szs_of (by decide)) (by decide)
  match ds, hd, he with
  | [a], hd, he =>
    obtain ⟨⟨a0, a5⟩, _⟩ := hd
    have he' : m__law_digits [.int c, .lst [.int 17]] = .ok (.lst [.int a]) := he
    have eg : g__law_thing = sSeq (sAsg 3 (mLst (mCons (mTup (mCons (mVar 1) (mCons (mVar 2) (mCons (mC (.int 1)) (mNil))))) (mCons (mLst (mCons (mVar 1) (mCons (mVar 2) (mCons (mC (.int 1)) (mNil))))) (mCons (mLst (mCons (mVar 1) (mCons (mLst (mCons (mVar 2) (mCons (mC (.int 2)) (mNil)))) (mNil)))) (mCons (mTup (mCons (mVar 1) (mCons (mLst (mCons (mVar 2) (mNil))) (mCons (mC .non) (mNil))))) (mCons (mTup (mCons (mC (.str "pin")) (mCons (mVar 1) (mNil)))) (mCons (mLst (mCons (mC (.str "track")) (mCons (mVar 1) (mCons (mVar 2) (mNil))))) (mCons (mTup (mNil)) (mCons (mLst (mNil)) (mCons (mC (.str "")) (mCons (mC (.str "0 1 2")) (mNil))))))))))))) (sSeq (sAsg 3 (mBin dAdd (mVar 3) (mLst (mCons (mC .non) (mCons (mC (.bl true)) (mCons (mC (.bl false)) (mCons (mVar 1) (mCons (mUn dNeg (mC (.int 1))) (mCons (mLst (mCons (mTup (mCons (mVar 1) (mCons (mVar 2) (mNil)))) (mCons (mTup (mCons (mVar 2) (mCons (mVar 1) (mNil)))) (mNil)))) (mCons (mTup (mCons (mTup (mCons (mVar 1) (mNil))) (mCons (mLst (mCons (mVar 2) (mCons (mC (.bl true)) (mNil)))) (mNil)))) (mNil))))))))))) (sRet (mBin dIx (mVar 3) (mBin dIx (mApp m__law_digits (mCons (mVar 0) (mCons (mLst (mCons (mC (.int 17)) (mNil))) (mNil)))) (mC (.int 0)))))) := rfl
    have h1 : (mLst (mCons (mTup (mCons (mVar 1) (mCons (mVar 2) (mCons (mC (.int 1)) (mNil))))) (mCons (mLst (mCons (mVar 1) (mCons (mVar 2) (mCons (mC (.int 1)) (mNil))))) (mCons (mLst (mCons (mVar 1) (mCons (mLst (mCons (mVar 2) (mCons (mC (.int 2)) (mNil)))) (mNil)))) (mCons (mTup (mCons (mVar 1) (mCons (mLst (mCons (mVar 2) (mNil))) (mCons (mC .non) (mNil))))) (mCons (mTup (mCons (mC (.str "pin")) (mCons (mVar 1) (mNil)))) (mCons (mLst (mCons (mC (.str "track")) (mCons (mVar 1) (mCons (mVar 2) (mNil))))) (mCons (mTup (mNil)) (mCons (mLst (mNil)) (mCons (mC (.str "")) (mCons (mC (.str "0 1 2")) (mNil))))))))))) : T.Env → O D) [some (.int c), some (.int w), some (.int x), none] = .ok (.lst ((menu w x).take 10)) := by rfl
    have h2 : (mBin dAdd (mVar 3) (mLst (mCons (mC .non) (mCons (mC (.bl true)) (mCons (mC (.bl false)) (mCons (mVar 1) (mCons (mUn dNeg (mC (.int 1))) (mCons (mLst (mCons (mTup (mCons (mVar 1) (mCons (mVar 2) (mNil)))) (mCons (mTup (mCons (mVar 2) (mCons (mVar 1) (mNil)))) (mNil)))) (mCons (mTup (mCons (mTup (mCons (mVar 1) (mNil))) (mCons (mLst (mCons (mVar 2) (mCons (mC (.bl true)) (mNil)))) (mNil)))) (mNil))))))))) : T.Env → O D) [some (.int c), some (.int w), some (.int x), some (.lst ((menu w x).take 10))] = .ok (.lst (menu w x)) := by rfl
    have i1 : dIx (.lst [.int a]) (.int 0) = .ok (.int a) := rfl
    have hk : a.toNat < (menu w x).length := by
      show a.toNat < 17
      omega
    refine ⟨(menu w x)[a.toNat], ?_, menu_ok w x _ (List.getElem_mem hk)⟩
    have hx : dIx (.lst (menu w x)) (.int a) = .ok (menu w x)[a.toNat] := by
      have := ix_c (menu w x) a.toNat _ (List.getElem?_eq_getElem hk)
      rw [show ((a.toNat : Nat) : Int) = a by omega] at this
      exact this
    unfold m__law_thing
    rw [eg]
    simp only [e_def, e_start, List.length_cons, List.length_nil, if_true, List.map_cons, List.map_nil, List.cons_append, List.nil_append, List.replicate, e_sSeq, e_sAsg, h1, List.set_cons_succ, List.set_cons_zero, h2, e_sRet, e_mBin, e_mVar, List.getElem?_cons_succ, List.getElem?_cons_zero, bind_ok, e_mApp, e_mCons, e_mNil, e_mLst, e_mC, e_mkL1, he', i1, hx, e_end1]
theorem bits_at {ss ds : List Int} (h : Dg ss ds) (k : Nat) (hk : k < ss.length) : ∃ b : Int, ds[k]? = some b ∧ 0 ≤ b ∧ b < ss[k] := by
  induction ss generalizing ds k with
  | nil => exact absurd hk (Nat.not_lt_zero _)
  | cons s ss ih =>
    cases ds with
    | nil => exact h.elim
    | cons d ds =>
      cases k with
      | zero => exact ⟨d, rfl, h.1.1, h.1.2⟩
      | succ k => exact ih h.2 k (by simpa using hk)
theorem bag_eq (c : Int) : ∃ l : List Nat, l.length ≤ 6 ∧ m__law_bag [.int c] = .ok (.tup (l.map fun (k : Nat) => D.int k)) := by
  obtain ⟨ds, hd, he⟩ := digits90 c [2, 2, 2, 2, 2, 2] (szs_of (by decide)) (by decide)
  have he' : m__law_digits [.int c, .lst [.int 2, .int 2, .int 2, .int 2, .int 2, .int 2]] = .ok (.lst (ds.map .int)) := he
  have hc := CS.compD_if (tg := .nm 2) (c := mTest (mBin dEq (mBin dIx (mVar 1) (mVar 2)) (mC (.int 1)))) (e := mVar 2) (ρ := [some (.int c), some (.lst (ds.map .int)), none]) (fd := fun (k : Nat) => D.int k) (fz := fun (k : Nat) => D.int k) (fun k => decide (ds[k]? = some 1)) (List.range' 0 6) [] (fun k hk => by
    have hk6 : k < 6 := by simpa using hk
    obtain ⟨b, hb, _⟩ := bits_at hd k hk6
    have hx : dIx (.lst (ds.map .int)) (.int k) = .ok (.int b) := ix_c _ k _ (by rw [List.getElem?_map, hb]; rfl)
    refine ⟨[some (.int c), some (.lst (ds.map .int)), some (.int k)], rfl, ?_, fun _ => rfl⟩
    simp only [e_mTest, e_mBin, e_mVar, List.getElem?_cons_succ, List.getElem?_cons_zero, bind_ok, hx, e_mC, e_eqI, e_asB, hb, Option.some.injEq]) (by simp only [List.length_nil, List.length_range']; exact big (by omega))
  have hrg : dRange1 [.int 6] = .ok ((List.range' 0 6).map fun (k : Nat) => D.int k) := by rfl
  refine ⟨(List.range' 0 6).filter fun k => decide (ds[k]? = some 1), Nat.le_trans (List.length_filter_le _ _) (by simp), ?_⟩
  rw [List.nil_append] at hc
  have ht : ∀ l : List Nat, l.length ≤ 6 → dTuple [.lst (l.map fun (k : Nat) => D.int k)] = .ok (.tup (l.map fun (k : Nat) => D.int k)) := fun l hl => rfl
  unfold m__law_bag g__law_bag
  simp only [e_def, e_start, List.length_cons, List.length_nil, if_true, List.map_cons, List.map_nil, List.cons_append, List.nil_append, List.replicate, e_sSeq, e_sAsg, e_mC, List.set_cons_succ, List.set_cons_zero, e_mCall, e_mCons, e_mNil, e_mVar, List.getElem?_cons_succ, List.getElem?_cons_zero, bind_ok, e_intI, e_noX, e_sIf, e_mTest, e_mBin, e_mUn, e_asB, e_sRet, e_end1, e_mApp, e_mLst, e_mTup, e_sNext, e_mNot, e_mAnd, e_mOr, e_mAndV, e_mNotV, mkL6, he', e_mComp, e_mRange1, hrg, e_wipe0, e_wipe1, hc, ht _ (Nat.le_trans (List.length_filter_le _ _) (by simp) : ((List.range' 0 6).filter fun k => decide (ds[k]? = some 1)).length ≤ 6)]
end K90

set_option Elab.async false
set_option linter.all false
set_option maxRecDepth 100000
set_option maxHeartbeats 1000000
namespace K90
open PySem L2 T CM
open CL (triD lotD Tri F2 Ent Norm pr comb)
/-! ### lots -/
def bt (ds : List Int) (k : Nat) : Int := ds.getD k 0
def tsOf (ds : List Int) (m : Nat) : List (Int × Int × Int) := ((List.range' 1 m).filter fun (k : Nat) => decide (0 < bt ds k)).map fun (k : Nat) => ((0 : Int), (k : Int), bt ds k)
theorem tsOf_norm (ds : List Int) (m : Nat) : Norm (tsOf ds m) := by
  refine ⟨fun t ht => ?_, ?_⟩
  · obtain ⟨k, hk, rfl⟩ := List.mem_map.mp ht
    obtain ⟨h1, h2⟩ := List.mem_filter.mp hk
    have h1 := List.mem_range'_1.mp h1
    exact ⟨by show (0 : Int) < (k : Int); omega, of_decide_eq_true h2⟩
  · unfold tsOf
    rw [List.map_map]
    refine List.pairwise_map.mpr (List.Pairwise.filter _ (List.Pairwise.imp (fun {a b} hab => ?_) (List.pairwise_lt_range' (s := 1) (n := m))))
    exact SrtO.lexB_iff.mpr (.inr ⟨rfl, by show (a : Int) < (b : Int); omega⟩)
theorem tsOf_ent (ds : List Int) (m : Nat) : ∀ t ∈ tsOf ds m, Ent ((m : Int) + 1) t := by
  intro t ht
  obtain ⟨k, hk, rfl⟩ := List.mem_map.mp ht
  obtain ⟨h1, h2⟩ := List.mem_filter.mp hk
  have h1 := List.mem_range'_1.mp h1
  have h3 : 0 < bt ds k := of_decide_eq_true h2
  refine ⟨?_, ?_, ?_, ?_, ?_, ?_⟩ <;> (dsimp only; omega)
theorem tsOf_len (ds : List Int) (m : Nat) : (tsOf ds m).length ≤ m := by
  unfold tsOf
  rw [List.length_map]
  exact Nat.le_trans (List.length_filter_le _ _) (Nat.le_of_eq List.length_range')
theorem lot_eq (c : Int) : ∃ (ds : List Int) (m : Nat), m ≤ 5 ∧ m__law_lot [.int c] = .ok (.lst [.int ((m : Int) + 1), .tup ((tsOf ds m).map triD)]) := by
  obtain ⟨ds, hd, he⟩ := digits90 c [5, 3, 4, 3, 4, 3] (szs_of (by decide)) (by decide)
  have he' : m__law_digits [.int c, .lst [.int 5, .int 3, .int 4, .int 3, .int 4, .int 3]] = .ok (.lst (ds.map .int)) := he
  obtain ⟨b0, hb0, p0, p5⟩ := bits_at hd 0 (by decide)
  have p5 : b0 < 5 := p5
  have hx0 : dIx (.lst (ds.map .int)) (.int 0) = .ok (.int b0) := ix_c _ 0 _ (by rw [List.getElem?_map, hb0]; rfl)
  obtain ⟨m, hm⟩ : ∃ m : Nat, b0 = (m : Int) := ⟨b0.toNat, by omega⟩
  subst hm
  refine ⟨ds, m + 1, by omega, ?_⟩
  have hbt : ∀ k : Nat, k < 6 → dIx (.lst (ds.map .int)) (.int k) = .ok (.int (bt ds k)) := fun k hk => by
    obtain ⟨b, hb, _⟩ := bits_at hd k hk
    refine ix_c _ k _ ?_
    rw [List.getElem?_map, hb]
    unfold bt
    rw [List.getD_eq_getElem?_getD, hb]
    rfl
  have hc := CS.compD_if (tg := .nm 2) (c := mTest (mBin dGt (mBin dIx (mVar 1) (mVar 2)) (mC (.int 0)))) (e := mTup (mCons (mC (.int 0)) (mCons (mVar 2) (mCons (mBin dIx (mVar 1) (mVar 2)) (mNil))))) (ρ := [some (.int c), some (.lst (ds.map .int)), none]) (fd := fun (k : Nat) => D.int k) (fz := fun (k : Nat) => triD ((0 : Int), (k : Int), bt ds k)) (fun (k : Nat) => decide (0 < bt ds k)) (List.range' 1 (m + 1)) [] (fun k hk => by
    have hk6 : k < 6 := by have := List.mem_range'_1.mp hk; omega
    refine ⟨[some (.int c), some (.lst (ds.map .int)), some (.int k)], rfl, ?_, fun _ => ?_⟩
    · simp only [e_def, e_start, List.length_cons, List.length_nil, if_true, List.map_cons, List.map_nil, List.cons_append, List.nil_append, List.replicate, e_sSeq, e_sAsg, e_mC, List.set_cons_succ, List.set_cons_zero, e_mCall, e_mCons, e_mNil, e_mVar, List.getElem?_cons_succ, List.getElem?_cons_zero, bind_ok, e_intI, e_noX, e_sIf, e_mTest, e_mBin, e_mUn, e_asB, e_sRet, e_end1, e_mApp, e_mLst, e_mTup, e_sNext, e_mNot, e_mAnd, e_mOr, e_mAndV, e_mNotV, hbt k hk6, e_gt]
    · simp only [e_def, e_start, List.length_cons, List.length_nil, if_true, List.map_cons, List.map_nil, List.cons_append, List.nil_append, List.replicate, e_sSeq, e_sAsg, e_mC, List.set_cons_succ, List.set_cons_zero, e_mCall, e_mCons, e_mNil, e_mVar, List.getElem?_cons_succ, List.getElem?_cons_zero, bind_ok, e_intI, e_noX, e_sIf, e_mTest, e_mBin, e_mUn, e_asB, e_sRet, e_end1, e_mApp, e_mLst, e_mTup, e_sNext, e_mNot, e_mAnd, e_mOr, e_mAndV, e_mNotV, hbt k hk6, e_mkT3]
      rfl) (by simp only [List.length_nil, List.length_range']; exact big (by omega))
  rw [List.nil_append] at hc
  have hrg : dRange2 [.int 1, .int (2 + (m : Int))] = .ok ((List.range' 1 (m + 1)).map fun (k : Nat) => D.int k) := by
    have e : (2 + (m : Int)) = ((m + 1 + 1 : Nat) : Int) := by omega
    rw [e, e_dRange2, if_pos (show okR 1 ((m + 1 + 1 : Nat) : Int) = true from okR_nat (a := 1) (b := m + 1 + 1) (by omega) (by omega)), range1]
  have ht : ∀ l : List Nat, dTuple [.lst (l.map fun (k : Nat) => triD ((0 : Int), (k : Int), bt ds k))] = .ok (.tup (l.map fun (k : Nat) => triD ((0 : Int), (k : Int), bt ds k))) := fun l => rfl
  have em : (tsOf ds (m + 1)).map triD = ((List.range' 1 (m + 1)).filter fun (k : Nat) => decide (0 < bt ds k)).map fun (k : Nat) => triD ((0 : Int), (k : Int), bt ds k) := by
    unfold tsOf
    rw [List.map_map]
    rfl
  unfold m__law_lot g__law_lot
  simp only [e_def, e_start, List.length_cons, List.length_nil, if_true, List.map_cons, List.map_nil, List.cons_append, List.nil_append, List.replicate, e_sSeq, e_sAsg, e_mC, List.set_cons_succ, List.set_cons_zero, e_mCall, e_mCons, e_mNil, e_mVar, List.getElem?_cons_succ, List.getElem?_cons_zero, bind_ok, e_intI, e_noX, e_sIf, e_mTest, e_mBin, e_mUn, e_asB, e_sRet, e_end1, e_mApp, e_mLst, e_mTup, e_sNext, e_mNot, e_mAnd, e_mOr, e_mAndV, e_mNotV, mkL6, he', hx0, e_addI, e_mComp, e_mRange2, hrg, e_wipe0, e_wipe1, hc, ht, e_mkL2, em]
  rw [show (2 + (m : Int)) = (((m + 1 : Nat) : Int) + 1) by omega]
/-! ### the same -/
theorem same90 : ∀ n : Nat, mr__law_same n = CS.rSame cl n
  | 0 => rfl
  | n + 1 => by
    show m__law_same (mr__law_same n) = CS.mSame cl (CS.rSame cl n)
    rw [same90 n]
    rfl
theorem same_ok (n : Nat) {d : D} (h : CS.okD n d = true) : mr__law_same n [d, d] = .ok (.bl true) := by
  rw [same90]
  exact CS.same_ok cl n d h
/-! ### right -/
def cn : D → Option Str
  | .exv c _ => some c
  | _ => none
theorem cn_of {d : D} {c : Str} (h : cn d = some c) : ∃ fs, d = .exv c fs := by
  cases d with
  | exv c' fs => cases h; exact ⟨fs, rfl⟩
  | _ => cases h
theorem made_cn (w x y z : Int) (t b l : D) : (made w x y z t b l).map cn = names.map some := by kernel_rfl
theorem at_cn {ms : List D} (h : ms.map cn = names.map some) (k : Nat) (hk : k < 40) : ∃ fs, ms[k]? = some (.exv (names.getD k "") fs) := by
  have hn : k < names.length := hk
  have e : (ms.map cn)[k]? = (names.map some)[k]? := by rw [h]
  rw [List.getElem?_map, List.getElem?_map, List.getElem?_eq_getElem hn] at e
  have e2 : names.getD k "" = names[k] := by rw [List.getD_eq_getElem?_getD, List.getElem?_eq_getElem hn]; rfl
  cases hm : ms[k]? with
  | none => rw [hm] at e; cases e
  | some d =>
    rw [hm] at e
    obtain ⟨fs, hf⟩ := cn_of (Option.some.inj e)
    exact ⟨fs, by rw [hf, e2]⟩
def riB : T.Env → SO := sSeq (sIf (mOr (mNot (mTest (mUn (xIs erb ers eru (.o "RimError")) (mBin dIx (mVar 0) (mVar 2))))) (mNot (mTest (mUn (xIs erb ers eru (.b "ValueError")) (mBin dIx (mVar 0) (mVar 2)))))) (sRet (mC (.bl false))) (sNext)) (sSeq (sIf (mTest (mBin dNe (mApp m__law_kinds (mCons (mBin dIx (mVar 0) (mVar 2)) (mNil))) (mComp (mRange1 (mCons (mC (.int 40)) (mNil))) [3] (.nm 3) (mYes) (mBin dEq (mVar 3) (mVar 2))))) (sRet (mC (.bl false))) (sNext)) (sNext))
theorem nm_mem (k : Nat) (hk : k < 40) : names.getD k "" ∈ names := by
  have hn : k < names.length := hk
  rw [List.getD_eq_getElem?_getD, List.getElem?_eq_getElem hn]
  exact List.getElem_mem hn
theorem ri_run {ms : List D} (hms : ms.map cn = names.map some) (own o3 o4 : Option D) (k : Nat) (hk : k < 40) : riB [some (.lst ms), own, some (.int k), o3, o4] = .nx [some (.lst ms), own, some (.int k), o3, o4] := by
  obtain ⟨fs, hfs⟩ := at_cn hms k hk
  have hix := ix_c ms k _ hfs
  have hm := nm_mem k hk
  have he := mem_ers _ hm
  have hx := List.all_eq_true.mp err_all _ hm
  rw [Bool.and_eq_true] at hx
  have x1 := e_xIs fs he mem_rim.1
  have x2 := e_xIs fs he mem_rim.2
  rw [hx.1] at x1
  rw [hx.2] at x2
  have hk2 := isF_ok (List.all_eq_true.mp kinds_all k (List.mem_range.mpr hk))
  have hki := kinds_eq fs he
  have hrg : dRange1 [.int 40] = .ok ((List.range' 0 40).map fun (j : Nat) => D.int j) := by rfl
  have hc := compD_mem (tg := .nm 3) (e := mBin dEq (mVar 3) (mVar 2)) (ρ := [some (.lst ms), own, some (.int k), none, o4]) (fd := fun (j : Nat) => D.int j) (fz := fun (j : Nat) => D.bl (decide ((j : Int) = (k : Int)))) (List.range' 0 40) [] (fun j hj => by
    refine ⟨[some (.lst ms), own, some (.int k), some (.int j), o4], rfl, ?_⟩
    simp only [e_def, e_start, List.length_cons, List.length_nil, if_true, List.map_cons, List.map_nil, List.cons_append, List.nil_append, List.replicate, e_sSeq, e_sAsg, e_mC, List.set_cons_succ, List.set_cons_zero, e_mCall, e_mCons, e_mNil, e_mVar, List.getElem?_cons_succ, List.getElem?_cons_zero, bind_ok, e_intI, e_noX, e_sIf, e_mTest, e_mBin, e_mUn, e_asB, e_sRet, e_end1, e_mApp, e_mLst, e_mTup, e_sNext, e_mNot, e_mAnd, e_mOr, e_mAndV, e_mNotV, e_eqI]) (by simp only [List.length_nil, List.length_range']; exact big (by omega))
  rw [List.nil_append] at hc
  unfold riB
  unfold ownL at hk2
  simp only [e_def, e_start, List.length_cons, List.length_nil, if_true, List.map_cons, List.map_nil, List.cons_append, List.nil_append, List.replicate, e_sSeq, e_sAsg, e_mC, List.set_cons_succ, List.set_cons_zero, e_mCall, e_mCons, e_mNil, e_mVar, List.getElem?_cons_succ, List.getElem?_cons_zero, bind_ok, e_intI, e_noX, e_sIf, e_mTest, e_mBin, e_mUn, e_asB, e_sRet, e_end1, e_mApp, e_mLst, e_mTup, e_sNext, e_mNot, e_mAnd, e_mOr, e_mAndV, e_mNotV, hix, x1, x2, Bool.not_true, Bool.false_eq_true, if_false, hki, e_mComp, e_mRange1, hrg, e_wipe0, e_wipe1, hc, hk2]
theorem ri_loop {ms : List D} (hms : ms.map cn = names.map some) (own o3 o4 : Option D) : ∀ (m k : Nat) (o : Option D), k + m = 40 → ∃ o', forD (.nm 2) riB ((List.range' k m).map fun (i : Nat) => D.int i) [some (.lst ms), own, o, o3, o4] = .nx [some (.lst ms), own, o', o3, o4]
  | 0, k, o, _ => ⟨o, by rw [List.range'_zero, List.map_nil, e_forD0]⟩
  | m + 1, k, o, h => by
    obtain ⟨o', h2⟩ := ri_loop hms own o3 o4 m (k + 1) (some (.int k)) (by omega)
    refine ⟨o', ?_⟩
    rw [List.range'_succ, List.map_cons, forD_nx rfl (ri_run hms own o3 o4 k (by omega))]
    exact h2
theorem right_eq {ms : List D} (hms : ms.map cn = names.map some) (p : Int) (ts : List (Int × Int × Int)) (hl : ts.length ≤ 100) (h34 : ms[34]? = some (.exv "BadPairing" [("lot", lotD p ts)])) : m__law_right [.lst ms, .lst [.int p, .tup (ts.map triD)]] = .ok (.bl true) := by
  have eg : g__law_right = sSeq (sFor (mRange1 (mCons (mC (.int 40)) (mNil))) (.nm 2) riB) (sSeq (sAsg 4 (mUn (xGet ers erf "lot") (mBin dIx (mVar 0) (mC (.int 34))))) (sRet (mAndV (mUn (dIsi cl [.o "Lot"]) (mVar 4)) (mApp (mr__law_same 12) (mCons (mLst (mCons (mUn (dFld fc_pins "pins") (mVar 4)) (mCons (mUn (dFld fc_cords "cords") (mVar 4)) (mNil)))) (mCons (mVar 1) (mNil))))))) := rfl
  obtain ⟨o', hlp⟩ := ri_loop hms (some (.lst [.int p, .tup (ts.map triD)])) none none 40 0 none rfl
  have hrg : dRange1 [.int 40] = .ok ((List.range' 0 40).map fun (j : Nat) => D.int j) := by rfl
  have hix : dIx (.lst ms) (.int 34) = .ok (.exv "BadPairing" [("lot", lotD p ts)]) := ix_c ms 34 _ h34
  have hg : xGet ers erf "lot" (.exv "BadPairing" [("lot", lotD p ts)]) = .ok (lotD p ts) := by kernel_rfl
  have hi : dIsi cl [.o "Lot"] (lotD p ts) = .ok (.bl true) := by kernel_rfl
  have f1 : dFld fc_pins "pins" (lotD p ts) = .ok (.int p) := by kernel_rfl
  have f2 : dFld fc_cords "cords" (lotD p ts) = .ok (.tup (ts.map triD)) := by kernel_rfl
  have hs : mr__law_same 12 [.lst [.int p, .tup (ts.map triD)], .lst [.int p, .tup (ts.map triD)]] = .ok (.bl true) := same_ok 12 (by
    have h2 : ((ts.map triD).all (CS.okD 10)) = true := List.all_eq_true.mpr fun d hd => by
      obtain ⟨t, _, rfl⟩ := List.mem_map.mp hd
      rfl
    show (decide (2 ≤ 1000) && (true && ((decide ((ts.map triD).length ≤ 1000) && (ts.map triD).all (CS.okD 10)) && true))) = true
    rw [h2, decide_eq_true (show (ts.map triD).length ≤ 1000 by rw [List.length_map]; omega)]
    rfl)
  unfold m__law_right
  rw [eg]
  simp only [e_def, e_start, List.length_cons, List.length_nil, if_true, List.map_cons, List.map_nil, List.cons_append, List.nil_append, List.replicate, e_sSeq, e_sAsg, e_mC, List.set_cons_succ, List.set_cons_zero, e_mCall, e_mCons, e_mNil, e_mVar, List.getElem?_cons_succ, List.getElem?_cons_zero, bind_ok, e_intI, e_noX, e_sIf, e_mTest, e_mBin, e_mUn, e_asB, e_sRet, e_end1, e_mApp, e_mLst, e_mTup, e_sNext, e_mNot, e_mAnd, e_mOr, e_mAndV, e_mNotV, e_sFor, e_mRange1, hrg, hlp, hix, hg, hi, f1, f2, e_mkL2, hs]
/-! ### told -/
theorem toldL_eq (w x y z : Int) (t b : D) : toldL w x y z t b = [.lst [t], .lst [t], .lst [.int w], .lst [t], .lst [.int w], .lst [.int w], .lst [.int w, .int x], .lst [t], .lst [.int w, .int x], .lst [t], .lst [.int w, .int x], .lst [.int w, .int x, .int y], .lst [t], .lst [b], .lst [.int w, .int x, .int y, .int z], .lst [.int w], .lst [.int w], .lst [.int w], .lst [.int w], .lst [.int w], .lst [.int w], .lst [.int w, .int x], .lst [t], .lst [t], .lst [t], .lst [.int w], .lst [.int w, t], .lst [.int w, b], .lst [t], .lst [.int w, .int x], .lst [.int w], .lst [t], .lst [.int w, t], .lst [.int w, .int x], .lst [.int w], .lst [t], .lst [.int w]] := by kernel_rfl
theorem ok1 {n : Nat} {d : D} (h : CS.okD n d = true) : CS.okD (n + 1) (.lst [d]) = true := by
  show (decide (1 ≤ 1000) && (CS.okD n d && true)) = true
  rw [h]; rfl
theorem ok2 {n : Nat} {w : Int} {d : D} (h : CS.okD (n + 1) d = true) : CS.okD (n + 2) (.lst [.int w, d]) = true := by
  show (decide (2 ≤ 1000) && (true && (CS.okD (n + 1) d && true))) = true
  rw [h]; rfl
theorem told_ok (w x y z : Int) {t b : D} (ht : CS.okD 10 t = true) (hb : CS.okD 10 b = true) : CS.okD 12 (.lst (toldL w x y z t b)) = true := by
  have h : ∀ d ∈ toldL w x y z t b, CS.okD 11 d = true := by
    intro d hd
    rw [toldL_eq] at hd
    simp only [List.mem_cons, List.not_mem_nil, or_false] at hd
    rcases hd with rfl | rfl | rfl | rfl | rfl | rfl | rfl | rfl | rfl | rfl | rfl | rfl | rfl | rfl | rfl | rfl | rfl | rfl | rfl | rfl | rfl | rfl | rfl | rfl | rfl | rfl | rfl | rfl | rfl | rfl | rfl | rfl | rfl | rfl | rfl | rfl | rfl
    all_goals first
      | exact ok1 ht
      | exact ok1 hb
      | exact ok2 ht
      | exact ok2 hb
      | rfl
  have hl : (toldL w x y z t b).length = 37 := by rw [toldL_eq]; rfl
  show (decide ((toldL w x y z t b).length ≤ 1000) && (toldL w x y z t b).all (CS.okD 11)) = true
  rw [hl, List.all_eq_true.mpr h]
  rfl
theorem made_34 (w x y z : Int) (t b l : D) : (made w x y z t b l)[34]? = some (.exv "BadPairing" [("lot", l)]) := by kernel_rfl
theorem init90 {pins : Int} {s : D} {ds : List D} {ts : List (Int × Int × Int)} (h0 : 0 ≤ pins) (hs : dSeq s = .ok ds) (h : F2 Tri ds ts) (he : ∀ t ∈ ts, Ent pins t) (hz : ts.length ≤ 100000) : m_Lot___init__ [.int pins, s] = .ok (lotD pins (comb ts)) :=
  CL.init_eq (cl := cl) (fp := fc_pins) (fc := fc_cords) (by decide +kernel) (by decide +kernel) h0 hs h he hz
/-! ### law -/
theorem law_true (ns : List Int) : m_law [.scr ns] = .ok (.bl true) := by
  obtain ⟨c0, q0⟩ := cell90 ns 0 (by omega)
  obtain ⟨c1, q1⟩ := cell90 ns 1 (by omega)
  obtain ⟨c2, q2⟩ := cell90 ns 2 (by omega)
  obtain ⟨c3, q3⟩ := cell90 ns 3 (by omega)
  obtain ⟨c4, q4⟩ := cell90 ns 4 (by omega)
  obtain ⟨c5, q5⟩ := cell90 ns 5 (by omega)
  obtain ⟨c6, q6⟩ := cell90 ns 6 (by omega)
  obtain ⟨c7, q7⟩ := cell90 ns 7 (by omega)
  obtain ⟨c8, q8⟩ := cell90 ns 8 (by omega)
  obtain ⟨c9, q9⟩ := cell90 ns 9 (by omega)
  obtain ⟨w, rw_⟩ := number_eq c0
  obtain ⟨x, rx⟩ := number_eq c1
  obtain ⟨y, ry⟩ := number_eq c2
  obtain ⟨z, rz⟩ := number_eq c3
  obtain ⟨t, rt, ht⟩ := thing_eq c4 w x
  obtain ⟨t', rt', ht'⟩ := thing_eq c5 y z
  obtain ⟨b, hbl, rb⟩ := bag_eq c6
  obtain ⟨b', hbl', rb'⟩ := bag_eq c7
  obtain ⟨ds, m, hm, rl⟩ := lot_eq c8
  obtain ⟨ds', m', hm', rl'⟩ := lot_eq c9
  have okb : ∀ l : List Nat, l.length ≤ 6 → CS.okD 10 (.tup (l.map fun (k : Nat) => D.int k)) = true := fun l hl => by
    have h2 : ((l.map fun (k : Nat) => D.int k).all (CS.okD 9)) = true := List.all_eq_true.mpr fun d hd => by
      obtain ⟨t, _, rfl⟩ := List.mem_map.mp hd
      rfl
    show (decide ((l.map fun (k : Nat) => D.int k).length ≤ 1000) && (l.map fun (k : Nat) => D.int k).all (CS.okD 9)) = true
    rw [h2, decide_eq_true (show (l.map fun (k : Nat) => D.int k).length ≤ 1000 by rw [List.length_map]; omega)]
    rfl
  have okt := CS.okD_le (n := 10) (by omega) ht
  have okt' := CS.okD_le (n := 10) (by omega) ht'
  have lt := tsOf_len ds m
  have lt' := tsOf_len ds' m'
  have i1 := init90 (pins := (m : Int) + 1) (s := .tup ((tsOf ds m).map triD)) (by omega) rfl (F2.tri _) (tsOf_ent ds m) (by omega)
  have i2 := init90 (pins := (m' : Int) + 1) (s := .lst ((tsOf ds' m').map triD)) (by omega) rfl (F2.tri _) (tsOf_ent ds' m') (by omega)
  rw [CL.comb_norm (tsOf_norm ds m)] at i1
  rw [CL.comb_norm (tsOf_norm ds' m')] at i2
  have p1 := placed_eq w x y z t (.tup (b.map fun (k : Nat) => D.int k)) (lotD ((m : Int) + 1) (tsOf ds m))
  have p2 := named_eq z y x w t' (.tup (b'.map fun (k : Nat) => D.int k)) (lotD ((m' : Int) + 1) (tsOf ds' m'))
  have r1 := right_eq (made_cn w x y z t (.tup (b.map fun (k : Nat) => D.int k)) (lotD ((m : Int) + 1) (tsOf ds m))) _ _ (by omega) (made_34 _ _ _ _ _ _ _)
  have r2 := right_eq (made_cn z y x w t' (.tup (b'.map fun (k : Nat) => D.int k)) (lotD ((m' : Int) + 1) (tsOf ds' m'))) _ _ (by omega) (made_34 _ _ _ _ _ _ _)
  have f1 := fields_eq w x y z t (.tup (b.map fun (k : Nat) => D.int k)) (lotD ((m : Int) + 1) (tsOf ds m))
  have f2 := fields_eq z y x w t' (.tup (b'.map fun (k : Nat) => D.int k)) (lotD ((m' : Int) + 1) (tsOf ds' m'))
  have s1 := same_ok 12 (told_ok w x y z okt (okb b hbl))
  have s2 := same_ok 12 (told_ok z y x w okt' (okb b' hbl'))
  have g1 := passed_eq w x y z t (.tup (b.map fun (k : Nat) => D.int k))
  have g2 := passed_eq z y x w t' (.tup (b'.map fun (k : Nat) => D.int k))
  have j0 : ∀ a c : D, dIx (.lst [a, c]) (.int 0) = .ok a := fun _ _ => rfl
  have j1 : ∀ a c : D, dIx (.lst [a, c]) (.int 1) = .ok c := fun _ _ => rfl
  have hL : ∀ xs : List D, dList [.tup xs] = .ok (.lst xs) := fun _ => rfl
  have cc : ∀ k : Int, (D.int k) = .int k := fun _ => rfl
  unfold m_law g_law
  simp only [e_def, e_start, List.length_cons, List.length_nil, if_true, List.map_cons, List.map_nil, List.cons_append, List.nil_append, List.replicate, e_sSeq, e_sAsg, e_mC, List.set_cons_succ, List.set_cons_zero, e_mCall, e_mCons, e_mNil, e_mVar, List.getElem?_cons_succ, List.getElem?_cons_zero, bind_ok, e_intI, e_noX, e_sIf, e_mTest, e_mBin, e_mUn, e_asB, e_sRet, e_end1, e_mApp, e_mLst, e_mTup, e_sNext, e_mNot, e_mAnd, e_mOr, e_mAndV, e_mNotV, e_mkL2, (show m__law_cell [.scr ns, .int 0] = _ from q0), (show m__law_cell [.scr ns, .int 1] = _ from q1), (show m__law_cell [.scr ns, .int 2] = _ from q2), (show m__law_cell [.scr ns, .int 3] = _ from q3), (show m__law_cell [.scr ns, .int 4] = _ from q4), (show m__law_cell [.scr ns, .int 5] = _ from q5), (show m__law_cell [.scr ns, .int 6] = _ from q6), (show m__law_cell [.scr ns, .int 7] = _ from q7), (show m__law_cell [.scr ns, .int 8] = _ from q8), (show m__law_cell [.scr ns, .int 9] = _ from q9), rw_, rx, ry, rz, rt, rt', rb, rb', rl, rl', j0, j1, hL, i1, i2, p1, p2, r1, r2, f1, f2, g1, g2, s1, s2, Bool.not_true, Bool.false_eq_true, if_false]
end K90

set_option Elab.async false
set_option linter.all false
set_option maxRecDepth 100000
set_option maxHeartbeats 4000000
namespace K90
open PySem L2 T
def top (i : Nat) : Stmt := PySem.Challenge.pw_rimcords_k90_errors_made.main.body.getD i (.Pass ⟨0, 0, 0, 0⟩)
def cls0 : List Str := []
structure Top (w : World) (K : PySem.W.Frag) (mg : Str → Option Value) : Prop where
  b_isinstance : mg "isinstance" = none
  b_int : mg "int" = none
  b_bool : mg "bool" = none
  b_max : mg "max" = none
  b_min : mg "min" = none
  b_sorted : mg "sorted" = none
  b_tuple : mg "tuple" = none
  b_list : mg "list" = none
  b_len : mg "len" = none
  b_range : mg "range" = none
  b_str : mg "str" = none
  b_ValueError : mg "ValueError" = none
  g_BadPins : mg "BadPins" = some (.ref (He.ga K "BadPins"))
  g_BadPin : mg "BadPin" = some (.ref (He.ga K "BadPin"))
  g_SamePin : mg "SamePin" = some (.ref (He.ga K "SamePin"))
  g_BadGap : mg "BadGap" = some (.ref (He.ga K "BadGap"))
  g_NoPair : mg "NoPair" = some (.ref (He.ga K "NoPair"))
  g_OddPin : mg "OddPin" = some (.ref (He.ga K "OddPin"))
  g_UnlikePins : mg "UnlikePins" = some (.ref (He.ga K "UnlikePins"))
  g_BadCord : mg "BadCord" = some (.ref (He.ga K "BadCord"))
  g_NotPart : mg "NotPart" = some (.ref (He.ga K "NotPart"))
  g_BadNumber : mg "BadNumber" = some (.ref (He.ga K "BadNumber"))
  g_BadTable : mg "BadTable" = some (.ref (He.ga K "BadTable"))
  g_NoLot : mg "NoLot" = some (.ref (He.ga K "NoLot"))
  g_NoMove : mg "NoMove" = some (.ref (He.ga K "NoMove"))
  g_OddEnds : mg "OddEnds" = some (.ref (He.ga K "OddEnds"))
  g_Barred : mg "Barred" = some (.ref (He.ga K "Barred"))
  g_TooMany : mg "TooMany" = some (.ref (He.ga K "TooMany"))
  g_BadWidth : mg "BadWidth" = some (.ref (He.ga K "BadWidth"))
  g_BadTurn : mg "BadTurn" = some (.ref (He.ga K "BadTurn"))
  g_DoubleEnd : mg "DoubleEnd" = some (.ref (He.ga K "DoubleEnd"))
  g_MissingEnd : mg "MissingEnd" = some (.ref (He.ga K "MissingEnd"))
  g_LooseJoint : mg "LooseJoint" = some (.ref (He.ga K "LooseJoint"))
  g_NotPlane : mg "NotPlane" = some (.ref (He.ga K "NotPlane"))
  g_BadItem : mg "BadItem" = some (.ref (He.ga K "BadItem"))
  g_BadJoint : mg "BadJoint" = some (.ref (He.ga K "BadJoint"))
  g_BadTrack : mg "BadTrack" = some (.ref (He.ga K "BadTrack"))
  g_OddJoint : mg "OddJoint" = some (.ref (He.ga K "OddJoint"))
  g_BadDeed : mg "BadDeed" = some (.ref (He.ga K "BadDeed"))
  g_Refused : mg "Refused" = some (.ref (He.ga K "Refused"))
  g_BadWire : mg "BadWire" = some (.ref (He.ga K "BadWire"))
  g_SharedLand : mg "SharedLand" = some (.ref (He.ga K "SharedLand"))
  g_OddLand : mg "OddLand" = some (.ref (He.ga K "OddLand"))
  g_BadLanes : mg "BadLanes" = some (.ref (He.ga K "BadLanes"))
  g_BadLetter : mg "BadLetter" = some (.ref (He.ga K "BadLetter"))
  g_UnlikeLanes : mg "UnlikeLanes" = some (.ref (He.ga K "UnlikeLanes"))
  g_BadPairing : mg "BadPairing" = some (.ref (He.ga K "BadPairing"))
  g_BadCap : mg "BadCap" = some (.ref (He.ga K "BadCap"))
  g_BadPair : mg "BadPair" = some (.ref (He.ga K "BadPair"))
  g_NoteError : mg "NoteError" = some (.ref (He.ga K "NoteError"))
  g_NoWishes : mg "NoWishes" = some (.ref (He.ga K "NoWishes"))
  g_NothingToUndo : mg "NothingToUndo" = some (.ref (He.ga K "NothingToUndo"))
  g_RimError : mg "RimError" = some (.ref (He.ga K "RimError"))
  g_Lot : mg "Lot" = some (.ref (He.ga K "Lot"))
  kit : Kit K cl
  f_pins : FldOk K fc_pins "pins"
  f_cords : FldOk K fc_cords "cords"
  n_NoWishes : OexN K (He.ga K "NoWishes")
  n_NothingToUndo : OexN K (He.ga K "NothingToUndo")
  ek : ErrK K erb ers eru erf
def dvL (K : PySem.W.Frag) : List V := [.ref (He.dflAt ("Lot", some "__init__") 0 K)]
theorem bndL {K : PySem.W.Frag} {f : Addr} {fd : FuncData} (F : FunD K "__init__" "Lot.__init__" (defArgs (inClass (top 57) 0)) (defBody (inClass (top 57) 0)) (defScope (inClass (top 57) 0)) (dvL K) [] f fd) : Binds K fd ["self", "pins", "cords"] [] := by
  obtain ⟨ds, h1, h2⟩ := F.binds1 (ps := ["self", "pins", "cords"]) 3 1 (by simp [dvL]) rfl (fun T kV doc pm an cdv ct us its h1 h2 => match us, h1, its, h2 with | [_, _, _], _, [_], _ => ⟨_, rfl, rfl⟩)
  cases h1
  exact h2
abbrev s_BadPins___init__ : Stmt := (inClass (top 3) 0)
theorem sc_BadPins___init__ : FnScope ["self", "pins"] ["self", "pins"] (defScope s_BadPins___init__) := ⟨rfl, rfl, rfl, by decide +kernel, rfl, by decide +kernel, by decide +kernel⟩
theorem fnx_BadPins___init__ {P : Program} {w : World} {K : PySem.W.Frag} {mg : Str → Option Value} {base : Heap} {f : Addr} {fd : FuncData} (F : FunD K "__init__" "BadPins.__init__" (defArgs s_BadPins___init__) (defBody s_BadPins___init__) (defScope s_BadPins___init__) [] [] f fd) (T : Top w K mg) :
    FnOk P w K mg base (L2N.CX P w) 1 f fd ["self", "pins"] (spX K "BadPins" ["pins"]) :=
  xinit_ok F sc_BadPins___init__ (T.ek.oex _ (by decide)) (fun g hg => T.ek.no _ (by decide) g (by revert g; decide)) (by decide) (fun cdv A outer s H E hr => pss_cons (ps_ost (pv 0) (pv 1)) (pss_nil))
theorem ok_BadPins___init__ {P : Program} {w : World} {K : PySem.W.Frag} {mg : Str → Option Value} {base : Heap} {f : Addr} {fd : FuncData} (F : FunD K "__init__" "BadPins.__init__" (defArgs s_BadPins___init__) (defBody s_BadPins___init__) (defScope s_BadPins___init__) [] [] f fd) (hm : mg "BadPins" = some (.ref (He.ga K "BadPins"))) (hi : PySem.W.findIn K (.ref (He.ga K "BadPins")) "__init__" = some (some (.ref f))) (ht : PySem.W.typeIn K (.ref f) = some (.type "function")) (T : Top w K mg) :
    CalleeX P w K mg base "BadPins" 1 ["pins"] :=
  ⟨f, fd, ["self", "pins"], hm, T.ek.oex _ (by decide), hi, ht, fnx_BadPins___init__ F T, F.bindsN fun _ _ _ _ _ _ us hl => match us, hl with | [_, _], _ => rfl⟩
abbrev s_BadPin___init__ : Stmt := (inClass (top 4) 0)
theorem sc_BadPin___init__ : FnScope ["self", "pin"] ["self", "pin"] (defScope s_BadPin___init__) := ⟨rfl, rfl, rfl, by decide +kernel, rfl, by decide +kernel, by decide +kernel⟩
theorem fnx_BadPin___init__ {P : Program} {w : World} {K : PySem.W.Frag} {mg : Str → Option Value} {base : Heap} {f : Addr} {fd : FuncData} (F : FunD K "__init__" "BadPin.__init__" (defArgs s_BadPin___init__) (defBody s_BadPin___init__) (defScope s_BadPin___init__) [] [] f fd) (T : Top w K mg) :
    FnOk P w K mg base (L2N.CX P w) 1 f fd ["self", "pin"] (spX K "BadPin" ["pin"]) :=
  xinit_ok F sc_BadPin___init__ (T.ek.oex _ (by decide)) (fun g hg => T.ek.no _ (by decide) g (by revert g; decide)) (by decide) (fun cdv A outer s H E hr => pss_cons (ps_ost (pv 0) (pv 1)) (pss_nil))
theorem ok_BadPin___init__ {P : Program} {w : World} {K : PySem.W.Frag} {mg : Str → Option Value} {base : Heap} {f : Addr} {fd : FuncData} (F : FunD K "__init__" "BadPin.__init__" (defArgs s_BadPin___init__) (defBody s_BadPin___init__) (defScope s_BadPin___init__) [] [] f fd) (hm : mg "BadPin" = some (.ref (He.ga K "BadPin"))) (hi : PySem.W.findIn K (.ref (He.ga K "BadPin")) "__init__" = some (some (.ref f))) (ht : PySem.W.typeIn K (.ref f) = some (.type "function")) (T : Top w K mg) :
    CalleeX P w K mg base "BadPin" 1 ["pin"] :=
  ⟨f, fd, ["self", "pin"], hm, T.ek.oex _ (by decide), hi, ht, fnx_BadPin___init__ F T, F.bindsN fun _ _ _ _ _ _ us hl => match us, hl with | [_, _], _ => rfl⟩
abbrev s_SamePin___init__ : Stmt := (inClass (top 5) 0)
theorem sc_SamePin___init__ : FnScope ["self", "pin"] ["self", "pin"] (defScope s_SamePin___init__) := ⟨rfl, rfl, rfl, by decide +kernel, rfl, by decide +kernel, by decide +kernel⟩
theorem fnx_SamePin___init__ {P : Program} {w : World} {K : PySem.W.Frag} {mg : Str → Option Value} {base : Heap} {f : Addr} {fd : FuncData} (F : FunD K "__init__" "SamePin.__init__" (defArgs s_SamePin___init__) (defBody s_SamePin___init__) (defScope s_SamePin___init__) [] [] f fd) (T : Top w K mg) :
    FnOk P w K mg base (L2N.CX P w) 1 f fd ["self", "pin"] (spX K "SamePin" ["pin"]) :=
  xinit_ok F sc_SamePin___init__ (T.ek.oex _ (by decide)) (fun g hg => T.ek.no _ (by decide) g (by revert g; decide)) (by decide) (fun cdv A outer s H E hr => pss_cons (ps_ost (pv 0) (pv 1)) (pss_nil))
theorem ok_SamePin___init__ {P : Program} {w : World} {K : PySem.W.Frag} {mg : Str → Option Value} {base : Heap} {f : Addr} {fd : FuncData} (F : FunD K "__init__" "SamePin.__init__" (defArgs s_SamePin___init__) (defBody s_SamePin___init__) (defScope s_SamePin___init__) [] [] f fd) (hm : mg "SamePin" = some (.ref (He.ga K "SamePin"))) (hi : PySem.W.findIn K (.ref (He.ga K "SamePin")) "__init__" = some (some (.ref f))) (ht : PySem.W.typeIn K (.ref f) = some (.type "function")) (T : Top w K mg) :
    CalleeX P w K mg base "SamePin" 1 ["pin"] :=
  ⟨f, fd, ["self", "pin"], hm, T.ek.oex _ (by decide), hi, ht, fnx_SamePin___init__ F T, F.bindsN fun _ _ _ _ _ _ us hl => match us, hl with | [_, _], _ => rfl⟩
abbrev s_BadGap___init__ : Stmt := (inClass (top 6) 0)
theorem sc_BadGap___init__ : FnScope ["self", "gap"] ["self", "gap"] (defScope s_BadGap___init__) := ⟨rfl, rfl, rfl, by decide +kernel, rfl, by decide +kernel, by decide +kernel⟩
theorem fnx_BadGap___init__ {P : Program} {w : World} {K : PySem.W.Frag} {mg : Str → Option Value} {base : Heap} {f : Addr} {fd : FuncData} (F : FunD K "__init__" "BadGap.__init__" (defArgs s_BadGap___init__) (defBody s_BadGap___init__) (defScope s_BadGap___init__) [] [] f fd) (T : Top w K mg) :
    FnOk P w K mg base (L2N.CX P w) 1 f fd ["self", "gap"] (spX K "BadGap" ["gap"]) :=
  xinit_ok F sc_BadGap___init__ (T.ek.oex _ (by decide)) (fun g hg => T.ek.no _ (by decide) g (by revert g; decide)) (by decide) (fun cdv A outer s H E hr => pss_cons (ps_ost (pv 0) (pv 1)) (pss_nil))
theorem ok_BadGap___init__ {P : Program} {w : World} {K : PySem.W.Frag} {mg : Str → Option Value} {base : Heap} {f : Addr} {fd : FuncData} (F : FunD K "__init__" "BadGap.__init__" (defArgs s_BadGap___init__) (defBody s_BadGap___init__) (defScope s_BadGap___init__) [] [] f fd) (hm : mg "BadGap" = some (.ref (He.ga K "BadGap"))) (hi : PySem.W.findIn K (.ref (He.ga K "BadGap")) "__init__" = some (some (.ref f))) (ht : PySem.W.typeIn K (.ref f) = some (.type "function")) (T : Top w K mg) :
    CalleeX P w K mg base "BadGap" 1 ["gap"] :=
  ⟨f, fd, ["self", "gap"], hm, T.ek.oex _ (by decide), hi, ht, fnx_BadGap___init__ F T, F.bindsN fun _ _ _ _ _ _ us hl => match us, hl with | [_, _], _ => rfl⟩
abbrev s_NoPair___init__ : Stmt := (inClass (top 7) 0)
theorem sc_NoPair___init__ : FnScope ["self", "pins"] ["self", "pins"] (defScope s_NoPair___init__) := ⟨rfl, rfl, rfl, by decide +kernel, rfl, by decide +kernel, by decide +kernel⟩
theorem fnx_NoPair___init__ {P : Program} {w : World} {K : PySem.W.Frag} {mg : Str → Option Value} {base : Heap} {f : Addr} {fd : FuncData} (F : FunD K "__init__" "NoPair.__init__" (defArgs s_NoPair___init__) (defBody s_NoPair___init__) (defScope s_NoPair___init__) [] [] f fd) (T : Top w K mg) :
    FnOk P w K mg base (L2N.CX P w) 1 f fd ["self", "pins"] (spX K "NoPair" ["pins"]) :=
  xinit_ok F sc_NoPair___init__ (T.ek.oex _ (by decide)) (fun g hg => T.ek.no _ (by decide) g (by revert g; decide)) (by decide) (fun cdv A outer s H E hr => pss_cons (ps_ost (pv 0) (pv 1)) (pss_nil))
theorem ok_NoPair___init__ {P : Program} {w : World} {K : PySem.W.Frag} {mg : Str → Option Value} {base : Heap} {f : Addr} {fd : FuncData} (F : FunD K "__init__" "NoPair.__init__" (defArgs s_NoPair___init__) (defBody s_NoPair___init__) (defScope s_NoPair___init__) [] [] f fd) (hm : mg "NoPair" = some (.ref (He.ga K "NoPair"))) (hi : PySem.W.findIn K (.ref (He.ga K "NoPair")) "__init__" = some (some (.ref f))) (ht : PySem.W.typeIn K (.ref f) = some (.type "function")) (T : Top w K mg) :
    CalleeX P w K mg base "NoPair" 1 ["pins"] :=
  ⟨f, fd, ["self", "pins"], hm, T.ek.oex _ (by decide), hi, ht, fnx_NoPair___init__ F T, F.bindsN fun _ _ _ _ _ _ us hl => match us, hl with | [_, _], _ => rfl⟩
abbrev s_OddPin___init__ : Stmt := (inClass (top 8) 0)
theorem sc_OddPin___init__ : FnScope ["self", "pin"] ["self", "pin"] (defScope s_OddPin___init__) := ⟨rfl, rfl, rfl, by decide +kernel, rfl, by decide +kernel, by decide +kernel⟩
theorem fnx_OddPin___init__ {P : Program} {w : World} {K : PySem.W.Frag} {mg : Str → Option Value} {base : Heap} {f : Addr} {fd : FuncData} (F : FunD K "__init__" "OddPin.__init__" (defArgs s_OddPin___init__) (defBody s_OddPin___init__) (defScope s_OddPin___init__) [] [] f fd) (T : Top w K mg) :
    FnOk P w K mg base (L2N.CX P w) 1 f fd ["self", "pin"] (spX K "OddPin" ["pin"]) :=
  xinit_ok F sc_OddPin___init__ (T.ek.oex _ (by decide)) (fun g hg => T.ek.no _ (by decide) g (by revert g; decide)) (by decide) (fun cdv A outer s H E hr => pss_cons (ps_ost (pv 0) (pv 1)) (pss_nil))
theorem ok_OddPin___init__ {P : Program} {w : World} {K : PySem.W.Frag} {mg : Str → Option Value} {base : Heap} {f : Addr} {fd : FuncData} (F : FunD K "__init__" "OddPin.__init__" (defArgs s_OddPin___init__) (defBody s_OddPin___init__) (defScope s_OddPin___init__) [] [] f fd) (hm : mg "OddPin" = some (.ref (He.ga K "OddPin"))) (hi : PySem.W.findIn K (.ref (He.ga K "OddPin")) "__init__" = some (some (.ref f))) (ht : PySem.W.typeIn K (.ref f) = some (.type "function")) (T : Top w K mg) :
    CalleeX P w K mg base "OddPin" 1 ["pin"] :=
  ⟨f, fd, ["self", "pin"], hm, T.ek.oex _ (by decide), hi, ht, fnx_OddPin___init__ F T, F.bindsN fun _ _ _ _ _ _ us hl => match us, hl with | [_, _], _ => rfl⟩
abbrev s_UnlikePins___init__ : Stmt := (inClass (top 9) 0)
theorem sc_UnlikePins___init__ : FnScope ["self", "one", "other"] ["self", "one", "other"] (defScope s_UnlikePins___init__) := ⟨rfl, rfl, rfl, by decide +kernel, rfl, by decide +kernel, by decide +kernel⟩
theorem fnx_UnlikePins___init__ {P : Program} {w : World} {K : PySem.W.Frag} {mg : Str → Option Value} {base : Heap} {f : Addr} {fd : FuncData} (F : FunD K "__init__" "UnlikePins.__init__" (defArgs s_UnlikePins___init__) (defBody s_UnlikePins___init__) (defScope s_UnlikePins___init__) [] [] f fd) (T : Top w K mg) :
    FnOk P w K mg base (L2N.CX P w) 1 f fd ["self", "one", "other"] (spX K "UnlikePins" ["one", "other"]) :=
  xinit_ok F sc_UnlikePins___init__ (T.ek.oex _ (by decide)) (fun g hg => T.ek.no _ (by decide) g (by revert g; decide)) (by decide) (fun cdv A outer s H E hr => pss_cons (ps_ost (pv 0) (pv 1)) (pss_cons (ps_ost (pv 0) (pv 2)) (pss_nil)))
theorem ok_UnlikePins___init__ {P : Program} {w : World} {K : PySem.W.Frag} {mg : Str → Option Value} {base : Heap} {f : Addr} {fd : FuncData} (F : FunD K "__init__" "UnlikePins.__init__" (defArgs s_UnlikePins___init__) (defBody s_UnlikePins___init__) (defScope s_UnlikePins___init__) [] [] f fd) (hm : mg "UnlikePins" = some (.ref (He.ga K "UnlikePins"))) (hi : PySem.W.findIn K (.ref (He.ga K "UnlikePins")) "__init__" = some (some (.ref f))) (ht : PySem.W.typeIn K (.ref f) = some (.type "function")) (T : Top w K mg) :
    CalleeX P w K mg base "UnlikePins" 1 ["one", "other"] :=
  ⟨f, fd, ["self", "one", "other"], hm, T.ek.oex _ (by decide), hi, ht, fnx_UnlikePins___init__ F T, F.bindsN fun _ _ _ _ _ _ us hl => match us, hl with | [_, _, _], _ => rfl⟩
abbrev s_BadCord___init__ : Stmt := (inClass (top 10) 0)
theorem sc_BadCord___init__ : FnScope ["self", "entry"] ["self", "entry"] (defScope s_BadCord___init__) := ⟨rfl, rfl, rfl, by decide +kernel, rfl, by decide +kernel, by decide +kernel⟩
theorem fnx_BadCord___init__ {P : Program} {w : World} {K : PySem.W.Frag} {mg : Str → Option Value} {base : Heap} {f : Addr} {fd : FuncData} (F : FunD K "__init__" "BadCord.__init__" (defArgs s_BadCord___init__) (defBody s_BadCord___init__) (defScope s_BadCord___init__) [] [] f fd) (T : Top w K mg) :
    FnOk P w K mg base (L2N.CX P w) 1 f fd ["self", "entry"] (spX K "BadCord" ["entry"]) :=
  xinit_ok F sc_BadCord___init__ (T.ek.oex _ (by decide)) (fun g hg => T.ek.no _ (by decide) g (by revert g; decide)) (by decide) (fun cdv A outer s H E hr => pss_cons (ps_ost (pv 0) (pv 1)) (pss_nil))
theorem ok_BadCord___init__ {P : Program} {w : World} {K : PySem.W.Frag} {mg : Str → Option Value} {base : Heap} {f : Addr} {fd : FuncData} (F : FunD K "__init__" "BadCord.__init__" (defArgs s_BadCord___init__) (defBody s_BadCord___init__) (defScope s_BadCord___init__) [] [] f fd) (hm : mg "BadCord" = some (.ref (He.ga K "BadCord"))) (hi : PySem.W.findIn K (.ref (He.ga K "BadCord")) "__init__" = some (some (.ref f))) (ht : PySem.W.typeIn K (.ref f) = some (.type "function")) (T : Top w K mg) :
    CalleeX P w K mg base "BadCord" 1 ["entry"] :=
  ⟨f, fd, ["self", "entry"], hm, T.ek.oex _ (by decide), hi, ht, fnx_BadCord___init__ F T, F.bindsN fun _ _ _ _ _ _ us hl => match us, hl with | [_, _], _ => rfl⟩
abbrev s_NotPart___init__ : Stmt := (inClass (top 11) 0)
theorem sc_NotPart___init__ : FnScope ["self", "a", "b"] ["self", "a", "b"] (defScope s_NotPart___init__) := ⟨rfl, rfl, rfl, by decide +kernel, rfl, by decide +kernel, by decide +kernel⟩
theorem fnx_NotPart___init__ {P : Program} {w : World} {K : PySem.W.Frag} {mg : Str → Option Value} {base : Heap} {f : Addr} {fd : FuncData} (F : FunD K "__init__" "NotPart.__init__" (defArgs s_NotPart___init__) (defBody s_NotPart___init__) (defScope s_NotPart___init__) [] [] f fd) (T : Top w K mg) :
    FnOk P w K mg base (L2N.CX P w) 1 f fd ["self", "a", "b"] (spX K "NotPart" ["a", "b"]) :=
  xinit_ok F sc_NotPart___init__ (T.ek.oex _ (by decide)) (fun g hg => T.ek.no _ (by decide) g (by revert g; decide)) (by decide) (fun cdv A outer s H E hr => pss_cons (ps_ost (pv 0) (pv 1)) (pss_cons (ps_ost (pv 0) (pv 2)) (pss_nil)))
theorem ok_NotPart___init__ {P : Program} {w : World} {K : PySem.W.Frag} {mg : Str → Option Value} {base : Heap} {f : Addr} {fd : FuncData} (F : FunD K "__init__" "NotPart.__init__" (defArgs s_NotPart___init__) (defBody s_NotPart___init__) (defScope s_NotPart___init__) [] [] f fd) (hm : mg "NotPart" = some (.ref (He.ga K "NotPart"))) (hi : PySem.W.findIn K (.ref (He.ga K "NotPart")) "__init__" = some (some (.ref f))) (ht : PySem.W.typeIn K (.ref f) = some (.type "function")) (T : Top w K mg) :
    CalleeX P w K mg base "NotPart" 1 ["a", "b"] :=
  ⟨f, fd, ["self", "a", "b"], hm, T.ek.oex _ (by decide), hi, ht, fnx_NotPart___init__ F T, F.bindsN fun _ _ _ _ _ _ us hl => match us, hl with | [_, _, _], _ => rfl⟩
abbrev s_BadNumber___init__ : Stmt := (inClass (top 12) 0)
theorem sc_BadNumber___init__ : FnScope ["self", "number"] ["self", "number"] (defScope s_BadNumber___init__) := ⟨rfl, rfl, rfl, by decide +kernel, rfl, by decide +kernel, by decide +kernel⟩
theorem fnx_BadNumber___init__ {P : Program} {w : World} {K : PySem.W.Frag} {mg : Str → Option Value} {base : Heap} {f : Addr} {fd : FuncData} (F : FunD K "__init__" "BadNumber.__init__" (defArgs s_BadNumber___init__) (defBody s_BadNumber___init__) (defScope s_BadNumber___init__) [] [] f fd) (T : Top w K mg) :
    FnOk P w K mg base (L2N.CX P w) 1 f fd ["self", "number"] (spX K "BadNumber" ["number"]) :=
  xinit_ok F sc_BadNumber___init__ (T.ek.oex _ (by decide)) (fun g hg => T.ek.no _ (by decide) g (by revert g; decide)) (by decide) (fun cdv A outer s H E hr => pss_cons (ps_ost (pv 0) (pv 1)) (pss_nil))
theorem ok_BadNumber___init__ {P : Program} {w : World} {K : PySem.W.Frag} {mg : Str → Option Value} {base : Heap} {f : Addr} {fd : FuncData} (F : FunD K "__init__" "BadNumber.__init__" (defArgs s_BadNumber___init__) (defBody s_BadNumber___init__) (defScope s_BadNumber___init__) [] [] f fd) (hm : mg "BadNumber" = some (.ref (He.ga K "BadNumber"))) (hi : PySem.W.findIn K (.ref (He.ga K "BadNumber")) "__init__" = some (some (.ref f))) (ht : PySem.W.typeIn K (.ref f) = some (.type "function")) (T : Top w K mg) :
    CalleeX P w K mg base "BadNumber" 1 ["number"] :=
  ⟨f, fd, ["self", "number"], hm, T.ek.oex _ (by decide), hi, ht, fnx_BadNumber___init__ F T, F.bindsN fun _ _ _ _ _ _ us hl => match us, hl with | [_, _], _ => rfl⟩
abbrev s_BadTable___init__ : Stmt := (inClass (top 13) 0)
theorem sc_BadTable___init__ : FnScope ["self", "row", "column"] ["self", "row", "column"] (defScope s_BadTable___init__) := ⟨rfl, rfl, rfl, by decide +kernel, rfl, by decide +kernel, by decide +kernel⟩
theorem fnx_BadTable___init__ {P : Program} {w : World} {K : PySem.W.Frag} {mg : Str → Option Value} {base : Heap} {f : Addr} {fd : FuncData} (F : FunD K "__init__" "BadTable.__init__" (defArgs s_BadTable___init__) (defBody s_BadTable___init__) (defScope s_BadTable___init__) [] [] f fd) (T : Top w K mg) :
    FnOk P w K mg base (L2N.CX P w) 1 f fd ["self", "row", "column"] (spX K "BadTable" ["row", "column"]) :=
  xinit_ok F sc_BadTable___init__ (T.ek.oex _ (by decide)) (fun g hg => T.ek.no _ (by decide) g (by revert g; decide)) (by decide) (fun cdv A outer s H E hr => pss_cons (ps_ost (pv 0) (pv 1)) (pss_cons (ps_ost (pv 0) (pv 2)) (pss_nil)))
theorem ok_BadTable___init__ {P : Program} {w : World} {K : PySem.W.Frag} {mg : Str → Option Value} {base : Heap} {f : Addr} {fd : FuncData} (F : FunD K "__init__" "BadTable.__init__" (defArgs s_BadTable___init__) (defBody s_BadTable___init__) (defScope s_BadTable___init__) [] [] f fd) (hm : mg "BadTable" = some (.ref (He.ga K "BadTable"))) (hi : PySem.W.findIn K (.ref (He.ga K "BadTable")) "__init__" = some (some (.ref f))) (ht : PySem.W.typeIn K (.ref f) = some (.type "function")) (T : Top w K mg) :
    CalleeX P w K mg base "BadTable" 1 ["row", "column"] :=
  ⟨f, fd, ["self", "row", "column"], hm, T.ek.oex _ (by decide), hi, ht, fnx_BadTable___init__ F T, F.bindsN fun _ _ _ _ _ _ us hl => match us, hl with | [_, _, _], _ => rfl⟩
abbrev s_NoLot___init__ : Stmt := (inClass (top 14) 0)
theorem sc_NoLot___init__ : FnScope ["self", "a", "b", "twice"] ["self", "a", "b", "twice"] (defScope s_NoLot___init__) := ⟨rfl, rfl, rfl, by decide +kernel, rfl, by decide +kernel, by decide +kernel⟩
theorem fnx_NoLot___init__ {P : Program} {w : World} {K : PySem.W.Frag} {mg : Str → Option Value} {base : Heap} {f : Addr} {fd : FuncData} (F : FunD K "__init__" "NoLot.__init__" (defArgs s_NoLot___init__) (defBody s_NoLot___init__) (defScope s_NoLot___init__) [] [] f fd) (T : Top w K mg) :
    FnOk P w K mg base (L2N.CX P w) 1 f fd ["self", "a", "b", "twice"] (spX K "NoLot" ["a", "b", "twice"]) :=
  xinit_ok F sc_NoLot___init__ (T.ek.oex _ (by decide)) (fun g hg => T.ek.no _ (by decide) g (by revert g; decide)) (by decide) (fun cdv A outer s H E hr => pss_cons (ps_ost (pv 0) (pv 1)) (pss_cons (ps_ost (pv 0) (pv 2)) (pss_cons (ps_ost (pv 0) (pv 3)) (pss_nil))))
theorem ok_NoLot___init__ {P : Program} {w : World} {K : PySem.W.Frag} {mg : Str → Option Value} {base : Heap} {f : Addr} {fd : FuncData} (F : FunD K "__init__" "NoLot.__init__" (defArgs s_NoLot___init__) (defBody s_NoLot___init__) (defScope s_NoLot___init__) [] [] f fd) (hm : mg "NoLot" = some (.ref (He.ga K "NoLot"))) (hi : PySem.W.findIn K (.ref (He.ga K "NoLot")) "__init__" = some (some (.ref f))) (ht : PySem.W.typeIn K (.ref f) = some (.type "function")) (T : Top w K mg) :
    CalleeX P w K mg base "NoLot" 1 ["a", "b", "twice"] :=
  ⟨f, fd, ["self", "a", "b", "twice"], hm, T.ek.oex _ (by decide), hi, ht, fnx_NoLot___init__ F T, F.bindsN fun _ _ _ _ _ _ us hl => match us, hl with | [_, _, _, _], _ => rfl⟩
abbrev s_NoMove___init__ : Stmt := (inClass (top 15) 0)
theorem sc_NoMove___init__ : FnScope ["self", "move"] ["self", "move"] (defScope s_NoMove___init__) := ⟨rfl, rfl, rfl, by decide +kernel, rfl, by decide +kernel, by decide +kernel⟩
theorem fnx_NoMove___init__ {P : Program} {w : World} {K : PySem.W.Frag} {mg : Str → Option Value} {base : Heap} {f : Addr} {fd : FuncData} (F : FunD K "__init__" "NoMove.__init__" (defArgs s_NoMove___init__) (defBody s_NoMove___init__) (defScope s_NoMove___init__) [] [] f fd) (T : Top w K mg) :
    FnOk P w K mg base (L2N.CX P w) 1 f fd ["self", "move"] (spX K "NoMove" ["move"]) :=
  xinit_ok F sc_NoMove___init__ (T.ek.oex _ (by decide)) (fun g hg => T.ek.no _ (by decide) g (by revert g; decide)) (by decide) (fun cdv A outer s H E hr => pss_cons (ps_ost (pv 0) (pv 1)) (pss_nil))
theorem ok_NoMove___init__ {P : Program} {w : World} {K : PySem.W.Frag} {mg : Str → Option Value} {base : Heap} {f : Addr} {fd : FuncData} (F : FunD K "__init__" "NoMove.__init__" (defArgs s_NoMove___init__) (defBody s_NoMove___init__) (defScope s_NoMove___init__) [] [] f fd) (hm : mg "NoMove" = some (.ref (He.ga K "NoMove"))) (hi : PySem.W.findIn K (.ref (He.ga K "NoMove")) "__init__" = some (some (.ref f))) (ht : PySem.W.typeIn K (.ref f) = some (.type "function")) (T : Top w K mg) :
    CalleeX P w K mg base "NoMove" 1 ["move"] :=
  ⟨f, fd, ["self", "move"], hm, T.ek.oex _ (by decide), hi, ht, fnx_NoMove___init__ F T, F.bindsN fun _ _ _ _ _ _ us hl => match us, hl with | [_, _], _ => rfl⟩
abbrev s_OddEnds___init__ : Stmt := (inClass (top 16) 0)
theorem sc_OddEnds___init__ : FnScope ["self", "pins"] ["self", "pins"] (defScope s_OddEnds___init__) := ⟨rfl, rfl, rfl, by decide +kernel, rfl, by decide +kernel, by decide +kernel⟩
theorem fnx_OddEnds___init__ {P : Program} {w : World} {K : PySem.W.Frag} {mg : Str → Option Value} {base : Heap} {f : Addr} {fd : FuncData} (F : FunD K "__init__" "OddEnds.__init__" (defArgs s_OddEnds___init__) (defBody s_OddEnds___init__) (defScope s_OddEnds___init__) [] [] f fd) (T : Top w K mg) :
    FnOk P w K mg base (L2N.CX P w) 1 f fd ["self", "pins"] (spX K "OddEnds" ["pins"]) :=
  xinit_ok F sc_OddEnds___init__ (T.ek.oex _ (by decide)) (fun g hg => T.ek.no _ (by decide) g (by revert g; decide)) (by decide) (fun cdv A outer s H E hr => pss_cons (ps_ost (pv 0) (pv 1)) (pss_nil))
theorem ok_OddEnds___init__ {P : Program} {w : World} {K : PySem.W.Frag} {mg : Str → Option Value} {base : Heap} {f : Addr} {fd : FuncData} (F : FunD K "__init__" "OddEnds.__init__" (defArgs s_OddEnds___init__) (defBody s_OddEnds___init__) (defScope s_OddEnds___init__) [] [] f fd) (hm : mg "OddEnds" = some (.ref (He.ga K "OddEnds"))) (hi : PySem.W.findIn K (.ref (He.ga K "OddEnds")) "__init__" = some (some (.ref f))) (ht : PySem.W.typeIn K (.ref f) = some (.type "function")) (T : Top w K mg) :
    CalleeX P w K mg base "OddEnds" 1 ["pins"] :=
  ⟨f, fd, ["self", "pins"], hm, T.ek.oex _ (by decide), hi, ht, fnx_OddEnds___init__ F T, F.bindsN fun _ _ _ _ _ _ us hl => match us, hl with | [_, _], _ => rfl⟩
abbrev s_Barred___init__ : Stmt := (inClass (top 17) 0)
theorem sc_Barred___init__ : FnScope ["self", "first", "last", "held", "wished"] ["self", "first", "last", "held", "wished"] (defScope s_Barred___init__) := ⟨rfl, rfl, rfl, by decide +kernel, rfl, by decide +kernel, by decide +kernel⟩
theorem fnx_Barred___init__ {P : Program} {w : World} {K : PySem.W.Frag} {mg : Str → Option Value} {base : Heap} {f : Addr} {fd : FuncData} (F : FunD K "__init__" "Barred.__init__" (defArgs s_Barred___init__) (defBody s_Barred___init__) (defScope s_Barred___init__) [] [] f fd) (T : Top w K mg) :
    FnOk P w K mg base (L2N.CX P w) 1 f fd ["self", "first", "last", "held", "wished"] (spX K "Barred" ["first", "last", "held", "wished"]) :=
  xinit_ok F sc_Barred___init__ (T.ek.oex _ (by decide)) (fun g hg => T.ek.no _ (by decide) g (by revert g; decide)) (by decide) (fun cdv A outer s H E hr => pss_cons (ps_ost (pv 0) (pv 1)) (pss_cons (ps_ost (pv 0) (pv 2)) (pss_cons (ps_ost (pv 0) (pv 3)) (pss_cons (ps_ost (pv 0) (pv 4)) (pss_nil)))))
theorem ok_Barred___init__ {P : Program} {w : World} {K : PySem.W.Frag} {mg : Str → Option Value} {base : Heap} {f : Addr} {fd : FuncData} (F : FunD K "__init__" "Barred.__init__" (defArgs s_Barred___init__) (defBody s_Barred___init__) (defScope s_Barred___init__) [] [] f fd) (hm : mg "Barred" = some (.ref (He.ga K "Barred"))) (hi : PySem.W.findIn K (.ref (He.ga K "Barred")) "__init__" = some (some (.ref f))) (ht : PySem.W.typeIn K (.ref f) = some (.type "function")) (T : Top w K mg) :
    CalleeX P w K mg base "Barred" 1 ["first", "last", "held", "wished"] :=
  ⟨f, fd, ["self", "first", "last", "held", "wished"], hm, T.ek.oex _ (by decide), hi, ht, fnx_Barred___init__ F T, F.bindsN fun _ _ _ _ _ _ us hl => match us, hl with | [_, _, _, _, _], _ => rfl⟩
abbrev s_TooMany___init__ : Stmt := (inClass (top 18) 0)
theorem sc_TooMany___init__ : FnScope ["self", "number"] ["self", "number"] (defScope s_TooMany___init__) := ⟨rfl, rfl, rfl, by decide +kernel, rfl, by decide +kernel, by decide +kernel⟩
theorem fnx_TooMany___init__ {P : Program} {w : World} {K : PySem.W.Frag} {mg : Str → Option Value} {base : Heap} {f : Addr} {fd : FuncData} (F : FunD K "__init__" "TooMany.__init__" (defArgs s_TooMany___init__) (defBody s_TooMany___init__) (defScope s_TooMany___init__) [] [] f fd) (T : Top w K mg) :
    FnOk P w K mg base (L2N.CX P w) 1 f fd ["self", "number"] (spX K "TooMany" ["number"]) :=
  xinit_ok F sc_TooMany___init__ (T.ek.oex _ (by decide)) (fun g hg => T.ek.no _ (by decide) g (by revert g; decide)) (by decide) (fun cdv A outer s H E hr => pss_cons (ps_ost (pv 0) (pv 1)) (pss_nil))
theorem ok_TooMany___init__ {P : Program} {w : World} {K : PySem.W.Frag} {mg : Str → Option Value} {base : Heap} {f : Addr} {fd : FuncData} (F : FunD K "__init__" "TooMany.__init__" (defArgs s_TooMany___init__) (defBody s_TooMany___init__) (defScope s_TooMany___init__) [] [] f fd) (hm : mg "TooMany" = some (.ref (He.ga K "TooMany"))) (hi : PySem.W.findIn K (.ref (He.ga K "TooMany")) "__init__" = some (some (.ref f))) (ht : PySem.W.typeIn K (.ref f) = some (.type "function")) (T : Top w K mg) :
    CalleeX P w K mg base "TooMany" 1 ["number"] :=
  ⟨f, fd, ["self", "number"], hm, T.ek.oex _ (by decide), hi, ht, fnx_TooMany___init__ F T, F.bindsN fun _ _ _ _ _ _ us hl => match us, hl with | [_, _], _ => rfl⟩
abbrev s_BadWidth___init__ : Stmt := (inClass (top 19) 0)
theorem sc_BadWidth___init__ : FnScope ["self", "track"] ["self", "track"] (defScope s_BadWidth___init__) := ⟨rfl, rfl, rfl, by decide +kernel, rfl, by decide +kernel, by decide +kernel⟩
theorem fnx_BadWidth___init__ {P : Program} {w : World} {K : PySem.W.Frag} {mg : Str → Option Value} {base : Heap} {f : Addr} {fd : FuncData} (F : FunD K "__init__" "BadWidth.__init__" (defArgs s_BadWidth___init__) (defBody s_BadWidth___init__) (defScope s_BadWidth___init__) [] [] f fd) (T : Top w K mg) :
    FnOk P w K mg base (L2N.CX P w) 1 f fd ["self", "track"] (spX K "BadWidth" ["track"]) :=
  xinit_ok F sc_BadWidth___init__ (T.ek.oex _ (by decide)) (fun g hg => T.ek.no _ (by decide) g (by revert g; decide)) (by decide) (fun cdv A outer s H E hr => pss_cons (ps_ost (pv 0) (pv 1)) (pss_nil))
theorem ok_BadWidth___init__ {P : Program} {w : World} {K : PySem.W.Frag} {mg : Str → Option Value} {base : Heap} {f : Addr} {fd : FuncData} (F : FunD K "__init__" "BadWidth.__init__" (defArgs s_BadWidth___init__) (defBody s_BadWidth___init__) (defScope s_BadWidth___init__) [] [] f fd) (hm : mg "BadWidth" = some (.ref (He.ga K "BadWidth"))) (hi : PySem.W.findIn K (.ref (He.ga K "BadWidth")) "__init__" = some (some (.ref f))) (ht : PySem.W.typeIn K (.ref f) = some (.type "function")) (T : Top w K mg) :
    CalleeX P w K mg base "BadWidth" 1 ["track"] :=
  ⟨f, fd, ["self", "track"], hm, T.ek.oex _ (by decide), hi, ht, fnx_BadWidth___init__ F T, F.bindsN fun _ _ _ _ _ _ us hl => match us, hl with | [_, _], _ => rfl⟩
abbrev s_BadTurn___init__ : Stmt := (inClass (top 20) 0)
theorem sc_BadTurn___init__ : FnScope ["self", "joint"] ["self", "joint"] (defScope s_BadTurn___init__) := ⟨rfl, rfl, rfl, by decide +kernel, rfl, by decide +kernel, by decide +kernel⟩
theorem fnx_BadTurn___init__ {P : Program} {w : World} {K : PySem.W.Frag} {mg : Str → Option Value} {base : Heap} {f : Addr} {fd : FuncData} (F : FunD K "__init__" "BadTurn.__init__" (defArgs s_BadTurn___init__) (defBody s_BadTurn___init__) (defScope s_BadTurn___init__) [] [] f fd) (T : Top w K mg) :
    FnOk P w K mg base (L2N.CX P w) 1 f fd ["self", "joint"] (spX K "BadTurn" ["joint"]) :=
  xinit_ok F sc_BadTurn___init__ (T.ek.oex _ (by decide)) (fun g hg => T.ek.no _ (by decide) g (by revert g; decide)) (by decide) (fun cdv A outer s H E hr => pss_cons (ps_ost (pv 0) (pv 1)) (pss_nil))
theorem ok_BadTurn___init__ {P : Program} {w : World} {K : PySem.W.Frag} {mg : Str → Option Value} {base : Heap} {f : Addr} {fd : FuncData} (F : FunD K "__init__" "BadTurn.__init__" (defArgs s_BadTurn___init__) (defBody s_BadTurn___init__) (defScope s_BadTurn___init__) [] [] f fd) (hm : mg "BadTurn" = some (.ref (He.ga K "BadTurn"))) (hi : PySem.W.findIn K (.ref (He.ga K "BadTurn")) "__init__" = some (some (.ref f))) (ht : PySem.W.typeIn K (.ref f) = some (.type "function")) (T : Top w K mg) :
    CalleeX P w K mg base "BadTurn" 1 ["joint"] :=
  ⟨f, fd, ["self", "joint"], hm, T.ek.oex _ (by decide), hi, ht, fnx_BadTurn___init__ F T, F.bindsN fun _ _ _ _ _ _ us hl => match us, hl with | [_, _], _ => rfl⟩
abbrev s_DoubleEnd___init__ : Stmt := (inClass (top 21) 0)
theorem sc_DoubleEnd___init__ : FnScope ["self", "end"] ["self", "end"] (defScope s_DoubleEnd___init__) := ⟨rfl, rfl, rfl, by decide +kernel, rfl, by decide +kernel, by decide +kernel⟩
theorem fnx_DoubleEnd___init__ {P : Program} {w : World} {K : PySem.W.Frag} {mg : Str → Option Value} {base : Heap} {f : Addr} {fd : FuncData} (F : FunD K "__init__" "DoubleEnd.__init__" (defArgs s_DoubleEnd___init__) (defBody s_DoubleEnd___init__) (defScope s_DoubleEnd___init__) [] [] f fd) (T : Top w K mg) :
    FnOk P w K mg base (L2N.CX P w) 1 f fd ["self", "end"] (spX K "DoubleEnd" ["end"]) :=
  xinit_ok F sc_DoubleEnd___init__ (T.ek.oex _ (by decide)) (fun g hg => T.ek.no _ (by decide) g (by revert g; decide)) (by decide) (fun cdv A outer s H E hr => pss_cons (ps_ost (pv 0) (pv 1)) (pss_nil))
theorem ok_DoubleEnd___init__ {P : Program} {w : World} {K : PySem.W.Frag} {mg : Str → Option Value} {base : Heap} {f : Addr} {fd : FuncData} (F : FunD K "__init__" "DoubleEnd.__init__" (defArgs s_DoubleEnd___init__) (defBody s_DoubleEnd___init__) (defScope s_DoubleEnd___init__) [] [] f fd) (hm : mg "DoubleEnd" = some (.ref (He.ga K "DoubleEnd"))) (hi : PySem.W.findIn K (.ref (He.ga K "DoubleEnd")) "__init__" = some (some (.ref f))) (ht : PySem.W.typeIn K (.ref f) = some (.type "function")) (T : Top w K mg) :
    CalleeX P w K mg base "DoubleEnd" 1 ["end"] :=
  ⟨f, fd, ["self", "end"], hm, T.ek.oex _ (by decide), hi, ht, fnx_DoubleEnd___init__ F T, F.bindsN fun _ _ _ _ _ _ us hl => match us, hl with | [_, _], _ => rfl⟩
abbrev s_MissingEnd___init__ : Stmt := (inClass (top 22) 0)
theorem sc_MissingEnd___init__ : FnScope ["self", "end"] ["self", "end"] (defScope s_MissingEnd___init__) := ⟨rfl, rfl, rfl, by decide +kernel, rfl, by decide +kernel, by decide +kernel⟩
theorem fnx_MissingEnd___init__ {P : Program} {w : World} {K : PySem.W.Frag} {mg : Str → Option Value} {base : Heap} {f : Addr} {fd : FuncData} (F : FunD K "__init__" "MissingEnd.__init__" (defArgs s_MissingEnd___init__) (defBody s_MissingEnd___init__) (defScope s_MissingEnd___init__) [] [] f fd) (T : Top w K mg) :
    FnOk P w K mg base (L2N.CX P w) 1 f fd ["self", "end"] (spX K "MissingEnd" ["end"]) :=
  xinit_ok F sc_MissingEnd___init__ (T.ek.oex _ (by decide)) (fun g hg => T.ek.no _ (by decide) g (by revert g; decide)) (by decide) (fun cdv A outer s H E hr => pss_cons (ps_ost (pv 0) (pv 1)) (pss_nil))
theorem ok_MissingEnd___init__ {P : Program} {w : World} {K : PySem.W.Frag} {mg : Str → Option Value} {base : Heap} {f : Addr} {fd : FuncData} (F : FunD K "__init__" "MissingEnd.__init__" (defArgs s_MissingEnd___init__) (defBody s_MissingEnd___init__) (defScope s_MissingEnd___init__) [] [] f fd) (hm : mg "MissingEnd" = some (.ref (He.ga K "MissingEnd"))) (hi : PySem.W.findIn K (.ref (He.ga K "MissingEnd")) "__init__" = some (some (.ref f))) (ht : PySem.W.typeIn K (.ref f) = some (.type "function")) (T : Top w K mg) :
    CalleeX P w K mg base "MissingEnd" 1 ["end"] :=
  ⟨f, fd, ["self", "end"], hm, T.ek.oex _ (by decide), hi, ht, fnx_MissingEnd___init__ F T, F.bindsN fun _ _ _ _ _ _ us hl => match us, hl with | [_, _], _ => rfl⟩
abbrev s_LooseJoint___init__ : Stmt := (inClass (top 23) 0)
theorem sc_LooseJoint___init__ : FnScope ["self", "joint"] ["self", "joint"] (defScope s_LooseJoint___init__) := ⟨rfl, rfl, rfl, by decide +kernel, rfl, by decide +kernel, by decide +kernel⟩
theorem fnx_LooseJoint___init__ {P : Program} {w : World} {K : PySem.W.Frag} {mg : Str → Option Value} {base : Heap} {f : Addr} {fd : FuncData} (F : FunD K "__init__" "LooseJoint.__init__" (defArgs s_LooseJoint___init__) (defBody s_LooseJoint___init__) (defScope s_LooseJoint___init__) [] [] f fd) (T : Top w K mg) :
    FnOk P w K mg base (L2N.CX P w) 1 f fd ["self", "joint"] (spX K "LooseJoint" ["joint"]) :=
  xinit_ok F sc_LooseJoint___init__ (T.ek.oex _ (by decide)) (fun g hg => T.ek.no _ (by decide) g (by revert g; decide)) (by decide) (fun cdv A outer s H E hr => pss_cons (ps_ost (pv 0) (pv 1)) (pss_nil))
theorem ok_LooseJoint___init__ {P : Program} {w : World} {K : PySem.W.Frag} {mg : Str → Option Value} {base : Heap} {f : Addr} {fd : FuncData} (F : FunD K "__init__" "LooseJoint.__init__" (defArgs s_LooseJoint___init__) (defBody s_LooseJoint___init__) (defScope s_LooseJoint___init__) [] [] f fd) (hm : mg "LooseJoint" = some (.ref (He.ga K "LooseJoint"))) (hi : PySem.W.findIn K (.ref (He.ga K "LooseJoint")) "__init__" = some (some (.ref f))) (ht : PySem.W.typeIn K (.ref f) = some (.type "function")) (T : Top w K mg) :
    CalleeX P w K mg base "LooseJoint" 1 ["joint"] :=
  ⟨f, fd, ["self", "joint"], hm, T.ek.oex _ (by decide), hi, ht, fnx_LooseJoint___init__ F T, F.bindsN fun _ _ _ _ _ _ us hl => match us, hl with | [_, _], _ => rfl⟩
abbrev s_NotPlane___init__ : Stmt := (inClass (top 24) 0)
theorem sc_NotPlane___init__ : FnScope ["self", "found", "due"] ["self", "found", "due"] (defScope s_NotPlane___init__) := ⟨rfl, rfl, rfl, by decide +kernel, rfl, by decide +kernel, by decide +kernel⟩
theorem fnx_NotPlane___init__ {P : Program} {w : World} {K : PySem.W.Frag} {mg : Str → Option Value} {base : Heap} {f : Addr} {fd : FuncData} (F : FunD K "__init__" "NotPlane.__init__" (defArgs s_NotPlane___init__) (defBody s_NotPlane___init__) (defScope s_NotPlane___init__) [] [] f fd) (T : Top w K mg) :
    FnOk P w K mg base (L2N.CX P w) 1 f fd ["self", "found", "due"] (spX K "NotPlane" ["found", "due"]) :=
  xinit_ok F sc_NotPlane___init__ (T.ek.oex _ (by decide)) (fun g hg => T.ek.no _ (by decide) g (by revert g; decide)) (by decide) (fun cdv A outer s H E hr => pss_cons (ps_ost (pv 0) (pv 1)) (pss_cons (ps_ost (pv 0) (pv 2)) (pss_nil)))
theorem ok_NotPlane___init__ {P : Program} {w : World} {K : PySem.W.Frag} {mg : Str → Option Value} {base : Heap} {f : Addr} {fd : FuncData} (F : FunD K "__init__" "NotPlane.__init__" (defArgs s_NotPlane___init__) (defBody s_NotPlane___init__) (defScope s_NotPlane___init__) [] [] f fd) (hm : mg "NotPlane" = some (.ref (He.ga K "NotPlane"))) (hi : PySem.W.findIn K (.ref (He.ga K "NotPlane")) "__init__" = some (some (.ref f))) (ht : PySem.W.typeIn K (.ref f) = some (.type "function")) (T : Top w K mg) :
    CalleeX P w K mg base "NotPlane" 1 ["found", "due"] :=
  ⟨f, fd, ["self", "found", "due"], hm, T.ek.oex _ (by decide), hi, ht, fnx_NotPlane___init__ F T, F.bindsN fun _ _ _ _ _ _ us hl => match us, hl with | [_, _, _], _ => rfl⟩
abbrev s_BadItem___init__ : Stmt := (inClass (top 25) 0)
theorem sc_BadItem___init__ : FnScope ["self", "item"] ["self", "item"] (defScope s_BadItem___init__) := ⟨rfl, rfl, rfl, by decide +kernel, rfl, by decide +kernel, by decide +kernel⟩
theorem fnx_BadItem___init__ {P : Program} {w : World} {K : PySem.W.Frag} {mg : Str → Option Value} {base : Heap} {f : Addr} {fd : FuncData} (F : FunD K "__init__" "BadItem.__init__" (defArgs s_BadItem___init__) (defBody s_BadItem___init__) (defScope s_BadItem___init__) [] [] f fd) (T : Top w K mg) :
    FnOk P w K mg base (L2N.CX P w) 1 f fd ["self", "item"] (spX K "BadItem" ["item"]) :=
  xinit_ok F sc_BadItem___init__ (T.ek.oex _ (by decide)) (fun g hg => T.ek.no _ (by decide) g (by revert g; decide)) (by decide) (fun cdv A outer s H E hr => pss_cons (ps_ost (pv 0) (pv 1)) (pss_nil))
theorem ok_BadItem___init__ {P : Program} {w : World} {K : PySem.W.Frag} {mg : Str → Option Value} {base : Heap} {f : Addr} {fd : FuncData} (F : FunD K "__init__" "BadItem.__init__" (defArgs s_BadItem___init__) (defBody s_BadItem___init__) (defScope s_BadItem___init__) [] [] f fd) (hm : mg "BadItem" = some (.ref (He.ga K "BadItem"))) (hi : PySem.W.findIn K (.ref (He.ga K "BadItem")) "__init__" = some (some (.ref f))) (ht : PySem.W.typeIn K (.ref f) = some (.type "function")) (T : Top w K mg) :
    CalleeX P w K mg base "BadItem" 1 ["item"] :=
  ⟨f, fd, ["self", "item"], hm, T.ek.oex _ (by decide), hi, ht, fnx_BadItem___init__ F T, F.bindsN fun _ _ _ _ _ _ us hl => match us, hl with | [_, _], _ => rfl⟩
abbrev s_BadJoint___init__ : Stmt := (inClass (top 26) 0)
theorem sc_BadJoint___init__ : FnScope ["self", "joint"] ["self", "joint"] (defScope s_BadJoint___init__) := ⟨rfl, rfl, rfl, by decide +kernel, rfl, by decide +kernel, by decide +kernel⟩
theorem fnx_BadJoint___init__ {P : Program} {w : World} {K : PySem.W.Frag} {mg : Str → Option Value} {base : Heap} {f : Addr} {fd : FuncData} (F : FunD K "__init__" "BadJoint.__init__" (defArgs s_BadJoint___init__) (defBody s_BadJoint___init__) (defScope s_BadJoint___init__) [] [] f fd) (T : Top w K mg) :
    FnOk P w K mg base (L2N.CX P w) 1 f fd ["self", "joint"] (spX K "BadJoint" ["joint"]) :=
  xinit_ok F sc_BadJoint___init__ (T.ek.oex _ (by decide)) (fun g hg => T.ek.no _ (by decide) g (by revert g; decide)) (by decide) (fun cdv A outer s H E hr => pss_cons (ps_ost (pv 0) (pv 1)) (pss_nil))
theorem ok_BadJoint___init__ {P : Program} {w : World} {K : PySem.W.Frag} {mg : Str → Option Value} {base : Heap} {f : Addr} {fd : FuncData} (F : FunD K "__init__" "BadJoint.__init__" (defArgs s_BadJoint___init__) (defBody s_BadJoint___init__) (defScope s_BadJoint___init__) [] [] f fd) (hm : mg "BadJoint" = some (.ref (He.ga K "BadJoint"))) (hi : PySem.W.findIn K (.ref (He.ga K "BadJoint")) "__init__" = some (some (.ref f))) (ht : PySem.W.typeIn K (.ref f) = some (.type "function")) (T : Top w K mg) :
    CalleeX P w K mg base "BadJoint" 1 ["joint"] :=
  ⟨f, fd, ["self", "joint"], hm, T.ek.oex _ (by decide), hi, ht, fnx_BadJoint___init__ F T, F.bindsN fun _ _ _ _ _ _ us hl => match us, hl with | [_, _], _ => rfl⟩
abbrev s_BadTrack___init__ : Stmt := (inClass (top 27) 0)
theorem sc_BadTrack___init__ : FnScope ["self", "track"] ["self", "track"] (defScope s_BadTrack___init__) := ⟨rfl, rfl, rfl, by decide +kernel, rfl, by decide +kernel, by decide +kernel⟩
theorem fnx_BadTrack___init__ {P : Program} {w : World} {K : PySem.W.Frag} {mg : Str → Option Value} {base : Heap} {f : Addr} {fd : FuncData} (F : FunD K "__init__" "BadTrack.__init__" (defArgs s_BadTrack___init__) (defBody s_BadTrack___init__) (defScope s_BadTrack___init__) [] [] f fd) (T : Top w K mg) :
    FnOk P w K mg base (L2N.CX P w) 1 f fd ["self", "track"] (spX K "BadTrack" ["track"]) :=
  xinit_ok F sc_BadTrack___init__ (T.ek.oex _ (by decide)) (fun g hg => T.ek.no _ (by decide) g (by revert g; decide)) (by decide) (fun cdv A outer s H E hr => pss_cons (ps_ost (pv 0) (pv 1)) (pss_nil))
theorem ok_BadTrack___init__ {P : Program} {w : World} {K : PySem.W.Frag} {mg : Str → Option Value} {base : Heap} {f : Addr} {fd : FuncData} (F : FunD K "__init__" "BadTrack.__init__" (defArgs s_BadTrack___init__) (defBody s_BadTrack___init__) (defScope s_BadTrack___init__) [] [] f fd) (hm : mg "BadTrack" = some (.ref (He.ga K "BadTrack"))) (hi : PySem.W.findIn K (.ref (He.ga K "BadTrack")) "__init__" = some (some (.ref f))) (ht : PySem.W.typeIn K (.ref f) = some (.type "function")) (T : Top w K mg) :
    CalleeX P w K mg base "BadTrack" 1 ["track"] :=
  ⟨f, fd, ["self", "track"], hm, T.ek.oex _ (by decide), hi, ht, fnx_BadTrack___init__ F T, F.bindsN fun _ _ _ _ _ _ us hl => match us, hl with | [_, _], _ => rfl⟩
abbrev s_OddJoint___init__ : Stmt := (inClass (top 28) 0)
theorem sc_OddJoint___init__ : FnScope ["self", "joint"] ["self", "joint"] (defScope s_OddJoint___init__) := ⟨rfl, rfl, rfl, by decide +kernel, rfl, by decide +kernel, by decide +kernel⟩
theorem fnx_OddJoint___init__ {P : Program} {w : World} {K : PySem.W.Frag} {mg : Str → Option Value} {base : Heap} {f : Addr} {fd : FuncData} (F : FunD K "__init__" "OddJoint.__init__" (defArgs s_OddJoint___init__) (defBody s_OddJoint___init__) (defScope s_OddJoint___init__) [] [] f fd) (T : Top w K mg) :
    FnOk P w K mg base (L2N.CX P w) 1 f fd ["self", "joint"] (spX K "OddJoint" ["joint"]) :=
  xinit_ok F sc_OddJoint___init__ (T.ek.oex _ (by decide)) (fun g hg => T.ek.no _ (by decide) g (by revert g; decide)) (by decide) (fun cdv A outer s H E hr => pss_cons (ps_ost (pv 0) (pv 1)) (pss_nil))
theorem ok_OddJoint___init__ {P : Program} {w : World} {K : PySem.W.Frag} {mg : Str → Option Value} {base : Heap} {f : Addr} {fd : FuncData} (F : FunD K "__init__" "OddJoint.__init__" (defArgs s_OddJoint___init__) (defBody s_OddJoint___init__) (defScope s_OddJoint___init__) [] [] f fd) (hm : mg "OddJoint" = some (.ref (He.ga K "OddJoint"))) (hi : PySem.W.findIn K (.ref (He.ga K "OddJoint")) "__init__" = some (some (.ref f))) (ht : PySem.W.typeIn K (.ref f) = some (.type "function")) (T : Top w K mg) :
    CalleeX P w K mg base "OddJoint" 1 ["joint"] :=
  ⟨f, fd, ["self", "joint"], hm, T.ek.oex _ (by decide), hi, ht, fnx_OddJoint___init__ F T, F.bindsN fun _ _ _ _ _ _ us hl => match us, hl with | [_, _], _ => rfl⟩
abbrev s_BadDeed___init__ : Stmt := (inClass (top 29) 0)
theorem sc_BadDeed___init__ : FnScope ["self", "place", "deed"] ["self", "place", "deed"] (defScope s_BadDeed___init__) := ⟨rfl, rfl, rfl, by decide +kernel, rfl, by decide +kernel, by decide +kernel⟩
theorem fnx_BadDeed___init__ {P : Program} {w : World} {K : PySem.W.Frag} {mg : Str → Option Value} {base : Heap} {f : Addr} {fd : FuncData} (F : FunD K "__init__" "BadDeed.__init__" (defArgs s_BadDeed___init__) (defBody s_BadDeed___init__) (defScope s_BadDeed___init__) [] [] f fd) (T : Top w K mg) :
    FnOk P w K mg base (L2N.CX P w) 1 f fd ["self", "place", "deed"] (spX K "BadDeed" ["place", "deed"]) :=
  xinit_ok F sc_BadDeed___init__ (T.ek.oex _ (by decide)) (fun g hg => T.ek.no _ (by decide) g (by revert g; decide)) (by decide) (fun cdv A outer s H E hr => pss_cons (ps_ost (pv 0) (pv 1)) (pss_cons (ps_ost (pv 0) (pv 2)) (pss_nil)))
theorem ok_BadDeed___init__ {P : Program} {w : World} {K : PySem.W.Frag} {mg : Str → Option Value} {base : Heap} {f : Addr} {fd : FuncData} (F : FunD K "__init__" "BadDeed.__init__" (defArgs s_BadDeed___init__) (defBody s_BadDeed___init__) (defScope s_BadDeed___init__) [] [] f fd) (hm : mg "BadDeed" = some (.ref (He.ga K "BadDeed"))) (hi : PySem.W.findIn K (.ref (He.ga K "BadDeed")) "__init__" = some (some (.ref f))) (ht : PySem.W.typeIn K (.ref f) = some (.type "function")) (T : Top w K mg) :
    CalleeX P w K mg base "BadDeed" 1 ["place", "deed"] :=
  ⟨f, fd, ["self", "place", "deed"], hm, T.ek.oex _ (by decide), hi, ht, fnx_BadDeed___init__ F T, F.bindsN fun _ _ _ _ _ _ us hl => match us, hl with | [_, _, _], _ => rfl⟩
abbrev s_Refused___init__ : Stmt := (inClass (top 30) 0)
theorem sc_Refused___init__ : FnScope ["self", "place", "deed"] ["self", "place", "deed"] (defScope s_Refused___init__) := ⟨rfl, rfl, rfl, by decide +kernel, rfl, by decide +kernel, by decide +kernel⟩
theorem fnx_Refused___init__ {P : Program} {w : World} {K : PySem.W.Frag} {mg : Str → Option Value} {base : Heap} {f : Addr} {fd : FuncData} (F : FunD K "__init__" "Refused.__init__" (defArgs s_Refused___init__) (defBody s_Refused___init__) (defScope s_Refused___init__) [] [] f fd) (T : Top w K mg) :
    FnOk P w K mg base (L2N.CX P w) 1 f fd ["self", "place", "deed"] (spX K "Refused" ["place", "deed"]) :=
  xinit_ok F sc_Refused___init__ (T.ek.oex _ (by decide)) (fun g hg => T.ek.no _ (by decide) g (by revert g; decide)) (by decide) (fun cdv A outer s H E hr => pss_cons (ps_ost (pv 0) (pv 1)) (pss_cons (ps_ost (pv 0) (pv 2)) (pss_nil)))
theorem ok_Refused___init__ {P : Program} {w : World} {K : PySem.W.Frag} {mg : Str → Option Value} {base : Heap} {f : Addr} {fd : FuncData} (F : FunD K "__init__" "Refused.__init__" (defArgs s_Refused___init__) (defBody s_Refused___init__) (defScope s_Refused___init__) [] [] f fd) (hm : mg "Refused" = some (.ref (He.ga K "Refused"))) (hi : PySem.W.findIn K (.ref (He.ga K "Refused")) "__init__" = some (some (.ref f))) (ht : PySem.W.typeIn K (.ref f) = some (.type "function")) (T : Top w K mg) :
    CalleeX P w K mg base "Refused" 1 ["place", "deed"] :=
  ⟨f, fd, ["self", "place", "deed"], hm, T.ek.oex _ (by decide), hi, ht, fnx_Refused___init__ F T, F.bindsN fun _ _ _ _ _ _ us hl => match us, hl with | [_, _, _], _ => rfl⟩
abbrev s_BadWire___init__ : Stmt := (inClass (top 31) 0)
theorem sc_BadWire___init__ : FnScope ["self", "wire"] ["self", "wire"] (defScope s_BadWire___init__) := ⟨rfl, rfl, rfl, by decide +kernel, rfl, by decide +kernel, by decide +kernel⟩
theorem fnx_BadWire___init__ {P : Program} {w : World} {K : PySem.W.Frag} {mg : Str → Option Value} {base : Heap} {f : Addr} {fd : FuncData} (F : FunD K "__init__" "BadWire.__init__" (defArgs s_BadWire___init__) (defBody s_BadWire___init__) (defScope s_BadWire___init__) [] [] f fd) (T : Top w K mg) :
    FnOk P w K mg base (L2N.CX P w) 1 f fd ["self", "wire"] (spX K "BadWire" ["wire"]) :=
  xinit_ok F sc_BadWire___init__ (T.ek.oex _ (by decide)) (fun g hg => T.ek.no _ (by decide) g (by revert g; decide)) (by decide) (fun cdv A outer s H E hr => pss_cons (ps_ost (pv 0) (pv 1)) (pss_nil))
theorem ok_BadWire___init__ {P : Program} {w : World} {K : PySem.W.Frag} {mg : Str → Option Value} {base : Heap} {f : Addr} {fd : FuncData} (F : FunD K "__init__" "BadWire.__init__" (defArgs s_BadWire___init__) (defBody s_BadWire___init__) (defScope s_BadWire___init__) [] [] f fd) (hm : mg "BadWire" = some (.ref (He.ga K "BadWire"))) (hi : PySem.W.findIn K (.ref (He.ga K "BadWire")) "__init__" = some (some (.ref f))) (ht : PySem.W.typeIn K (.ref f) = some (.type "function")) (T : Top w K mg) :
    CalleeX P w K mg base "BadWire" 1 ["wire"] :=
  ⟨f, fd, ["self", "wire"], hm, T.ek.oex _ (by decide), hi, ht, fnx_BadWire___init__ F T, F.bindsN fun _ _ _ _ _ _ us hl => match us, hl with | [_, _], _ => rfl⟩
abbrev s_SharedLand___init__ : Stmt := (inClass (top 32) 0)
theorem sc_SharedLand___init__ : FnScope ["self", "first", "last"] ["self", "first", "last"] (defScope s_SharedLand___init__) := ⟨rfl, rfl, rfl, by decide +kernel, rfl, by decide +kernel, by decide +kernel⟩
theorem fnx_SharedLand___init__ {P : Program} {w : World} {K : PySem.W.Frag} {mg : Str → Option Value} {base : Heap} {f : Addr} {fd : FuncData} (F : FunD K "__init__" "SharedLand.__init__" (defArgs s_SharedLand___init__) (defBody s_SharedLand___init__) (defScope s_SharedLand___init__) [] [] f fd) (T : Top w K mg) :
    FnOk P w K mg base (L2N.CX P w) 1 f fd ["self", "first", "last"] (spX K "SharedLand" ["first", "last"]) :=
  xinit_ok F sc_SharedLand___init__ (T.ek.oex _ (by decide)) (fun g hg => T.ek.no _ (by decide) g (by revert g; decide)) (by decide) (fun cdv A outer s H E hr => pss_cons (ps_ost (pv 0) (pv 1)) (pss_cons (ps_ost (pv 0) (pv 2)) (pss_nil)))
theorem ok_SharedLand___init__ {P : Program} {w : World} {K : PySem.W.Frag} {mg : Str → Option Value} {base : Heap} {f : Addr} {fd : FuncData} (F : FunD K "__init__" "SharedLand.__init__" (defArgs s_SharedLand___init__) (defBody s_SharedLand___init__) (defScope s_SharedLand___init__) [] [] f fd) (hm : mg "SharedLand" = some (.ref (He.ga K "SharedLand"))) (hi : PySem.W.findIn K (.ref (He.ga K "SharedLand")) "__init__" = some (some (.ref f))) (ht : PySem.W.typeIn K (.ref f) = some (.type "function")) (T : Top w K mg) :
    CalleeX P w K mg base "SharedLand" 1 ["first", "last"] :=
  ⟨f, fd, ["self", "first", "last"], hm, T.ek.oex _ (by decide), hi, ht, fnx_SharedLand___init__ F T, F.bindsN fun _ _ _ _ _ _ us hl => match us, hl with | [_, _, _], _ => rfl⟩
abbrev s_OddLand___init__ : Stmt := (inClass (top 33) 0)
theorem sc_OddLand___init__ : FnScope ["self", "land"] ["self", "land"] (defScope s_OddLand___init__) := ⟨rfl, rfl, rfl, by decide +kernel, rfl, by decide +kernel, by decide +kernel⟩
theorem fnx_OddLand___init__ {P : Program} {w : World} {K : PySem.W.Frag} {mg : Str → Option Value} {base : Heap} {f : Addr} {fd : FuncData} (F : FunD K "__init__" "OddLand.__init__" (defArgs s_OddLand___init__) (defBody s_OddLand___init__) (defScope s_OddLand___init__) [] [] f fd) (T : Top w K mg) :
    FnOk P w K mg base (L2N.CX P w) 1 f fd ["self", "land"] (spX K "OddLand" ["land"]) :=
  xinit_ok F sc_OddLand___init__ (T.ek.oex _ (by decide)) (fun g hg => T.ek.no _ (by decide) g (by revert g; decide)) (by decide) (fun cdv A outer s H E hr => pss_cons (ps_ost (pv 0) (pv 1)) (pss_nil))
theorem ok_OddLand___init__ {P : Program} {w : World} {K : PySem.W.Frag} {mg : Str → Option Value} {base : Heap} {f : Addr} {fd : FuncData} (F : FunD K "__init__" "OddLand.__init__" (defArgs s_OddLand___init__) (defBody s_OddLand___init__) (defScope s_OddLand___init__) [] [] f fd) (hm : mg "OddLand" = some (.ref (He.ga K "OddLand"))) (hi : PySem.W.findIn K (.ref (He.ga K "OddLand")) "__init__" = some (some (.ref f))) (ht : PySem.W.typeIn K (.ref f) = some (.type "function")) (T : Top w K mg) :
    CalleeX P w K mg base "OddLand" 1 ["land"] :=
  ⟨f, fd, ["self", "land"], hm, T.ek.oex _ (by decide), hi, ht, fnx_OddLand___init__ F T, F.bindsN fun _ _ _ _ _ _ us hl => match us, hl with | [_, _], _ => rfl⟩
abbrev s_BadLanes___init__ : Stmt := (inClass (top 34) 0)
theorem sc_BadLanes___init__ : FnScope ["self", "number"] ["self", "number"] (defScope s_BadLanes___init__) := ⟨rfl, rfl, rfl, by decide +kernel, rfl, by decide +kernel, by decide +kernel⟩
theorem fnx_BadLanes___init__ {P : Program} {w : World} {K : PySem.W.Frag} {mg : Str → Option Value} {base : Heap} {f : Addr} {fd : FuncData} (F : FunD K "__init__" "BadLanes.__init__" (defArgs s_BadLanes___init__) (defBody s_BadLanes___init__) (defScope s_BadLanes___init__) [] [] f fd) (T : Top w K mg) :
    FnOk P w K mg base (L2N.CX P w) 1 f fd ["self", "number"] (spX K "BadLanes" ["number"]) :=
  xinit_ok F sc_BadLanes___init__ (T.ek.oex _ (by decide)) (fun g hg => T.ek.no _ (by decide) g (by revert g; decide)) (by decide) (fun cdv A outer s H E hr => pss_cons (ps_ost (pv 0) (pv 1)) (pss_nil))
theorem ok_BadLanes___init__ {P : Program} {w : World} {K : PySem.W.Frag} {mg : Str → Option Value} {base : Heap} {f : Addr} {fd : FuncData} (F : FunD K "__init__" "BadLanes.__init__" (defArgs s_BadLanes___init__) (defBody s_BadLanes___init__) (defScope s_BadLanes___init__) [] [] f fd) (hm : mg "BadLanes" = some (.ref (He.ga K "BadLanes"))) (hi : PySem.W.findIn K (.ref (He.ga K "BadLanes")) "__init__" = some (some (.ref f))) (ht : PySem.W.typeIn K (.ref f) = some (.type "function")) (T : Top w K mg) :
    CalleeX P w K mg base "BadLanes" 1 ["number"] :=
  ⟨f, fd, ["self", "number"], hm, T.ek.oex _ (by decide), hi, ht, fnx_BadLanes___init__ F T, F.bindsN fun _ _ _ _ _ _ us hl => match us, hl with | [_, _], _ => rfl⟩
abbrev s_BadLetter___init__ : Stmt := (inClass (top 35) 0)
theorem sc_BadLetter___init__ : FnScope ["self", "place", "letter"] ["self", "place", "letter"] (defScope s_BadLetter___init__) := ⟨rfl, rfl, rfl, by decide +kernel, rfl, by decide +kernel, by decide +kernel⟩
theorem fnx_BadLetter___init__ {P : Program} {w : World} {K : PySem.W.Frag} {mg : Str → Option Value} {base : Heap} {f : Addr} {fd : FuncData} (F : FunD K "__init__" "BadLetter.__init__" (defArgs s_BadLetter___init__) (defBody s_BadLetter___init__) (defScope s_BadLetter___init__) [] [] f fd) (T : Top w K mg) :
    FnOk P w K mg base (L2N.CX P w) 1 f fd ["self", "place", "letter"] (spX K "BadLetter" ["place", "letter"]) :=
  xinit_ok F sc_BadLetter___init__ (T.ek.oex _ (by decide)) (fun g hg => T.ek.no _ (by decide) g (by revert g; decide)) (by decide) (fun cdv A outer s H E hr => pss_cons (ps_ost (pv 0) (pv 1)) (pss_cons (ps_ost (pv 0) (pv 2)) (pss_nil)))
theorem ok_BadLetter___init__ {P : Program} {w : World} {K : PySem.W.Frag} {mg : Str → Option Value} {base : Heap} {f : Addr} {fd : FuncData} (F : FunD K "__init__" "BadLetter.__init__" (defArgs s_BadLetter___init__) (defBody s_BadLetter___init__) (defScope s_BadLetter___init__) [] [] f fd) (hm : mg "BadLetter" = some (.ref (He.ga K "BadLetter"))) (hi : PySem.W.findIn K (.ref (He.ga K "BadLetter")) "__init__" = some (some (.ref f))) (ht : PySem.W.typeIn K (.ref f) = some (.type "function")) (T : Top w K mg) :
    CalleeX P w K mg base "BadLetter" 1 ["place", "letter"] :=
  ⟨f, fd, ["self", "place", "letter"], hm, T.ek.oex _ (by decide), hi, ht, fnx_BadLetter___init__ F T, F.bindsN fun _ _ _ _ _ _ us hl => match us, hl with | [_, _, _], _ => rfl⟩
abbrev s_UnlikeLanes___init__ : Stmt := (inClass (top 36) 0)
theorem sc_UnlikeLanes___init__ : FnScope ["self", "one", "other"] ["self", "one", "other"] (defScope s_UnlikeLanes___init__) := ⟨rfl, rfl, rfl, by decide +kernel, rfl, by decide +kernel, by decide +kernel⟩
theorem fnx_UnlikeLanes___init__ {P : Program} {w : World} {K : PySem.W.Frag} {mg : Str → Option Value} {base : Heap} {f : Addr} {fd : FuncData} (F : FunD K "__init__" "UnlikeLanes.__init__" (defArgs s_UnlikeLanes___init__) (defBody s_UnlikeLanes___init__) (defScope s_UnlikeLanes___init__) [] [] f fd) (T : Top w K mg) :
    FnOk P w K mg base (L2N.CX P w) 1 f fd ["self", "one", "other"] (spX K "UnlikeLanes" ["one", "other"]) :=
  xinit_ok F sc_UnlikeLanes___init__ (T.ek.oex _ (by decide)) (fun g hg => T.ek.no _ (by decide) g (by revert g; decide)) (by decide) (fun cdv A outer s H E hr => pss_cons (ps_ost (pv 0) (pv 1)) (pss_cons (ps_ost (pv 0) (pv 2)) (pss_nil)))
theorem ok_UnlikeLanes___init__ {P : Program} {w : World} {K : PySem.W.Frag} {mg : Str → Option Value} {base : Heap} {f : Addr} {fd : FuncData} (F : FunD K "__init__" "UnlikeLanes.__init__" (defArgs s_UnlikeLanes___init__) (defBody s_UnlikeLanes___init__) (defScope s_UnlikeLanes___init__) [] [] f fd) (hm : mg "UnlikeLanes" = some (.ref (He.ga K "UnlikeLanes"))) (hi : PySem.W.findIn K (.ref (He.ga K "UnlikeLanes")) "__init__" = some (some (.ref f))) (ht : PySem.W.typeIn K (.ref f) = some (.type "function")) (T : Top w K mg) :
    CalleeX P w K mg base "UnlikeLanes" 1 ["one", "other"] :=
  ⟨f, fd, ["self", "one", "other"], hm, T.ek.oex _ (by decide), hi, ht, fnx_UnlikeLanes___init__ F T, F.bindsN fun _ _ _ _ _ _ us hl => match us, hl with | [_, _, _], _ => rfl⟩
abbrev s_BadPairing___init__ : Stmt := (inClass (top 37) 0)
theorem sc_BadPairing___init__ : FnScope ["self", "lot"] ["self", "lot"] (defScope s_BadPairing___init__) := ⟨rfl, rfl, rfl, by decide +kernel, rfl, by decide +kernel, by decide +kernel⟩
theorem fnx_BadPairing___init__ {P : Program} {w : World} {K : PySem.W.Frag} {mg : Str → Option Value} {base : Heap} {f : Addr} {fd : FuncData} (F : FunD K "__init__" "BadPairing.__init__" (defArgs s_BadPairing___init__) (defBody s_BadPairing___init__) (defScope s_BadPairing___init__) [] [] f fd) (T : Top w K mg) :
    FnOk P w K mg base (L2N.CX P w) 1 f fd ["self", "lot"] (spX K "BadPairing" ["lot"]) :=
  xinit_ok F sc_BadPairing___init__ (T.ek.oex _ (by decide)) (fun g hg => T.ek.no _ (by decide) g (by revert g; decide)) (by decide) (fun cdv A outer s H E hr => pss_cons (ps_ost (pv 0) (pv 1)) (pss_nil))
theorem ok_BadPairing___init__ {P : Program} {w : World} {K : PySem.W.Frag} {mg : Str → Option Value} {base : Heap} {f : Addr} {fd : FuncData} (F : FunD K "__init__" "BadPairing.__init__" (defArgs s_BadPairing___init__) (defBody s_BadPairing___init__) (defScope s_BadPairing___init__) [] [] f fd) (hm : mg "BadPairing" = some (.ref (He.ga K "BadPairing"))) (hi : PySem.W.findIn K (.ref (He.ga K "BadPairing")) "__init__" = some (some (.ref f))) (ht : PySem.W.typeIn K (.ref f) = some (.type "function")) (T : Top w K mg) :
    CalleeX P w K mg base "BadPairing" 1 ["lot"] :=
  ⟨f, fd, ["self", "lot"], hm, T.ek.oex _ (by decide), hi, ht, fnx_BadPairing___init__ F T, F.bindsN fun _ _ _ _ _ _ us hl => match us, hl with | [_, _], _ => rfl⟩
abbrev s_BadCap___init__ : Stmt := (inClass (top 38) 0)
theorem sc_BadCap___init__ : FnScope ["self", "pin"] ["self", "pin"] (defScope s_BadCap___init__) := ⟨rfl, rfl, rfl, by decide +kernel, rfl, by decide +kernel, by decide +kernel⟩
theorem fnx_BadCap___init__ {P : Program} {w : World} {K : PySem.W.Frag} {mg : Str → Option Value} {base : Heap} {f : Addr} {fd : FuncData} (F : FunD K "__init__" "BadCap.__init__" (defArgs s_BadCap___init__) (defBody s_BadCap___init__) (defScope s_BadCap___init__) [] [] f fd) (T : Top w K mg) :
    FnOk P w K mg base (L2N.CX P w) 1 f fd ["self", "pin"] (spX K "BadCap" ["pin"]) :=
  xinit_ok F sc_BadCap___init__ (T.ek.oex _ (by decide)) (fun g hg => T.ek.no _ (by decide) g (by revert g; decide)) (by decide) (fun cdv A outer s H E hr => pss_cons (ps_ost (pv 0) (pv 1)) (pss_nil))
theorem ok_BadCap___init__ {P : Program} {w : World} {K : PySem.W.Frag} {mg : Str → Option Value} {base : Heap} {f : Addr} {fd : FuncData} (F : FunD K "__init__" "BadCap.__init__" (defArgs s_BadCap___init__) (defBody s_BadCap___init__) (defScope s_BadCap___init__) [] [] f fd) (hm : mg "BadCap" = some (.ref (He.ga K "BadCap"))) (hi : PySem.W.findIn K (.ref (He.ga K "BadCap")) "__init__" = some (some (.ref f))) (ht : PySem.W.typeIn K (.ref f) = some (.type "function")) (T : Top w K mg) :
    CalleeX P w K mg base "BadCap" 1 ["pin"] :=
  ⟨f, fd, ["self", "pin"], hm, T.ek.oex _ (by decide), hi, ht, fnx_BadCap___init__ F T, F.bindsN fun _ _ _ _ _ _ us hl => match us, hl with | [_, _], _ => rfl⟩
abbrev s_BadPair___init__ : Stmt := (inClass (top 39) 0)
theorem sc_BadPair___init__ : FnScope ["self", "pair"] ["self", "pair"] (defScope s_BadPair___init__) := ⟨rfl, rfl, rfl, by decide +kernel, rfl, by decide +kernel, by decide +kernel⟩
theorem fnx_BadPair___init__ {P : Program} {w : World} {K : PySem.W.Frag} {mg : Str → Option Value} {base : Heap} {f : Addr} {fd : FuncData} (F : FunD K "__init__" "BadPair.__init__" (defArgs s_BadPair___init__) (defBody s_BadPair___init__) (defScope s_BadPair___init__) [] [] f fd) (T : Top w K mg) :
    FnOk P w K mg base (L2N.CX P w) 1 f fd ["self", "pair"] (spX K "BadPair" ["pair"]) :=
  xinit_ok F sc_BadPair___init__ (T.ek.oex _ (by decide)) (fun g hg => T.ek.no _ (by decide) g (by revert g; decide)) (by decide) (fun cdv A outer s H E hr => pss_cons (ps_ost (pv 0) (pv 1)) (pss_nil))
theorem ok_BadPair___init__ {P : Program} {w : World} {K : PySem.W.Frag} {mg : Str → Option Value} {base : Heap} {f : Addr} {fd : FuncData} (F : FunD K "__init__" "BadPair.__init__" (defArgs s_BadPair___init__) (defBody s_BadPair___init__) (defScope s_BadPair___init__) [] [] f fd) (hm : mg "BadPair" = some (.ref (He.ga K "BadPair"))) (hi : PySem.W.findIn K (.ref (He.ga K "BadPair")) "__init__" = some (some (.ref f))) (ht : PySem.W.typeIn K (.ref f) = some (.type "function")) (T : Top w K mg) :
    CalleeX P w K mg base "BadPair" 1 ["pair"] :=
  ⟨f, fd, ["self", "pair"], hm, T.ek.oex _ (by decide), hi, ht, fnx_BadPair___init__ F T, F.bindsN fun _ _ _ _ _ _ us hl => match us, hl with | [_, _], _ => rfl⟩
abbrev s_NoteError___init__ : Stmt := (inClass (top 42) 0)
theorem sc_NoteError___init__ : FnScope ["self", "line"] ["self", "line"] (defScope s_NoteError___init__) := ⟨rfl, rfl, rfl, by decide +kernel, rfl, by decide +kernel, by decide +kernel⟩
theorem fnx_NoteError___init__ {P : Program} {w : World} {K : PySem.W.Frag} {mg : Str → Option Value} {base : Heap} {f : Addr} {fd : FuncData} (F : FunD K "__init__" "NoteError.__init__" (defArgs s_NoteError___init__) (defBody s_NoteError___init__) (defScope s_NoteError___init__) [] [] f fd) (T : Top w K mg) :
    FnOk P w K mg base (L2N.CX P w) 1 f fd ["self", "line"] (spX K "NoteError" ["line"]) :=
  xinit_ok F sc_NoteError___init__ (T.ek.oex _ (by decide)) (fun g hg => T.ek.no _ (by decide) g (by revert g; decide)) (by decide) (fun cdv A outer s H E hr => pss_cons (ps_ost (pv 0) (pv 1)) (pss_nil))
theorem ok_NoteError___init__ {P : Program} {w : World} {K : PySem.W.Frag} {mg : Str → Option Value} {base : Heap} {f : Addr} {fd : FuncData} (F : FunD K "__init__" "NoteError.__init__" (defArgs s_NoteError___init__) (defBody s_NoteError___init__) (defScope s_NoteError___init__) [] [] f fd) (hm : mg "NoteError" = some (.ref (He.ga K "NoteError"))) (hi : PySem.W.findIn K (.ref (He.ga K "NoteError")) "__init__" = some (some (.ref f))) (ht : PySem.W.typeIn K (.ref f) = some (.type "function")) (T : Top w K mg) :
    CalleeX P w K mg base "NoteError" 1 ["line"] :=
  ⟨f, fd, ["self", "line"], hm, T.ek.oex _ (by decide), hi, ht, fnx_NoteError___init__ F T, F.bindsN fun _ _ _ _ _ _ us hl => match us, hl with | [_, _], _ => rfl⟩
abbrev s_is_whole : Stmt := (top 46)
abbrev N_is_whole : List Str := ["value"]
theorem sc_is_whole : FnScope N_is_whole ["value"] (defScope s_is_whole) := ⟨rfl, rfl, rfl, by decide +kernel, rfl, by decide +kernel, by decide +kernel⟩
theorem fn_is_whole {P : Program} {w : World} {K : PySem.W.Frag} {mg : Str → Option Value} {base : Heap} {f : Addr} {fd : FuncData} (F : FunD K "is_whole" "is_whole" (defArgs s_is_whole) (defBody s_is_whole) (defScope s_is_whole) [] [] f fd) (T : Top w K mg) :
    FnOk P w K mg base (L2N.CX P w) 1 f fd ["value"] (spM K [] m_is_whole .sh) := by
  refine def_ok (N := N_is_whole) (ps := ["value"]) (κ := [.sh]) (κ' := [.sh]) (g := g_is_whole) F sc_is_whole (kAt_all rfl) (fun cdv A outer s H E hr => ?_)
  have hu := u65 hr
  have tk : L2N.Takes (cxOf (L2N.CX P w) P w K mg base N_is_whole "is_whole" (defScope s_is_whole) f cdv A outer s H E) (cDef E .sh).W := L2N.takes_of rfl rfl rfl rfl
  have po : PassesOwn (model P w) _ _ (cxOf (L2N.CX P w) P w K mg base N_is_whole "is_whole" (defScope s_is_whole) f cdv A outer s H E).xe := passes_of rfl
  have nd := (sc_is_whole).nd
  exact css_one (κ' := [.sh]) (cs_ret rfl (ce_and (ce_isi T.kit rfl T.b_isinstance (ce_var 0 rfl (pv 0)) (pe_ty rfl T.b_int (by decide +kernel))) (ce_one (ce_not (ce_isi T.kit rfl T.b_isinstance (ce_var 0 rfl (pv 0)) (pe_ty rfl T.b_bool (by decide +kernel)))))) trivial)
theorem ok_is_whole {P : Program} {w : World} {K : PySem.W.Frag} {mg : Str → Option Value} {base : Heap} {f : Addr} {fd : FuncData} (F : FunD K "is_whole" "is_whole" (defArgs s_is_whole) (defBody s_is_whole) (defScope s_is_whole) [] [] f fd) (hm : mg "is_whole" = some (.ref f)) (T : Top w K mg) :
    Callee P w K mg base "is_whole" 1 m_is_whole .sh := callee_of hm F (fn_is_whole F T) (F.bindsN fun _ _ _ _ _ _ us hl => match us, hl with | [_], _ => rfl)
abbrev s_combined : Stmt := (top 47)
abbrev N_combined : List Str := ["triples", "many", "a", "b", "n", "pair"]
theorem sc_combined : FnScope N_combined ["triples"] (defScope s_combined) := ⟨rfl, rfl, rfl, by decide +kernel, rfl, by decide +kernel, by decide +kernel⟩
theorem fn_combined {P : Program} {w : World} {K : PySem.W.Frag} {mg : Str → Option Value} {base : Heap} {f : Addr} {fd : FuncData} (F : FunD K "combined" "combined" (defArgs s_combined) (defBody s_combined) (defScope s_combined) [] [] f fd) (T : Top w K mg) :
    FnOk P w K mg base (L2N.CX P w) 1 f fd ["triples"] (spM K [] m_combined .sh) := by
  refine def_ok (N := N_combined) (ps := ["triples"]) (κ := [.sh, .sh, .sh, .sh, .sh, .sh]) (κ' := [.sh, .dt, .sh, .sh, .sh, .sh]) (g := g_combined) F sc_combined (kAt_all rfl) (fun cdv A outer s H E hr => ?_)
  have hu := u65 hr
  have tk : L2N.Takes (cxOf (L2N.CX P w) P w K mg base N_combined "combined" (defScope s_combined) f cdv A outer s H E) (cDef E .sh).W := L2N.takes_of rfl rfl rfl rfl
  have po : PassesOwn (model P w) _ _ (cxOf (L2N.CX P w) P w K mg base N_combined "combined" (defScope s_combined) f cdv A outer s H E).xe := passes_of rfl
  have nd := (sc_combined).nd
  exact css_cons (κ1 := [.sh, .dt, .sh, .sh, .sh, .sh]) (cs_asg 1 (r := .dt) (show 1 < 6 by decide) trivial (ps_set (i := 1) nd rfl (Or.inr rfl) (ce_dnewT))) (css_cons (κ1 := [.sh, .dt, .sh, .sh, .sh, .sh]) (cs_for (tg := .tp [2, 3, 4]) po rfl (ci_seq (ce_var 0 rfl (pv 0))) (pg_any rfl (pgs_cons (pg_name (i := 2) nd rfl (Or.inl rfl)) (pgs_cons (pg_name (i := 3) nd rfl (Or.inl rfl)) (pgs_cons (pg_name (i := 4) nd rfl (Or.inl rfl)) (pgs_nil))))) (slots_sh rfl) (css_cons (κ1 := [.sh, .dt, .sh, .sh, .sh, .sh]) (cs_if (κ' := [.sh, .dt, .sh, .sh, .sh, .sh]) (ct_bool (cw_and (ct_cmp sem_ne (op_ne.or (op_neD (q64 hu))) (ce_var 2 rfl (pv 2)) (ce_var 3 rfl (pv 3)) (nomark _)) (cw_and1 (ct_cmp sem_gt op_gt (ce_var 4 rfl (pv 4)) (ce_int) (nomark _))))) (css_cons (κ1 := [.sh, .dt, .sh, .sh, .sh, .pt]) (cs_asg 5 (r := .pt) (show 5 < 6 by decide) trivial (ps_set (i := 5) nd rfl (Or.inl rfl) (ce_tupP (ca_cons (ce_callB sem_min2 (call_min2 rfl) rfl T.b_min (by decide +kernel) (ca_cons (ce_var 2 rfl (pv 2)) (ca_cons (ce_var 3 rfl (pv 3)) (ca_nil)))) (ca_cons (ce_callB sem_max2 (call_max2 rfl) rfl T.b_max (by decide +kernel) (ca_cons (ce_var 2 rfl (pv 2)) (ca_cons (ce_var 3 rfl (pv 3)) (ca_nil)))) (ca_nil)))))) (css_cons (κ1 := [.sh, .dt, .sh, .sh, .sh, .pt]) (cs_dput 1 hu rfl trivial (pv 1) (ce_add (ce_dgetD 1 hu rfl (pv 1) (ce_varP 5 rfl (pv 5)) (ce_int)) (ce_var 4 rfl (pv 4))) (ce_varP 5 rfl (pv 5))) (css_freeze 5 (Or.inl rfl) (show 5 < 6 by decide) (css_nil)))) (css_nil) trivial) (css_nil)) trivial) (css_one (κ' := [.sh, .dt, .sh, .sh, .sh, .sh]) (cs_ret rfl (ce_callTy sem_tuple call_tuple_of rfl T.b_tuple (by decide +kernel) (ca_cons (ce_share (ce_compO (own := [("a", 2), ("b", 3)]) (tg := .tp [2, 3]) rfl nd (ci_seq (ce_share (ce_sortT 1 rfl T.b_sorted rfl (pv 1)))) (show BlkOk N_combined (defScope s_combined) _ _ from blkOk_by (by decide +kernel)) (slots_own rfl) (fun _ _ _ _ _ => pg_any rfl (pgs_cons (pg_name (i := 2) nd rfl (Or.inl rfl)) (pgs_cons (pg_name (i := 3) nd rfl (Or.inl rfl)) (pgs_nil)))) (fun _ _ _ _ _ => cts_nil) (fun _ _ _ _ _ => ce_tup (ca_cons (ce_var 2 rfl (pv 2)) (ca_cons (ce_var 3 rfl (pv 3)) (ca_cons (ce_dget 1 hu rfl (pv 1) (ce_tupP (ca_cons (ce_var 2 rfl (pv 2)) (ca_cons (ce_var 3 rfl (pv 3)) (ca_nil))))) (ca_nil))))))) (ca_nil))) trivial)))
theorem ok_combined {P : Program} {w : World} {K : PySem.W.Frag} {mg : Str → Option Value} {base : Heap} {f : Addr} {fd : FuncData} (F : FunD K "combined" "combined" (defArgs s_combined) (defBody s_combined) (defScope s_combined) [] [] f fd) (hm : mg "combined" = some (.ref f)) (T : Top w K mg) :
    Callee P w K mg base "combined" 1 m_combined .sh := callee_of hm F (fn_combined F T) (F.bindsN fun _ _ _ _ _ _ us hl => match us, hl with | [_], _ => rfl)
abbrev s_is_pin : Stmt := (top 54)
abbrev N_is_pin : List Str := ["pins", "value"]
theorem sc_is_pin : FnScope N_is_pin ["pins", "value"] (defScope s_is_pin) := ⟨rfl, rfl, rfl, by decide +kernel, rfl, by decide +kernel, by decide +kernel⟩
theorem fn_is_pin {P : Program} {w : World} {K : PySem.W.Frag} {mg : Str → Option Value} {base : Heap} {f : Addr} {fd : FuncData} (F : FunD K "is_pin" "is_pin" (defArgs s_is_pin) (defBody s_is_pin) (defScope s_is_pin) [] [] f fd) (T : Top w K mg) (Cf_is_whole : Callee P w K mg base "is_whole" 1 m_is_whole .sh) :
    FnOk P w K mg base (L2N.CX P w) 2 f fd ["pins", "value"] (spM K [] m_is_pin .sh) := by
  refine def_ok (N := N_is_pin) (ps := ["pins", "value"]) (κ := [.sh, .sh]) (κ' := [.sh, .sh]) (g := g_is_pin) F sc_is_pin (kAt_all rfl) (fun cdv A outer s H E hr => ?_)
  have hu := u65 hr
  have tk : L2N.Takes (cxOf (L2N.CX P w) P w K mg base N_is_pin "is_pin" (defScope s_is_pin) f cdv A outer s H E) (cDef E .sh).W := L2N.takes_of rfl rfl rfl rfl
  have po : PassesOwn (model P w) _ _ (cxOf (L2N.CX P w) P w K mg base N_is_pin "is_pin" (defScope s_is_pin) f cdv A outer s H E).xe := passes_of rfl
  have nd := (sc_is_pin).nd
  exact css_one (κ' := [.sh, .sh]) (cs_ret rfl (ce_and (ce_call Cf_is_whole (hr.mono (by decide)) tk rfl (ca_cons (ce_var 1 rfl (pv 1)) (ca_nil))) (ce_one (ce_chain sem_le sem_lt op_le op_lt (ce_int) (ce_var 1 rfl (pv 1)) (ce_var 0 rfl (pv 0))))) trivial)
theorem ok_is_pin {P : Program} {w : World} {K : PySem.W.Frag} {mg : Str → Option Value} {base : Heap} {f : Addr} {fd : FuncData} (F : FunD K "is_pin" "is_pin" (defArgs s_is_pin) (defBody s_is_pin) (defScope s_is_pin) [] [] f fd) (hm : mg "is_pin" = some (.ref f)) (T : Top w K mg) (Cf_is_whole : Callee P w K mg base "is_whole" 1 m_is_whole .sh) :
    Callee P w K mg base "is_pin" 2 m_is_pin .sh := callee_of hm F (fn_is_pin F T Cf_is_whole) (F.bindsN fun _ _ _ _ _ _ us hl => match us, hl with | [_, _], _ => rfl)
abbrev s_is_entry : Stmt := (top 55)
abbrev N_is_entry : List Str := ["pins", "entry", "a", "b", "n"]
theorem sc_is_entry : FnScope N_is_entry ["pins", "entry"] (defScope s_is_entry) := ⟨rfl, rfl, rfl, by decide +kernel, rfl, by decide +kernel, by decide +kernel⟩
theorem fn_is_entry {P : Program} {w : World} {K : PySem.W.Frag} {mg : Str → Option Value} {base : Heap} {f : Addr} {fd : FuncData} (F : FunD K "is_entry" "is_entry" (defArgs s_is_entry) (defBody s_is_entry) (defScope s_is_entry) [] [] f fd) (T : Top w K mg) (Cf_is_pin : Callee P w K mg base "is_pin" 2 m_is_pin .sh) (Cf_is_whole : Callee P w K mg base "is_whole" 1 m_is_whole .sh) :
    FnOk P w K mg base (L2N.CX P w) 3 f fd ["pins", "entry"] (spM K [] m_is_entry .sh) := by
  refine def_ok (N := N_is_entry) (ps := ["pins", "entry"]) (κ := [.sh, .sh, .sh, .sh, .sh]) (κ' := [.sh, .sh, .sh, .sh, .sh]) (g := g_is_entry) F sc_is_entry (kAt_all rfl) (fun cdv A outer s H E hr => ?_)
  have hu := u65 hr
  have tk : L2N.Takes (cxOf (L2N.CX P w) P w K mg base N_is_entry "is_entry" (defScope s_is_entry) f cdv A outer s H E) (cDef E .sh).W := L2N.takes_of rfl rfl rfl rfl
  have po : PassesOwn (model P w) _ _ (cxOf (L2N.CX P w) P w K mg base N_is_entry "is_entry" (defScope s_is_entry) f cdv A outer s H E).xe := passes_of rfl
  have nd := (sc_is_entry).nd
  exact css_cons (κ1 := [.sh, .sh, .sh, .sh, .sh]) (cs_if (κ' := [.sh, .sh, .sh, .sh, .sh]) (ct_bool (cw_or (ct_not (ct_val (ce_isiT T.kit rfl T.b_isinstance (ce_var 1 rfl (pv 1)) (PCls.cons (pe_ty rfl T.b_list (by decide +kernel)) rfl (PCls.cons (pe_ty rfl T.b_tuple (by decide +kernel)) rfl (PCls.nil)))))) (cw_or1 (ct_cmp sem_ne (op_ne.or (op_neD (q64 hu))) (ce_callB sem_len call_len rfl T.b_len (by decide +kernel) (ca_cons (ce_var 1 rfl (pv 1)) (ca_nil))) (ce_int) (nomark _))))) (css_one (κ' := [.sh, .sh, .sh, .sh, .sh]) (cs_ret rfl (ce_bl) trivial)) (css_nil) trivial) (css_cons (κ1 := [.sh, .sh, .sh, .sh, .sh]) (cs_unp [2, 3, 4] trivial (slots_sh rfl) (ps_asg (ce_var 1 rfl (pv 1)) (pg_any rfl (pgs_cons (pg_name (i := 2) nd rfl (Or.inl rfl)) (pgs_cons (pg_name (i := 3) nd rfl (Or.inl rfl)) (pgs_cons (pg_name (i := 4) nd rfl (Or.inl rfl)) (pgs_nil))))))) (css_one (κ' := [.sh, .sh, .sh, .sh, .sh]) (cs_ret rfl (ce_and (ce_call Cf_is_pin (hr.mono (by decide)) tk rfl (ca_cons (ce_var 0 rfl (pv 0)) (ca_cons (ce_var 2 rfl (pv 2)) (ca_nil)))) (ce_and (ce_call Cf_is_pin (hr.mono (by decide)) tk rfl (ca_cons (ce_var 0 rfl (pv 0)) (ca_cons (ce_var 3 rfl (pv 3)) (ca_nil)))) (ce_and (ce_cmp sem_ne (op_ne.or (op_neD (q64 hu))) (ce_var 2 rfl (pv 2)) (ce_var 3 rfl (pv 3)) (nomark _)) (ce_and (ce_call Cf_is_whole (hr.mono (by decide)) tk rfl (ca_cons (ce_var 4 rfl (pv 4)) (ca_nil))) (ce_one (ce_cmp sem_ge op_ge (ce_var 4 rfl (pv 4)) (ce_int) (nomark _))))))) trivial)))
theorem ok_is_entry {P : Program} {w : World} {K : PySem.W.Frag} {mg : Str → Option Value} {base : Heap} {f : Addr} {fd : FuncData} (F : FunD K "is_entry" "is_entry" (defArgs s_is_entry) (defBody s_is_entry) (defScope s_is_entry) [] [] f fd) (hm : mg "is_entry" = some (.ref f)) (T : Top w K mg) (Cf_is_pin : Callee P w K mg base "is_pin" 2 m_is_pin .sh) (Cf_is_whole : Callee P w K mg base "is_whole" 1 m_is_whole .sh) :
    Callee P w K mg base "is_entry" 3 m_is_entry .sh := callee_of hm F (fn_is_entry F T Cf_is_pin Cf_is_whole) (F.bindsN fun _ _ _ _ _ _ us hl => match us, hl with | [_, _], _ => rfl)
abbrev s_Lot___init__ : Stmt := (inClass (top 57) 0)
abbrev N_Lot___init__ : List Str := ["self", "pins", "cords", "entry"]
theorem sc_Lot___init__ : FnScope N_Lot___init__ ["self", "pins", "cords"] (defScope s_Lot___init__) := ⟨rfl, rfl, rfl, by decide +kernel, rfl, by decide +kernel, by decide +kernel⟩
theorem ok_Lot___init__ {P : Program} {w : World} {K : PySem.W.Frag} {mg : Str → Option Value} {base : Heap} {f : Addr} {fd : FuncData} (F : FunD K "__init__" "Lot.__init__" (defArgs s_Lot___init__) (defBody s_Lot___init__) (defScope s_Lot___init__) (dvL K) [] f fd) (hm : mg "Lot" = some (.ref (He.ga K "Lot"))) (hM : Mk K (He.ga K "Lot") f) (T : Top w K mg) (Cf_is_whole : Callee P w K mg base "is_whole" 1 m_is_whole .sh) (Cx_BadPins : CalleeX P w K mg base "BadPins" 1 ["pins"]) (Cf_is_entry : Callee P w K mg base "is_entry" 3 m_is_entry .sh) (Cx_BadCord : CalleeX P w K mg base "BadCord" 1 ["entry"]) (Cf_combined : Callee P w K mg base "combined" 1 m_combined .sh) :
    CalleeI P w K mg base "Lot" 4 m_Lot___init__ := by
  refine ⟨f, fd, ["self", "pins", "cords"], [], [], [], hm, hM, init_ok (N := ["pins", "cords", "entry"]) (ps := ["pins", "cords"]) (κ := [.sh, .sh, .sh]) (κ' := fun a => [(.slf a), .sh, .sh, .sh]) (g := g_Lot___init__) F sc_Lot___init__ (kAt_all rfl) (fun _ => rfl) (fun a cdv A outer s H E hr => ?_), (bndL F), .nil, fun _ => .nil⟩
  have hu := u65 hr
  have tk : L2N.Takes (cxOf (L2N.CX P w) P w K mg base N_Lot___init__ "Lot.__init__" (defScope s_Lot___init__) f cdv A outer s H E) (cInit E).W := L2N.takes_of rfl rfl rfl rfl
  have po : PassesOwn (model P w) _ _ (cxOf (L2N.CX P w) P w K mg base N_Lot___init__ "Lot.__init__" (defScope s_Lot___init__) f cdv A outer s H E).xe := passes_of rfl
  have nd := (sc_Lot___init__).nd
  exact css_cons (κ1 := [(.slf a), .sh, .sh, .sh]) (cs_if (κ' := [(.slf a), .sh, .sh, .sh]) (ct_bool (cw_or (ct_not (ct_val (ce_call Cf_is_whole (hr.mono (by decide)) tk rfl (ca_cons (ce_var 1 rfl (pv 1)) (ca_nil))))) (cw_or1 (ct_cmp sem_lt op_lt (ce_var 1 rfl (pv 1)) (ce_int) (nomark _))))) (css_one (κ' := [(.slf a), .sh, .sh, .sh]) (cs_raise Cx_BadPins (hr.mono (by decide)) rfl tk rfl (ca_cons (ce_var 1 rfl (pv 1)) (ca_nil)) trivial)) (css_nil) trivial) (css_cons (κ1 := [(.slf a), .sh, .sh, .sh]) (cs_for (tg := .nm 3) po rfl (ci_seq (ce_var 2 rfl (pv 2))) (pg_name (i := 3) nd rfl (Or.inl rfl)) (slots_sh rfl) (css_cons (κ1 := [(.slf a), .sh, .sh, .sh]) (cs_if (κ' := [(.slf a), .sh, .sh, .sh]) (ct_not (ct_val (ce_call Cf_is_entry (hr.mono (by decide)) tk rfl (ca_cons (ce_var 1 rfl (pv 1)) (ca_cons (ce_var 3 rfl (pv 3)) (ca_nil)))))) (css_one (κ' := [(.slf a), .sh, .sh, .sh]) (cs_raise Cx_BadCord (hr.mono (by decide)) rfl tk rfl (ca_cons (ce_var 3 rfl (pv 3)) (ca_nil)) trivial)) (css_nil) trivial) (css_nil)) trivial) (css_cons (κ1 := [(.slf a), .sh, .sh, .sh]) (cs_setA 0 T.f_pins rfl trivial (pv 0) (ce_var 1 rfl (pv 1))) (css_cons (κ1 := [(.slf a), .sh, .sh, .sh]) (cs_setA 0 T.f_cords rfl trivial (pv 0) (ce_call Cf_combined (hr.mono (by decide)) tk rfl (ca_cons (ce_var 2 rfl (pv 2)) (ca_nil)))) (css_nil))))
abbrev s__law_whole : Stmt := (top 59)
abbrev N__law_whole : List Str := ["_law_value"]
theorem sc__law_whole : FnScope N__law_whole ["_law_value"] (defScope s__law_whole) := ⟨rfl, rfl, rfl, by decide +kernel, rfl, by decide +kernel, by decide +kernel⟩
theorem fn__law_whole {P : Program} {w : World} {K : PySem.W.Frag} {mg : Str → Option Value} {base : Heap} {f : Addr} {fd : FuncData} (F : FunD K "_law_whole" "_law_whole" (defArgs s__law_whole) (defBody s__law_whole) (defScope s__law_whole) [] [] f fd) (T : Top w K mg) :
    FnOk P w K mg base (L2N.CX P w) 1 f fd ["_law_value"] (spM K [] m__law_whole .sh) := by
  refine def_ok (N := N__law_whole) (ps := ["_law_value"]) (κ := [.sh]) (κ' := [.sh]) (g := g__law_whole) F sc__law_whole (kAt_all rfl) (fun cdv A outer s H E hr => ?_)
  have hu := u65 hr
  have tk : L2N.Takes (cxOf (L2N.CX P w) P w K mg base N__law_whole "_law_whole" (defScope s__law_whole) f cdv A outer s H E) (cDef E .sh).W := L2N.takes_of rfl rfl rfl rfl
  have po : PassesOwn (model P w) _ _ (cxOf (L2N.CX P w) P w K mg base N__law_whole "_law_whole" (defScope s__law_whole) f cdv A outer s H E).xe := passes_of rfl
  have nd := (sc__law_whole).nd
  exact css_one (κ' := [.sh]) (cs_ret rfl (ce_and (ce_isi T.kit rfl T.b_isinstance (ce_var 0 rfl (pv 0)) (pe_ty rfl T.b_int (by decide +kernel))) (ce_one (ce_not (ce_isi T.kit rfl T.b_isinstance (ce_var 0 rfl (pv 0)) (pe_ty rfl T.b_bool (by decide +kernel)))))) trivial)
theorem ok__law_whole {P : Program} {w : World} {K : PySem.W.Frag} {mg : Str → Option Value} {base : Heap} {f : Addr} {fd : FuncData} (F : FunD K "_law_whole" "_law_whole" (defArgs s__law_whole) (defBody s__law_whole) (defScope s__law_whole) [] [] f fd) (hm : mg "_law_whole" = some (.ref f)) (T : Top w K mg) :
    Callee P w K mg base "_law_whole" 1 m__law_whole .sh := callee_of hm F (fn__law_whole F T) (F.bindsN fun _ _ _ _ _ _ us hl => match us, hl with | [_], _ => rfl)
abbrev s__law_cell : Stmt := (top 60)
abbrev N__law_cell : List Str := ["_law_script", "_law_k", "_law_seed", "_law_cell_here"]
theorem sc__law_cell : FnScope N__law_cell ["_law_script", "_law_k"] (defScope s__law_cell) := ⟨rfl, rfl, rfl, by decide +kernel, rfl, by decide +kernel, by decide +kernel⟩
theorem fn__law_cell {P : Program} {w : World} {K : PySem.W.Frag} {mg : Str → Option Value} {base : Heap} {f : Addr} {fd : FuncData} (F : FunD K "_law_cell" "_law_cell" (defArgs s__law_cell) (defBody s__law_cell) (defScope s__law_cell) [] [] f fd) (T : Top w K mg) :
    FnOk P w K mg base (L2N.CX P w) 1 f fd ["_law_script", "_law_k"] (spM K [] m__law_cell .sh) := by
  refine def_ok (N := N__law_cell) (ps := ["_law_script", "_law_k"]) (κ := [.sh, .sh, .sh, .sh]) (κ' := [.sh, .sh, .sh, .sh]) (g := g__law_cell) F sc__law_cell (kAt_all rfl) (fun cdv A outer s H E hr => ?_)
  have hu := u65 hr
  have tk : L2N.Takes (cxOf (L2N.CX P w) P w K mg base N__law_cell "_law_cell" (defScope s__law_cell) f cdv A outer s H E) (cDef E .sh).W := L2N.takes_of rfl rfl rfl rfl
  have po : PassesOwn (model P w) _ _ (cxOf (L2N.CX P w) P w K mg base N__law_cell "_law_cell" (defScope s__law_cell) f cdv A outer s H E).xe := passes_of rfl
  have nd := (sc__law_cell).nd
  exact css_cons (κ1 := [.sh, .sh, .sh, .sh]) (cs_if (κ' := [.sh, .sh, .sh, .sh]) (ct_cmp sem_lt op_lt (ce_var 1 rfl (pv 1)) (ce_callB sem_len call_len rfl T.b_len (by decide +kernel) (ca_cons (ce_var 0 rfl (pv 0)) (ca_nil))) (nomark _)) (css_one (κ' := [.sh, .sh, .sh, .sh]) (cs_ret rfl (ce_ix (ce_var 0 rfl (pv 0)) (ce_var 1 rfl (pv 1))) trivial)) (css_nil) trivial) (css_cons (κ1 := [.sh, .sh, .sh, .sh]) (cs_asg 2 (r := .sh) (show 2 < 4 by decide) trivial (ps_set (i := 2) nd rfl (Or.inl rfl) (ce_int))) (css_cons (κ1 := [.sh, .sh, .sh, .sh]) (cs_for (tg := .nm 3) po rfl (ci_seq (ce_var 0 rfl (pv 0))) (pg_name (i := 3) nd rfl (Or.inl rfl)) (slots_sh rfl) (css_cons (κ1 := [.sh, .sh, .sh, .sh]) (cs_asg 2 (r := .sh) (show 2 < 4 by decide) trivial (ps_set (i := 2) nd rfl (Or.inl rfl) (ce_mod (ce_callTy sem_intA call_intA rfl T.b_int (by decide +kernel) (ca_cons (ce_add (ce_mul (ce_var 2 rfl (pv 2)) (ce_int)) (ce_mod (ce_callTy sem_intA call_intA rfl T.b_int (by decide +kernel) (ca_cons (ce_var 3 rfl (pv 3)) (ca_nil))) (ce_int))) (ca_nil))) (ce_int)))) (css_nil)) trivial) (css_one (κ' := [.sh, .sh, .sh, .sh]) (cs_ret rfl (ce_mod (ce_callTy sem_intA call_intA rfl T.b_int (by decide +kernel) (ca_cons (ce_mul (ce_mul (ce_add (ce_var 2 rfl (pv 2)) (ce_int)) (ce_add (ce_var 1 rfl (pv 1)) (ce_int))) (ce_int)) (ca_nil))) (ce_int)) trivial))))
theorem ok__law_cell {P : Program} {w : World} {K : PySem.W.Frag} {mg : Str → Option Value} {base : Heap} {f : Addr} {fd : FuncData} (F : FunD K "_law_cell" "_law_cell" (defArgs s__law_cell) (defBody s__law_cell) (defScope s__law_cell) [] [] f fd) (hm : mg "_law_cell" = some (.ref f)) (T : Top w K mg) :
    Callee P w K mg base "_law_cell" 1 m__law_cell .sh := callee_of hm F (fn__law_cell F T) (F.bindsN fun _ _ _ _ _ _ us hl => match us, hl with | [_, _], _ => rfl)
abbrev s__law_digits : Stmt := (top 61)
abbrev N__law_digits : List Str := ["_law_cell_here", "_law_sizes", "_law_bits", "_law_rest", "_law_size", "_law_seed", "_law_k", "_law_more"]
theorem sc__law_digits : FnScope N__law_digits ["_law_cell_here", "_law_sizes"] (defScope s__law_digits) := ⟨rfl, rfl, rfl, by decide +kernel, rfl, by decide +kernel, by decide +kernel⟩
theorem fn__law_digits {P : Program} {w : World} {K : PySem.W.Frag} {mg : Str → Option Value} {base : Heap} {f : Addr} {fd : FuncData} (F : FunD K "_law_digits" "_law_digits" (defArgs s__law_digits) (defBody s__law_digits) (defScope s__law_digits) [] [] f fd) (T : Top w K mg) :
    FnOk P w K mg base (L2N.CX P w) 1 f fd ["_law_cell_here", "_law_sizes"] (spM K [] m__law_digits .sh) := by
  refine def_ok (N := N__law_digits) (ps := ["_law_cell_here", "_law_sizes"]) (κ := [.sh, .sh, .sh, .sh, .sh, .sh, .sh, .sh]) (κ' := [.sh, .sh, .sh, .sh, .sh, .sh, .sh, .sh]) (g := g__law_digits) F sc__law_digits (kAt_all rfl) (fun cdv A outer s H E hr => ?_)
  have hu := u65 hr
  have tk : L2N.Takes (cxOf (L2N.CX P w) P w K mg base N__law_digits "_law_digits" (defScope s__law_digits) f cdv A outer s H E) (cDef E .sh).W := L2N.takes_of rfl rfl rfl rfl
  have po : PassesOwn (model P w) _ _ (cxOf (L2N.CX P w) P w K mg base N__law_digits "_law_digits" (defScope s__law_digits) f cdv A outer s H E).xe := passes_of rfl
  have nd := (sc__law_digits).nd
  exact css_cons (κ1 := [.sh, .sh, (.ls .sh), .sh, .sh, .sh, .sh, .sh]) (cs_asg 2 (r := (.ls .sh)) (show 2 < 8 by decide) trivial (ps_set (i := 2) nd rfl (Or.inl rfl) (ce_nilO))) (css_cons (κ1 := [.sh, .sh, (.ls .sh), .sh, .sh, .sh, .sh, .sh]) (cs_asg 3 (r := .sh) (show 3 < 8 by decide) trivial (ps_set (i := 3) nd rfl (Or.inl rfl) (ce_callTy sem_intA call_intA rfl T.b_int (by decide +kernel) (ca_cons (ce_var 0 rfl (pv 0)) (ca_nil))))) (css_cons (κ1 := [.sh, .sh, (.ls .sh), .sh, .sh, .sh, .sh, .sh]) (cs_if (κ' := [.sh, .sh, (.ls .sh), .sh, .sh, .sh, .sh, .sh]) (ct_cmp sem_ge op_ge (ce_var 3 rfl (pv 3)) (ce_pow (ce_int) (ce_int)) (nomark _)) (css_cons (κ1 := [.sh, .sh, (.ls .sh), .sh, .sh, .sh, .sh, .sh]) (cs_asg 3 (r := .sh) (show 3 < 8 by decide) trivial (ps_set (i := 3) nd rfl (Or.inl rfl) (ce_sub (ce_var 3 rfl (pv 3)) (ce_pow (ce_int) (ce_int))))) (css_cons (κ1 := [.sh, .sh, (.ls .sh), .sh, .sh, .sh, .sh, .sh]) (cs_for (tg := .nm 4) po rfl (ci_seq (ce_var 1 rfl (pv 1))) (pg_name (i := 4) nd rfl (Or.inl rfl)) (slots_sh rfl) (css_cons (κ1 := [.sh, .sh, (.ls .sh), .sh, .sh, .sh, .sh, .sh]) (cs_append 2 (k := .sh) rfl trivial (ps_expr (pe_bm PySem.F.plainAttrs_list PySem.F.slot_list_append PySem.F.type_list_append mt_append (pv 2) (pa_cons (ce_mod (ce_callTy sem_intA call_intA rfl T.b_int (by decide +kernel) (ca_cons (ce_var 3 rfl (pv 3)) (ca_nil))) (ce_var 4 rfl (pv 4))) pa_nil)))) (css_cons (κ1 := [.sh, .sh, (.ls .sh), .sh, .sh, .sh, .sh, .sh]) (cs_asg 3 (r := .sh) (show 3 < 8 by decide) trivial (ps_set (i := 3) nd rfl (Or.inl rfl) (ce_fdiv (ce_callTy sem_intA call_intA rfl T.b_int (by decide +kernel) (ca_cons (ce_var 3 rfl (pv 3)) (ca_nil))) (ce_var 4 rfl (pv 4))))) (css_nil))) trivial) (css_freeze 2 (Or.inl rfl) (show 2 < 8 by decide) (css_one (κ' := [.sh, .sh, (.ls .sh), .sh, .sh, .sh, .sh, .sh]) (cs_ret rfl (ce_var 2 rfl (pv 2)) trivial))))) (css_nil) trivial) (css_cons (κ1 := [.sh, .sh, (.ls .sh), .sh, .sh, .sh, .sh, .sh]) (cs_asg 5 (r := .sh) (show 5 < 8 by decide) trivial (ps_set (i := 5) nd rfl (Or.inl rfl) (ce_mod (ce_callTy sem_intA call_intA rfl T.b_int (by decide +kernel) (ca_cons (ce_var 3 rfl (pv 3)) (ca_nil))) (ce_int)))) (css_cons (κ1 := [.sh, .sh, (.ls .sh), .sh, .sh, .sh, .sh, .sh]) (cs_for (tg := .nm 6) po rfl (ci_range1 rfl T.b_range (ca_cons (ce_callB sem_len call_len rfl T.b_len (by decide +kernel) (ca_cons (ce_var 1 rfl (pv 1)) (ca_nil))) (ca_nil))) (pg_name (i := 6) nd rfl (Or.inl rfl)) (slots_sh rfl) (css_cons (κ1 := [.sh, .sh, (.ls .sh), .sh, .sh, .sh, .sh, .sh]) (cs_asg 5 (r := .sh) (show 5 < 8 by decide) trivial (ps_set (i := 5) nd rfl (Or.inl rfl) (ce_mod (ce_callTy sem_intA call_intA rfl T.b_int (by decide +kernel) (ca_cons (ce_add (ce_add (ce_mul (ce_var 5 rfl (pv 5)) (ce_int)) (ce_mul (ce_int) (ce_var 6 rfl (pv 6)))) (ce_int)) (ca_nil))) (ce_int)))) (css_cons (κ1 := [.sh, .sh, (.ls .sh), .sh, .sh, .sh, .sh, .sh]) (cs_asg 7 (r := .sh) (show 7 < 8 by decide) trivial (ps_set (i := 7) nd rfl (Or.inl rfl) (ce_mod (ce_callTy sem_intA call_intA rfl T.b_int (by decide +kernel) (ca_cons (ce_mul (ce_var 5 rfl (pv 5)) (ce_add (ce_fdiv (ce_var 5 rfl (pv 5)) (ce_int)) (ce_int))) (ca_nil))) (ce_int)))) (css_cons (κ1 := [.sh, .sh, (.ls .sh), .sh, .sh, .sh, .sh, .sh]) (cs_append 2 (k := .sh) rfl trivial (ps_expr (pe_bm PySem.F.plainAttrs_list PySem.F.slot_list_append PySem.F.type_list_append mt_append (pv 2) (pa_cons (ce_mod (ce_fdiv (ce_var 7 rfl (pv 7)) (ce_int)) (ce_ix (ce_var 1 rfl (pv 1)) (ce_var 6 rfl (pv 6)))) pa_nil)))) (css_nil)))) trivial) (css_freeze 2 (Or.inl rfl) (show 2 < 8 by decide) (css_one (κ' := [.sh, .sh, .sh, .sh, .sh, .sh, .sh, .sh]) (cs_ret rfl (ce_var 2 rfl (pv 2)) trivial)))))))
theorem ok__law_digits {P : Program} {w : World} {K : PySem.W.Frag} {mg : Str → Option Value} {base : Heap} {f : Addr} {fd : FuncData} (F : FunD K "_law_digits" "_law_digits" (defArgs s__law_digits) (defBody s__law_digits) (defScope s__law_digits) [] [] f fd) (hm : mg "_law_digits" = some (.ref f)) (T : Top w K mg) :
    Callee P w K mg base "_law_digits" 1 m__law_digits .sh := callee_of hm F (fn__law_digits F T) (F.bindsN fun _ _ _ _ _ _ us hl => match us, hl with | [_, _], _ => rfl)
abbrev s__law_number : Stmt := (top 69)
abbrev N__law_number : List Str := ["_law_cell_here", "_law_bits"]
theorem sc__law_number : FnScope N__law_number ["_law_cell_here"] (defScope s__law_number) := ⟨rfl, rfl, rfl, by decide +kernel, rfl, by decide +kernel, by decide +kernel⟩
theorem fn__law_number {P : Program} {w : World} {K : PySem.W.Frag} {mg : Str → Option Value} {base : Heap} {f : Addr} {fd : FuncData} (F : FunD K "_law_number" "_law_number" (defArgs s__law_number) (defBody s__law_number) (defScope s__law_number) [] [] f fd) (T : Top w K mg) (Cf__law_digits : Callee P w K mg base "_law_digits" 1 m__law_digits .sh) :
    FnOk P w K mg base (L2N.CX P w) 2 f fd ["_law_cell_here"] (spM K [] m__law_number .sh) := by
  refine def_ok (N := N__law_number) (ps := ["_law_cell_here"]) (κ := [.sh, .sh]) (κ' := [.sh, .sh]) (g := g__law_number) F sc__law_number (kAt_all rfl) (fun cdv A outer s H E hr => ?_)
  have hu := u65 hr
  have tk : L2N.Takes (cxOf (L2N.CX P w) P w K mg base N__law_number "_law_number" (defScope s__law_number) f cdv A outer s H E) (cDef E .sh).W := L2N.takes_of rfl rfl rfl rfl
  have po : PassesOwn (model P w) _ _ (cxOf (L2N.CX P w) P w K mg base N__law_number "_law_number" (defScope s__law_number) f cdv A outer s H E).xe := passes_of rfl
  have nd := (sc__law_number).nd
  exact css_cons (κ1 := [.sh, .sh]) (cs_asg 1 (r := .sh) (show 1 < 2 by decide) trivial (ps_set (i := 1) nd rfl (Or.inl rfl) (ce_call Cf__law_digits (hr.mono (by decide)) tk rfl (ca_cons (ce_var 0 rfl (pv 0)) (ca_cons (ce_lst (ca_cons (ce_int) (ca_cons (ce_int) (ca_cons (ce_add (ce_pow (ce_int) (ce_int)) (ce_int)) (ca_nil))))) (ca_nil)))))) (css_one (κ' := [.sh, .sh]) (cs_ret rfl (ce_ix (ce_lst (ca_cons (ce_ix (ce_var 1 rfl (pv 1)) (ce_int)) (ca_cons (ce_ix (ce_var 1 rfl (pv 1)) (ce_int)) (ca_cons (ce_sub (ce_neg (ce_int)) (ce_ix (ce_var 1 rfl (pv 1)) (ce_int))) (ca_cons (ce_neg (ce_ix (ce_var 1 rfl (pv 1)) (ce_int))) (ca_cons (ce_ix (ce_var 1 rfl (pv 1)) (ce_int)) (ca_nil))))))) (ce_ix (ce_var 1 rfl (pv 1)) (ce_int))) trivial))
theorem ok__law_number {P : Program} {w : World} {K : PySem.W.Frag} {mg : Str → Option Value} {base : Heap} {f : Addr} {fd : FuncData} (F : FunD K "_law_number" "_law_number" (defArgs s__law_number) (defBody s__law_number) (defScope s__law_number) [] [] f fd) (hm : mg "_law_number" = some (.ref f)) (T : Top w K mg) (Cf__law_digits : Callee P w K mg base "_law_digits" 1 m__law_digits .sh) :
    Callee P w K mg base "_law_number" 2 m__law_number .sh := callee_of hm F (fn__law_number F T Cf__law_digits) (F.bindsN fun _ _ _ _ _ _ us hl => match us, hl with | [_], _ => rfl)
abbrev s__law_thing : Stmt := (top 70)
abbrev N__law_thing : List Str := ["_law_cell_here", "_law_w", "_law_x", "_law_menu"]
theorem sc__law_thing : FnScope N__law_thing ["_law_cell_here", "_law_w", "_law_x"] (defScope s__law_thing) := ⟨rfl, rfl, rfl, by decide +kernel, rfl, by decide +kernel, by decide +kernel⟩
theorem fn__law_thing {P : Program} {w : World} {K : PySem.W.Frag} {mg : Str → Option Value} {base : Heap} {f : Addr} {fd : FuncData} (F : FunD K "_law_thing" "_law_thing" (defArgs s__law_thing) (defBody s__law_thing) (defScope s__law_thing) [] [] f fd) (T : Top w K mg) (Cf__law_digits : Callee P w K mg base "_law_digits" 1 m__law_digits .sh) :
    FnOk P w K mg base (L2N.CX P w) 2 f fd ["_law_cell_here", "_law_w", "_law_x"] (spM K [] m__law_thing .sh) := by
  refine def_ok (N := N__law_thing) (ps := ["_law_cell_here", "_law_w", "_law_x"]) (κ := [.sh, .sh, .sh, .sh]) (κ' := [.sh, .sh, .sh, .sh]) (g := g__law_thing) F sc__law_thing (kAt_all rfl) (fun cdv A outer s H E hr => ?_)
  have hu := u65 hr
  have tk : L2N.Takes (cxOf (L2N.CX P w) P w K mg base N__law_thing "_law_thing" (defScope s__law_thing) f cdv A outer s H E) (cDef E .sh).W := L2N.takes_of rfl rfl rfl rfl
  have po : PassesOwn (model P w) _ _ (cxOf (L2N.CX P w) P w K mg base N__law_thing "_law_thing" (defScope s__law_thing) f cdv A outer s H E).xe := passes_of rfl
  have nd := (sc__law_thing).nd
  exact css_cons (κ1 := [.sh, .sh, .sh, .sh]) (cs_asg 3 (r := .sh) (show 3 < 4 by decide) trivial (ps_set (i := 3) nd rfl (Or.inl rfl) (ce_lst (ca_cons (ce_tup (ca_cons (ce_var 1 rfl (pv 1)) (ca_cons (ce_var 2 rfl (pv 2)) (ca_cons (ce_int) (ca_nil))))) (ca_cons (ce_lst (ca_cons (ce_var 1 rfl (pv 1)) (ca_cons (ce_var 2 rfl (pv 2)) (ca_cons (ce_int) (ca_nil))))) (ca_cons (ce_lst (ca_cons (ce_var 1 rfl (pv 1)) (ca_cons (ce_lst (ca_cons (ce_var 2 rfl (pv 2)) (ca_cons (ce_int) (ca_nil)))) (ca_nil)))) (ca_cons (ce_tup (ca_cons (ce_var 1 rfl (pv 1)) (ca_cons (ce_lst (ca_cons (ce_var 2 rfl (pv 2)) (ca_nil))) (ca_cons (ce_non) (ca_nil))))) (ca_cons (ce_tup (ca_cons (ce_str) (ca_cons (ce_var 1 rfl (pv 1)) (ca_nil)))) (ca_cons (ce_lst (ca_cons (ce_str) (ca_cons (ce_var 1 rfl (pv 1)) (ca_cons (ce_var 2 rfl (pv 2)) (ca_nil))))) (ca_cons (ce_tup (ca_nil)) (ca_cons (ce_lst (ca_nil)) (ca_cons (ce_str) (ca_cons (ce_str) (ca_nil)))))))))))))) (css_cons (κ1 := [.sh, .sh, .sh, .sh]) (cs_asg 3 (r := .sh) (show 3 < 4 by decide) trivial (ps_set (i := 3) nd rfl (Or.inl rfl) (ce_add (ce_var 3 rfl (pv 3)) (ce_lst (ca_cons (ce_non) (ca_cons (ce_bl) (ca_cons (ce_bl) (ca_cons (ce_var 1 rfl (pv 1)) (ca_cons (ce_neg (ce_int)) (ca_cons (ce_lst (ca_cons (ce_tup (ca_cons (ce_var 1 rfl (pv 1)) (ca_cons (ce_var 2 rfl (pv 2)) (ca_nil)))) (ca_cons (ce_tup (ca_cons (ce_var 2 rfl (pv 2)) (ca_cons (ce_var 1 rfl (pv 1)) (ca_nil)))) (ca_nil)))) (ca_cons (ce_tup (ca_cons (ce_tup (ca_cons (ce_var 1 rfl (pv 1)) (ca_nil))) (ca_cons (ce_lst (ca_cons (ce_var 2 rfl (pv 2)) (ca_cons (ce_bl) (ca_nil)))) (ca_nil)))) (ca_nil)))))))))))) (css_one (κ' := [.sh, .sh, .sh, .sh]) (cs_ret rfl (ce_ix (ce_var 3 rfl (pv 3)) (ce_ix (ce_call Cf__law_digits (hr.mono (by decide)) tk rfl (ca_cons (ce_var 0 rfl (pv 0)) (ca_cons (ce_lst (ca_cons (ce_int) (ca_nil))) (ca_nil)))) (ce_int))) trivial)))
theorem ok__law_thing {P : Program} {w : World} {K : PySem.W.Frag} {mg : Str → Option Value} {base : Heap} {f : Addr} {fd : FuncData} (F : FunD K "_law_thing" "_law_thing" (defArgs s__law_thing) (defBody s__law_thing) (defScope s__law_thing) [] [] f fd) (hm : mg "_law_thing" = some (.ref f)) (T : Top w K mg) (Cf__law_digits : Callee P w K mg base "_law_digits" 1 m__law_digits .sh) :
    Callee P w K mg base "_law_thing" 2 m__law_thing .sh := callee_of hm F (fn__law_thing F T Cf__law_digits) (F.bindsN fun _ _ _ _ _ _ us hl => match us, hl with | [_, _, _], _ => rfl)
abbrev s__law_bag : Stmt := (top 71)
abbrev N__law_bag : List Str := ["_law_cell_here", "_law_bits", "_law_k"]
theorem sc__law_bag : FnScope N__law_bag ["_law_cell_here"] (defScope s__law_bag) := ⟨rfl, rfl, rfl, by decide +kernel, rfl, by decide +kernel, by decide +kernel⟩
theorem fn__law_bag {P : Program} {w : World} {K : PySem.W.Frag} {mg : Str → Option Value} {base : Heap} {f : Addr} {fd : FuncData} (F : FunD K "_law_bag" "_law_bag" (defArgs s__law_bag) (defBody s__law_bag) (defScope s__law_bag) [] [] f fd) (T : Top w K mg) (Cf__law_digits : Callee P w K mg base "_law_digits" 1 m__law_digits .sh) :
    FnOk P w K mg base (L2N.CX P w) 2 f fd ["_law_cell_here"] (spM K [] m__law_bag .sh) := by
  refine def_ok (N := N__law_bag) (ps := ["_law_cell_here"]) (κ := [.sh, .sh, .sh]) (κ' := [.sh, .sh, .sh]) (g := g__law_bag) F sc__law_bag (kAt_all rfl) (fun cdv A outer s H E hr => ?_)
  have hu := u65 hr
  have tk : L2N.Takes (cxOf (L2N.CX P w) P w K mg base N__law_bag "_law_bag" (defScope s__law_bag) f cdv A outer s H E) (cDef E .sh).W := L2N.takes_of rfl rfl rfl rfl
  have po : PassesOwn (model P w) _ _ (cxOf (L2N.CX P w) P w K mg base N__law_bag "_law_bag" (defScope s__law_bag) f cdv A outer s H E).xe := passes_of rfl
  have nd := (sc__law_bag).nd
  exact css_cons (κ1 := [.sh, .sh, .sh]) (cs_asg 1 (r := .sh) (show 1 < 3 by decide) trivial (ps_set (i := 1) nd rfl (Or.inr rfl) (ce_call Cf__law_digits (hr.mono (by decide)) tk rfl (ca_cons (ce_var 0 rfl (pv 0)) (ca_cons (ce_lst (ca_cons (ce_int) (ca_cons (ce_int) (ca_cons (ce_int) (ca_cons (ce_int) (ca_cons (ce_int) (ca_cons (ce_int) (ca_nil)))))))) (ca_nil)))))) (css_one (κ' := [.sh, .sh, .sh]) (cs_ret rfl (ce_callTy sem_tuple call_tuple_of rfl T.b_tuple (by decide +kernel) (ca_cons (ce_share (ce_compO (own := [("_law_k", 2)]) (tg := .nm 2) rfl nd (ci_range1 rfl T.b_range (ca_cons (ce_int) (ca_nil))) (show BlkOk N__law_bag (defScope s__law_bag) _ _ from blkOk_by (by decide +kernel)) (slots_own rfl) (fun _ _ _ _ _ => pg_name (i := 2) nd rfl (Or.inl rfl)) (fun _ _ _ _ _ => cts_one (ct_cmp sem_eq (op_eq.or (op_eqD (q64 hu))) (ce_ix (ce_var 1 rfl (pv 1)) (ce_var 2 rfl (pv 2))) (ce_int) (nomark _))) (fun _ _ _ _ _ => ce_var 2 rfl (pv 2)))) (ca_nil))) trivial))
theorem ok__law_bag {P : Program} {w : World} {K : PySem.W.Frag} {mg : Str → Option Value} {base : Heap} {f : Addr} {fd : FuncData} (F : FunD K "_law_bag" "_law_bag" (defArgs s__law_bag) (defBody s__law_bag) (defScope s__law_bag) [] [] f fd) (hm : mg "_law_bag" = some (.ref f)) (T : Top w K mg) (Cf__law_digits : Callee P w K mg base "_law_digits" 1 m__law_digits .sh) :
    Callee P w K mg base "_law_bag" 2 m__law_bag .sh := callee_of hm F (fn__law_bag F T Cf__law_digits) (F.bindsN fun _ _ _ _ _ _ us hl => match us, hl with | [_], _ => rfl)
abbrev s__law_lot : Stmt := (top 72)
abbrev N__law_lot : List Str := ["_law_cell_here", "_law_bits", "_law_k"]
theorem sc__law_lot : FnScope N__law_lot ["_law_cell_here"] (defScope s__law_lot) := ⟨rfl, rfl, rfl, by decide +kernel, rfl, by decide +kernel, by decide +kernel⟩
theorem fn__law_lot {P : Program} {w : World} {K : PySem.W.Frag} {mg : Str → Option Value} {base : Heap} {f : Addr} {fd : FuncData} (F : FunD K "_law_lot" "_law_lot" (defArgs s__law_lot) (defBody s__law_lot) (defScope s__law_lot) [] [] f fd) (T : Top w K mg) (Cf__law_digits : Callee P w K mg base "_law_digits" 1 m__law_digits .sh) :
    FnOk P w K mg base (L2N.CX P w) 2 f fd ["_law_cell_here"] (spM K [] m__law_lot .sh) := by
  refine def_ok (N := N__law_lot) (ps := ["_law_cell_here"]) (κ := [.sh, .sh, .sh]) (κ' := [.sh, .sh, .sh]) (g := g__law_lot) F sc__law_lot (kAt_all rfl) (fun cdv A outer s H E hr => ?_)
  have hu := u65 hr
  have tk : L2N.Takes (cxOf (L2N.CX P w) P w K mg base N__law_lot "_law_lot" (defScope s__law_lot) f cdv A outer s H E) (cDef E .sh).W := L2N.takes_of rfl rfl rfl rfl
  have po : PassesOwn (model P w) _ _ (cxOf (L2N.CX P w) P w K mg base N__law_lot "_law_lot" (defScope s__law_lot) f cdv A outer s H E).xe := passes_of rfl
  have nd := (sc__law_lot).nd
  exact css_cons (κ1 := [.sh, .sh, .sh]) (cs_asg 1 (r := .sh) (show 1 < 3 by decide) trivial (ps_set (i := 1) nd rfl (Or.inr rfl) (ce_call Cf__law_digits (hr.mono (by decide)) tk rfl (ca_cons (ce_var 0 rfl (pv 0)) (ca_cons (ce_lst (ca_cons (ce_int) (ca_cons (ce_int) (ca_cons (ce_int) (ca_cons (ce_int) (ca_cons (ce_int) (ca_cons (ce_int) (ca_nil)))))))) (ca_nil)))))) (css_one (κ' := [.sh, .sh, .sh]) (cs_ret rfl (ce_lst (ca_cons (ce_add (ce_int) (ce_ix (ce_var 1 rfl (pv 1)) (ce_int))) (ca_cons (ce_callTy sem_tuple call_tuple_of rfl T.b_tuple (by decide +kernel) (ca_cons (ce_share (ce_compO (own := [("_law_k", 2)]) (tg := .nm 2) rfl nd (ci_range2 rfl T.b_range (ca_cons (ce_int) (ca_cons (ce_add (ce_int) (ce_ix (ce_var 1 rfl (pv 1)) (ce_int))) (ca_nil)))) (show BlkOk N__law_lot (defScope s__law_lot) _ _ from blkOk_by (by decide +kernel)) (slots_own rfl) (fun _ _ _ _ _ => pg_name (i := 2) nd rfl (Or.inl rfl)) (fun _ _ _ _ _ => cts_one (ct_cmp sem_gt op_gt (ce_ix (ce_var 1 rfl (pv 1)) (ce_var 2 rfl (pv 2))) (ce_int) (nomark _))) (fun _ _ _ _ _ => ce_tup (ca_cons (ce_int) (ca_cons (ce_var 2 rfl (pv 2)) (ca_cons (ce_ix (ce_var 1 rfl (pv 1)) (ce_var 2 rfl (pv 2))) (ca_nil))))))) (ca_nil))) (ca_nil)))) trivial))
theorem ok__law_lot {P : Program} {w : World} {K : PySem.W.Frag} {mg : Str → Option Value} {base : Heap} {f : Addr} {fd : FuncData} (F : FunD K "_law_lot" "_law_lot" (defArgs s__law_lot) (defBody s__law_lot) (defScope s__law_lot) [] [] f fd) (hm : mg "_law_lot" = some (.ref f)) (T : Top w K mg) (Cf__law_digits : Callee P w K mg base "_law_digits" 1 m__law_digits .sh) :
    Callee P w K mg base "_law_lot" 2 m__law_lot .sh := callee_of hm F (fn__law_lot F T Cf__law_digits) (F.bindsN fun _ _ _ _ _ _ us hl => match us, hl with | [_], _ => rfl)
abbrev s__law_same : Stmt := (top 62)
abbrev N__law_same : List Str := ["_law_value", "_law_ought", "_law_k"]
theorem sc__law_same : FnScope N__law_same ["_law_value", "_law_ought"] (defScope s__law_same) := ⟨rfl, rfl, rfl, by decide +kernel, rfl, by decide +kernel, by decide +kernel⟩
theorem okS__law_same {P : Program} {w : World} {K : PySem.W.Frag} {mg : Str → Option Value} {base : Heap} {f : Addr} {fd : FuncData} {n : Nat} {rec : List D → O D} (F : FunD K "_law_same" "_law_same" (defArgs s__law_same) (defBody s__law_same) (defScope s__law_same) [] [] f fd) (hm : mg "_law_same" = some (.ref f)) (T : Top w K mg) (Cf__law_whole : Callee P w K mg base "_law_whole" 1 m__law_whole .sh) (Cf__law_same : Callee P w K mg base "_law_same" (1 + n) rec .sh) :
    Callee P w K mg base "_law_same" (1 + n + 1) (m__law_same rec) .sh := by
  refine callee_of hm F (def_ok (N := N__law_same) (ps := ["_law_value", "_law_ought"]) (κ := [.sh, .sh, .sh]) (κ' := [.sh, .sh, .sh]) (g := g__law_same rec) F sc__law_same (kAt_all rfl) (fun cdv A outer s H E hr => ?_)) (F.bindsN fun _ _ _ _ _ _ us hl => match us, hl with | [_, _], _ => rfl)
  have hu := u65 hr
  have tk : L2N.Takes (cxOf (L2N.CX P w) P w K mg base N__law_same "_law_same" (defScope s__law_same) f cdv A outer s H E) (cDef E .sh).W := L2N.takes_of rfl rfl rfl rfl
  have po : PassesOwn (model P w) _ _ (cxOf (L2N.CX P w) P w K mg base N__law_same "_law_same" (defScope s__law_same) f cdv A outer s H E).xe := passes_of rfl
  have nd := (sc__law_same).nd
  exact css_cons (κ1 := [.sh, .sh, .sh]) (cs_if (κ' := [.sh, .sh, .sh]) (ct_cmp sem_isN op_isN (ce_var 1 rfl (pv 1)) (ce_non) (nomark _)) (css_one (κ' := [.sh, .sh, .sh]) (cs_ret rfl (ce_cmp sem_isN op_isN (ce_var 0 rfl (pv 0)) (ce_non) (nomark _)) trivial)) (css_nil) trivial) (css_cons (κ1 := [.sh, .sh, .sh]) (cs_if (κ' := [.sh, .sh, .sh]) (ct_val (ce_isi T.kit rfl T.b_isinstance (ce_var 1 rfl (pv 1)) (pe_ty rfl T.b_bool (by decide +kernel)))) (css_one (κ' := [.sh, .sh, .sh]) (cs_ret rfl (ce_and (ce_isi T.kit rfl T.b_isinstance (ce_var 0 rfl (pv 0)) (pe_ty rfl T.b_bool (by decide +kernel))) (ce_one (ce_cmp sem_eq (op_eq.or (op_eqD (q64 hu))) (ce_var 0 rfl (pv 0)) (ce_var 1 rfl (pv 1)) (nomark _)))) trivial)) (css_nil) trivial) (css_cons (κ1 := [.sh, .sh, .sh]) (cs_if (κ' := [.sh, .sh, .sh]) (ct_val (ce_isi T.kit rfl T.b_isinstance (ce_var 1 rfl (pv 1)) (pe_ty rfl T.b_int (by decide +kernel)))) (css_one (κ' := [.sh, .sh, .sh]) (cs_ret rfl (ce_and (ce_call Cf__law_whole (hr.mono (by omega)) tk rfl (ca_cons (ce_var 0 rfl (pv 0)) (ca_nil))) (ce_one (ce_cmp sem_eq (op_eq.or (op_eqD (q64 hu))) (ce_var 0 rfl (pv 0)) (ce_var 1 rfl (pv 1)) (nomark _)))) trivial)) (css_nil) trivial) (css_cons (κ1 := [.sh, .sh, .sh]) (cs_if (κ' := [.sh, .sh, .sh]) (ct_val (ce_isi T.kit rfl T.b_isinstance (ce_var 1 rfl (pv 1)) (pe_ty rfl T.b_str (by decide +kernel)))) (css_one (κ' := [.sh, .sh, .sh]) (cs_ret rfl (ce_and (ce_isi T.kit rfl T.b_isinstance (ce_var 0 rfl (pv 0)) (pe_ty rfl T.b_str (by decide +kernel))) (ce_one (ce_cmp sem_eq (op_eq.or (op_eqD (q64 hu))) (ce_var 0 rfl (pv 0)) (ce_var 1 rfl (pv 1)) (nomark _)))) trivial)) (css_nil) trivial) (css_cons (κ1 := [.sh, .sh, .sh]) (cs_if (κ' := [.sh, .sh, .sh]) (ct_bool (cw_and (ct_val (ce_isi T.kit rfl T.b_isinstance (ce_var 1 rfl (pv 1)) (pe_ty rfl T.b_list (by decide +kernel)))) (cw_and1 (ct_not (ct_val (ce_isi T.kit rfl T.b_isinstance (ce_var 0 rfl (pv 0)) (pe_ty rfl T.b_list (by decide +kernel)))))))) (css_one (κ' := [.sh, .sh, .sh]) (cs_ret rfl (ce_bl) trivial)) (css_nil) trivial) (css_cons (κ1 := [.sh, .sh, .sh]) (cs_if (κ' := [.sh, .sh, .sh]) (ct_bool (cw_and (ct_val (ce_isi T.kit rfl T.b_isinstance (ce_var 1 rfl (pv 1)) (pe_ty rfl T.b_tuple (by decide +kernel)))) (cw_and1 (ct_not (ct_val (ce_isi T.kit rfl T.b_isinstance (ce_var 0 rfl (pv 0)) (pe_ty rfl T.b_tuple (by decide +kernel)))))))) (css_one (κ' := [.sh, .sh, .sh]) (cs_ret rfl (ce_bl) trivial)) (css_nil) trivial) (css_cons (κ1 := [.sh, .sh, .sh]) (cs_if (κ' := [.sh, .sh, .sh]) (ct_cmp sem_ne (op_ne.or (op_neD (q64 hu))) (ce_callB sem_len call_len rfl T.b_len (by decide +kernel) (ca_cons (ce_var 0 rfl (pv 0)) (ca_nil))) (ce_callB sem_len call_len rfl T.b_len (by decide +kernel) (ca_cons (ce_var 1 rfl (pv 1)) (ca_nil))) (nomark _)) (css_one (κ' := [.sh, .sh, .sh]) (cs_ret rfl (ce_bl) trivial)) (css_nil) trivial) (css_cons (κ1 := [.sh, .sh, .sh]) (cs_for (tg := .nm 2) po rfl (ci_range1 rfl T.b_range (ca_cons (ce_callB sem_len call_len rfl T.b_len (by decide +kernel) (ca_cons (ce_var 1 rfl (pv 1)) (ca_nil))) (ca_nil))) (pg_name (i := 2) nd rfl (Or.inl rfl)) (slots_sh rfl) (css_cons (κ1 := [.sh, .sh, .sh]) (cs_if (κ' := [.sh, .sh, .sh]) (ct_not (ct_val (ce_call Cf__law_same (hr.mono (by omega)) tk rfl (ca_cons (ce_ix (ce_var 0 rfl (pv 0)) (ce_var 2 rfl (pv 2))) (ca_cons (ce_ix (ce_var 1 rfl (pv 1)) (ce_var 2 rfl (pv 2))) (ca_nil)))))) (css_one (κ' := [.sh, .sh, .sh]) (cs_ret rfl (ce_bl) trivial)) (css_nil) trivial) (css_nil)) trivial) (css_one (κ' := [.sh, .sh, .sh]) (cs_ret rfl (ce_bl) trivial)))))))))
theorem okR__law_same {P : Program} {w : World} {K : PySem.W.Frag} {mg : Str → Option Value} {base : Heap} {f : Addr} {fd : FuncData} (F : FunD K "_law_same" "_law_same" (defArgs s__law_same) (defBody s__law_same) (defScope s__law_same) [] [] f fd) (hm : mg "_law_same" = some (.ref f)) (T : Top w K mg) (Cf__law_whole : Callee P w K mg base "_law_whole" 1 m__law_whole .sh) : ∀ n : Nat, Callee P w K mg base "_law_same" (1 + n) (mr__law_same n) .sh
  | 0 => callee_of (ps := ["_law_value", "_law_ought"]) hm F fn_stuck (F.bindsN fun _ _ _ _ _ _ us hl => match us, hl with | [_, _], _ => rfl)
  | n + 1 => okS__law_same F hm T Cf__law_whole (okR__law_same F hm T Cf__law_whole n)
theorem ok__law_same {P : Program} {w : World} {K : PySem.W.Frag} {mg : Str → Option Value} {base : Heap} {f : Addr} {fd : FuncData} (F : FunD K "_law_same" "_law_same" (defArgs s__law_same) (defBody s__law_same) (defScope s__law_same) [] [] f fd) (hm : mg "_law_same" = some (.ref f)) (T : Top w K mg) (Cf__law_whole : Callee P w K mg base "_law_whole" 1 m__law_whole .sh) : Callee P w K mg base "_law_same" 14 (mr__law_same 12) .sh := (okR__law_same F hm T Cf__law_whole 12).mono (by decide)
abbrev s__law_placed : Stmt := (top 63)
abbrev N__law_placed : List Str := ["_law_w", "_law_x", "_law_y", "_law_z", "_law_thing_here", "_law_bag_here", "_law_kept", "_law_made"]
theorem sc__law_placed : FnScope N__law_placed ["_law_w", "_law_x", "_law_y", "_law_z", "_law_thing_here", "_law_bag_here", "_law_kept"] (defScope s__law_placed) := ⟨rfl, rfl, rfl, by decide +kernel, rfl, by decide +kernel, by decide +kernel⟩
theorem fn__law_placed {P : Program} {w : World} {K : PySem.W.Frag} {mg : Str → Option Value} {base : Heap} {f : Addr} {fd : FuncData} (F : FunD K "_law_placed" "_law_placed" (defArgs s__law_placed) (defBody s__law_placed) (defScope s__law_placed) [] [] f fd) (T : Top w K mg) (Cx_UnlikePins : CalleeX P w K mg base "UnlikePins" 1 ["one", "other"]) (Cx_OddPin : CalleeX P w K mg base "OddPin" 1 ["pin"]) (Cx_NoPair : CalleeX P w K mg base "NoPair" 1 ["pins"]) (Cx_BadGap : CalleeX P w K mg base "BadGap" 1 ["gap"]) (Cx_SamePin : CalleeX P w K mg base "SamePin" 1 ["pin"]) (Cx_BadPin : CalleeX P w K mg base "BadPin" 1 ["pin"]) (Cx_BadPins : CalleeX P w K mg base "BadPins" 1 ["pins"]) (Cx_NoMove : CalleeX P w K mg base "NoMove" 1 ["move"]) (Cx_NoLot : CalleeX P w K mg base "NoLot" 1 ["a", "b", "twice"]) (Cx_BadTable : CalleeX P w K mg base "BadTable" 1 ["row", "column"]) (Cx_BadNumber : CalleeX P w K mg base "BadNumber" 1 ["number"]) (Cx_NotPart : CalleeX P w K mg base "NotPart" 1 ["a", "b"]) (Cx_BadCord : CalleeX P w K mg base "BadCord" 1 ["entry"]) (Cx_MissingEnd : CalleeX P w K mg base "MissingEnd" 1 ["end"]) (Cx_DoubleEnd : CalleeX P w K mg base "DoubleEnd" 1 ["end"]) (Cx_BadTurn : CalleeX P w K mg base "BadTurn" 1 ["joint"]) (Cx_BadWidth : CalleeX P w K mg base "BadWidth" 1 ["track"]) (Cx_TooMany : CalleeX P w K mg base "TooMany" 1 ["number"]) (Cx_Barred : CalleeX P w K mg base "Barred" 1 ["first", "last", "held", "wished"]) (Cx_OddEnds : CalleeX P w K mg base "OddEnds" 1 ["pins"]) (Cx_OddJoint : CalleeX P w K mg base "OddJoint" 1 ["joint"]) (Cx_BadTrack : CalleeX P w K mg base "BadTrack" 1 ["track"]) (Cx_BadJoint : CalleeX P w K mg base "BadJoint" 1 ["joint"]) (Cx_BadItem : CalleeX P w K mg base "BadItem" 1 ["item"]) (Cx_NotPlane : CalleeX P w K mg base "NotPlane" 1 ["found", "due"]) (Cx_LooseJoint : CalleeX P w K mg base "LooseJoint" 1 ["joint"]) (Cx_BadLanes : CalleeX P w K mg base "BadLanes" 1 ["number"]) (Cx_OddLand : CalleeX P w K mg base "OddLand" 1 ["land"]) (Cx_SharedLand : CalleeX P w K mg base "SharedLand" 1 ["first", "last"]) (Cx_BadWire : CalleeX P w K mg base "BadWire" 1 ["wire"]) (Cx_Refused : CalleeX P w K mg base "Refused" 1 ["place", "deed"]) (Cx_BadDeed : CalleeX P w K mg base "BadDeed" 1 ["place", "deed"]) (Cx_BadPair : CalleeX P w K mg base "BadPair" 1 ["pair"]) (Cx_BadCap : CalleeX P w K mg base "BadCap" 1 ["pin"]) (Cx_BadPairing : CalleeX P w K mg base "BadPairing" 1 ["lot"]) (Cx_UnlikeLanes : CalleeX P w K mg base "UnlikeLanes" 1 ["one", "other"]) (Cx_BadLetter : CalleeX P w K mg base "BadLetter" 1 ["place", "letter"]) (Cx_NoteError : CalleeX P w K mg base "NoteError" 1 ["line"]) :
    FnOk P w K mg base (L2N.CX P w) 3 f fd ["_law_w", "_law_x", "_law_y", "_law_z", "_law_thing_here", "_law_bag_here", "_law_kept"] (spM K [] m__law_placed .sh) := by
  refine def_ok (N := N__law_placed) (ps := ["_law_w", "_law_x", "_law_y", "_law_z", "_law_thing_here", "_law_bag_here", "_law_kept"]) (κ := [.sh, .sh, .sh, .sh, .sh, .sh, .sh, .sh]) (κ' := [.sh, .sh, .sh, .sh, .sh, .sh, .sh, .sh]) (g := g__law_placed) F sc__law_placed (kAt_all rfl) (fun cdv A outer s H E hr => ?_)
  have hu := u65 hr
  have tk : L2N.Takes (cxOf (L2N.CX P w) P w K mg base N__law_placed "_law_placed" (defScope s__law_placed) f cdv A outer s H E) (cDef E .sh).W := L2N.takes_of rfl rfl rfl rfl
  have po : PassesOwn (model P w) _ _ (cxOf (L2N.CX P w) P w K mg base N__law_placed "_law_placed" (defScope s__law_placed) f cdv A outer s H E).xe := passes_of rfl
  have nd := (sc__law_placed).nd
  exact css_cons (κ1 := [.sh, .sh, .sh, .sh, .sh, .sh, .sh, .sh]) (cs_asg 7 (r := .sh) (show 7 < 8 by decide) trivial (ps_set (i := 7) nd rfl (Or.inl rfl) (ce_lst (ca_cons (ce_err Cx_BadPins (hr.mono (by decide)) no_passes rfl (ca_cons (ce_var 4 rfl (pv 4)) (ca_nil))) (ca_cons (ce_err Cx_BadPin (hr.mono (by decide)) no_passes rfl (ca_cons (ce_var 4 rfl (pv 4)) (ca_nil))) (ca_cons (ce_err Cx_SamePin (hr.mono (by decide)) no_passes rfl (ca_cons (ce_var 0 rfl (pv 0)) (ca_nil))) (ca_cons (ce_err Cx_BadGap (hr.mono (by decide)) no_passes rfl (ca_cons (ce_var 4 rfl (pv 4)) (ca_nil))) (ca_cons (ce_err Cx_NoPair (hr.mono (by decide)) no_passes rfl (ca_cons (ce_var 0 rfl (pv 0)) (ca_nil))) (ca_cons (ce_err Cx_OddPin (hr.mono (by decide)) no_passes rfl (ca_cons (ce_var 0 rfl (pv 0)) (ca_nil))) (ca_cons (ce_err Cx_UnlikePins (hr.mono (by decide)) no_passes rfl (ca_cons (ce_var 0 rfl (pv 0)) (ca_cons (ce_var 1 rfl (pv 1)) (ca_nil)))) (ca_nil))))))))))) (css_cons (κ1 := [.sh, .sh, .sh, .sh, .sh, .sh, .sh, .sh]) (cs_asg 7 (r := .sh) (show 7 < 8 by decide) trivial (ps_set (i := 7) nd rfl (Or.inl rfl) (ce_add (ce_var 7 rfl (pv 7)) (ce_lst (ca_cons (ce_err Cx_BadCord (hr.mono (by decide)) no_passes rfl (ca_cons (ce_var 4 rfl (pv 4)) (ca_nil))) (ca_cons (ce_err Cx_NotPart (hr.mono (by decide)) no_passes rfl (ca_cons (ce_var 0 rfl (pv 0)) (ca_cons (ce_var 1 rfl (pv 1)) (ca_nil)))) (ca_cons (ce_err Cx_BadNumber (hr.mono (by decide)) no_passes rfl (ca_cons (ce_var 4 rfl (pv 4)) (ca_nil))) (ca_cons (ce_err Cx_BadTable (hr.mono (by decide)) no_passes rfl (ca_cons (ce_var 0 rfl (pv 0)) (ca_cons (ce_var 1 rfl (pv 1)) (ca_nil)))) (ca_cons (ce_err Cx_NoLot (hr.mono (by decide)) no_passes rfl (ca_cons (ce_var 0 rfl (pv 0)) (ca_cons (ce_var 1 rfl (pv 1)) (ca_cons (ce_var 2 rfl (pv 2)) (ca_nil))))) (ca_cons (ce_err Cx_NoMove (hr.mono (by decide)) no_passes rfl (ca_cons (ce_var 4 rfl (pv 4)) (ca_nil))) (ca_nil))))))))))) (css_cons (κ1 := [.sh, .sh, .sh, .sh, .sh, .sh, .sh, .sh]) (cs_asg 7 (r := .sh) (show 7 < 8 by decide) trivial (ps_set (i := 7) nd rfl (Or.inl rfl) (ce_add (ce_var 7 rfl (pv 7)) (ce_lst (ca_cons (ce_err Cx_OddEnds (hr.mono (by decide)) no_passes rfl (ca_cons (ce_var 5 rfl (pv 5)) (ca_nil))) (ca_cons (ce_err Cx_Barred (hr.mono (by decide)) no_passes rfl (ca_cons (ce_var 0 rfl (pv 0)) (ca_cons (ce_var 1 rfl (pv 1)) (ca_cons (ce_var 2 rfl (pv 2)) (ca_cons (ce_var 3 rfl (pv 3)) (ca_nil)))))) (ca_cons (ce_err Cx_TooMany (hr.mono (by decide)) no_passes rfl (ca_cons (ce_var 0 rfl (pv 0)) (ca_nil))) (ca_cons (ce_err Cx_BadWidth (hr.mono (by decide)) no_passes rfl (ca_cons (ce_var 0 rfl (pv 0)) (ca_nil))) (ca_cons (ce_err Cx_BadTurn (hr.mono (by decide)) no_passes rfl (ca_cons (ce_var 0 rfl (pv 0)) (ca_nil))) (ca_cons (ce_err Cx_DoubleEnd (hr.mono (by decide)) no_passes rfl (ca_cons (ce_var 0 rfl (pv 0)) (ca_nil))) (ca_cons (ce_err Cx_MissingEnd (hr.mono (by decide)) no_passes rfl (ca_cons (ce_var 0 rfl (pv 0)) (ca_nil))) (ca_nil)))))))))))) (css_cons (κ1 := [.sh, .sh, .sh, .sh, .sh, .sh, .sh, .sh]) (cs_asg 7 (r := .sh) (show 7 < 8 by decide) trivial (ps_set (i := 7) nd rfl (Or.inl rfl) (ce_add (ce_var 7 rfl (pv 7)) (ce_lst (ca_cons (ce_err Cx_LooseJoint (hr.mono (by decide)) no_passes rfl (ca_cons (ce_var 0 rfl (pv 0)) (ca_nil))) (ca_cons (ce_err Cx_NotPlane (hr.mono (by decide)) no_passes rfl (ca_cons (ce_var 0 rfl (pv 0)) (ca_cons (ce_var 1 rfl (pv 1)) (ca_nil)))) (ca_cons (ce_err Cx_BadItem (hr.mono (by decide)) no_passes rfl (ca_cons (ce_var 4 rfl (pv 4)) (ca_nil))) (ca_cons (ce_err Cx_BadJoint (hr.mono (by decide)) no_passes rfl (ca_cons (ce_var 4 rfl (pv 4)) (ca_nil))) (ca_cons (ce_err Cx_BadTrack (hr.mono (by decide)) no_passes rfl (ca_cons (ce_var 4 rfl (pv 4)) (ca_nil))) (ca_cons (ce_err Cx_OddJoint (hr.mono (by decide)) no_passes rfl (ca_cons (ce_var 0 rfl (pv 0)) (ca_nil))) (ca_nil))))))))))) (css_cons (κ1 := [.sh, .sh, .sh, .sh, .sh, .sh, .sh, .sh]) (cs_asg 7 (r := .sh) (show 7 < 8 by decide) trivial (ps_set (i := 7) nd rfl (Or.inl rfl) (ce_add (ce_var 7 rfl (pv 7)) (ce_lst (ca_cons (ce_err Cx_BadDeed (hr.mono (by decide)) no_passes rfl (ca_cons (ce_var 0 rfl (pv 0)) (ca_cons (ce_var 4 rfl (pv 4)) (ca_nil)))) (ca_cons (ce_err Cx_Refused (hr.mono (by decide)) no_passes rfl (ca_cons (ce_var 0 rfl (pv 0)) (ca_cons (ce_var 5 rfl (pv 5)) (ca_nil)))) (ca_cons (ce_err Cx_BadWire (hr.mono (by decide)) no_passes rfl (ca_cons (ce_var 4 rfl (pv 4)) (ca_nil))) (ca_cons (ce_err Cx_SharedLand (hr.mono (by decide)) no_passes rfl (ca_cons (ce_var 0 rfl (pv 0)) (ca_cons (ce_var 1 rfl (pv 1)) (ca_nil)))) (ca_cons (ce_err Cx_OddLand (hr.mono (by decide)) no_passes rfl (ca_cons (ce_var 0 rfl (pv 0)) (ca_nil))) (ca_cons (ce_err Cx_BadLanes (hr.mono (by decide)) no_passes rfl (ca_cons (ce_var 4 rfl (pv 4)) (ca_nil))) (ca_nil))))))))))) (css_cons (κ1 := [.sh, .sh, .sh, .sh, .sh, .sh, .sh, .sh]) (cs_asg 7 (r := .sh) (show 7 < 8 by decide) trivial (ps_set (i := 7) nd rfl (Or.inl rfl) (ce_add (ce_var 7 rfl (pv 7)) (ce_lst (ca_cons (ce_err Cx_BadLetter (hr.mono (by decide)) no_passes rfl (ca_cons (ce_var 0 rfl (pv 0)) (ca_cons (ce_var 4 rfl (pv 4)) (ca_nil)))) (ca_cons (ce_err Cx_UnlikeLanes (hr.mono (by decide)) no_passes rfl (ca_cons (ce_var 0 rfl (pv 0)) (ca_cons (ce_var 1 rfl (pv 1)) (ca_nil)))) (ca_cons (ce_err Cx_BadPairing (hr.mono (by decide)) no_passes rfl (ca_cons (ce_var 6 rfl (pv 6)) (ca_nil))) (ca_cons (ce_err Cx_BadCap (hr.mono (by decide)) no_passes rfl (ca_cons (ce_var 0 rfl (pv 0)) (ca_nil))) (ca_cons (ce_err Cx_BadPair (hr.mono (by decide)) no_passes rfl (ca_cons (ce_var 4 rfl (pv 4)) (ca_nil))) (ca_cons (ce_err0 T.g_NoWishes T.n_NoWishes rfl) (ca_nil))))))))))) (css_one (κ' := [.sh, .sh, .sh, .sh, .sh, .sh, .sh, .sh]) (cs_ret rfl (ce_add (ce_var 7 rfl (pv 7)) (ce_lst (ca_cons (ce_err0 T.g_NothingToUndo T.n_NothingToUndo rfl) (ca_cons (ce_err Cx_NoteError (hr.mono (by decide)) no_passes rfl (ca_cons (ce_var 0 rfl (pv 0)) (ca_nil))) (ca_nil))))) trivial)))))))
theorem ok__law_placed {P : Program} {w : World} {K : PySem.W.Frag} {mg : Str → Option Value} {base : Heap} {f : Addr} {fd : FuncData} (F : FunD K "_law_placed" "_law_placed" (defArgs s__law_placed) (defBody s__law_placed) (defScope s__law_placed) [] [] f fd) (hm : mg "_law_placed" = some (.ref f)) (T : Top w K mg) (Cx_UnlikePins : CalleeX P w K mg base "UnlikePins" 1 ["one", "other"]) (Cx_OddPin : CalleeX P w K mg base "OddPin" 1 ["pin"]) (Cx_NoPair : CalleeX P w K mg base "NoPair" 1 ["pins"]) (Cx_BadGap : CalleeX P w K mg base "BadGap" 1 ["gap"]) (Cx_SamePin : CalleeX P w K mg base "SamePin" 1 ["pin"]) (Cx_BadPin : CalleeX P w K mg base "BadPin" 1 ["pin"]) (Cx_BadPins : CalleeX P w K mg base "BadPins" 1 ["pins"]) (Cx_NoMove : CalleeX P w K mg base "NoMove" 1 ["move"]) (Cx_NoLot : CalleeX P w K mg base "NoLot" 1 ["a", "b", "twice"]) (Cx_BadTable : CalleeX P w K mg base "BadTable" 1 ["row", "column"]) (Cx_BadNumber : CalleeX P w K mg base "BadNumber" 1 ["number"]) (Cx_NotPart : CalleeX P w K mg base "NotPart" 1 ["a", "b"]) (Cx_BadCord : CalleeX P w K mg base "BadCord" 1 ["entry"]) (Cx_MissingEnd : CalleeX P w K mg base "MissingEnd" 1 ["end"]) (Cx_DoubleEnd : CalleeX P w K mg base "DoubleEnd" 1 ["end"]) (Cx_BadTurn : CalleeX P w K mg base "BadTurn" 1 ["joint"]) (Cx_BadWidth : CalleeX P w K mg base "BadWidth" 1 ["track"]) (Cx_TooMany : CalleeX P w K mg base "TooMany" 1 ["number"]) (Cx_Barred : CalleeX P w K mg base "Barred" 1 ["first", "last", "held", "wished"]) (Cx_OddEnds : CalleeX P w K mg base "OddEnds" 1 ["pins"]) (Cx_OddJoint : CalleeX P w K mg base "OddJoint" 1 ["joint"]) (Cx_BadTrack : CalleeX P w K mg base "BadTrack" 1 ["track"]) (Cx_BadJoint : CalleeX P w K mg base "BadJoint" 1 ["joint"]) (Cx_BadItem : CalleeX P w K mg base "BadItem" 1 ["item"]) (Cx_NotPlane : CalleeX P w K mg base "NotPlane" 1 ["found", "due"]) (Cx_LooseJoint : CalleeX P w K mg base "LooseJoint" 1 ["joint"]) (Cx_BadLanes : CalleeX P w K mg base "BadLanes" 1 ["number"]) (Cx_OddLand : CalleeX P w K mg base "OddLand" 1 ["land"]) (Cx_SharedLand : CalleeX P w K mg base "SharedLand" 1 ["first", "last"]) (Cx_BadWire : CalleeX P w K mg base "BadWire" 1 ["wire"]) (Cx_Refused : CalleeX P w K mg base "Refused" 1 ["place", "deed"]) (Cx_BadDeed : CalleeX P w K mg base "BadDeed" 1 ["place", "deed"]) (Cx_BadPair : CalleeX P w K mg base "BadPair" 1 ["pair"]) (Cx_BadCap : CalleeX P w K mg base "BadCap" 1 ["pin"]) (Cx_BadPairing : CalleeX P w K mg base "BadPairing" 1 ["lot"]) (Cx_UnlikeLanes : CalleeX P w K mg base "UnlikeLanes" 1 ["one", "other"]) (Cx_BadLetter : CalleeX P w K mg base "BadLetter" 1 ["place", "letter"]) (Cx_NoteError : CalleeX P w K mg base "NoteError" 1 ["line"]) :
    Callee P w K mg base "_law_placed" 3 m__law_placed .sh := callee_of hm F (fn__law_placed F T Cx_UnlikePins Cx_OddPin Cx_NoPair Cx_BadGap Cx_SamePin Cx_BadPin Cx_BadPins Cx_NoMove Cx_NoLot Cx_BadTable Cx_BadNumber Cx_NotPart Cx_BadCord Cx_MissingEnd Cx_DoubleEnd Cx_BadTurn Cx_BadWidth Cx_TooMany Cx_Barred Cx_OddEnds Cx_OddJoint Cx_BadTrack Cx_BadJoint Cx_BadItem Cx_NotPlane Cx_LooseJoint Cx_BadLanes Cx_OddLand Cx_SharedLand Cx_BadWire Cx_Refused Cx_BadDeed Cx_BadPair Cx_BadCap Cx_BadPairing Cx_UnlikeLanes Cx_BadLetter Cx_NoteError) (F.bindsN fun _ _ _ _ _ _ us hl => match us, hl with | [_, _, _, _, _, _, _], _ => rfl)
abbrev s__law_named : Stmt := (top 64)
abbrev N__law_named : List Str := ["_law_w", "_law_x", "_law_y", "_law_z", "_law_thing_here", "_law_bag_here", "_law_kept", "_law_made"]
theorem sc__law_named : FnScope N__law_named ["_law_w", "_law_x", "_law_y", "_law_z", "_law_thing_here", "_law_bag_here", "_law_kept"] (defScope s__law_named) := ⟨rfl, rfl, rfl, by decide +kernel, rfl, by decide +kernel, by decide +kernel⟩
theorem fn__law_named {P : Program} {w : World} {K : PySem.W.Frag} {mg : Str → Option Value} {base : Heap} {f : Addr} {fd : FuncData} (F : FunD K "_law_named" "_law_named" (defArgs s__law_named) (defBody s__law_named) (defScope s__law_named) [] [] f fd) (T : Top w K mg) (Cy_OddPin_pin : CalleeXK P w K mg base "OddPin" 1 ["pin"] ["pin"] [0]) (Cy_NoPair_pins : CalleeXK P w K mg base "NoPair" 1 ["pins"] ["pins"] [0]) (Cy_BadGap_gap : CalleeXK P w K mg base "BadGap" 1 ["gap"] ["gap"] [0]) (Cy_SamePin_pin : CalleeXK P w K mg base "SamePin" 1 ["pin"] ["pin"] [0]) (Cy_BadPin_pin : CalleeXK P w K mg base "BadPin" 1 ["pin"] ["pin"] [0]) (Cy_BadPins_pins : CalleeXK P w K mg base "BadPins" 1 ["pins"] ["pins"] [0]) (Cy_BadNumber_number : CalleeXK P w K mg base "BadNumber" 1 ["number"] ["number"] [0]) (Cy_NotPart_b_a : CalleeXK P w K mg base "NotPart" 1 ["a", "b"] ["b", "a"] [1, 0]) (Cy_BadCord_entry : CalleeXK P w K mg base "BadCord" 1 ["entry"] ["entry"] [0]) (Cy_UnlikePins_other_one : CalleeXK P w K mg base "UnlikePins" 1 ["one", "other"] ["other", "one"] [1, 0]) (Cy_OddEnds_pins : CalleeXK P w K mg base "OddEnds" 1 ["pins"] ["pins"] [0]) (Cy_NoMove_move : CalleeXK P w K mg base "NoMove" 1 ["move"] ["move"] [0]) (Cy_NoLot_twice_b_a : CalleeXK P w K mg base "NoLot" 1 ["a", "b", "twice"] ["twice", "b", "a"] [2, 1, 0]) (Cy_BadTable_column_row : CalleeXK P w K mg base "BadTable" 1 ["row", "column"] ["column", "row"] [1, 0]) (Cy_BadTurn_joint : CalleeXK P w K mg base "BadTurn" 1 ["joint"] ["joint"] [0]) (Cy_BadWidth_track : CalleeXK P w K mg base "BadWidth" 1 ["track"] ["track"] [0]) (Cy_TooMany_number : CalleeXK P w K mg base "TooMany" 1 ["number"] ["number"] [0]) (Cy_Barred_wished_held_last_first : CalleeXK P w K mg base "Barred" 1 ["first", "last", "held", "wished"] ["wished", "held", "last", "first"] [3, 2, 1, 0]) (Cy_NotPlane_due_found : CalleeXK P w K mg base "NotPlane" 1 ["found", "due"] ["due", "found"] [1, 0]) (Cy_LooseJoint_joint : CalleeXK P w K mg base "LooseJoint" 1 ["joint"] ["joint"] [0]) (Cy_MissingEnd_end : CalleeXK P w K mg base "MissingEnd" 1 ["end"] ["end"] [0]) (Cy_DoubleEnd_end : CalleeXK P w K mg base "DoubleEnd" 1 ["end"] ["end"] [0]) (Cy_OddJoint_joint : CalleeXK P w K mg base "OddJoint" 1 ["joint"] ["joint"] [0]) (Cy_BadTrack_track : CalleeXK P w K mg base "BadTrack" 1 ["track"] ["track"] [0]) (Cy_BadJoint_joint : CalleeXK P w K mg base "BadJoint" 1 ["joint"] ["joint"] [0]) (Cy_BadItem_item : CalleeXK P w K mg base "BadItem" 1 ["item"] ["item"] [0]) (Cy_BadWire_wire : CalleeXK P w K mg base "BadWire" 1 ["wire"] ["wire"] [0]) (Cy_Refused_deed_place : CalleeXK P w K mg base "Refused" 1 ["place", "deed"] ["deed", "place"] [1, 0]) (Cy_BadDeed_deed_place : CalleeXK P w K mg base "BadDeed" 1 ["place", "deed"] ["deed", "place"] [1, 0]) (Cy_BadLanes_number : CalleeXK P w K mg base "BadLanes" 1 ["number"] ["number"] [0]) (Cy_OddLand_land : CalleeXK P w K mg base "OddLand" 1 ["land"] ["land"] [0]) (Cy_SharedLand_last_first : CalleeXK P w K mg base "SharedLand" 1 ["first", "last"] ["last", "first"] [1, 0]) (Cy_BadCap_pin : CalleeXK P w K mg base "BadCap" 1 ["pin"] ["pin"] [0]) (Cy_BadPairing_lot : CalleeXK P w K mg base "BadPairing" 1 ["lot"] ["lot"] [0]) (Cy_UnlikeLanes_other_one : CalleeXK P w K mg base "UnlikeLanes" 1 ["one", "other"] ["other", "one"] [1, 0]) (Cy_BadLetter_letter_place : CalleeXK P w K mg base "BadLetter" 1 ["place", "letter"] ["letter", "place"] [1, 0]) (Cy_NoteError_line : CalleeXK P w K mg base "NoteError" 1 ["line"] ["line"] [0]) (Cy_BadPair_pair : CalleeXK P w K mg base "BadPair" 1 ["pair"] ["pair"] [0]) :
    FnOk P w K mg base (L2N.CX P w) 3 f fd ["_law_w", "_law_x", "_law_y", "_law_z", "_law_thing_here", "_law_bag_here", "_law_kept"] (spM K [] m__law_named .sh) := by
  refine def_ok (N := N__law_named) (ps := ["_law_w", "_law_x", "_law_y", "_law_z", "_law_thing_here", "_law_bag_here", "_law_kept"]) (κ := [.sh, .sh, .sh, .sh, .sh, .sh, .sh, .sh]) (κ' := [.sh, .sh, .sh, .sh, .sh, .sh, .sh, .sh]) (g := g__law_named) F sc__law_named (kAt_all rfl) (fun cdv A outer s H E hr => ?_)
  have hu := u65 hr
  have tk : L2N.Takes (cxOf (L2N.CX P w) P w K mg base N__law_named "_law_named" (defScope s__law_named) f cdv A outer s H E) (cDef E .sh).W := L2N.takes_of rfl rfl rfl rfl
  have po : PassesOwn (model P w) _ _ (cxOf (L2N.CX P w) P w K mg base N__law_named "_law_named" (defScope s__law_named) f cdv A outer s H E).xe := passes_of rfl
  have nd := (sc__law_named).nd
  exact css_cons (κ1 := [.sh, .sh, .sh, .sh, .sh, .sh, .sh, .sh]) (cs_asg 7 (r := .sh) (show 7 < 8 by decide) trivial (ps_set (i := 7) nd rfl (Or.inl rfl) (ce_lst (ca_cons (ce_errK (ks := ["pins"]) (π := [0]) Cy_BadPins_pins (hr.mono (by decide)) no_passes rfl (ck_cons (ce_var 4 rfl (pv 4)) (ck_nil))) (ca_cons (ce_errK (ks := ["pin"]) (π := [0]) Cy_BadPin_pin (hr.mono (by decide)) no_passes rfl (ck_cons (ce_var 4 rfl (pv 4)) (ck_nil))) (ca_cons (ce_errK (ks := ["pin"]) (π := [0]) Cy_SamePin_pin (hr.mono (by decide)) no_passes rfl (ck_cons (ce_var 0 rfl (pv 0)) (ck_nil))) (ca_cons (ce_errK (ks := ["gap"]) (π := [0]) Cy_BadGap_gap (hr.mono (by decide)) no_passes rfl (ck_cons (ce_var 4 rfl (pv 4)) (ck_nil))) (ca_cons (ce_errK (ks := ["pins"]) (π := [0]) Cy_NoPair_pins (hr.mono (by decide)) no_passes rfl (ck_cons (ce_var 0 rfl (pv 0)) (ck_nil))) (ca_cons (ce_errK (ks := ["pin"]) (π := [0]) Cy_OddPin_pin (hr.mono (by decide)) no_passes rfl (ck_cons (ce_var 0 rfl (pv 0)) (ck_nil))) (ca_nil)))))))))) (css_cons (κ1 := [.sh, .sh, .sh, .sh, .sh, .sh, .sh, .sh]) (cs_asg 7 (r := .sh) (show 7 < 8 by decide) trivial (ps_set (i := 7) nd rfl (Or.inl rfl) (ce_add (ce_var 7 rfl (pv 7)) (ce_lst (ca_cons (ce_errK (ks := ["other", "one"]) (π := [1, 0]) Cy_UnlikePins_other_one (hr.mono (by decide)) no_passes rfl (ck_cons (ce_var 1 rfl (pv 1)) (ck_cons (ce_var 0 rfl (pv 0)) (ck_nil)))) (ca_cons (ce_errK (ks := ["entry"]) (π := [0]) Cy_BadCord_entry (hr.mono (by decide)) no_passes rfl (ck_cons (ce_var 4 rfl (pv 4)) (ck_nil))) (ca_cons (ce_errK (ks := ["b", "a"]) (π := [1, 0]) Cy_NotPart_b_a (hr.mono (by decide)) no_passes rfl (ck_cons (ce_var 1 rfl (pv 1)) (ck_cons (ce_var 0 rfl (pv 0)) (ck_nil)))) (ca_cons (ce_errK (ks := ["number"]) (π := [0]) Cy_BadNumber_number (hr.mono (by decide)) no_passes rfl (ck_cons (ce_var 4 rfl (pv 4)) (ck_nil))) (ca_nil))))))))) (css_cons (κ1 := [.sh, .sh, .sh, .sh, .sh, .sh, .sh, .sh]) (cs_asg 7 (r := .sh) (show 7 < 8 by decide) trivial (ps_set (i := 7) nd rfl (Or.inl rfl) (ce_add (ce_var 7 rfl (pv 7)) (ce_lst (ca_cons (ce_errK (ks := ["column", "row"]) (π := [1, 0]) Cy_BadTable_column_row (hr.mono (by decide)) no_passes rfl (ck_cons (ce_var 1 rfl (pv 1)) (ck_cons (ce_var 0 rfl (pv 0)) (ck_nil)))) (ca_cons (ce_errK (ks := ["twice", "b", "a"]) (π := [2, 1, 0]) Cy_NoLot_twice_b_a (hr.mono (by decide)) no_passes rfl (ck_cons (ce_var 2 rfl (pv 2)) (ck_cons (ce_var 1 rfl (pv 1)) (ck_cons (ce_var 0 rfl (pv 0)) (ck_nil))))) (ca_cons (ce_errK (ks := ["move"]) (π := [0]) Cy_NoMove_move (hr.mono (by decide)) no_passes rfl (ck_cons (ce_var 4 rfl (pv 4)) (ck_nil))) (ca_cons (ce_errK (ks := ["pins"]) (π := [0]) Cy_OddEnds_pins (hr.mono (by decide)) no_passes rfl (ck_cons (ce_var 5 rfl (pv 5)) (ck_nil))) (ca_nil))))))))) (css_cons (κ1 := [.sh, .sh, .sh, .sh, .sh, .sh, .sh, .sh]) (cs_asg 7 (r := .sh) (show 7 < 8 by decide) trivial (ps_set (i := 7) nd rfl (Or.inl rfl) (ce_add (ce_var 7 rfl (pv 7)) (ce_lst (ca_cons (ce_errK (ks := ["wished", "held", "last", "first"]) (π := [3, 2, 1, 0]) Cy_Barred_wished_held_last_first (hr.mono (by decide)) no_passes rfl (ck_cons (ce_var 3 rfl (pv 3)) (ck_cons (ce_var 2 rfl (pv 2)) (ck_cons (ce_var 1 rfl (pv 1)) (ck_cons (ce_var 0 rfl (pv 0)) (ck_nil)))))) (ca_cons (ce_errK (ks := ["number"]) (π := [0]) Cy_TooMany_number (hr.mono (by decide)) no_passes rfl (ck_cons (ce_var 0 rfl (pv 0)) (ck_nil))) (ca_cons (ce_errK (ks := ["track"]) (π := [0]) Cy_BadWidth_track (hr.mono (by decide)) no_passes rfl (ck_cons (ce_var 0 rfl (pv 0)) (ck_nil))) (ca_cons (ce_errK (ks := ["joint"]) (π := [0]) Cy_BadTurn_joint (hr.mono (by decide)) no_passes rfl (ck_cons (ce_var 0 rfl (pv 0)) (ck_nil))) (ca_nil))))))))) (css_cons (κ1 := [.sh, .sh, .sh, .sh, .sh, .sh, .sh, .sh]) (cs_asg 7 (r := .sh) (show 7 < 8 by decide) trivial (ps_set (i := 7) nd rfl (Or.inl rfl) (ce_add (ce_var 7 rfl (pv 7)) (ce_lst (ca_cons (ce_errK (ks := ["end"]) (π := [0]) Cy_DoubleEnd_end (hr.mono (by decide)) no_passes rfl (ck_cons (ce_var 0 rfl (pv 0)) (ck_nil))) (ca_cons (ce_errK (ks := ["end"]) (π := [0]) Cy_MissingEnd_end (hr.mono (by decide)) no_passes rfl (ck_cons (ce_var 0 rfl (pv 0)) (ck_nil))) (ca_cons (ce_errK (ks := ["joint"]) (π := [0]) Cy_LooseJoint_joint (hr.mono (by decide)) no_passes rfl (ck_cons (ce_var 0 rfl (pv 0)) (ck_nil))) (ca_cons (ce_errK (ks := ["due", "found"]) (π := [1, 0]) Cy_NotPlane_due_found (hr.mono (by decide)) no_passes rfl (ck_cons (ce_var 1 rfl (pv 1)) (ck_cons (ce_var 0 rfl (pv 0)) (ck_nil)))) (ca_nil))))))))) (css_cons (κ1 := [.sh, .sh, .sh, .sh, .sh, .sh, .sh, .sh]) (cs_asg 7 (r := .sh) (show 7 < 8 by decide) trivial (ps_set (i := 7) nd rfl (Or.inl rfl) (ce_add (ce_var 7 rfl (pv 7)) (ce_lst (ca_cons (ce_errK (ks := ["item"]) (π := [0]) Cy_BadItem_item (hr.mono (by decide)) no_passes rfl (ck_cons (ce_var 4 rfl (pv 4)) (ck_nil))) (ca_cons (ce_errK (ks := ["joint"]) (π := [0]) Cy_BadJoint_joint (hr.mono (by decide)) no_passes rfl (ck_cons (ce_var 4 rfl (pv 4)) (ck_nil))) (ca_cons (ce_errK (ks := ["track"]) (π := [0]) Cy_BadTrack_track (hr.mono (by decide)) no_passes rfl (ck_cons (ce_var 4 rfl (pv 4)) (ck_nil))) (ca_cons (ce_errK (ks := ["joint"]) (π := [0]) Cy_OddJoint_joint (hr.mono (by decide)) no_passes rfl (ck_cons (ce_var 0 rfl (pv 0)) (ck_nil))) (ca_nil))))))))) (css_cons (κ1 := [.sh, .sh, .sh, .sh, .sh, .sh, .sh, .sh]) (cs_asg 7 (r := .sh) (show 7 < 8 by decide) trivial (ps_set (i := 7) nd rfl (Or.inl rfl) (ce_add (ce_var 7 rfl (pv 7)) (ce_lst (ca_cons (ce_errK (ks := ["deed", "place"]) (π := [1, 0]) Cy_BadDeed_deed_place (hr.mono (by decide)) no_passes rfl (ck_cons (ce_var 4 rfl (pv 4)) (ck_cons (ce_var 0 rfl (pv 0)) (ck_nil)))) (ca_cons (ce_errK (ks := ["deed", "place"]) (π := [1, 0]) Cy_Refused_deed_place (hr.mono (by decide)) no_passes rfl (ck_cons (ce_var 5 rfl (pv 5)) (ck_cons (ce_var 0 rfl (pv 0)) (ck_nil)))) (ca_cons (ce_errK (ks := ["wire"]) (π := [0]) Cy_BadWire_wire (hr.mono (by decide)) no_passes rfl (ck_cons (ce_var 4 rfl (pv 4)) (ck_nil))) (ca_nil)))))))) (css_cons (κ1 := [.sh, .sh, .sh, .sh, .sh, .sh, .sh, .sh]) (cs_asg 7 (r := .sh) (show 7 < 8 by decide) trivial (ps_set (i := 7) nd rfl (Or.inl rfl) (ce_add (ce_var 7 rfl (pv 7)) (ce_lst (ca_cons (ce_errK (ks := ["last", "first"]) (π := [1, 0]) Cy_SharedLand_last_first (hr.mono (by decide)) no_passes rfl (ck_cons (ce_var 1 rfl (pv 1)) (ck_cons (ce_var 0 rfl (pv 0)) (ck_nil)))) (ca_cons (ce_errK (ks := ["land"]) (π := [0]) Cy_OddLand_land (hr.mono (by decide)) no_passes rfl (ck_cons (ce_var 0 rfl (pv 0)) (ck_nil))) (ca_cons (ce_errK (ks := ["number"]) (π := [0]) Cy_BadLanes_number (hr.mono (by decide)) no_passes rfl (ck_cons (ce_var 4 rfl (pv 4)) (ck_nil))) (ca_nil)))))))) (css_cons (κ1 := [.sh, .sh, .sh, .sh, .sh, .sh, .sh, .sh]) (cs_asg 7 (r := .sh) (show 7 < 8 by decide) trivial (ps_set (i := 7) nd rfl (Or.inl rfl) (ce_add (ce_var 7 rfl (pv 7)) (ce_lst (ca_cons (ce_errK (ks := ["letter", "place"]) (π := [1, 0]) Cy_BadLetter_letter_place (hr.mono (by decide)) no_passes rfl (ck_cons (ce_var 4 rfl (pv 4)) (ck_cons (ce_var 0 rfl (pv 0)) (ck_nil)))) (ca_cons (ce_errK (ks := ["other", "one"]) (π := [1, 0]) Cy_UnlikeLanes_other_one (hr.mono (by decide)) no_passes rfl (ck_cons (ce_var 1 rfl (pv 1)) (ck_cons (ce_var 0 rfl (pv 0)) (ck_nil)))) (ca_cons (ce_errK (ks := ["lot"]) (π := [0]) Cy_BadPairing_lot (hr.mono (by decide)) no_passes rfl (ck_cons (ce_var 6 rfl (pv 6)) (ck_nil))) (ca_cons (ce_errK (ks := ["pin"]) (π := [0]) Cy_BadCap_pin (hr.mono (by decide)) no_passes rfl (ck_cons (ce_var 0 rfl (pv 0)) (ck_nil))) (ca_nil))))))))) (css_one (κ' := [.sh, .sh, .sh, .sh, .sh, .sh, .sh, .sh]) (cs_ret rfl (ce_add (ce_var 7 rfl (pv 7)) (ce_lst (ca_cons (ce_errK (ks := ["pair"]) (π := [0]) Cy_BadPair_pair (hr.mono (by decide)) no_passes rfl (ck_cons (ce_var 4 rfl (pv 4)) (ck_nil))) (ca_cons (ce_err0 T.g_NoWishes T.n_NoWishes rfl) (ca_cons (ce_err0 T.g_NothingToUndo T.n_NothingToUndo rfl) (ca_cons (ce_errK (ks := ["line"]) (π := [0]) Cy_NoteError_line (hr.mono (by decide)) no_passes rfl (ck_cons (ce_var 0 rfl (pv 0)) (ck_nil))) (ca_nil))))))) trivial))))))))))
theorem ok__law_named {P : Program} {w : World} {K : PySem.W.Frag} {mg : Str → Option Value} {base : Heap} {f : Addr} {fd : FuncData} (F : FunD K "_law_named" "_law_named" (defArgs s__law_named) (defBody s__law_named) (defScope s__law_named) [] [] f fd) (hm : mg "_law_named" = some (.ref f)) (T : Top w K mg) (Cy_OddPin_pin : CalleeXK P w K mg base "OddPin" 1 ["pin"] ["pin"] [0]) (Cy_NoPair_pins : CalleeXK P w K mg base "NoPair" 1 ["pins"] ["pins"] [0]) (Cy_BadGap_gap : CalleeXK P w K mg base "BadGap" 1 ["gap"] ["gap"] [0]) (Cy_SamePin_pin : CalleeXK P w K mg base "SamePin" 1 ["pin"] ["pin"] [0]) (Cy_BadPin_pin : CalleeXK P w K mg base "BadPin" 1 ["pin"] ["pin"] [0]) (Cy_BadPins_pins : CalleeXK P w K mg base "BadPins" 1 ["pins"] ["pins"] [0]) (Cy_BadNumber_number : CalleeXK P w K mg base "BadNumber" 1 ["number"] ["number"] [0]) (Cy_NotPart_b_a : CalleeXK P w K mg base "NotPart" 1 ["a", "b"] ["b", "a"] [1, 0]) (Cy_BadCord_entry : CalleeXK P w K mg base "BadCord" 1 ["entry"] ["entry"] [0]) (Cy_UnlikePins_other_one : CalleeXK P w K mg base "UnlikePins" 1 ["one", "other"] ["other", "one"] [1, 0]) (Cy_OddEnds_pins : CalleeXK P w K mg base "OddEnds" 1 ["pins"] ["pins"] [0]) (Cy_NoMove_move : CalleeXK P w K mg base "NoMove" 1 ["move"] ["move"] [0]) (Cy_NoLot_twice_b_a : CalleeXK P w K mg base "NoLot" 1 ["a", "b", "twice"] ["twice", "b", "a"] [2, 1, 0]) (Cy_BadTable_column_row : CalleeXK P w K mg base "BadTable" 1 ["row", "column"] ["column", "row"] [1, 0]) (Cy_BadTurn_joint : CalleeXK P w K mg base "BadTurn" 1 ["joint"] ["joint"] [0]) (Cy_BadWidth_track : CalleeXK P w K mg base "BadWidth" 1 ["track"] ["track"] [0]) (Cy_TooMany_number : CalleeXK P w K mg base "TooMany" 1 ["number"] ["number"] [0]) (Cy_Barred_wished_held_last_first : CalleeXK P w K mg base "Barred" 1 ["first", "last", "held", "wished"] ["wished", "held", "last", "first"] [3, 2, 1, 0]) (Cy_NotPlane_due_found : CalleeXK P w K mg base "NotPlane" 1 ["found", "due"] ["due", "found"] [1, 0]) (Cy_LooseJoint_joint : CalleeXK P w K mg base "LooseJoint" 1 ["joint"] ["joint"] [0]) (Cy_MissingEnd_end : CalleeXK P w K mg base "MissingEnd" 1 ["end"] ["end"] [0]) (Cy_DoubleEnd_end : CalleeXK P w K mg base "DoubleEnd" 1 ["end"] ["end"] [0]) (Cy_OddJoint_joint : CalleeXK P w K mg base "OddJoint" 1 ["joint"] ["joint"] [0]) (Cy_BadTrack_track : CalleeXK P w K mg base "BadTrack" 1 ["track"] ["track"] [0]) (Cy_BadJoint_joint : CalleeXK P w K mg base "BadJoint" 1 ["joint"] ["joint"] [0]) (Cy_BadItem_item : CalleeXK P w K mg base "BadItem" 1 ["item"] ["item"] [0]) (Cy_BadWire_wire : CalleeXK P w K mg base "BadWire" 1 ["wire"] ["wire"] [0]) (Cy_Refused_deed_place : CalleeXK P w K mg base "Refused" 1 ["place", "deed"] ["deed", "place"] [1, 0]) (Cy_BadDeed_deed_place : CalleeXK P w K mg base "BadDeed" 1 ["place", "deed"] ["deed", "place"] [1, 0]) (Cy_BadLanes_number : CalleeXK P w K mg base "BadLanes" 1 ["number"] ["number"] [0]) (Cy_OddLand_land : CalleeXK P w K mg base "OddLand" 1 ["land"] ["land"] [0]) (Cy_SharedLand_last_first : CalleeXK P w K mg base "SharedLand" 1 ["first", "last"] ["last", "first"] [1, 0]) (Cy_BadCap_pin : CalleeXK P w K mg base "BadCap" 1 ["pin"] ["pin"] [0]) (Cy_BadPairing_lot : CalleeXK P w K mg base "BadPairing" 1 ["lot"] ["lot"] [0]) (Cy_UnlikeLanes_other_one : CalleeXK P w K mg base "UnlikeLanes" 1 ["one", "other"] ["other", "one"] [1, 0]) (Cy_BadLetter_letter_place : CalleeXK P w K mg base "BadLetter" 1 ["place", "letter"] ["letter", "place"] [1, 0]) (Cy_NoteError_line : CalleeXK P w K mg base "NoteError" 1 ["line"] ["line"] [0]) (Cy_BadPair_pair : CalleeXK P w K mg base "BadPair" 1 ["pair"] ["pair"] [0]) :
    Callee P w K mg base "_law_named" 3 m__law_named .sh := callee_of hm F (fn__law_named F T Cy_OddPin_pin Cy_NoPair_pins Cy_BadGap_gap Cy_SamePin_pin Cy_BadPin_pin Cy_BadPins_pins Cy_BadNumber_number Cy_NotPart_b_a Cy_BadCord_entry Cy_UnlikePins_other_one Cy_OddEnds_pins Cy_NoMove_move Cy_NoLot_twice_b_a Cy_BadTable_column_row Cy_BadTurn_joint Cy_BadWidth_track Cy_TooMany_number Cy_Barred_wished_held_last_first Cy_NotPlane_due_found Cy_LooseJoint_joint Cy_MissingEnd_end Cy_DoubleEnd_end Cy_OddJoint_joint Cy_BadTrack_track Cy_BadJoint_joint Cy_BadItem_item Cy_BadWire_wire Cy_Refused_deed_place Cy_BadDeed_deed_place Cy_BadLanes_number Cy_OddLand_land Cy_SharedLand_last_first Cy_BadCap_pin Cy_BadPairing_lot Cy_UnlikeLanes_other_one Cy_BadLetter_letter_place Cy_NoteError_line Cy_BadPair_pair) (F.bindsN fun _ _ _ _ _ _ us hl => match us, hl with | [_, _, _, _, _, _, _], _ => rfl)
abbrev s__law_fields : Stmt := (top 65)
abbrev N__law_fields : List Str := ["_law_made", "_law_told"]
theorem sc__law_fields : FnScope N__law_fields ["_law_made"] (defScope s__law_fields) := ⟨rfl, rfl, rfl, by decide +kernel, rfl, by decide +kernel, by decide +kernel⟩
theorem fn__law_fields {P : Program} {w : World} {K : PySem.W.Frag} {mg : Str → Option Value} {base : Heap} {f : Addr} {fd : FuncData} (F : FunD K "_law_fields" "_law_fields" (defArgs s__law_fields) (defBody s__law_fields) (defScope s__law_fields) [] [] f fd) (T : Top w K mg) :
    FnOk P w K mg base (L2N.CX P w) 1 f fd ["_law_made"] (spM K [] m__law_fields .sh) := by
  refine def_ok (N := N__law_fields) (ps := ["_law_made"]) (κ := [.sh, .sh]) (κ' := [.sh, .sh]) (g := g__law_fields) F sc__law_fields (kAt_all rfl) (fun cdv A outer s H E hr => ?_)
  have hu := u65 hr
  have tk : L2N.Takes (cxOf (L2N.CX P w) P w K mg base N__law_fields "_law_fields" (defScope s__law_fields) f cdv A outer s H E) (cDef E .sh).W := L2N.takes_of rfl rfl rfl rfl
  have po : PassesOwn (model P w) _ _ (cxOf (L2N.CX P w) P w K mg base N__law_fields "_law_fields" (defScope s__law_fields) f cdv A outer s H E).xe := passes_of rfl
  have nd := (sc__law_fields).nd
  exact css_cons (κ1 := [.sh, .sh]) (cs_asg 1 (r := .sh) (show 1 < 2 by decide) trivial (ps_set (i := 1) nd rfl (Or.inl rfl) (ce_lst (ca_cons (ce_lst (ca_cons (ce_xfV T.ek (ce_ix (ce_var 0 rfl (pv 0)) (ce_int))) (ca_nil))) (ca_cons (ce_lst (ca_cons (ce_xfV T.ek (ce_ix (ce_var 0 rfl (pv 0)) (ce_int))) (ca_nil))) (ca_cons (ce_lst (ca_cons (ce_xfV T.ek (ce_ix (ce_var 0 rfl (pv 0)) (ce_int))) (ca_nil))) (ca_cons (ce_lst (ca_cons (ce_xfV T.ek (ce_ix (ce_var 0 rfl (pv 0)) (ce_int))) (ca_nil))) (ca_cons (ce_lst (ca_cons (ce_xfV T.ek (ce_ix (ce_var 0 rfl (pv 0)) (ce_int))) (ca_nil))) (ca_cons (ce_lst (ca_cons (ce_xfV T.ek (ce_ix (ce_var 0 rfl (pv 0)) (ce_int))) (ca_nil))) (ca_nil)))))))))) (css_cons (κ1 := [.sh, .sh]) (cs_asg 1 (r := .sh) (show 1 < 2 by decide) trivial (ps_set (i := 1) nd rfl (Or.inl rfl) (ce_add (ce_var 1 rfl (pv 1)) (ce_lst (ca_cons (ce_lst (ca_cons (ce_xfV T.ek (ce_ix (ce_var 0 rfl (pv 0)) (ce_int))) (ca_cons (ce_xfV T.ek (ce_ix (ce_var 0 rfl (pv 0)) (ce_int))) (ca_nil)))) (ca_cons (ce_lst (ca_cons (ce_xfV T.ek (ce_ix (ce_var 0 rfl (pv 0)) (ce_int))) (ca_nil))) (ca_cons (ce_lst (ca_cons (ce_xfV T.ek (ce_ix (ce_var 0 rfl (pv 0)) (ce_int))) (ca_cons (ce_xfV T.ek (ce_ix (ce_var 0 rfl (pv 0)) (ce_int))) (ca_nil)))) (ca_cons (ce_lst (ca_cons (ce_xfV T.ek (ce_ix (ce_var 0 rfl (pv 0)) (ce_int))) (ca_nil))) (ca_nil))))))))) (css_cons (κ1 := [.sh, .sh]) (cs_asg 1 (r := .sh) (show 1 < 2 by decide) trivial (ps_set (i := 1) nd rfl (Or.inl rfl) (ce_add (ce_var 1 rfl (pv 1)) (ce_lst (ca_cons (ce_lst (ca_cons (ce_xfV T.ek (ce_ix (ce_var 0 rfl (pv 0)) (ce_int))) (ca_cons (ce_xfV T.ek (ce_ix (ce_var 0 rfl (pv 0)) (ce_int))) (ca_nil)))) (ca_cons (ce_lst (ca_cons (ce_xfV T.ek (ce_ix (ce_var 0 rfl (pv 0)) (ce_int))) (ca_cons (ce_xfV T.ek (ce_ix (ce_var 0 rfl (pv 0)) (ce_int))) (ca_cons (ce_xfV T.ek (ce_ix (ce_var 0 rfl (pv 0)) (ce_int))) (ca_nil))))) (ca_cons (ce_lst (ca_cons (ce_xfV T.ek (ce_ix (ce_var 0 rfl (pv 0)) (ce_int))) (ca_nil))) (ca_nil)))))))) (css_cons (κ1 := [.sh, .sh]) (cs_asg 1 (r := .sh) (show 1 < 2 by decide) trivial (ps_set (i := 1) nd rfl (Or.inl rfl) (ce_add (ce_var 1 rfl (pv 1)) (ce_lst (ca_cons (ce_lst (ca_cons (ce_xfV T.ek (ce_ix (ce_var 0 rfl (pv 0)) (ce_int))) (ca_nil))) (ca_cons (ce_lst (ca_cons (ce_xfV T.ek (ce_ix (ce_var 0 rfl (pv 0)) (ce_int))) (ca_cons (ce_xfV T.ek (ce_ix (ce_var 0 rfl (pv 0)) (ce_int))) (ca_cons (ce_xfV T.ek (ce_ix (ce_var 0 rfl (pv 0)) (ce_int))) (ca_cons (ce_xfV T.ek (ce_ix (ce_var 0 rfl (pv 0)) (ce_int))) (ca_nil)))))) (ca_nil))))))) (css_cons (κ1 := [.sh, .sh]) (cs_asg 1 (r := .sh) (show 1 < 2 by decide) trivial (ps_set (i := 1) nd rfl (Or.inl rfl) (ce_add (ce_var 1 rfl (pv 1)) (ce_lst (ca_cons (ce_lst (ca_cons (ce_xfV T.ek (ce_ix (ce_var 0 rfl (pv 0)) (ce_int))) (ca_nil))) (ca_cons (ce_lst (ca_cons (ce_xfV T.ek (ce_ix (ce_var 0 rfl (pv 0)) (ce_int))) (ca_nil))) (ca_cons (ce_lst (ca_cons (ce_xfV T.ek (ce_ix (ce_var 0 rfl (pv 0)) (ce_int))) (ca_nil))) (ca_cons (ce_lst (ca_cons (ce_xfV T.ek (ce_ix (ce_var 0 rfl (pv 0)) (ce_int))) (ca_nil))) (ca_cons (ce_lst (ca_cons (ce_xfV T.ek (ce_ix (ce_var 0 rfl (pv 0)) (ce_int))) (ca_nil))) (ca_nil)))))))))) (css_cons (κ1 := [.sh, .sh]) (cs_asg 1 (r := .sh) (show 1 < 2 by decide) trivial (ps_set (i := 1) nd rfl (Or.inl rfl) (ce_add (ce_var 1 rfl (pv 1)) (ce_lst (ca_cons (ce_lst (ca_cons (ce_xfV T.ek (ce_ix (ce_var 0 rfl (pv 0)) (ce_int))) (ca_nil))) (ca_cons (ce_lst (ca_cons (ce_xfV T.ek (ce_ix (ce_var 0 rfl (pv 0)) (ce_int))) (ca_cons (ce_xfV T.ek (ce_ix (ce_var 0 rfl (pv 0)) (ce_int))) (ca_nil)))) (ca_cons (ce_lst (ca_cons (ce_xfV T.ek (ce_ix (ce_var 0 rfl (pv 0)) (ce_int))) (ca_nil))) (ca_cons (ce_lst (ca_cons (ce_xfV T.ek (ce_ix (ce_var 0 rfl (pv 0)) (ce_int))) (ca_nil))) (ca_nil))))))))) (css_cons (κ1 := [.sh, .sh]) (cs_asg 1 (r := .sh) (show 1 < 2 by decide) trivial (ps_set (i := 1) nd rfl (Or.inl rfl) (ce_add (ce_var 1 rfl (pv 1)) (ce_lst (ca_cons (ce_lst (ca_cons (ce_xfV T.ek (ce_ix (ce_var 0 rfl (pv 0)) (ce_int))) (ca_nil))) (ca_cons (ce_lst (ca_cons (ce_xfV T.ek (ce_ix (ce_var 0 rfl (pv 0)) (ce_int))) (ca_nil))) (ca_cons (ce_lst (ca_cons (ce_xfV T.ek (ce_ix (ce_var 0 rfl (pv 0)) (ce_int))) (ca_cons (ce_xfV T.ek (ce_ix (ce_var 0 rfl (pv 0)) (ce_int))) (ca_nil)))) (ca_nil)))))))) (css_cons (κ1 := [.sh, .sh]) (cs_asg 1 (r := .sh) (show 1 < 2 by decide) trivial (ps_set (i := 1) nd rfl (Or.inl rfl) (ce_add (ce_var 1 rfl (pv 1)) (ce_lst (ca_cons (ce_lst (ca_cons (ce_xfV T.ek (ce_ix (ce_var 0 rfl (pv 0)) (ce_int))) (ca_cons (ce_xfV T.ek (ce_ix (ce_var 0 rfl (pv 0)) (ce_int))) (ca_nil)))) (ca_cons (ce_lst (ca_cons (ce_xfV T.ek (ce_ix (ce_var 0 rfl (pv 0)) (ce_int))) (ca_nil))) (ca_cons (ce_lst (ca_cons (ce_xfV T.ek (ce_ix (ce_var 0 rfl (pv 0)) (ce_int))) (ca_cons (ce_xfV T.ek (ce_ix (ce_var 0 rfl (pv 0)) (ce_int))) (ca_nil)))) (ca_cons (ce_lst (ca_cons (ce_xfV T.ek (ce_ix (ce_var 0 rfl (pv 0)) (ce_int))) (ca_nil))) (ca_nil))))))))) (css_cons (κ1 := [.sh, .sh]) (cs_asg 1 (r := .sh) (show 1 < 2 by decide) trivial (ps_set (i := 1) nd rfl (Or.inl rfl) (ce_add (ce_var 1 rfl (pv 1)) (ce_lst (ca_cons (ce_lst (ca_cons (ce_xfV T.ek (ce_ix (ce_var 0 rfl (pv 0)) (ce_int))) (ca_nil))) (ca_cons (ce_lst (ca_cons (ce_xfV T.ek (ce_ix (ce_var 0 rfl (pv 0)) (ce_int))) (ca_cons (ce_xfV T.ek (ce_ix (ce_var 0 rfl (pv 0)) (ce_int))) (ca_nil)))) (ca_cons (ce_lst (ca_cons (ce_xfV T.ek (ce_ix (ce_var 0 rfl (pv 0)) (ce_int))) (ca_cons (ce_xfV T.ek (ce_ix (ce_var 0 rfl (pv 0)) (ce_int))) (ca_nil)))) (ca_nil)))))))) (css_one (κ' := [.sh, .sh]) (cs_ret rfl (ce_add (ce_var 1 rfl (pv 1)) (ce_lst (ca_cons (ce_lst (ca_cons (ce_xfV T.ek (ce_ix (ce_var 0 rfl (pv 0)) (ce_int))) (ca_nil))) (ca_cons (ce_lst (ca_cons (ce_xfV T.ek (ce_ix (ce_var 0 rfl (pv 0)) (ce_int))) (ca_nil))) (ca_cons (ce_lst (ca_cons (ce_xfV T.ek (ce_ix (ce_var 0 rfl (pv 0)) (ce_int))) (ca_nil))) (ca_nil)))))) trivial))))))))))
theorem ok__law_fields {P : Program} {w : World} {K : PySem.W.Frag} {mg : Str → Option Value} {base : Heap} {f : Addr} {fd : FuncData} (F : FunD K "_law_fields" "_law_fields" (defArgs s__law_fields) (defBody s__law_fields) (defScope s__law_fields) [] [] f fd) (hm : mg "_law_fields" = some (.ref f)) (T : Top w K mg) :
    Callee P w K mg base "_law_fields" 1 m__law_fields .sh := callee_of hm F (fn__law_fields F T) (F.bindsN fun _ _ _ _ _ _ us hl => match us, hl with | [_], _ => rfl)
abbrev s__law_passed : Stmt := (top 66)
abbrev N__law_passed : List Str := ["_law_w", "_law_x", "_law_y", "_law_z", "_law_thing_here", "_law_bag_here", "_law_some"]
theorem sc__law_passed : FnScope N__law_passed ["_law_w", "_law_x", "_law_y", "_law_z", "_law_thing_here", "_law_bag_here"] (defScope s__law_passed) := ⟨rfl, rfl, rfl, by decide +kernel, rfl, by decide +kernel, by decide +kernel⟩
theorem fn__law_passed {P : Program} {w : World} {K : PySem.W.Frag} {mg : Str → Option Value} {base : Heap} {f : Addr} {fd : FuncData} (F : FunD K "_law_passed" "_law_passed" (defArgs s__law_passed) (defBody s__law_passed) (defScope s__law_passed) [] [] f fd) (T : Top w K mg) :
    FnOk P w K mg base (L2N.CX P w) 1 f fd ["_law_w", "_law_x", "_law_y", "_law_z", "_law_thing_here", "_law_bag_here"] (spM K [] m__law_passed .sh) := by
  refine def_ok (N := N__law_passed) (ps := ["_law_w", "_law_x", "_law_y", "_law_z", "_law_thing_here", "_law_bag_here"]) (κ := [.sh, .sh, .sh, .sh, .sh, .sh, .sh]) (κ' := [.sh, .sh, .sh, .sh, .sh, .sh, .sh]) (g := g__law_passed) F sc__law_passed (kAt_all rfl) (fun cdv A outer s H E hr => ?_)
  have hu := u65 hr
  have tk : L2N.Takes (cxOf (L2N.CX P w) P w K mg base N__law_passed "_law_passed" (defScope s__law_passed) f cdv A outer s H E) (cDef E .sh).W := L2N.takes_of rfl rfl rfl rfl
  have po : PassesOwn (model P w) _ _ (cxOf (L2N.CX P w) P w K mg base N__law_passed "_law_passed" (defScope s__law_passed) f cdv A outer s H E).xe := passes_of rfl
  have nd := (sc__law_passed).nd
  exact css_cons (κ1 := [.sh, .sh, .sh, .sh, .sh, .sh, .sh]) (cs_asg 6 (r := .sh) (show 6 < 7 by decide) trivial (ps_set (i := 6) nd rfl (Or.inl rfl) (ce_lst (ca_cons (ce_lst (ca_cons (ce_var 4 rfl (pv 4)) (ca_nil))) (ca_cons (ce_lst (ca_cons (ce_var 4 rfl (pv 4)) (ca_nil))) (ca_cons (ce_lst (ca_cons (ce_var 0 rfl (pv 0)) (ca_nil))) (ca_cons (ce_lst (ca_cons (ce_var 4 rfl (pv 4)) (ca_nil))) (ca_cons (ce_lst (ca_cons (ce_var 0 rfl (pv 0)) (ca_nil))) (ca_cons (ce_lst (ca_cons (ce_var 0 rfl (pv 0)) (ca_nil))) (ca_cons (ce_lst (ca_cons (ce_var 0 rfl (pv 0)) (ca_cons (ce_var 1 rfl (pv 1)) (ca_nil)))) (ca_cons (ce_lst (ca_cons (ce_var 4 rfl (pv 4)) (ca_nil))) (ca_cons (ce_lst (ca_cons (ce_var 0 rfl (pv 0)) (ca_cons (ce_var 1 rfl (pv 1)) (ca_nil)))) (ca_cons (ce_lst (ca_cons (ce_var 4 rfl (pv 4)) (ca_nil))) (ca_cons (ce_lst (ca_cons (ce_var 0 rfl (pv 0)) (ca_cons (ce_var 1 rfl (pv 1)) (ca_nil)))) (ca_cons (ce_lst (ca_cons (ce_var 0 rfl (pv 0)) (ca_cons (ce_var 1 rfl (pv 1)) (ca_cons (ce_var 2 rfl (pv 2)) (ca_nil))))) (ca_cons (ce_lst (ca_cons (ce_var 4 rfl (pv 4)) (ca_nil))) (ca_nil))))))))))))))))) (css_cons (κ1 := [.sh, .sh, .sh, .sh, .sh, .sh, .sh]) (cs_asg 6 (r := .sh) (show 6 < 7 by decide) trivial (ps_set (i := 6) nd rfl (Or.inl rfl) (ce_add (ce_var 6 rfl (pv 6)) (ce_lst (ca_cons (ce_lst (ca_cons (ce_var 5 rfl (pv 5)) (ca_nil))) (ca_cons (ce_lst (ca_cons (ce_var 0 rfl (pv 0)) (ca_cons (ce_var 1 rfl (pv 1)) (ca_cons (ce_var 2 rfl (pv 2)) (ca_cons (ce_var 3 rfl (pv 3)) (ca_nil)))))) (ca_cons (ce_lst (ca_cons (ce_var 0 rfl (pv 0)) (ca_nil))) (ca_cons (ce_lst (ca_cons (ce_var 0 rfl (pv 0)) (ca_nil))) (ca_cons (ce_lst (ca_cons (ce_var 0 rfl (pv 0)) (ca_nil))) (ca_cons (ce_lst (ca_cons (ce_var 0 rfl (pv 0)) (ca_nil))) (ca_cons (ce_lst (ca_cons (ce_var 0 rfl (pv 0)) (ca_nil))) (ca_cons (ce_lst (ca_cons (ce_var 0 rfl (pv 0)) (ca_nil))) (ca_cons (ce_lst (ca_cons (ce_var 0 rfl (pv 0)) (ca_cons (ce_var 1 rfl (pv 1)) (ca_nil)))) (ca_cons (ce_lst (ca_cons (ce_var 4 rfl (pv 4)) (ca_nil))) (ca_cons (ce_lst (ca_cons (ce_var 4 rfl (pv 4)) (ca_nil))) (ca_cons (ce_lst (ca_cons (ce_var 4 rfl (pv 4)) (ca_nil))) (ca_cons (ce_lst (ca_cons (ce_var 0 rfl (pv 0)) (ca_nil))) (ca_nil)))))))))))))))))) (css_cons (κ1 := [.sh, .sh, .sh, .sh, .sh, .sh, .sh]) (cs_asg 6 (r := .sh) (show 6 < 7 by decide) trivial (ps_set (i := 6) nd rfl (Or.inl rfl) (ce_add (ce_var 6 rfl (pv 6)) (ce_lst (ca_cons (ce_lst (ca_cons (ce_var 0 rfl (pv 0)) (ca_cons (ce_var 4 rfl (pv 4)) (ca_nil)))) (ca_cons (ce_lst (ca_cons (ce_var 0 rfl (pv 0)) (ca_cons (ce_var 5 rfl (pv 5)) (ca_nil)))) (ca_cons (ce_lst (ca_cons (ce_var 4 rfl (pv 4)) (ca_nil))) (ca_cons (ce_lst (ca_cons (ce_var 0 rfl (pv 0)) (ca_cons (ce_var 1 rfl (pv 1)) (ca_nil)))) (ca_cons (ce_lst (ca_cons (ce_var 0 rfl (pv 0)) (ca_nil))) (ca_cons (ce_lst (ca_cons (ce_var 4 rfl (pv 4)) (ca_nil))) (ca_cons (ce_lst (ca_cons (ce_var 0 rfl (pv 0)) (ca_cons (ce_var 4 rfl (pv 4)) (ca_nil)))) (ca_cons (ce_lst (ca_cons (ce_var 0 rfl (pv 0)) (ca_cons (ce_var 1 rfl (pv 1)) (ca_nil)))) (ca_cons (ce_lst (ca_cons (ce_var 0 rfl (pv 0)) (ca_nil))) (ca_cons (ce_lst (ca_cons (ce_var 4 rfl (pv 4)) (ca_nil))) (ca_cons (ce_lst (ca_cons (ce_var 0 rfl (pv 0)) (ca_nil))) (ca_nil)))))))))))))))) (css_one (κ' := [.sh, .sh, .sh, .sh, .sh, .sh, .sh]) (cs_ret rfl (ce_var 6 rfl (pv 6)) trivial))))
theorem ok__law_passed {P : Program} {w : World} {K : PySem.W.Frag} {mg : Str → Option Value} {base : Heap} {f : Addr} {fd : FuncData} (F : FunD K "_law_passed" "_law_passed" (defArgs s__law_passed) (defBody s__law_passed) (defScope s__law_passed) [] [] f fd) (hm : mg "_law_passed" = some (.ref f)) (T : Top w K mg) :
    Callee P w K mg base "_law_passed" 1 m__law_passed .sh := callee_of hm F (fn__law_passed F T) (F.bindsN fun _ _ _ _ _ _ us hl => match us, hl with | [_, _, _, _, _, _], _ => rfl)
abbrev s__law_kinds : Stmt := (top 67)
abbrev N__law_kinds : List Str := ["_law_e", "_law_kinds_here"]
theorem sc__law_kinds : FnScope N__law_kinds ["_law_e"] (defScope s__law_kinds) := ⟨rfl, rfl, rfl, by decide +kernel, rfl, by decide +kernel, by decide +kernel⟩
theorem fn__law_kinds {P : Program} {w : World} {K : PySem.W.Frag} {mg : Str → Option Value} {base : Heap} {f : Addr} {fd : FuncData} (F : FunD K "_law_kinds" "_law_kinds" (defArgs s__law_kinds) (defBody s__law_kinds) (defScope s__law_kinds) [] [] f fd) (T : Top w K mg) :
    FnOk P w K mg base (L2N.CX P w) 1 f fd ["_law_e"] (spM K [] m__law_kinds .sh) := by
  refine def_ok (N := N__law_kinds) (ps := ["_law_e"]) (κ := [.sh, .sh]) (κ' := [.sh, .sh]) (g := g__law_kinds) F sc__law_kinds (kAt_all rfl) (fun cdv A outer s H E hr => ?_)
  have hu := u65 hr
  have tk : L2N.Takes (cxOf (L2N.CX P w) P w K mg base N__law_kinds "_law_kinds" (defScope s__law_kinds) f cdv A outer s H E) (cDef E .sh).W := L2N.takes_of rfl rfl rfl rfl
  have po : PassesOwn (model P w) _ _ (cxOf (L2N.CX P w) P w K mg base N__law_kinds "_law_kinds" (defScope s__law_kinds) f cdv A outer s H E).xe := passes_of rfl
  have nd := (sc__law_kinds).nd
  exact css_cons (κ1 := [.sh, .sh]) (cs_asg 1 (r := .sh) (show 1 < 2 by decide) trivial (ps_set (i := 1) nd rfl (Or.inl rfl) (ce_lst (ca_cons (ce_isV (u := .o "BadPins") T.ek rfl T.b_isinstance (ce_var 0 rfl (pv 0)) (pe_cl rfl T.g_BadPins)) (ca_cons (ce_isV (u := .o "BadPin") T.ek rfl T.b_isinstance (ce_var 0 rfl (pv 0)) (pe_cl rfl T.g_BadPin)) (ca_cons (ce_isV (u := .o "SamePin") T.ek rfl T.b_isinstance (ce_var 0 rfl (pv 0)) (pe_cl rfl T.g_SamePin)) (ca_cons (ce_isV (u := .o "BadGap") T.ek rfl T.b_isinstance (ce_var 0 rfl (pv 0)) (pe_cl rfl T.g_BadGap)) (ca_nil)))))))) (css_cons (κ1 := [.sh, .sh]) (cs_asg 1 (r := .sh) (show 1 < 2 by decide) trivial (ps_set (i := 1) nd rfl (Or.inl rfl) (ce_add (ce_var 1 rfl (pv 1)) (ce_lst (ca_cons (ce_isV (u := .o "NoPair") T.ek rfl T.b_isinstance (ce_var 0 rfl (pv 0)) (pe_cl rfl T.g_NoPair)) (ca_cons (ce_isV (u := .o "OddPin") T.ek rfl T.b_isinstance (ce_var 0 rfl (pv 0)) (pe_cl rfl T.g_OddPin)) (ca_cons (ce_isV (u := .o "UnlikePins") T.ek rfl T.b_isinstance (ce_var 0 rfl (pv 0)) (pe_cl rfl T.g_UnlikePins)) (ca_cons (ce_isV (u := .o "BadCord") T.ek rfl T.b_isinstance (ce_var 0 rfl (pv 0)) (pe_cl rfl T.g_BadCord)) (ca_nil))))))))) (css_cons (κ1 := [.sh, .sh]) (cs_asg 1 (r := .sh) (show 1 < 2 by decide) trivial (ps_set (i := 1) nd rfl (Or.inl rfl) (ce_add (ce_var 1 rfl (pv 1)) (ce_lst (ca_cons (ce_isV (u := .o "NotPart") T.ek rfl T.b_isinstance (ce_var 0 rfl (pv 0)) (pe_cl rfl T.g_NotPart)) (ca_cons (ce_isV (u := .o "BadNumber") T.ek rfl T.b_isinstance (ce_var 0 rfl (pv 0)) (pe_cl rfl T.g_BadNumber)) (ca_cons (ce_isV (u := .o "BadTable") T.ek rfl T.b_isinstance (ce_var 0 rfl (pv 0)) (pe_cl rfl T.g_BadTable)) (ca_cons (ce_isV (u := .o "NoLot") T.ek rfl T.b_isinstance (ce_var 0 rfl (pv 0)) (pe_cl rfl T.g_NoLot)) (ca_nil))))))))) (css_cons (κ1 := [.sh, .sh]) (cs_asg 1 (r := .sh) (show 1 < 2 by decide) trivial (ps_set (i := 1) nd rfl (Or.inl rfl) (ce_add (ce_var 1 rfl (pv 1)) (ce_lst (ca_cons (ce_isV (u := .o "NoMove") T.ek rfl T.b_isinstance (ce_var 0 rfl (pv 0)) (pe_cl rfl T.g_NoMove)) (ca_cons (ce_isV (u := .o "OddEnds") T.ek rfl T.b_isinstance (ce_var 0 rfl (pv 0)) (pe_cl rfl T.g_OddEnds)) (ca_cons (ce_isV (u := .o "Barred") T.ek rfl T.b_isinstance (ce_var 0 rfl (pv 0)) (pe_cl rfl T.g_Barred)) (ca_cons (ce_isV (u := .o "TooMany") T.ek rfl T.b_isinstance (ce_var 0 rfl (pv 0)) (pe_cl rfl T.g_TooMany)) (ca_nil))))))))) (css_cons (κ1 := [.sh, .sh]) (cs_asg 1 (r := .sh) (show 1 < 2 by decide) trivial (ps_set (i := 1) nd rfl (Or.inl rfl) (ce_add (ce_var 1 rfl (pv 1)) (ce_lst (ca_cons (ce_isV (u := .o "BadWidth") T.ek rfl T.b_isinstance (ce_var 0 rfl (pv 0)) (pe_cl rfl T.g_BadWidth)) (ca_cons (ce_isV (u := .o "BadTurn") T.ek rfl T.b_isinstance (ce_var 0 rfl (pv 0)) (pe_cl rfl T.g_BadTurn)) (ca_cons (ce_isV (u := .o "DoubleEnd") T.ek rfl T.b_isinstance (ce_var 0 rfl (pv 0)) (pe_cl rfl T.g_DoubleEnd)) (ca_nil)))))))) (css_cons (κ1 := [.sh, .sh]) (cs_asg 1 (r := .sh) (show 1 < 2 by decide) trivial (ps_set (i := 1) nd rfl (Or.inl rfl) (ce_add (ce_var 1 rfl (pv 1)) (ce_lst (ca_cons (ce_isV (u := .o "MissingEnd") T.ek rfl T.b_isinstance (ce_var 0 rfl (pv 0)) (pe_cl rfl T.g_MissingEnd)) (ca_cons (ce_isV (u := .o "LooseJoint") T.ek rfl T.b_isinstance (ce_var 0 rfl (pv 0)) (pe_cl rfl T.g_LooseJoint)) (ca_cons (ce_isV (u := .o "NotPlane") T.ek rfl T.b_isinstance (ce_var 0 rfl (pv 0)) (pe_cl rfl T.g_NotPlane)) (ca_nil)))))))) (css_cons (κ1 := [.sh, .sh]) (cs_asg 1 (r := .sh) (show 1 < 2 by decide) trivial (ps_set (i := 1) nd rfl (Or.inl rfl) (ce_add (ce_var 1 rfl (pv 1)) (ce_lst (ca_cons (ce_isV (u := .o "BadItem") T.ek rfl T.b_isinstance (ce_var 0 rfl (pv 0)) (pe_cl rfl T.g_BadItem)) (ca_cons (ce_isV (u := .o "BadJoint") T.ek rfl T.b_isinstance (ce_var 0 rfl (pv 0)) (pe_cl rfl T.g_BadJoint)) (ca_cons (ce_isV (u := .o "BadTrack") T.ek rfl T.b_isinstance (ce_var 0 rfl (pv 0)) (pe_cl rfl T.g_BadTrack)) (ca_cons (ce_isV (u := .o "OddJoint") T.ek rfl T.b_isinstance (ce_var 0 rfl (pv 0)) (pe_cl rfl T.g_OddJoint)) (ca_nil))))))))) (css_cons (κ1 := [.sh, .sh]) (cs_asg 1 (r := .sh) (show 1 < 2 by decide) trivial (ps_set (i := 1) nd rfl (Or.inl rfl) (ce_add (ce_var 1 rfl (pv 1)) (ce_lst (ca_cons (ce_isV (u := .o "BadDeed") T.ek rfl T.b_isinstance (ce_var 0 rfl (pv 0)) (pe_cl rfl T.g_BadDeed)) (ca_cons (ce_isV (u := .o "Refused") T.ek rfl T.b_isinstance (ce_var 0 rfl (pv 0)) (pe_cl rfl T.g_Refused)) (ca_cons (ce_isV (u := .o "BadWire") T.ek rfl T.b_isinstance (ce_var 0 rfl (pv 0)) (pe_cl rfl T.g_BadWire)) (ca_cons (ce_isV (u := .o "SharedLand") T.ek rfl T.b_isinstance (ce_var 0 rfl (pv 0)) (pe_cl rfl T.g_SharedLand)) (ca_nil))))))))) (css_cons (κ1 := [.sh, .sh]) (cs_asg 1 (r := .sh) (show 1 < 2 by decide) trivial (ps_set (i := 1) nd rfl (Or.inl rfl) (ce_add (ce_var 1 rfl (pv 1)) (ce_lst (ca_cons (ce_isV (u := .o "OddLand") T.ek rfl T.b_isinstance (ce_var 0 rfl (pv 0)) (pe_cl rfl T.g_OddLand)) (ca_cons (ce_isV (u := .o "BadLanes") T.ek rfl T.b_isinstance (ce_var 0 rfl (pv 0)) (pe_cl rfl T.g_BadLanes)) (ca_cons (ce_isV (u := .o "BadLetter") T.ek rfl T.b_isinstance (ce_var 0 rfl (pv 0)) (pe_cl rfl T.g_BadLetter)) (ca_nil)))))))) (css_cons (κ1 := [.sh, .sh]) (cs_asg 1 (r := .sh) (show 1 < 2 by decide) trivial (ps_set (i := 1) nd rfl (Or.inl rfl) (ce_add (ce_var 1 rfl (pv 1)) (ce_lst (ca_cons (ce_isV (u := .o "UnlikeLanes") T.ek rfl T.b_isinstance (ce_var 0 rfl (pv 0)) (pe_cl rfl T.g_UnlikeLanes)) (ca_cons (ce_isV (u := .o "BadPairing") T.ek rfl T.b_isinstance (ce_var 0 rfl (pv 0)) (pe_cl rfl T.g_BadPairing)) (ca_cons (ce_isV (u := .o "BadCap") T.ek rfl T.b_isinstance (ce_var 0 rfl (pv 0)) (pe_cl rfl T.g_BadCap)) (ca_nil)))))))) (css_cons (κ1 := [.sh, .sh]) (cs_asg 1 (r := .sh) (show 1 < 2 by decide) trivial (ps_set (i := 1) nd rfl (Or.inl rfl) (ce_add (ce_var 1 rfl (pv 1)) (ce_lst (ca_cons (ce_isV (u := .o "BadPair") T.ek rfl T.b_isinstance (ce_var 0 rfl (pv 0)) (pe_cl rfl T.g_BadPair)) (ca_cons (ce_isV (u := .o "NoWishes") T.ek rfl T.b_isinstance (ce_var 0 rfl (pv 0)) (pe_cl rfl T.g_NoWishes)) (ca_cons (ce_isV (u := .o "NothingToUndo") T.ek rfl T.b_isinstance (ce_var 0 rfl (pv 0)) (pe_cl rfl T.g_NothingToUndo)) (ca_nil)))))))) (css_one (κ' := [.sh, .sh]) (cs_ret rfl (ce_add (ce_var 1 rfl (pv 1)) (ce_lst (ca_cons (ce_isV (u := .o "NoteError") T.ek rfl T.b_isinstance (ce_var 0 rfl (pv 0)) (pe_cl rfl T.g_NoteError)) (ca_nil)))) trivial))))))))))))
theorem ok__law_kinds {P : Program} {w : World} {K : PySem.W.Frag} {mg : Str → Option Value} {base : Heap} {f : Addr} {fd : FuncData} (F : FunD K "_law_kinds" "_law_kinds" (defArgs s__law_kinds) (defBody s__law_kinds) (defScope s__law_kinds) [] [] f fd) (hm : mg "_law_kinds" = some (.ref f)) (T : Top w K mg) :
    Callee P w K mg base "_law_kinds" 1 m__law_kinds .sh := callee_of hm F (fn__law_kinds F T) (F.bindsN fun _ _ _ _ _ _ us hl => match us, hl with | [_], _ => rfl)
abbrev s__law_right : Stmt := (top 68)
abbrev N__law_right : List Str := ["_law_made", "_law_own", "_law_k", "_law_j", "_law_told"]
theorem sc__law_right : FnScope N__law_right ["_law_made", "_law_own"] (defScope s__law_right) := ⟨rfl, rfl, rfl, by decide +kernel, rfl, by decide +kernel, by decide +kernel⟩
theorem fn__law_right {P : Program} {w : World} {K : PySem.W.Frag} {mg : Str → Option Value} {base : Heap} {f : Addr} {fd : FuncData} (F : FunD K "_law_right" "_law_right" (defArgs s__law_right) (defBody s__law_right) (defScope s__law_right) [] [] f fd) (T : Top w K mg) (Cf__law_kinds : Callee P w K mg base "_law_kinds" 1 m__law_kinds .sh) (Cf__law_same : Callee P w K mg base "_law_same" 14 (mr__law_same 12) .sh) :
    FnOk P w K mg base (L2N.CX P w) 15 f fd ["_law_made", "_law_own"] (spM K [] m__law_right .sh) := by
  refine def_ok (N := N__law_right) (ps := ["_law_made", "_law_own"]) (κ := [.sh, .sh, .sh, .sh, .sh]) (κ' := [.sh, .sh, .sh, .sh, .sh]) (g := g__law_right) F sc__law_right (kAt_all rfl) (fun cdv A outer s H E hr => ?_)
  have hu := u65 hr
  have tk : L2N.Takes (cxOf (L2N.CX P w) P w K mg base N__law_right "_law_right" (defScope s__law_right) f cdv A outer s H E) (cDef E .sh).W := L2N.takes_of rfl rfl rfl rfl
  have po : PassesOwn (model P w) _ _ (cxOf (L2N.CX P w) P w K mg base N__law_right "_law_right" (defScope s__law_right) f cdv A outer s H E).xe := passes_of rfl
  have nd := (sc__law_right).nd
  exact css_cons (κ1 := [.sh, .sh, .sh, .sh, .sh]) (cs_for (tg := .nm 2) po rfl (ci_range1 rfl T.b_range (ca_cons (ce_int) (ca_nil))) (pg_name (i := 2) nd rfl (Or.inr rfl)) (slots_sh rfl) (css_cons (κ1 := [.sh, .sh, .sh, .sh, .sh]) (cs_if (κ' := [.sh, .sh, .sh, .sh, .sh]) (ct_bool (cw_or (ct_not (ct_val (ce_isV (u := .o "RimError") T.ek rfl T.b_isinstance (ce_ix (ce_var 0 rfl (pv 0)) (ce_var 2 rfl (pv 2))) (pe_cl rfl T.g_RimError)))) (cw_or1 (ct_not (ct_val (ce_isV (u := .b "ValueError") T.ek rfl T.b_isinstance (ce_ix (ce_var 0 rfl (pv 0)) (ce_var 2 rfl (pv 2))) (pe_ty rfl T.b_ValueError (by decide +kernel)))))))) (css_one (κ' := [.sh, .sh, .sh, .sh, .sh]) (cs_ret rfl (ce_bl) trivial)) (css_nil) trivial) (css_cons (κ1 := [.sh, .sh, .sh, .sh, .sh]) (cs_if (κ' := [.sh, .sh, .sh, .sh, .sh]) (ct_cmp sem_ne (op_ne.or (op_neD (q64 hu))) (ce_call Cf__law_kinds (hr.mono (by decide)) tk rfl (ca_cons (ce_ix (ce_var 0 rfl (pv 0)) (ce_var 2 rfl (pv 2))) (ca_nil))) (ce_share (ce_compO (own := [("_law_j", 3)]) (tg := .nm 3) rfl nd (ci_range1 rfl T.b_range (ca_cons (ce_int) (ca_nil))) (show BlkOk N__law_right (defScope s__law_right) _ _ from blkOk_by (by decide +kernel)) (slots_own rfl) (fun _ _ _ _ _ => pg_name (i := 3) nd rfl (Or.inl rfl)) (fun _ _ _ _ _ => cts_nil) (fun _ _ _ _ _ => ce_cmp sem_eq (op_eq.or (op_eqD (q64 hu))) (ce_var 3 rfl (pv 3)) (ce_var 2 rfl (pv 2)) (nomark _)))) (nomark _)) (css_one (κ' := [.sh, .sh, .sh, .sh, .sh]) (cs_ret rfl (ce_bl) trivial)) (css_nil) trivial) (css_nil))) trivial) (css_cons (κ1 := [.sh, .sh, .sh, .sh, .sh]) (cs_asg 4 (r := .sh) (show 4 < 5 by decide) trivial (ps_set (i := 4) nd rfl (Or.inl rfl) (ce_xfV T.ek (ce_ix (ce_var 0 rfl (pv 0)) (ce_int))))) (css_one (κ' := [.sh, .sh, .sh, .sh, .sh]) (cs_ret rfl (ce_and (ce_isi T.kit rfl T.b_isinstance (ce_var 4 rfl (pv 4)) (pe_cl rfl T.g_Lot)) (ce_one (ce_call Cf__law_same (hr.mono (by decide)) tk rfl (ca_cons (ce_lst (ca_cons (ce_fld T.f_pins (ce_var 4 rfl (pv 4))) (ca_cons (ce_fld T.f_cords (ce_var 4 rfl (pv 4))) (ca_nil)))) (ca_cons (ce_var 1 rfl (pv 1)) (ca_nil)))))) trivial)))
theorem ok__law_right {P : Program} {w : World} {K : PySem.W.Frag} {mg : Str → Option Value} {base : Heap} {f : Addr} {fd : FuncData} (F : FunD K "_law_right" "_law_right" (defArgs s__law_right) (defBody s__law_right) (defScope s__law_right) [] [] f fd) (hm : mg "_law_right" = some (.ref f)) (T : Top w K mg) (Cf__law_kinds : Callee P w K mg base "_law_kinds" 1 m__law_kinds .sh) (Cf__law_same : Callee P w K mg base "_law_same" 14 (mr__law_same 12) .sh) :
    Callee P w K mg base "_law_right" 15 m__law_right .sh := callee_of hm F (fn__law_right F T Cf__law_kinds Cf__law_same) (F.bindsN fun _ _ _ _ _ _ us hl => match us, hl with | [_, _], _ => rfl)
abbrev s_law : Stmt := (top 73)
abbrev N_law : List Str := ["_law_script", "_law_w", "_law_x", "_law_y", "_law_z", "_law_things", "_law_bags", "_law_own", "_law_made", "_law_again"]
theorem sc_law : FnScope N_law ["_law_script"] (defScope s_law) := ⟨rfl, rfl, rfl, by decide +kernel, rfl, by decide +kernel, by decide +kernel⟩
theorem fn_law {P : Program} {w : World} {K : PySem.W.Frag} {mg : Str → Option Value} {base : Heap} {f : Addr} {fd : FuncData} (F : FunD K "law" "law" (defArgs s_law) (defBody s_law) (defScope s_law) [] [] f fd) (T : Top w K mg) (Cf__law_cell : Callee P w K mg base "_law_cell" 1 m__law_cell .sh) (Cf__law_number : Callee P w K mg base "_law_number" 2 m__law_number .sh) (Cf__law_thing : Callee P w K mg base "_law_thing" 2 m__law_thing .sh) (Cf__law_bag : Callee P w K mg base "_law_bag" 2 m__law_bag .sh) (Cf__law_lot : Callee P w K mg base "_law_lot" 2 m__law_lot .sh) (Ci_Lot : CalleeI P w K mg base "Lot" 4 m_Lot___init__) (Cf__law_placed : Callee P w K mg base "_law_placed" 3 m__law_placed .sh) (Cf__law_named : Callee P w K mg base "_law_named" 3 m__law_named .sh) (Cf__law_right : Callee P w K mg base "_law_right" 15 m__law_right .sh) (Cf__law_passed : Callee P w K mg base "_law_passed" 1 m__law_passed .sh) (Cf__law_fields : Callee P w K mg base "_law_fields" 1 m__law_fields .sh) (Cf__law_same : Callee P w K mg base "_law_same" 14 (mr__law_same 12) .sh) :
    FnOk P w K mg base (L2N.CX P w) 16 f fd ["_law_script"] (spM K [] m_law .sh) := by
  refine def_ok (N := N_law) (ps := ["_law_script"]) (κ := [.sh, .sh, .sh, .sh, .sh, .sh, .sh, .sh, .sh, .sh]) (κ' := [.sh, .sh, .sh, .sh, .sh, .sh, .sh, .sh, .sh, .sh]) (g := g_law) F sc_law (kAt_all rfl) (fun cdv A outer s H E hr => ?_)
  have hu := u65 hr
  have tk : L2N.Takes (cxOf (L2N.CX P w) P w K mg base N_law "law" (defScope s_law) f cdv A outer s H E) (cDef E .sh).W := L2N.takes_of rfl rfl rfl rfl
  have po : PassesOwn (model P w) _ _ (cxOf (L2N.CX P w) P w K mg base N_law "law" (defScope s_law) f cdv A outer s H E).xe := passes_of rfl
  have nd := (sc_law).nd
  exact css_cons (κ1 := [.sh, .sh, .sh, .sh, .sh, .sh, .sh, .sh, .sh, .sh]) (cs_asg 1 (r := .sh) (show 1 < 10 by decide) trivial (ps_set (i := 1) nd rfl (Or.inl rfl) (ce_call Cf__law_number (hr.mono (by decide)) tk rfl (ca_cons (ce_call Cf__law_cell (hr.mono (by decide)) tk rfl (ca_cons (ce_var 0 rfl (pv 0)) (ca_cons (ce_int) (ca_nil)))) (ca_nil))))) (css_cons (κ1 := [.sh, .sh, .sh, .sh, .sh, .sh, .sh, .sh, .sh, .sh]) (cs_asg 2 (r := .sh) (show 2 < 10 by decide) trivial (ps_set (i := 2) nd rfl (Or.inl rfl) (ce_call Cf__law_number (hr.mono (by decide)) tk rfl (ca_cons (ce_call Cf__law_cell (hr.mono (by decide)) tk rfl (ca_cons (ce_var 0 rfl (pv 0)) (ca_cons (ce_int) (ca_nil)))) (ca_nil))))) (css_cons (κ1 := [.sh, .sh, .sh, .sh, .sh, .sh, .sh, .sh, .sh, .sh]) (cs_asg 3 (r := .sh) (show 3 < 10 by decide) trivial (ps_set (i := 3) nd rfl (Or.inl rfl) (ce_call Cf__law_number (hr.mono (by decide)) tk rfl (ca_cons (ce_call Cf__law_cell (hr.mono (by decide)) tk rfl (ca_cons (ce_var 0 rfl (pv 0)) (ca_cons (ce_int) (ca_nil)))) (ca_nil))))) (css_cons (κ1 := [.sh, .sh, .sh, .sh, .sh, .sh, .sh, .sh, .sh, .sh]) (cs_asg 4 (r := .sh) (show 4 < 10 by decide) trivial (ps_set (i := 4) nd rfl (Or.inl rfl) (ce_call Cf__law_number (hr.mono (by decide)) tk rfl (ca_cons (ce_call Cf__law_cell (hr.mono (by decide)) tk rfl (ca_cons (ce_var 0 rfl (pv 0)) (ca_cons (ce_int) (ca_nil)))) (ca_nil))))) (css_cons (κ1 := [.sh, .sh, .sh, .sh, .sh, .sh, .sh, .sh, .sh, .sh]) (cs_asg 5 (r := .sh) (show 5 < 10 by decide) trivial (ps_set (i := 5) nd rfl (Or.inl rfl) (ce_lst (ca_cons (ce_call Cf__law_thing (hr.mono (by decide)) tk rfl (ca_cons (ce_call Cf__law_cell (hr.mono (by decide)) tk rfl (ca_cons (ce_var 0 rfl (pv 0)) (ca_cons (ce_int) (ca_nil)))) (ca_cons (ce_var 1 rfl (pv 1)) (ca_cons (ce_var 2 rfl (pv 2)) (ca_nil))))) (ca_cons (ce_call Cf__law_thing (hr.mono (by decide)) tk rfl (ca_cons (ce_call Cf__law_cell (hr.mono (by decide)) tk rfl (ca_cons (ce_var 0 rfl (pv 0)) (ca_cons (ce_int) (ca_nil)))) (ca_cons (ce_var 3 rfl (pv 3)) (ca_cons (ce_var 4 rfl (pv 4)) (ca_nil))))) (ca_nil)))))) (css_cons (κ1 := [.sh, .sh, .sh, .sh, .sh, .sh, .sh, .sh, .sh, .sh]) (cs_asg 6 (r := .sh) (show 6 < 10 by decide) trivial (ps_set (i := 6) nd rfl (Or.inl rfl) (ce_lst (ca_cons (ce_call Cf__law_bag (hr.mono (by decide)) tk rfl (ca_cons (ce_call Cf__law_cell (hr.mono (by decide)) tk rfl (ca_cons (ce_var 0 rfl (pv 0)) (ca_cons (ce_int) (ca_nil)))) (ca_nil))) (ca_cons (ce_call Cf__law_bag (hr.mono (by decide)) tk rfl (ca_cons (ce_call Cf__law_cell (hr.mono (by decide)) tk rfl (ca_cons (ce_var 0 rfl (pv 0)) (ca_cons (ce_int) (ca_nil)))) (ca_nil))) (ca_nil)))))) (css_cons (κ1 := [.sh, .sh, .sh, .sh, .sh, .sh, .sh, .sh, .sh, .sh]) (cs_asg 7 (r := .sh) (show 7 < 10 by decide) trivial (ps_set (i := 7) nd rfl (Or.inl rfl) (ce_lst (ca_cons (ce_call Cf__law_lot (hr.mono (by decide)) tk rfl (ca_cons (ce_call Cf__law_cell (hr.mono (by decide)) tk rfl (ca_cons (ce_var 0 rfl (pv 0)) (ca_cons (ce_int) (ca_nil)))) (ca_nil))) (ca_cons (ce_call Cf__law_lot (hr.mono (by decide)) tk rfl (ca_cons (ce_call Cf__law_cell (hr.mono (by decide)) tk rfl (ca_cons (ce_var 0 rfl (pv 0)) (ca_cons (ce_int) (ca_nil)))) (ca_nil))) (ca_nil)))))) (css_cons (κ1 := [.sh, .sh, .sh, .sh, .sh, .sh, .sh, .sh, .sh, .sh]) (cs_asg 8 (r := .sh) (show 8 < 10 by decide) trivial (ps_set (i := 8) nd rfl (Or.inl rfl) (ce_call Cf__law_placed (hr.mono (by decide)) tk rfl (ca_cons (ce_var 1 rfl (pv 1)) (ca_cons (ce_var 2 rfl (pv 2)) (ca_cons (ce_var 3 rfl (pv 3)) (ca_cons (ce_var 4 rfl (pv 4)) (ca_cons (ce_ix (ce_var 5 rfl (pv 5)) (ce_int)) (ca_cons (ce_ix (ce_var 6 rfl (pv 6)) (ce_int)) (ca_cons (ce_make Ci_Lot (hr.mono (by decide)) tk rfl (ca_cons (ce_ix (ce_ix (ce_var 7 rfl (pv 7)) (ce_int)) (ce_int)) (ca_cons (ce_ix (ce_ix (ce_var 7 rfl (pv 7)) (ce_int)) (ce_int)) (ca_nil)))) (ca_nil))))))))))) (css_cons (κ1 := [.sh, .sh, .sh, .sh, .sh, .sh, .sh, .sh, .sh, .sh]) (cs_asg 9 (r := .sh) (show 9 < 10 by decide) trivial (ps_set (i := 9) nd rfl (Or.inl rfl) (ce_call Cf__law_named (hr.mono (by decide)) tk rfl (ca_cons (ce_var 4 rfl (pv 4)) (ca_cons (ce_var 3 rfl (pv 3)) (ca_cons (ce_var 2 rfl (pv 2)) (ca_cons (ce_var 1 rfl (pv 1)) (ca_cons (ce_ix (ce_var 5 rfl (pv 5)) (ce_int)) (ca_cons (ce_ix (ce_var 6 rfl (pv 6)) (ce_int)) (ca_cons (ce_make Ci_Lot (hr.mono (by decide)) tk rfl (ca_cons (ce_ix (ce_ix (ce_var 7 rfl (pv 7)) (ce_int)) (ce_int)) (ca_cons (ce_callTy (CallSem.share sem_list) call_list_of rfl T.b_list (by decide +kernel) (ca_cons (ce_ix (ce_ix (ce_var 7 rfl (pv 7)) (ce_int)) (ce_int)) (ca_nil))) (ca_nil)))) (ca_nil))))))))))) (css_cons (κ1 := [.sh, .sh, .sh, .sh, .sh, .sh, .sh, .sh, .sh, .sh]) (cs_if (κ' := [.sh, .sh, .sh, .sh, .sh, .sh, .sh, .sh, .sh, .sh]) (ct_bool (cw_or (ct_not (ct_val (ce_call Cf__law_right (hr.mono (by decide)) tk rfl (ca_cons (ce_var 8 rfl (pv 8)) (ca_cons (ce_ix (ce_var 7 rfl (pv 7)) (ce_int)) (ca_nil)))))) (cw_or1 (ct_not (ct_val (ce_call Cf__law_right (hr.mono (by decide)) tk rfl (ca_cons (ce_var 9 rfl (pv 9)) (ca_cons (ce_ix (ce_var 7 rfl (pv 7)) (ce_int)) (ca_nil))))))))) (css_one (κ' := [.sh, .sh, .sh, .sh, .sh, .sh, .sh, .sh, .sh, .sh]) (cs_ret rfl (ce_bl) trivial)) (css_nil) trivial) (css_cons (κ1 := [.sh, .sh, .sh, .sh, .sh, .sh, .sh, .sh, .sh, .sh]) (cs_if (κ' := [.sh, .sh, .sh, .sh, .sh, .sh, .sh, .sh, .sh, .sh]) (ct_not (ct_val (ce_call Cf__law_same (hr.mono (by decide)) tk rfl (ca_cons (ce_call Cf__law_fields (hr.mono (by decide)) tk rfl (ca_cons (ce_var 9 rfl (pv 9)) (ca_nil))) (ca_cons (ce_call Cf__law_passed (hr.mono (by decide)) tk rfl (ca_cons (ce_var 4 rfl (pv 4)) (ca_cons (ce_var 3 rfl (pv 3)) (ca_cons (ce_var 2 rfl (pv 2)) (ca_cons (ce_var 1 rfl (pv 1)) (ca_cons (ce_ix (ce_var 5 rfl (pv 5)) (ce_int)) (ca_cons (ce_ix (ce_var 6 rfl (pv 6)) (ce_int)) (ca_nil)))))))) (ca_nil)))))) (css_one (κ' := [.sh, .sh, .sh, .sh, .sh, .sh, .sh, .sh, .sh, .sh]) (cs_ret rfl (ce_bl) trivial)) (css_nil) trivial) (css_one (κ' := [.sh, .sh, .sh, .sh, .sh, .sh, .sh, .sh, .sh, .sh]) (cs_ret rfl (ce_call Cf__law_same (hr.mono (by decide)) tk rfl (ca_cons (ce_call Cf__law_fields (hr.mono (by decide)) tk rfl (ca_cons (ce_var 8 rfl (pv 8)) (ca_nil))) (ca_cons (ce_call Cf__law_passed (hr.mono (by decide)) tk rfl (ca_cons (ce_var 1 rfl (pv 1)) (ca_cons (ce_var 2 rfl (pv 2)) (ca_cons (ce_var 3 rfl (pv 3)) (ca_cons (ce_var 4 rfl (pv 4)) (ca_cons (ce_ix (ce_var 5 rfl (pv 5)) (ce_int)) (ca_cons (ce_ix (ce_var 6 rfl (pv 6)) (ce_int)) (ca_nil)))))))) (ca_nil)))) trivial))))))))))))
theorem ok_law {P : Program} {w : World} {K : PySem.W.Frag} {mg : Str → Option Value} {base : Heap} {f : Addr} {fd : FuncData} (F : FunD K "law" "law" (defArgs s_law) (defBody s_law) (defScope s_law) [] [] f fd) (hm : mg "law" = some (.ref f)) (T : Top w K mg) (Cf__law_cell : Callee P w K mg base "_law_cell" 1 m__law_cell .sh) (Cf__law_number : Callee P w K mg base "_law_number" 2 m__law_number .sh) (Cf__law_thing : Callee P w K mg base "_law_thing" 2 m__law_thing .sh) (Cf__law_bag : Callee P w K mg base "_law_bag" 2 m__law_bag .sh) (Cf__law_lot : Callee P w K mg base "_law_lot" 2 m__law_lot .sh) (Ci_Lot : CalleeI P w K mg base "Lot" 4 m_Lot___init__) (Cf__law_placed : Callee P w K mg base "_law_placed" 3 m__law_placed .sh) (Cf__law_named : Callee P w K mg base "_law_named" 3 m__law_named .sh) (Cf__law_right : Callee P w K mg base "_law_right" 15 m__law_right .sh) (Cf__law_passed : Callee P w K mg base "_law_passed" 1 m__law_passed .sh) (Cf__law_fields : Callee P w K mg base "_law_fields" 1 m__law_fields .sh) (Cf__law_same : Callee P w K mg base "_law_same" 14 (mr__law_same 12) .sh) :
    Callee P w K mg base "law" 16 m_law .sh := callee_of hm F (fn_law F T Cf__law_cell Cf__law_number Cf__law_thing Cf__law_bag Cf__law_lot Ci_Lot Cf__law_placed Cf__law_named Cf__law_right Cf__law_passed Cf__law_fields Cf__law_same) (F.bindsN fun _ _ _ _ _ _ us hl => match us, hl with | [_], _ => rfl)
end K90

set_option Elab.async false
set_option linter.all false
set_option maxRecDepth 100000
set_option maxHeartbeats 4000000
namespace K90
open PySem L2 T
def exL (K : PySem.W.Frag) : List Bool := [(He.Fa.free "isinstance").ok K,
  (He.Fa.free "int").ok K,
  (He.Fa.free "bool").ok K,
  (He.Fa.free "max").ok K,
  (He.Fa.free "min").ok K,
  (He.Fa.free "sorted").ok K,
  (He.Fa.free "tuple").ok K,
  (He.Fa.free "list").ok K,
  (He.Fa.free "len").ok K,
  (He.Fa.free "range").ok K,
  (He.Fa.free "str").ok K,
  (He.Fa.free "ValueError").ok K,
  (He.Fa.glo "BadPins").ok K,
  (He.Fa.glo "BadPin").ok K,
  (He.Fa.glo "SamePin").ok K,
  (He.Fa.glo "BadGap").ok K,
  (He.Fa.glo "NoPair").ok K,
  (He.Fa.glo "OddPin").ok K,
  (He.Fa.glo "UnlikePins").ok K,
  (He.Fa.glo "BadCord").ok K,
  (He.Fa.glo "NotPart").ok K,
  (He.Fa.glo "BadNumber").ok K,
  (He.Fa.glo "BadTable").ok K,
  (He.Fa.glo "NoLot").ok K,
  (He.Fa.glo "NoMove").ok K,
  (He.Fa.glo "OddEnds").ok K,
  (He.Fa.glo "Barred").ok K,
  (He.Fa.glo "TooMany").ok K,
  (He.Fa.glo "BadWidth").ok K,
  (He.Fa.glo "BadTurn").ok K,
  (He.Fa.glo "DoubleEnd").ok K,
  (He.Fa.glo "MissingEnd").ok K,
  (He.Fa.glo "LooseJoint").ok K,
  (He.Fa.glo "NotPlane").ok K,
  (He.Fa.glo "BadItem").ok K,
  (He.Fa.glo "BadJoint").ok K,
  (He.Fa.glo "BadTrack").ok K,
  (He.Fa.glo "OddJoint").ok K,
  (He.Fa.glo "BadDeed").ok K,
  (He.Fa.glo "Refused").ok K,
  (He.Fa.glo "BadWire").ok K,
  (He.Fa.glo "SharedLand").ok K,
  (He.Fa.glo "OddLand").ok K,
  (He.Fa.glo "BadLanes").ok K,
  (He.Fa.glo "BadLetter").ok K,
  (He.Fa.glo "UnlikeLanes").ok K,
  (He.Fa.glo "BadPairing").ok K,
  (He.Fa.glo "BadCap").ok K,
  (He.Fa.glo "BadPair").ok K,
  (He.Fa.glo "NoteError").ok K,
  (He.Fa.glo "NoWishes").ok K,
  (He.Fa.glo "NothingToUndo").ok K,
  (He.Fa.glo "RimError").ok K,
  (He.Fa.glo "Lot").ok K,
  kitC K cl,
  fldC K fc_pins "pins",
  fldC K fc_cords "cords",
  oexnB K (He.ga K "NoWishes"),
  oexnB K (He.ga K "NothingToUndo"),
  errC K erb ers eru erf,
  xinB K "BadPins",
  xinB K "BadPin",
  xinB K "SamePin",
  xinB K "BadGap",
  xinB K "NoPair",
  xinB K "OddPin",
  xinB K "UnlikePins",
  xinB K "BadCord",
  xinB K "NotPart",
  xinB K "BadNumber",
  xinB K "BadTable",
  xinB K "NoLot",
  xinB K "NoMove",
  xinB K "OddEnds",
  xinB K "Barred",
  xinB K "TooMany",
  xinB K "BadWidth",
  xinB K "BadTurn",
  xinB K "DoubleEnd",
  xinB K "MissingEnd",
  xinB K "LooseJoint",
  xinB K "NotPlane",
  xinB K "BadItem",
  xinB K "BadJoint",
  xinB K "BadTrack",
  xinB K "OddJoint",
  xinB K "BadDeed",
  xinB K "Refused",
  xinB K "BadWire",
  xinB K "SharedLand",
  xinB K "OddLand",
  xinB K "BadLanes",
  xinB K "BadLetter",
  xinB K "UnlikeLanes",
  xinB K "BadPairing",
  xinB K "BadCap",
  xinB K "BadPair",
  xinB K "NoteError",
  (He.Fa.glo "is_whole").ok K,
  (He.Fa.glo "combined").ok K,
  (He.Fa.glo "is_pin").ok K,
  (He.Fa.glo "is_entry").ok K,
  (He.Fa.mkr "Lot").ok K,
  (He.Fa.glo "_law_whole").ok K,
  (He.Fa.glo "_law_cell").ok K,
  (He.Fa.glo "_law_digits").ok K,
  (He.Fa.glo "_law_number").ok K,
  (He.Fa.glo "_law_thing").ok K,
  (He.Fa.glo "_law_bag").ok K,
  (He.Fa.glo "_law_lot").ok K,
  (He.Fa.glo "_law_same").ok K,
  (He.Fa.glo "_law_placed").ok K,
  (He.Fa.glo "_law_named").ok K,
  (He.Fa.glo "_law_fields").ok K,
  (He.Fa.glo "_law_passed").ok K,
  (He.Fa.glo "_law_kinds").ok K,
  (He.Fa.glo "_law_right").ok K,
  (He.Fa.glo "law").ok K]
def exF (K : PySem.W.Frag) : Bool := (exL K).all id
def fn : List DefA := [⟨fun K => He.ma K (He.ga K "BadPins") "__init__", "__init__", "BadPins.__init__", defArgs s_BadPins___init__, defBody s_BadPins___init__, defScope s_BadPins___init__, []⟩,
  ⟨fun K => He.ma K (He.ga K "BadPin") "__init__", "__init__", "BadPin.__init__", defArgs s_BadPin___init__, defBody s_BadPin___init__, defScope s_BadPin___init__, []⟩,
  ⟨fun K => He.ma K (He.ga K "SamePin") "__init__", "__init__", "SamePin.__init__", defArgs s_SamePin___init__, defBody s_SamePin___init__, defScope s_SamePin___init__, []⟩,
  ⟨fun K => He.ma K (He.ga K "BadGap") "__init__", "__init__", "BadGap.__init__", defArgs s_BadGap___init__, defBody s_BadGap___init__, defScope s_BadGap___init__, []⟩,
  ⟨fun K => He.ma K (He.ga K "NoPair") "__init__", "__init__", "NoPair.__init__", defArgs s_NoPair___init__, defBody s_NoPair___init__, defScope s_NoPair___init__, []⟩,
  ⟨fun K => He.ma K (He.ga K "OddPin") "__init__", "__init__", "OddPin.__init__", defArgs s_OddPin___init__, defBody s_OddPin___init__, defScope s_OddPin___init__, []⟩,
  ⟨fun K => He.ma K (He.ga K "UnlikePins") "__init__", "__init__", "UnlikePins.__init__", defArgs s_UnlikePins___init__, defBody s_UnlikePins___init__, defScope s_UnlikePins___init__, []⟩,
  ⟨fun K => He.ma K (He.ga K "BadCord") "__init__", "__init__", "BadCord.__init__", defArgs s_BadCord___init__, defBody s_BadCord___init__, defScope s_BadCord___init__, []⟩,
  ⟨fun K => He.ma K (He.ga K "NotPart") "__init__", "__init__", "NotPart.__init__", defArgs s_NotPart___init__, defBody s_NotPart___init__, defScope s_NotPart___init__, []⟩,
  ⟨fun K => He.ma K (He.ga K "BadNumber") "__init__", "__init__", "BadNumber.__init__", defArgs s_BadNumber___init__, defBody s_BadNumber___init__, defScope s_BadNumber___init__, []⟩,
  ⟨fun K => He.ma K (He.ga K "BadTable") "__init__", "__init__", "BadTable.__init__", defArgs s_BadTable___init__, defBody s_BadTable___init__, defScope s_BadTable___init__, []⟩,
  ⟨fun K => He.ma K (He.ga K "NoLot") "__init__", "__init__", "NoLot.__init__", defArgs s_NoLot___init__, defBody s_NoLot___init__, defScope s_NoLot___init__, []⟩,
  ⟨fun K => He.ma K (He.ga K "NoMove") "__init__", "__init__", "NoMove.__init__", defArgs s_NoMove___init__, defBody s_NoMove___init__, defScope s_NoMove___init__, []⟩,
  ⟨fun K => He.ma K (He.ga K "OddEnds") "__init__", "__init__", "OddEnds.__init__", defArgs s_OddEnds___init__, defBody s_OddEnds___init__, defScope s_OddEnds___init__, []⟩,
  ⟨fun K => He.ma K (He.ga K "Barred") "__init__", "__init__", "Barred.__init__", defArgs s_Barred___init__, defBody s_Barred___init__, defScope s_Barred___init__, []⟩,
  ⟨fun K => He.ma K (He.ga K "TooMany") "__init__", "__init__", "TooMany.__init__", defArgs s_TooMany___init__, defBody s_TooMany___init__, defScope s_TooMany___init__, []⟩,
  ⟨fun K => He.ma K (He.ga K "BadWidth") "__init__", "__init__", "BadWidth.__init__", defArgs s_BadWidth___init__, defBody s_BadWidth___init__, defScope s_BadWidth___init__, []⟩,
  ⟨fun K => He.ma K (He.ga K "BadTurn") "__init__", "__init__", "BadTurn.__init__", defArgs s_BadTurn___init__, defBody s_BadTurn___init__, defScope s_BadTurn___init__, []⟩,
  ⟨fun K => He.ma K (He.ga K "DoubleEnd") "__init__", "__init__", "DoubleEnd.__init__", defArgs s_DoubleEnd___init__, defBody s_DoubleEnd___init__, defScope s_DoubleEnd___init__, []⟩,
  ⟨fun K => He.ma K (He.ga K "MissingEnd") "__init__", "__init__", "MissingEnd.__init__", defArgs s_MissingEnd___init__, defBody s_MissingEnd___init__, defScope s_MissingEnd___init__, []⟩,
  ⟨fun K => He.ma K (He.ga K "LooseJoint") "__init__", "__init__", "LooseJoint.__init__", defArgs s_LooseJoint___init__, defBody s_LooseJoint___init__, defScope s_LooseJoint___init__, []⟩,
  ⟨fun K => He.ma K (He.ga K "NotPlane") "__init__", "__init__", "NotPlane.__init__", defArgs s_NotPlane___init__, defBody s_NotPlane___init__, defScope s_NotPlane___init__, []⟩,
  ⟨fun K => He.ma K (He.ga K "BadItem") "__init__", "__init__", "BadItem.__init__", defArgs s_BadItem___init__, defBody s_BadItem___init__, defScope s_BadItem___init__, []⟩,
  ⟨fun K => He.ma K (He.ga K "BadJoint") "__init__", "__init__", "BadJoint.__init__", defArgs s_BadJoint___init__, defBody s_BadJoint___init__, defScope s_BadJoint___init__, []⟩,
  ⟨fun K => He.ma K (He.ga K "BadTrack") "__init__", "__init__", "BadTrack.__init__", defArgs s_BadTrack___init__, defBody s_BadTrack___init__, defScope s_BadTrack___init__, []⟩,
  ⟨fun K => He.ma K (He.ga K "OddJoint") "__init__", "__init__", "OddJoint.__init__", defArgs s_OddJoint___init__, defBody s_OddJoint___init__, defScope s_OddJoint___init__, []⟩,
  ⟨fun K => He.ma K (He.ga K "BadDeed") "__init__", "__init__", "BadDeed.__init__", defArgs s_BadDeed___init__, defBody s_BadDeed___init__, defScope s_BadDeed___init__, []⟩,
  ⟨fun K => He.ma K (He.ga K "Refused") "__init__", "__init__", "Refused.__init__", defArgs s_Refused___init__, defBody s_Refused___init__, defScope s_Refused___init__, []⟩,
  ⟨fun K => He.ma K (He.ga K "BadWire") "__init__", "__init__", "BadWire.__init__", defArgs s_BadWire___init__, defBody s_BadWire___init__, defScope s_BadWire___init__, []⟩,
  ⟨fun K => He.ma K (He.ga K "SharedLand") "__init__", "__init__", "SharedLand.__init__", defArgs s_SharedLand___init__, defBody s_SharedLand___init__, defScope s_SharedLand___init__, []⟩,
  ⟨fun K => He.ma K (He.ga K "OddLand") "__init__", "__init__", "OddLand.__init__", defArgs s_OddLand___init__, defBody s_OddLand___init__, defScope s_OddLand___init__, []⟩,
  ⟨fun K => He.ma K (He.ga K "BadLanes") "__init__", "__init__", "BadLanes.__init__", defArgs s_BadLanes___init__, defBody s_BadLanes___init__, defScope s_BadLanes___init__, []⟩,
  ⟨fun K => He.ma K (He.ga K "BadLetter") "__init__", "__init__", "BadLetter.__init__", defArgs s_BadLetter___init__, defBody s_BadLetter___init__, defScope s_BadLetter___init__, []⟩,
  ⟨fun K => He.ma K (He.ga K "UnlikeLanes") "__init__", "__init__", "UnlikeLanes.__init__", defArgs s_UnlikeLanes___init__, defBody s_UnlikeLanes___init__, defScope s_UnlikeLanes___init__, []⟩,
  ⟨fun K => He.ma K (He.ga K "BadPairing") "__init__", "__init__", "BadPairing.__init__", defArgs s_BadPairing___init__, defBody s_BadPairing___init__, defScope s_BadPairing___init__, []⟩,
  ⟨fun K => He.ma K (He.ga K "BadCap") "__init__", "__init__", "BadCap.__init__", defArgs s_BadCap___init__, defBody s_BadCap___init__, defScope s_BadCap___init__, []⟩,
  ⟨fun K => He.ma K (He.ga K "BadPair") "__init__", "__init__", "BadPair.__init__", defArgs s_BadPair___init__, defBody s_BadPair___init__, defScope s_BadPair___init__, []⟩,
  ⟨fun K => He.ma K (He.ga K "NoteError") "__init__", "__init__", "NoteError.__init__", defArgs s_NoteError___init__, defBody s_NoteError___init__, defScope s_NoteError___init__, []⟩,
  ⟨fun K => He.ga K "is_whole", "is_whole", "is_whole", defArgs s_is_whole, defBody s_is_whole, defScope s_is_whole, []⟩,
  ⟨fun K => He.ga K "combined", "combined", "combined", defArgs s_combined, defBody s_combined, defScope s_combined, []⟩,
  ⟨fun K => He.ga K "is_pin", "is_pin", "is_pin", defArgs s_is_pin, defBody s_is_pin, defScope s_is_pin, []⟩,
  ⟨fun K => He.ga K "is_entry", "is_entry", "is_entry", defArgs s_is_entry, defBody s_is_entry, defScope s_is_entry, []⟩,
  ⟨fun K => He.ma K (He.ga K "Lot") "__init__", "__init__", "Lot.__init__", defArgs s_Lot___init__, defBody s_Lot___init__, defScope s_Lot___init__, [.adr (He.dflAt ("Lot", some "__init__") 0)]⟩,
  ⟨fun K => He.ga K "_law_whole", "_law_whole", "_law_whole", defArgs s__law_whole, defBody s__law_whole, defScope s__law_whole, []⟩,
  ⟨fun K => He.ga K "_law_cell", "_law_cell", "_law_cell", defArgs s__law_cell, defBody s__law_cell, defScope s__law_cell, []⟩,
  ⟨fun K => He.ga K "_law_digits", "_law_digits", "_law_digits", defArgs s__law_digits, defBody s__law_digits, defScope s__law_digits, []⟩,
  ⟨fun K => He.ga K "_law_number", "_law_number", "_law_number", defArgs s__law_number, defBody s__law_number, defScope s__law_number, []⟩,
  ⟨fun K => He.ga K "_law_thing", "_law_thing", "_law_thing", defArgs s__law_thing, defBody s__law_thing, defScope s__law_thing, []⟩,
  ⟨fun K => He.ga K "_law_bag", "_law_bag", "_law_bag", defArgs s__law_bag, defBody s__law_bag, defScope s__law_bag, []⟩,
  ⟨fun K => He.ga K "_law_lot", "_law_lot", "_law_lot", defArgs s__law_lot, defBody s__law_lot, defScope s__law_lot, []⟩,
  ⟨fun K => He.ga K "_law_same", "_law_same", "_law_same", defArgs s__law_same, defBody s__law_same, defScope s__law_same, []⟩,
  ⟨fun K => He.ga K "_law_placed", "_law_placed", "_law_placed", defArgs s__law_placed, defBody s__law_placed, defScope s__law_placed, []⟩,
  ⟨fun K => He.ga K "_law_named", "_law_named", "_law_named", defArgs s__law_named, defBody s__law_named, defScope s__law_named, []⟩,
  ⟨fun K => He.ga K "_law_fields", "_law_fields", "_law_fields", defArgs s__law_fields, defBody s__law_fields, defScope s__law_fields, []⟩,
  ⟨fun K => He.ga K "_law_passed", "_law_passed", "_law_passed", defArgs s__law_passed, defBody s__law_passed, defScope s__law_passed, []⟩,
  ⟨fun K => He.ga K "_law_kinds", "_law_kinds", "_law_kinds", defArgs s__law_kinds, defBody s__law_kinds, defScope s__law_kinds, []⟩,
  ⟨fun K => He.ga K "_law_right", "_law_right", "_law_right", defArgs s__law_right, defBody s__law_right, defScope s__law_right, []⟩,
  ⟨fun K => He.ga K "law", "law", "law", defArgs s_law, defBody s_law, defScope s_law, []⟩]
def ts : List (Str × List Str) := []
theorem exl {w : World} {K : PySem.W.Frag} (c : obsA exF fn ts K = valA fn ts w) (i : Nat) {b : Bool} (h : (exL K)[i]? = some b := by rfl) : b = true := List.all_eq_true.mp (saysA_ex c) b (List.mem_of_getElem? h)
theorem top_of {w : World} {K : PySem.W.Frag} {h : Heap} {mg : Str → Option Value} (X : K.In h) (G : h.Ns mainGlobals mg) (c : obsA exF fn ts K = valA fn ts w) : Top w K mg where
  b_isinstance := He.free_ok X G (exl c 0)
  b_int := He.free_ok X G (exl c 1)
  b_bool := He.free_ok X G (exl c 2)
  b_max := He.free_ok X G (exl c 3)
  b_min := He.free_ok X G (exl c 4)
  b_sorted := He.free_ok X G (exl c 5)
  b_tuple := He.free_ok X G (exl c 6)
  b_list := He.free_ok X G (exl c 7)
  b_len := He.free_ok X G (exl c 8)
  b_range := He.free_ok X G (exl c 9)
  b_str := He.free_ok X G (exl c 10)
  b_ValueError := He.free_ok X G (exl c 11)
  g_BadPins := He.glo_ok X G (exl c 12)
  g_BadPin := He.glo_ok X G (exl c 13)
  g_SamePin := He.glo_ok X G (exl c 14)
  g_BadGap := He.glo_ok X G (exl c 15)
  g_NoPair := He.glo_ok X G (exl c 16)
  g_OddPin := He.glo_ok X G (exl c 17)
  g_UnlikePins := He.glo_ok X G (exl c 18)
  g_BadCord := He.glo_ok X G (exl c 19)
  g_NotPart := He.glo_ok X G (exl c 20)
  g_BadNumber := He.glo_ok X G (exl c 21)
  g_BadTable := He.glo_ok X G (exl c 22)
  g_NoLot := He.glo_ok X G (exl c 23)
  g_NoMove := He.glo_ok X G (exl c 24)
  g_OddEnds := He.glo_ok X G (exl c 25)
  g_Barred := He.glo_ok X G (exl c 26)
  g_TooMany := He.glo_ok X G (exl c 27)
  g_BadWidth := He.glo_ok X G (exl c 28)
  g_BadTurn := He.glo_ok X G (exl c 29)
  g_DoubleEnd := He.glo_ok X G (exl c 30)
  g_MissingEnd := He.glo_ok X G (exl c 31)
  g_LooseJoint := He.glo_ok X G (exl c 32)
  g_NotPlane := He.glo_ok X G (exl c 33)
  g_BadItem := He.glo_ok X G (exl c 34)
  g_BadJoint := He.glo_ok X G (exl c 35)
  g_BadTrack := He.glo_ok X G (exl c 36)
  g_OddJoint := He.glo_ok X G (exl c 37)
  g_BadDeed := He.glo_ok X G (exl c 38)
  g_Refused := He.glo_ok X G (exl c 39)
  g_BadWire := He.glo_ok X G (exl c 40)
  g_SharedLand := He.glo_ok X G (exl c 41)
  g_OddLand := He.glo_ok X G (exl c 42)
  g_BadLanes := He.glo_ok X G (exl c 43)
  g_BadLetter := He.glo_ok X G (exl c 44)
  g_UnlikeLanes := He.glo_ok X G (exl c 45)
  g_BadPairing := He.glo_ok X G (exl c 46)
  g_BadCap := He.glo_ok X G (exl c 47)
  g_BadPair := He.glo_ok X G (exl c 48)
  g_NoteError := He.glo_ok X G (exl c 49)
  g_NoWishes := He.glo_ok X G (exl c 50)
  g_NothingToUndo := He.glo_ok X G (exl c 51)
  g_RimError := He.glo_ok X G (exl c 52)
  g_Lot := He.glo_ok X G (exl c 53)
  kit := kit_by (exl c 54)
  f_pins := fld_by (exl c 55)
  f_cords := fld_by (exl c 56)
  n_NoWishes := oexn_by (exl c 57)
  n_NothingToUndo := oexn_by (exl c 58)
  ek := err_by (exl c 59)
theorem law_all {P : Program} {w : World} {K : PySem.W.Frag} {h : Heap} {mg : Str → Option Value} {f : Addr} (X : K.In h) (G : h.Ns mainGlobals mg) (hfa : mg ("law" : Str) = some (.ref f)) (c : obsA exF fn ts K = valA fn ts w) :
    ∃ fd : FuncData, (∀ (s : Shared) (v : Value), BindsTo s fd ⟨[v], []⟩ [("_law_script", v)]) ∧ ∀ base : Heap, FnOk P w K mg base (L2N.CX P w) 16 f fd ["_law_script"] (spM K [] m_law .sh) := by
  have T := top_of X G c
  have e := hfa.symm.trans (He.glo_ok X G (exl c 117))
  cases e
  obtain ⟨fdL, FL⟩ := saysA_def c 57 rfl
  refine ⟨fdL, fun s v => FunD.bindsA (ps := ["_law_script"]) FL (fun _ _ _ _ _ _ us hl => match us, hl with | [_], _ => rfl) s [v] rfl, fun base => ?_⟩
  obtain ⟨fd0, F0⟩ := saysA_def c 0 rfl
  have Cy_BadPins_pins := calleeXK_of F0 T.g_BadPins (T.ek.oex _ (by decide)) (xin_by (exl c 60)).1 (xin_by (exl c 60)).2 (fnx_BadPins___init__ (P := P) (base := base) F0 T) (ks := ["pins"]) (π := [0]) rfl (by decide) (fun _ _ _ _ _ _ _ us hl => match us, hl with | [_], _ => rfl)
  have Cx_BadPins := ok_BadPins___init__ (P := P) (base := base) F0 T.g_BadPins (xin_by (exl c 60)).1 (xin_by (exl c 60)).2 T
  obtain ⟨fd1, F1⟩ := saysA_def c 1 rfl
  have Cy_BadPin_pin := calleeXK_of F1 T.g_BadPin (T.ek.oex _ (by decide)) (xin_by (exl c 61)).1 (xin_by (exl c 61)).2 (fnx_BadPin___init__ (P := P) (base := base) F1 T) (ks := ["pin"]) (π := [0]) rfl (by decide) (fun _ _ _ _ _ _ _ us hl => match us, hl with | [_], _ => rfl)
  have Cx_BadPin := ok_BadPin___init__ (P := P) (base := base) F1 T.g_BadPin (xin_by (exl c 61)).1 (xin_by (exl c 61)).2 T
  obtain ⟨fd2, F2⟩ := saysA_def c 2 rfl
  have Cy_SamePin_pin := calleeXK_of F2 T.g_SamePin (T.ek.oex _ (by decide)) (xin_by (exl c 62)).1 (xin_by (exl c 62)).2 (fnx_SamePin___init__ (P := P) (base := base) F2 T) (ks := ["pin"]) (π := [0]) rfl (by decide) (fun _ _ _ _ _ _ _ us hl => match us, hl with | [_], _ => rfl)
  have Cx_SamePin := ok_SamePin___init__ (P := P) (base := base) F2 T.g_SamePin (xin_by (exl c 62)).1 (xin_by (exl c 62)).2 T
  obtain ⟨fd3, F3⟩ := saysA_def c 3 rfl
  have Cy_BadGap_gap := calleeXK_of F3 T.g_BadGap (T.ek.oex _ (by decide)) (xin_by (exl c 63)).1 (xin_by (exl c 63)).2 (fnx_BadGap___init__ (P := P) (base := base) F3 T) (ks := ["gap"]) (π := [0]) rfl (by decide) (fun _ _ _ _ _ _ _ us hl => match us, hl with | [_], _ => rfl)
  have Cx_BadGap := ok_BadGap___init__ (P := P) (base := base) F3 T.g_BadGap (xin_by (exl c 63)).1 (xin_by (exl c 63)).2 T
  obtain ⟨fd4, F4⟩ := saysA_def c 4 rfl
  have Cy_NoPair_pins := calleeXK_of F4 T.g_NoPair (T.ek.oex _ (by decide)) (xin_by (exl c 64)).1 (xin_by (exl c 64)).2 (fnx_NoPair___init__ (P := P) (base := base) F4 T) (ks := ["pins"]) (π := [0]) rfl (by decide) (fun _ _ _ _ _ _ _ us hl => match us, hl with | [_], _ => rfl)
  have Cx_NoPair := ok_NoPair___init__ (P := P) (base := base) F4 T.g_NoPair (xin_by (exl c 64)).1 (xin_by (exl c 64)).2 T
  obtain ⟨fd5, F5⟩ := saysA_def c 5 rfl
  have Cy_OddPin_pin := calleeXK_of F5 T.g_OddPin (T.ek.oex _ (by decide)) (xin_by (exl c 65)).1 (xin_by (exl c 65)).2 (fnx_OddPin___init__ (P := P) (base := base) F5 T) (ks := ["pin"]) (π := [0]) rfl (by decide) (fun _ _ _ _ _ _ _ us hl => match us, hl with | [_], _ => rfl)
  have Cx_OddPin := ok_OddPin___init__ (P := P) (base := base) F5 T.g_OddPin (xin_by (exl c 65)).1 (xin_by (exl c 65)).2 T
  obtain ⟨fd6, F6⟩ := saysA_def c 6 rfl
  have Cy_UnlikePins_other_one := calleeXK_of F6 T.g_UnlikePins (T.ek.oex _ (by decide)) (xin_by (exl c 66)).1 (xin_by (exl c 66)).2 (fnx_UnlikePins___init__ (P := P) (base := base) F6 T) (ks := ["other", "one"]) (π := [1, 0]) rfl (by decide) (fun _ _ _ _ _ _ _ us hl => match us, hl with | [_, _], _ => rfl)
  have Cx_UnlikePins := ok_UnlikePins___init__ (P := P) (base := base) F6 T.g_UnlikePins (xin_by (exl c 66)).1 (xin_by (exl c 66)).2 T
  obtain ⟨fd7, F7⟩ := saysA_def c 7 rfl
  have Cy_BadCord_entry := calleeXK_of F7 T.g_BadCord (T.ek.oex _ (by decide)) (xin_by (exl c 67)).1 (xin_by (exl c 67)).2 (fnx_BadCord___init__ (P := P) (base := base) F7 T) (ks := ["entry"]) (π := [0]) rfl (by decide) (fun _ _ _ _ _ _ _ us hl => match us, hl with | [_], _ => rfl)
  have Cx_BadCord := ok_BadCord___init__ (P := P) (base := base) F7 T.g_BadCord (xin_by (exl c 67)).1 (xin_by (exl c 67)).2 T
  obtain ⟨fd8, F8⟩ := saysA_def c 8 rfl
  have Cy_NotPart_b_a := calleeXK_of F8 T.g_NotPart (T.ek.oex _ (by decide)) (xin_by (exl c 68)).1 (xin_by (exl c 68)).2 (fnx_NotPart___init__ (P := P) (base := base) F8 T) (ks := ["b", "a"]) (π := [1, 0]) rfl (by decide) (fun _ _ _ _ _ _ _ us hl => match us, hl with | [_, _], _ => rfl)
  have Cx_NotPart := ok_NotPart___init__ (P := P) (base := base) F8 T.g_NotPart (xin_by (exl c 68)).1 (xin_by (exl c 68)).2 T
  obtain ⟨fd9, F9⟩ := saysA_def c 9 rfl
  have Cy_BadNumber_number := calleeXK_of F9 T.g_BadNumber (T.ek.oex _ (by decide)) (xin_by (exl c 69)).1 (xin_by (exl c 69)).2 (fnx_BadNumber___init__ (P := P) (base := base) F9 T) (ks := ["number"]) (π := [0]) rfl (by decide) (fun _ _ _ _ _ _ _ us hl => match us, hl with | [_], _ => rfl)
  have Cx_BadNumber := ok_BadNumber___init__ (P := P) (base := base) F9 T.g_BadNumber (xin_by (exl c 69)).1 (xin_by (exl c 69)).2 T
  obtain ⟨fd10, F10⟩ := saysA_def c 10 rfl
  have Cy_BadTable_column_row := calleeXK_of F10 T.g_BadTable (T.ek.oex _ (by decide)) (xin_by (exl c 70)).1 (xin_by (exl c 70)).2 (fnx_BadTable___init__ (P := P) (base := base) F10 T) (ks := ["column", "row"]) (π := [1, 0]) rfl (by decide) (fun _ _ _ _ _ _ _ us hl => match us, hl with | [_, _], _ => rfl)
  have Cx_BadTable := ok_BadTable___init__ (P := P) (base := base) F10 T.g_BadTable (xin_by (exl c 70)).1 (xin_by (exl c 70)).2 T
  obtain ⟨fd11, F11⟩ := saysA_def c 11 rfl
  have Cy_NoLot_twice_b_a := calleeXK_of F11 T.g_NoLot (T.ek.oex _ (by decide)) (xin_by (exl c 71)).1 (xin_by (exl c 71)).2 (fnx_NoLot___init__ (P := P) (base := base) F11 T) (ks := ["twice", "b", "a"]) (π := [2, 1, 0]) rfl (by decide) (fun _ _ _ _ _ _ _ us hl => match us, hl with | [_, _, _], _ => rfl)
  have Cx_NoLot := ok_NoLot___init__ (P := P) (base := base) F11 T.g_NoLot (xin_by (exl c 71)).1 (xin_by (exl c 71)).2 T
  obtain ⟨fd12, F12⟩ := saysA_def c 12 rfl
  have Cy_NoMove_move := calleeXK_of F12 T.g_NoMove (T.ek.oex _ (by decide)) (xin_by (exl c 72)).1 (xin_by (exl c 72)).2 (fnx_NoMove___init__ (P := P) (base := base) F12 T) (ks := ["move"]) (π := [0]) rfl (by decide) (fun _ _ _ _ _ _ _ us hl => match us, hl with | [_], _ => rfl)
  have Cx_NoMove := ok_NoMove___init__ (P := P) (base := base) F12 T.g_NoMove (xin_by (exl c 72)).1 (xin_by (exl c 72)).2 T
  obtain ⟨fd13, F13⟩ := saysA_def c 13 rfl
  have Cy_OddEnds_pins := calleeXK_of F13 T.g_OddEnds (T.ek.oex _ (by decide)) (xin_by (exl c 73)).1 (xin_by (exl c 73)).2 (fnx_OddEnds___init__ (P := P) (base := base) F13 T) (ks := ["pins"]) (π := [0]) rfl (by decide) (fun _ _ _ _ _ _ _ us hl => match us, hl with | [_], _ => rfl)
  have Cx_OddEnds := ok_OddEnds___init__ (P := P) (base := base) F13 T.g_OddEnds (xin_by (exl c 73)).1 (xin_by (exl c 73)).2 T
  obtain ⟨fd14, F14⟩ := saysA_def c 14 rfl
  have Cy_Barred_wished_held_last_first := calleeXK_of F14 T.g_Barred (T.ek.oex _ (by decide)) (xin_by (exl c 74)).1 (xin_by (exl c 74)).2 (fnx_Barred___init__ (P := P) (base := base) F14 T) (ks := ["wished", "held", "last", "first"]) (π := [3, 2, 1, 0]) rfl (by decide) (fun _ _ _ _ _ _ _ us hl => match us, hl with | [_, _, _, _], _ => rfl)
  have Cx_Barred := ok_Barred___init__ (P := P) (base := base) F14 T.g_Barred (xin_by (exl c 74)).1 (xin_by (exl c 74)).2 T
  obtain ⟨fd15, F15⟩ := saysA_def c 15 rfl
  have Cy_TooMany_number := calleeXK_of F15 T.g_TooMany (T.ek.oex _ (by decide)) (xin_by (exl c 75)).1 (xin_by (exl c 75)).2 (fnx_TooMany___init__ (P := P) (base := base) F15 T) (ks := ["number"]) (π := [0]) rfl (by decide) (fun _ _ _ _ _ _ _ us hl => match us, hl with | [_], _ => rfl)
  have Cx_TooMany := ok_TooMany___init__ (P := P) (base := base) F15 T.g_TooMany (xin_by (exl c 75)).1 (xin_by (exl c 75)).2 T
  obtain ⟨fd16, F16⟩ := saysA_def c 16 rfl
  have Cy_BadWidth_track := calleeXK_of F16 T.g_BadWidth (T.ek.oex _ (by decide)) (xin_by (exl c 76)).1 (xin_by (exl c 76)).2 (fnx_BadWidth___init__ (P := P) (base := base) F16 T) (ks := ["track"]) (π := [0]) rfl (by decide) (fun _ _ _ _ _ _ _ us hl => match us, hl with | [_], _ => rfl)
  have Cx_BadWidth := ok_BadWidth___init__ (P := P) (base := base) F16 T.g_BadWidth (xin_by (exl c 76)).1 (xin_by (exl c 76)).2 T
  obtain ⟨fd17, F17⟩ := saysA_def c 17 rfl
  have Cy_BadTurn_joint := calleeXK_of F17 T.g_BadTurn (T.ek.oex _ (by decide)) (xin_by (exl c 77)).1 (xin_by (exl c 77)).2 (fnx_BadTurn___init__ (P := P) (base := base) F17 T) (ks := ["joint"]) (π := [0]) rfl (by decide) (fun _ _ _ _ _ _ _ us hl => match us, hl with | [_], _ => rfl)
  have Cx_BadTurn := ok_BadTurn___init__ (P := P) (base := base) F17 T.g_BadTurn (xin_by (exl c 77)).1 (xin_by (exl c 77)).2 T
  obtain ⟨fd18, F18⟩ := saysA_def c 18 rfl
  have Cy_DoubleEnd_end := calleeXK_of F18 T.g_DoubleEnd (T.ek.oex _ (by decide)) (xin_by (exl c 78)).1 (xin_by (exl c 78)).2 (fnx_DoubleEnd___init__ (P := P) (base := base) F18 T) (ks := ["end"]) (π := [0]) rfl (by decide) (fun _ _ _ _ _ _ _ us hl => match us, hl with | [_], _ => rfl)
  have Cx_DoubleEnd := ok_DoubleEnd___init__ (P := P) (base := base) F18 T.g_DoubleEnd (xin_by (exl c 78)).1 (xin_by (exl c 78)).2 T
  obtain ⟨fd19, F19⟩ := saysA_def c 19 rfl
  have Cy_MissingEnd_end := calleeXK_of F19 T.g_MissingEnd (T.ek.oex _ (by decide)) (xin_by (exl c 79)).1 (xin_by (exl c 79)).2 (fnx_MissingEnd___init__ (P := P) (base := base) F19 T) (ks := ["end"]) (π := [0]) rfl (by decide) (fun _ _ _ _ _ _ _ us hl => match us, hl with | [_], _ => rfl)
  have Cx_MissingEnd := ok_MissingEnd___init__ (P := P) (base := base) F19 T.g_MissingEnd (xin_by (exl c 79)).1 (xin_by (exl c 79)).2 T
  obtain ⟨fd20, F20⟩ := saysA_def c 20 rfl
  have Cy_LooseJoint_joint := calleeXK_of F20 T.g_LooseJoint (T.ek.oex _ (by decide)) (xin_by (exl c 80)).1 (xin_by (exl c 80)).2 (fnx_LooseJoint___init__ (P := P) (base := base) F20 T) (ks := ["joint"]) (π := [0]) rfl (by decide) (fun _ _ _ _ _ _ _ us hl => match us, hl with | [_], _ => rfl)
  have Cx_LooseJoint := ok_LooseJoint___init__ (P := P) (base := base) F20 T.g_LooseJoint (xin_by (exl c 80)).1 (xin_by (exl c 80)).2 T
  obtain ⟨fd21, F21⟩ := saysA_def c 21 rfl
  have Cy_NotPlane_due_found := calleeXK_of F21 T.g_NotPlane (T.ek.oex _ (by decide)) (xin_by (exl c 81)).1 (xin_by (exl c 81)).2 (fnx_NotPlane___init__ (P := P) (base := base) F21 T) (ks := ["due", "found"]) (π := [1, 0]) rfl (by decide) (fun _ _ _ _ _ _ _ us hl => match us, hl with | [_, _], _ => rfl)
  have Cx_NotPlane := ok_NotPlane___init__ (P := P) (base := base) F21 T.g_NotPlane (xin_by (exl c 81)).1 (xin_by (exl c 81)).2 T
  obtain ⟨fd22, F22⟩ := saysA_def c 22 rfl
  have Cy_BadItem_item := calleeXK_of F22 T.g_BadItem (T.ek.oex _ (by decide)) (xin_by (exl c 82)).1 (xin_by (exl c 82)).2 (fnx_BadItem___init__ (P := P) (base := base) F22 T) (ks := ["item"]) (π := [0]) rfl (by decide) (fun _ _ _ _ _ _ _ us hl => match us, hl with | [_], _ => rfl)
  have Cx_BadItem := ok_BadItem___init__ (P := P) (base := base) F22 T.g_BadItem (xin_by (exl c 82)).1 (xin_by (exl c 82)).2 T
  obtain ⟨fd23, F23⟩ := saysA_def c 23 rfl
  have Cy_BadJoint_joint := calleeXK_of F23 T.g_BadJoint (T.ek.oex _ (by decide)) (xin_by (exl c 83)).1 (xin_by (exl c 83)).2 (fnx_BadJoint___init__ (P := P) (base := base) F23 T) (ks := ["joint"]) (π := [0]) rfl (by decide) (fun _ _ _ _ _ _ _ us hl => match us, hl with | [_], _ => rfl)
  have Cx_BadJoint := ok_BadJoint___init__ (P := P) (base := base) F23 T.g_BadJoint (xin_by (exl c 83)).1 (xin_by (exl c 83)).2 T
  obtain ⟨fd24, F24⟩ := saysA_def c 24 rfl
  have Cy_BadTrack_track := calleeXK_of F24 T.g_BadTrack (T.ek.oex _ (by decide)) (xin_by (exl c 84)).1 (xin_by (exl c 84)).2 (fnx_BadTrack___init__ (P := P) (base := base) F24 T) (ks := ["track"]) (π := [0]) rfl (by decide) (fun _ _ _ _ _ _ _ us hl => match us, hl with | [_], _ => rfl)
  have Cx_BadTrack := ok_BadTrack___init__ (P := P) (base := base) F24 T.g_BadTrack (xin_by (exl c 84)).1 (xin_by (exl c 84)).2 T
  obtain ⟨fd25, F25⟩ := saysA_def c 25 rfl
  have Cy_OddJoint_joint := calleeXK_of F25 T.g_OddJoint (T.ek.oex _ (by decide)) (xin_by (exl c 85)).1 (xin_by (exl c 85)).2 (fnx_OddJoint___init__ (P := P) (base := base) F25 T) (ks := ["joint"]) (π := [0]) rfl (by decide) (fun _ _ _ _ _ _ _ us hl => match us, hl with | [_], _ => rfl)
  have Cx_OddJoint := ok_OddJoint___init__ (P := P) (base := base) F25 T.g_OddJoint (xin_by (exl c 85)).1 (xin_by (exl c 85)).2 T
  obtain ⟨fd26, F26⟩ := saysA_def c 26 rfl
  have Cy_BadDeed_deed_place := calleeXK_of F26 T.g_BadDeed (T.ek.oex _ (by decide)) (xin_by (exl c 86)).1 (xin_by (exl c 86)).2 (fnx_BadDeed___init__ (P := P) (base := base) F26 T) (ks := ["deed", "place"]) (π := [1, 0]) rfl (by decide) (fun _ _ _ _ _ _ _ us hl => match us, hl with | [_, _], _ => rfl)
  have Cx_BadDeed := ok_BadDeed___init__ (P := P) (base := base) F26 T.g_BadDeed (xin_by (exl c 86)).1 (xin_by (exl c 86)).2 T
  obtain ⟨fd27, F27⟩ := saysA_def c 27 rfl
  have Cy_Refused_deed_place := calleeXK_of F27 T.g_Refused (T.ek.oex _ (by decide)) (xin_by (exl c 87)).1 (xin_by (exl c 87)).2 (fnx_Refused___init__ (P := P) (base := base) F27 T) (ks := ["deed", "place"]) (π := [1, 0]) rfl (by decide) (fun _ _ _ _ _ _ _ us hl => match us, hl with | [_, _], _ => rfl)
  have Cx_Refused := ok_Refused___init__ (P := P) (base := base) F27 T.g_Refused (xin_by (exl c 87)).1 (xin_by (exl c 87)).2 T
  obtain ⟨fd28, F28⟩ := saysA_def c 28 rfl
  have Cy_BadWire_wire := calleeXK_of F28 T.g_BadWire (T.ek.oex _ (by decide)) (xin_by (exl c 88)).1 (xin_by (exl c 88)).2 (fnx_BadWire___init__ (P := P) (base := base) F28 T) (ks := ["wire"]) (π := [0]) rfl (by decide) (fun _ _ _ _ _ _ _ us hl => match us, hl with | [_], _ => rfl)
  have Cx_BadWire := ok_BadWire___init__ (P := P) (base := base) F28 T.g_BadWire (xin_by (exl c 88)).1 (xin_by (exl c 88)).2 T
  obtain ⟨fd29, F29⟩ := saysA_def c 29 rfl
  have Cy_SharedLand_last_first := calleeXK_of F29 T.g_SharedLand (T.ek.oex _ (by decide)) (xin_by (exl c 89)).1 (xin_by (exl c 89)).2 (fnx_SharedLand___init__ (P := P) (base := base) F29 T) (ks := ["last", "first"]) (π := [1, 0]) rfl (by decide) (fun _ _ _ _ _ _ _ us hl => match us, hl with | [_, _], _ => rfl)
  have Cx_SharedLand := ok_SharedLand___init__ (P := P) (base := base) F29 T.g_SharedLand (xin_by (exl c 89)).1 (xin_by (exl c 89)).2 T
  obtain ⟨fd30, F30⟩ := saysA_def c 30 rfl
  have Cy_OddLand_land := calleeXK_of F30 T.g_OddLand (T.ek.oex _ (by decide)) (xin_by (exl c 90)).1 (xin_by (exl c 90)).2 (fnx_OddLand___init__ (P := P) (base := base) F30 T) (ks := ["land"]) (π := [0]) rfl (by decide) (fun _ _ _ _ _ _ _ us hl => match us, hl with | [_], _ => rfl)
  have Cx_OddLand := ok_OddLand___init__ (P := P) (base := base) F30 T.g_OddLand (xin_by (exl c 90)).1 (xin_by (exl c 90)).2 T
  obtain ⟨fd31, F31⟩ := saysA_def c 31 rfl
  have Cy_BadLanes_number := calleeXK_of F31 T.g_BadLanes (T.ek.oex _ (by decide)) (xin_by (exl c 91)).1 (xin_by (exl c 91)).2 (fnx_BadLanes___init__ (P := P) (base := base) F31 T) (ks := ["number"]) (π := [0]) rfl (by decide) (fun _ _ _ _ _ _ _ us hl => match us, hl with | [_], _ => rfl)
  have Cx_BadLanes := ok_BadLanes___init__ (P := P) (base := base) F31 T.g_BadLanes (xin_by (exl c 91)).1 (xin_by (exl c 91)).2 T
  obtain ⟨fd32, F32⟩ := saysA_def c 32 rfl
  have Cy_BadLetter_letter_place := calleeXK_of F32 T.g_BadLetter (T.ek.oex _ (by decide)) (xin_by (exl c 92)).1 (xin_by (exl c 92)).2 (fnx_BadLetter___init__ (P := P) (base := base) F32 T) (ks := ["letter", "place"]) (π := [1, 0]) rfl (by decide) (fun _ _ _ _ _ _ _ us hl => match us, hl with | [_, _], _ => rfl)
  have Cx_BadLetter := ok_BadLetter___init__ (P := P) (base := base) F32 T.g_BadLetter (xin_by (exl c 92)).1 (xin_by (exl c 92)).2 T
  obtain ⟨fd33, F33⟩ := saysA_def c 33 rfl
  have Cy_UnlikeLanes_other_one := calleeXK_of F33 T.g_UnlikeLanes (T.ek.oex _ (by decide)) (xin_by (exl c 93)).1 (xin_by (exl c 93)).2 (fnx_UnlikeLanes___init__ (P := P) (base := base) F33 T) (ks := ["other", "one"]) (π := [1, 0]) rfl (by decide) (fun _ _ _ _ _ _ _ us hl => match us, hl with | [_, _], _ => rfl)
  have Cx_UnlikeLanes := ok_UnlikeLanes___init__ (P := P) (base := base) F33 T.g_UnlikeLanes (xin_by (exl c 93)).1 (xin_by (exl c 93)).2 T
  obtain ⟨fd34, F34⟩ := saysA_def c 34 rfl
  have Cy_BadPairing_lot := calleeXK_of F34 T.g_BadPairing (T.ek.oex _ (by decide)) (xin_by (exl c 94)).1 (xin_by (exl c 94)).2 (fnx_BadPairing___init__ (P := P) (base := base) F34 T) (ks := ["lot"]) (π := [0]) rfl (by decide) (fun _ _ _ _ _ _ _ us hl => match us, hl with | [_], _ => rfl)
  have Cx_BadPairing := ok_BadPairing___init__ (P := P) (base := base) F34 T.g_BadPairing (xin_by (exl c 94)).1 (xin_by (exl c 94)).2 T
  obtain ⟨fd35, F35⟩ := saysA_def c 35 rfl
  have Cy_BadCap_pin := calleeXK_of F35 T.g_BadCap (T.ek.oex _ (by decide)) (xin_by (exl c 95)).1 (xin_by (exl c 95)).2 (fnx_BadCap___init__ (P := P) (base := base) F35 T) (ks := ["pin"]) (π := [0]) rfl (by decide) (fun _ _ _ _ _ _ _ us hl => match us, hl with | [_], _ => rfl)
  have Cx_BadCap := ok_BadCap___init__ (P := P) (base := base) F35 T.g_BadCap (xin_by (exl c 95)).1 (xin_by (exl c 95)).2 T
  obtain ⟨fd36, F36⟩ := saysA_def c 36 rfl
  have Cy_BadPair_pair := calleeXK_of F36 T.g_BadPair (T.ek.oex _ (by decide)) (xin_by (exl c 96)).1 (xin_by (exl c 96)).2 (fnx_BadPair___init__ (P := P) (base := base) F36 T) (ks := ["pair"]) (π := [0]) rfl (by decide) (fun _ _ _ _ _ _ _ us hl => match us, hl with | [_], _ => rfl)
  have Cx_BadPair := ok_BadPair___init__ (P := P) (base := base) F36 T.g_BadPair (xin_by (exl c 96)).1 (xin_by (exl c 96)).2 T
  obtain ⟨fd37, F37⟩ := saysA_def c 37 rfl
  have Cy_NoteError_line := calleeXK_of F37 T.g_NoteError (T.ek.oex _ (by decide)) (xin_by (exl c 97)).1 (xin_by (exl c 97)).2 (fnx_NoteError___init__ (P := P) (base := base) F37 T) (ks := ["line"]) (π := [0]) rfl (by decide) (fun _ _ _ _ _ _ _ us hl => match us, hl with | [_], _ => rfl)
  have Cx_NoteError := ok_NoteError___init__ (P := P) (base := base) F37 T.g_NoteError (xin_by (exl c 97)).1 (xin_by (exl c 97)).2 T
  obtain ⟨fd38, F38⟩ := saysA_def c 38 rfl
  have Cf_is_whole := (ok_is_whole (P := P) (base := base) F38 (He.glo_ok X G (exl c 98)) T)
  obtain ⟨fd39, F39⟩ := saysA_def c 39 rfl
  have Cf_combined := (ok_combined (P := P) (base := base) F39 (He.glo_ok X G (exl c 99)) T)
  obtain ⟨fd40, F40⟩ := saysA_def c 40 rfl
  have Cf_is_pin := (ok_is_pin (P := P) (base := base) F40 (He.glo_ok X G (exl c 100)) T Cf_is_whole)
  obtain ⟨fd41, F41⟩ := saysA_def c 41 rfl
  have Cf_is_entry := (ok_is_entry (P := P) (base := base) F41 (He.glo_ok X G (exl c 101)) T Cf_is_pin Cf_is_whole)
  obtain ⟨fd42, F42⟩ := saysA_def c 42 rfl
  have Ci_Lot := (ok_Lot___init__ (P := P) (base := base) F42 (He.glo_ok X G (exl c 53)) (He.mkr_ok (exl c 102)) T Cf_is_whole Cx_BadPins Cf_is_entry Cx_BadCord Cf_combined)
  obtain ⟨fd43, F43⟩ := saysA_def c 43 rfl
  have Cf__law_whole := (ok__law_whole (P := P) (base := base) F43 (He.glo_ok X G (exl c 103)) T)
  obtain ⟨fd44, F44⟩ := saysA_def c 44 rfl
  have Cf__law_cell := (ok__law_cell (P := P) (base := base) F44 (He.glo_ok X G (exl c 104)) T)
  obtain ⟨fd45, F45⟩ := saysA_def c 45 rfl
  have Cf__law_digits := (ok__law_digits (P := P) (base := base) F45 (He.glo_ok X G (exl c 105)) T)
  obtain ⟨fd46, F46⟩ := saysA_def c 46 rfl
  have Cf__law_number := (ok__law_number (P := P) (base := base) F46 (He.glo_ok X G (exl c 106)) T Cf__law_digits)
  obtain ⟨fd47, F47⟩ := saysA_def c 47 rfl
  have Cf__law_thing := (ok__law_thing (P := P) (base := base) F47 (He.glo_ok X G (exl c 107)) T Cf__law_digits)
  obtain ⟨fd48, F48⟩ := saysA_def c 48 rfl
  have Cf__law_bag := (ok__law_bag (P := P) (base := base) F48 (He.glo_ok X G (exl c 108)) T Cf__law_digits)
  obtain ⟨fd49, F49⟩ := saysA_def c 49 rfl
  have Cf__law_lot := (ok__law_lot (P := P) (base := base) F49 (He.glo_ok X G (exl c 109)) T Cf__law_digits)
  obtain ⟨fd50, F50⟩ := saysA_def c 50 rfl
  have Cf__law_same := (ok__law_same (P := P) (base := base) F50 (He.glo_ok X G (exl c 110)) T Cf__law_whole)
  obtain ⟨fd51, F51⟩ := saysA_def c 51 rfl
  have Cf__law_placed := (ok__law_placed (P := P) (base := base) F51 (He.glo_ok X G (exl c 111)) T Cx_UnlikePins Cx_OddPin Cx_NoPair Cx_BadGap Cx_SamePin Cx_BadPin Cx_BadPins Cx_NoMove Cx_NoLot Cx_BadTable Cx_BadNumber Cx_NotPart Cx_BadCord Cx_MissingEnd Cx_DoubleEnd Cx_BadTurn Cx_BadWidth Cx_TooMany Cx_Barred Cx_OddEnds Cx_OddJoint Cx_BadTrack Cx_BadJoint Cx_BadItem Cx_NotPlane Cx_LooseJoint Cx_BadLanes Cx_OddLand Cx_SharedLand Cx_BadWire Cx_Refused Cx_BadDeed Cx_BadPair Cx_BadCap Cx_BadPairing Cx_UnlikeLanes Cx_BadLetter Cx_NoteError)
  obtain ⟨fd52, F52⟩ := saysA_def c 52 rfl
  have Cf__law_named := (ok__law_named (P := P) (base := base) F52 (He.glo_ok X G (exl c 112)) T Cy_OddPin_pin Cy_NoPair_pins Cy_BadGap_gap Cy_SamePin_pin Cy_BadPin_pin Cy_BadPins_pins Cy_BadNumber_number Cy_NotPart_b_a Cy_BadCord_entry Cy_UnlikePins_other_one Cy_OddEnds_pins Cy_NoMove_move Cy_NoLot_twice_b_a Cy_BadTable_column_row Cy_BadTurn_joint Cy_BadWidth_track Cy_TooMany_number Cy_Barred_wished_held_last_first Cy_NotPlane_due_found Cy_LooseJoint_joint Cy_MissingEnd_end Cy_DoubleEnd_end Cy_OddJoint_joint Cy_BadTrack_track Cy_BadJoint_joint Cy_BadItem_item Cy_BadWire_wire Cy_Refused_deed_place Cy_BadDeed_deed_place Cy_BadLanes_number Cy_OddLand_land Cy_SharedLand_last_first Cy_BadCap_pin Cy_BadPairing_lot Cy_UnlikeLanes_other_one Cy_BadLetter_letter_place Cy_NoteError_line Cy_BadPair_pair)
  obtain ⟨fd53, F53⟩ := saysA_def c 53 rfl
  have Cf__law_fields := (ok__law_fields (P := P) (base := base) F53 (He.glo_ok X G (exl c 113)) T)
  obtain ⟨fd54, F54⟩ := saysA_def c 54 rfl
  have Cf__law_passed := (ok__law_passed (P := P) (base := base) F54 (He.glo_ok X G (exl c 114)) T)
  obtain ⟨fd55, F55⟩ := saysA_def c 55 rfl
  have Cf__law_kinds := (ok__law_kinds (P := P) (base := base) F55 (He.glo_ok X G (exl c 115)) T)
  obtain ⟨fd56, F56⟩ := saysA_def c 56 rfl
  have Cf__law_right := (ok__law_right (P := P) (base := base) F56 (He.glo_ok X G (exl c 116)) T Cf__law_kinds Cf__law_same)
  exact fn_law FL T Cf__law_cell Cf__law_number Cf__law_thing Cf__law_bag Cf__law_lot Ci_Lot Cf__law_placed Cf__law_named Cf__law_right Cf__law_passed Cf__law_fields Cf__law_same
def lo0 : List PySem.Str := [PySem.Str.ofString "_wall", PySem.Str.ofString "RimError", PySem.Str.ofString "BadPins", PySem.Str.ofString "BadPin", PySem.Str.ofString "SamePin", PySem.Str.ofString "BadGap", PySem.Str.ofString "NoPair", PySem.Str.ofString "OddPin", PySem.Str.ofString "UnlikePins", PySem.Str.ofString "BadCord", PySem.Str.ofString "NotPart", PySem.Str.ofString "BadNumber", PySem.Str.ofString "BadTable", PySem.Str.ofString "NoLot", PySem.Str.ofString "NoMove", PySem.Str.ofString "OddEnds", PySem.Str.ofString "Barred", PySem.Str.ofString "TooMany", PySem.Str.ofString "BadWidth", PySem.Str.ofString "BadTurn", PySem.Str.ofString "DoubleEnd", PySem.Str.ofString "MissingEnd", PySem.Str.ofString "LooseJoint", PySem.Str.ofString "NotPlane", PySem.Str.ofString "BadItem", PySem.Str.ofString "BadJoint", PySem.Str.ofString "BadTrack", PySem.Str.ofString "OddJoint", PySem.Str.ofString "BadDeed", PySem.Str.ofString "Refused"]
def lo1 : List PySem.Str := [PySem.Str.ofString "BadWire", PySem.Str.ofString "SharedLand", PySem.Str.ofString "OddLand", PySem.Str.ofString "BadLanes", PySem.Str.ofString "BadLetter", PySem.Str.ofString "UnlikeLanes", PySem.Str.ofString "BadPairing", PySem.Str.ofString "BadCap", PySem.Str.ofString "BadPair", PySem.Str.ofString "NoWishes", PySem.Str.ofString "NothingToUndo", PySem.Str.ofString "NoteError", PySem.Str.ofString "gaps", PySem.Str.ofString "is_whole", PySem.Str.ofString "combined", PySem.Str.ofString "raw_passing", PySem.Str.ofString "raw_table", PySem.Str.ofString "raw_bar", PySem.Str.ofString "raw_ends", PySem.Str.ofString "raw_odd", PySem.Str.ofString "is_pin", PySem.Str.ofString "is_entry", PySem.Str.ofString "check_pin", PySem.Str.ofString "Lot", PySem.Str.ofString "_law_whole", PySem.Str.ofString "_law_cell", PySem.Str.ofString "_law_digits", PySem.Str.ofString "_law_same", PySem.Str.ofString "_law_placed", PySem.Str.ofString "_law_named"]
def lo2 : List PySem.Str := [PySem.Str.ofString "_law_fields", PySem.Str.ofString "_law_passed", PySem.Str.ofString "_law_kinds", PySem.Str.ofString "_law_right", PySem.Str.ofString "_law_number", PySem.Str.ofString "_law_thing", PySem.Str.ofString "_law_bag", PySem.Str.ofString "_law_lot"]
def loose : List PySem.Str := lo0 ++ lo1 ++ lo2
abbrev R : PySem.W.OpenRow := PySem.W.OpenLaw.row PySem.Challenge.rw_rimcords_k90_errors_made
abbrev hk : PySem.W.Hook := hookB 5 exF fn ts
def ob (s : PySem.W.SharedT) : AlA := obsBG 5 exF fn ts (HandSHeadRun.getT s)
theorem ob_eq (s : PySem.W.SharedT) : ob s = hk.obs s.abs := obsBG_eq (HandSHeadRun.getT_eq s)
open PySem PySem.W PySem.Calls PyProof.Rows HandSHeadRun in
theorem runL (w : World) : BackAt R 20000 w (fun s => looksF R.prog (boot_heap w.params) s.abs) true := by
  intro os
  kernel_rfl
open PySem PySem.W PySem.Calls PyProof.Rows HandSHeadRun in
theorem runV (w : World) : BackAt R 20000 w (fun s => seenQ (view R.prog [73]) loose (importedModules R.prog.main.body) (fun s => xlAt (view R.prog [73]) [] s && recOk R.toRowW.records s) s.abs) (openGood (view R.prog [73]) loose) := by
  intro os
  kernel_rfl
theorem runE (w : World) : BackAt R 20000 w (lookK 5 exF) true := by
  intro os
  kernel_rfl
theorem runD (w : World) : BackAt R 20000 w (lookK 5 fun K => fn.all fun d => d.ok K) true := by
  intro os
  kernel_rfl
theorem runF (w : World) : BackAt R 20000 w (lookK 5 fun K => fn.map fun d => fnA K (d.at_ K)) (fn.map DefA.val) := by
  intro os
  kernel_rfl
theorem runT (w : World) : BackAt R 20000 w (lookK 5 fun K => ts.map fun p => He.dicW K (He.ga K p.1)) (ts.map fun p => some (He.keysIn w.params p.2)) := BackAt.const [] (runE w)
theorem runO (w : World) : BackAt R 20000 w ob (hk.val w) := backB (runE w) (runD w) (runF w) (runT w)
theorem run (w : World) : HandSHeadRun.RunEq R (PySem.W.view R.prog [73]) hk ob 20000 loose w := run_join (runL w) (runV w) (runO w)
end K90

set_option Elab.async false
set_option linter.all false
set_option maxRecDepth 100000
set_option maxHeartbeats 4000000
open PySem PySem.W PySem.Calls PyProof.Rows
theorem PySem.Challenge.cw_rimcords_k90_errors_made_holds : PySem.Challenge.rw_rimcords_k90_errors_made.Holds := by
  w_on; o_law
  refine HandSHeadRun.head_any (r := OpenLaw.row PySem.Challenge.rw_rimcords_k90_errors_made) (q := view (OpenLaw.row PySem.Challenge.rw_rimcords_k90_errors_made).prog [73]) (H := K90.hk) (ob := K90.ob) (M := 20000) (loose := K90.loose) (d := HandSHeadRun.topDef (OpenLaw.row PySem.Challenge.rw_rimcords_k90_errors_made).prog 73) (kwd := []) K90.ob_eq (by kernel_rfl) (fun s => by kernel_rfl) K90.run
    (by kernel_rfl) (by kernel_rfl) (by kernel_rfl) (by rfl) (by first | assumption | decide +kernel) (by decide +kernel) ⟨rfl, rfl, rfl, rfl, rfl, by decide +kernel⟩ ?hw ?hc
  case hw => w_witness2
  case hc =>
    refine L2.walk_ofE (l := PySem.Challenge.rw_rimcords_k90_errors_made) (n := 63) (k := 16) (x := "_law_script") (CX := T.CXA (PySem.Challenge.rw_rimcords_k90_errors_made).prog) rfl (by decide) (by kernel_rfl) ⟨rfl, by decide, by decide⟩ ?F (fun _ _ _ _ z => T.no_cxA z)
    intro w mg fa h Y G hmg0
    obtain ⟨K, KX, c⟩ := Y
    have hmg : mg ("law" : PySem.Str) = some (.ref fa) := by
      have e : (HandSHeadRun.topDef (OpenLaw.row PySem.Challenge.rw_rimcords_k90_errors_made).prog 73).name = ("law" : PySem.Str) := by kernel_rfl
      rw [← e]
      exact hmg0
    obtain ⟨fd, hb, hF⟩ := K90.law_all (P := (PySem.Challenge.rw_rimcords_k90_errors_made).prog) (w := w) KX G hmg c
    exact ⟨K, fd, T.spM K [] K90.m_law .sh, KX, hb, fun H a ns hl _ hS => T.law_sp hS (K90.law_true ns), fun base _ _ => T.fn_cxA (hF base)⟩

