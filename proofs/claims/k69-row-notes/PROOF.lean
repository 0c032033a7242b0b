import PyProof.Rows.All
import Wide.All
import OpenK.AllK
import Wide.FinOn
import HandS.ForMost
import HandS.ForExc
import HandS.Defaults
import HandS.HeadHook1
import HandS.ExcInit
import HandS.ExcCtx
import HandS.TupAny
import HandS.Deep
import HandS.IsInst
import HandS.Flt
import HandS.Rev
import HandS.Zip
import HandS.CallSlots
import HandS.HeadHook2
import HandS.Property
import HandS.ExcField
import HandS.HotCalls
import HandS.ExcInitHot
import KE.KExcIs
import HandS.FStr
import HandS.Style
import HandS.SlotsOwn
import HandS.HeadHook3
import HandS.Head0
import HandS.Head1
import HandS.Head2
import HandS.HeadEnd
import HandS.WordsExc
import HandS.Text
import KE.IntTextLaws
import PySem.Challenge.RW_rimcords_k69_row_notes
set_option Elab.async false
set_option linter.all false
set_option maxRecDepth 100000
set_option maxHeartbeats 1000000
/-! T0: deep data D, how a value shows it (Rep), slots that own a list (Own), the state of a body (Rel), what an expression and a statement come to (O, SO). -/
namespace T
open PySem L2

/-! ### data -/
inductive D where
  | non | bl (b : Bool) | int (i : Int) | str (s : Str)
  | tup (xs : List D) | lst (xs : List D) | scr (ns : List Int)
  | ins (c : Str) (fs : List (Str × D))
  | exc (c : Str) (fs : List (Str × D))
  | exv (c : Str) (fs : List (Str × D))
  | dct (kvs : List (D × D))
  | set (xs : List D)

mutual
/-- the value v shows the datum d in the heap H -/
inductive Rep (K : PySem.W.Frag) (H : Hp) : D → V → Prop
  | non : Rep K H .non .non
  | bl (b : Bool) : Rep K H (.bl b) (.bl b)
  | int (i : Int) : Rep K H (.int i) (.int i)
  | str (s : Str) : Rep K H (.str s) (.str s)
  | tup {a : Addr} {ds : List D} {vs : List V} : SqT K H a vs → Reps K H ds vs → Rep K H (.tup ds) (.ref a)
  | lst {a : Addr} {ds : List D} {vs : List V} : H a = some (.lst vs) → Reps K H ds vs → Rep K H (.lst ds) (.ref a)
  | scr {a : Addr} {ns : List Int} : SqL K H a (ns.map V.int) → Rep K H (.scr ns) (.ref a)
  | ins {c : Str} {a dx : Addr} {fs : List (Str × D)} {vfs : List (Str × V)} : H a = some (.ins (He.ga K c) dx vfs) → FReps K H fs vfs → Rep K H (.ins c fs) (.ref a)
  | exc {c : Str} {a : Addr} {fs : List (Str × D)} : Rep K H (.exc c fs) (.ref a)
  | exv {c : Str} {a dx : Addr} {fs : List (Str × D)} {vfs : List (Str × V)} : H a = some (exo a (He.ga K c) (some dx)) → H dx = some (exd dx vfs) → FReps K H fs vfs → Rep K H (.exv c fs) (.ref a)
inductive Reps (K : PySem.W.Frag) (H : Hp) : List D → List V → Prop
  | nil : Reps K H [] []
  | cons {d : D} {v : V} {ds : List D} {vs : List V} : Rep K H d v → Reps K H ds vs → Reps K H (d :: ds) (v :: vs)
inductive FReps (K : PySem.W.Frag) (H : Hp) : List (Str × D) → List (Str × V) → Prop
  | nil : FReps K H [] []
  | cons {x : Str} {d : D} {v : V} {ds : List (Str × D)} {vs : List (Str × V)} : Rep K H d v → FReps K H ds vs → FReps K H ((x, d) :: ds) ((x, v) :: vs)
end

/-- what H knows stands in H' as well -/
def Ext (H H' : Hp) : Prop := ∀ a o, H a = some o → H' a = some o
theorem Ext.refl (H : Hp) : Ext H H := fun _ _ h => h
theorem Ext.trans {H H1 H2 : Hp} (a : Ext H H1) (b : Ext H1 H2) : Ext H H2 := fun x o h => b x o (a x o h)
theorem Ext.new {H : Hp} {p : Addr} {o : HO} (h : H p = none) : Ext H (upd H p o) := fun a u e => by
  rw [upd_ne (ne_of_none e h)]; exact e
theorem Ext.none {H H' : Hp} (e : Ext H H') {p : Addr} (h : H' p = none) : H p = none := by
  cases q : H p with
  | none => rfl
  | some o => rw [e p o q] at h; cases h
theorem Ext.sql {K : PySem.W.Frag} {H H' : Hp} {a : Addr} {xs : List V} (e : Ext H H') (h : SqL K H a xs) : SqL K H' a xs := by
  rcases h with (h | ⟨o, h⟩) | h
  · exact .inl (.inl (e _ _ h))
  · exact .inl (.inr ⟨o, e _ _ h⟩)
  · exact .inr h
theorem Ext.sqt {K : PySem.W.Frag} {H H' : Hp} {a : Addr} {xs : List V} (e : Ext H H') (h : SqT K H a xs) : SqT K H' a xs := by
  rcases h with (h | ⟨o, h⟩) | h
  · exact .inl (.inl (e _ _ h))
  · exact .inl (.inr ⟨o, e _ _ h⟩)
  · exact .inr h
section
variable {K : PySem.W.Frag} {H H' : Hp}
mutual
theorem Rep.mono {d : D} {v : V} (e : Ext H H') : Rep K H d v → Rep K H' d v
  | .non => .non
  | .bl b => .bl b
  | .int i => .int i
  | .str s => .str s
  | .tup h r => .tup (e.sqt h) (Reps.mono e r)
  | .lst h r => .lst (e _ _ h) (Reps.mono e r)
  | .scr h => .scr (e.sql h)
  | .ins h r => .ins (e _ _ h) (FReps.mono e r)
  | .exc => .exc
  | .exv h h2 r => .exv (e _ _ h) (e _ _ h2) (FReps.mono e r)
theorem Reps.mono {ds : List D} {vs : List V} (e : Ext H H') : Reps K H ds vs → Reps K H' ds vs
  | .nil => .nil
  | .cons a b => .cons (Rep.mono e a) (Reps.mono e b)
theorem FReps.mono {ds : List (Str × D)} {vs : List (Str × V)} (e : Ext H H') : FReps K H ds vs → FReps K H' ds vs
  | .nil => .nil
  | .cons a b => .cons (Rep.mono e a) (FReps.mono e b)
end
theorem Reps.length {ds : List D} {vs : List V} : Reps K H ds vs → ds.length = vs.length
  | .nil => rfl
  | .cons _ b => by simp [Reps.length b]
theorem Reps.get {ds : List D} {vs : List V} {i : Nat} {d : D} : Reps K H ds vs → ds[i]? = some d → ∃ v, vs[i]? = some v ∧ Rep K H d v
  | .nil, e => by simp at e
  | .cons a b, e => by
    cases i with
    | zero => simp at e; subst e; exact ⟨_, rfl, a⟩
    | succ i =>
      obtain ⟨v, h1, h2⟩ := Reps.get (i := i) b (by simpa using e)
      exact ⟨v, by simpa using h1, h2⟩
theorem Reps.getV {ds : List D} {vs : List V} {i : Nat} {v : V} : Reps K H ds vs → vs[i]? = some v → ∃ d, ds[i]? = some d ∧ Rep K H d v
  | .nil, e => by simp at e
  | .cons a b, e => by
    cases i with
    | zero => simp at e; subst e; exact ⟨_, rfl, a⟩
    | succ i =>
      obtain ⟨v, h1, h2⟩ := Reps.getV (i := i) b (by simpa using e)
      exact ⟨v, by simpa using h1, h2⟩
theorem Reps.append {ds es : List D} {vs us : List V} : Reps K H ds vs → Reps K H es us → Reps K H (ds ++ es) (vs ++ us)
  | .nil, h => h
  | .cons a b, h => .cons a (Reps.append b h)
theorem Reps.take {ds : List D} {vs : List V} : ∀ n : Nat, Reps K H ds vs → Reps K H (ds.take n) (vs.take n)
  | 0, _ => .nil
  | _ + 1, .nil => .nil
  | n + 1, .cons a b => .cons a (Reps.take n b)
theorem Reps.drop {ds : List D} {vs : List V} : ∀ n : Nat, Reps K H ds vs → Reps K H (ds.drop n) (vs.drop n)
  | 0, h => h
  | _ + 1, .nil => .nil
  | n + 1, .cons _ b => Reps.drop n b
theorem Reps.set {d : D} {v : V} (r : Rep K H d v) {ds : List D} {vs : List V} : ∀ n : Nat, Reps K H ds vs → Reps K H (ds.set n d) (vs.set n v)
  | _, .nil => .nil
  | 0, .cons _ b => .cons r b
  | n + 1, .cons a b => .cons a (Reps.set r n b)
theorem Reps.eraseIdx {ds : List D} {vs : List V} : ∀ n : Nat, Reps K H ds vs → Reps K H (ds.eraseIdx n) (vs.eraseIdx n)
  | _, .nil => .nil
  | 0, .cons _ b => b
  | n + 1, .cons a b => .cons a (Reps.eraseIdx n b)
theorem Reps.reverse {ds : List D} {vs : List V} (h : Reps K H ds vs) : Reps K H ds.reverse vs.reverse := by
  induction ds generalizing vs with
  | nil => cases h; exact .nil
  | cons d ds ih =>
    cases h with
    | cons a b => rw [List.reverse_cons, List.reverse_cons]; exact (ih b).append (.cons a .nil)
theorem Reps.rep {ds : List D} {vs : List V} (h : Reps K H ds vs) : ∀ k : Nat, Reps K H (List.replicate k ds).flatten (List.replicate k vs).flatten
  | 0 => .nil
  | k + 1 => by
    rw [List.replicate_succ, List.replicate_succ, List.flatten_cons, List.flatten_cons]
    exact h.append (Reps.rep h k)
theorem Reps.ints {ns : List Int} {vs : List V} : Reps K H (ns.map D.int) vs → vs = ns.map V.int := by
  induction ns generalizing vs with
  | nil => intro h; cases h; rfl
  | cons n ns ih =>
    intro h
    cases h with
    | cons a b => cases a; rw [ih b]; rfl
theorem Reps.ofInts : ∀ ns : List Int, Reps K H (ns.map D.int) (ns.map V.int)
  | [] => .nil
  | n :: ns => .cons (.int n) (Reps.ofInts ns)
theorem Reps.strs {ns : List Str} {vs : List V} : Reps K H (ns.map D.str) vs → vs = ns.map V.str := by
  induction ns generalizing vs with
  | nil => intro h; cases h; rfl
  | cons n ns ih =>
    intro h
    cases h with
    | cons a b => cases a; rw [ih b]; rfl
theorem Reps.ofStrs : ∀ ns : List Str, Reps K H (ns.map D.str) (ns.map V.str)
  | [] => .nil
  | n :: ns => .cons (.str n) (Reps.ofStrs ns)
theorem FReps.get {ds : List (Str × D)} {vs : List (Str × V)} {x : Str} {d : D} : FReps K H ds vs → ds.lookup x = some d → ∃ v, vs.lookup x = some v ∧ Rep K H d v
  | .nil, e => by simp at e
  | .cons (x := y) a b, e => by
    rw [List.lookup_cons] at e ⊢
    cases q : (x == y) with
    | true => rw [q] at e; cases e; exact ⟨_, rfl, a⟩
    | false => rw [q] at e; exact FReps.get b e
theorem FReps.names {ds : List (Str × D)} {vs : List (Str × V)} : FReps K H ds vs → ds.map (·.1) = vs.map (·.1)
  | .nil => rfl
  | .cons _ b => by simp [FReps.names b]
theorem FReps.lookup_none {ds : List (Str × D)} {vs : List (Str × V)} {x : Str} : FReps K H ds vs → ds.lookup x = none → vs.lookup x = none
  | .nil, _ => rfl
  | .cons (x := y) a b, e => by
    rw [List.lookup_cons] at e ⊢
    cases q : (x == y) with
    | true => rw [q] at e; cases e
    | false => rw [q] at e; exact FReps.lookup_none b e
end

/-! ### owning -/
inductive All3 {α β γ : Type} (R : α → β → γ → Prop) : List α → List β → List γ → Prop
  | nil : All3 R [] [] []
  | cons {a : α} {b : β} {c : γ} {as : List α} {bs : List β} {cs : List γ} : R a b c → All3 R as bs cs → All3 R (a :: as) (b :: bs) (c :: cs)
theorem All3.imp {α β γ : Type} {R S : α → β → γ → Prop} : ∀ {as : List α} {bs : List β} {cs : List γ}, All3 R as bs cs → (∀ a b c, c ∈ cs → R a b c → S a b c) → All3 S as bs cs
  | _, _, _, .nil, _ => .nil
  | _, _, _, .cons r t, f => .cons (f _ _ _ (List.mem_cons_self) r) (All3.imp t fun a b c hc => f a b c (List.mem_cons_of_mem _ hc))

/-- an exception: its class and its fields, its own dict's address -/
def XRep (K : PySem.W.Frag) (Hs : Hp) (c : Str) (fs : List (Str × D)) (cls : Value) (dx : Option Addr) : Prop :=
  cls = .ref (He.ga K c) ∧ ((fs = [] ∧ dx = none) ∨ ∃ d vfs, dx = some d ∧ Hs d = some (.xd vfs) ∧ FReps K Hs fs vfs)
theorem XRep.mono {K : PySem.W.Frag} {Hs Hs' : Hp} {c : Str} {fs : List (Str × D)} {cls : Value} {dx : Option Addr} (e : Ext Hs Hs') (h : XRep K Hs c fs cls dx) : XRep K Hs' c fs cls dx :=
  ⟨h.1, h.2.imp (fun z => z) fun ⟨d, vfs, h1, h2, h3⟩ => ⟨d, vfs, h1, e _ _ h2, h3.mono e⟩⟩
/-- how a slot holds its datum: shared; a list of its own, its items held so; an instance of its own (self in __init__); the error that an except clause has caught -/
inductive Kd where
  | sh | ls (k : Kd) | slf (a : Addr) | exc (a : Addr) (dx : Option Addr) (C : Addr)
  deriving DecidableEq

/-- v holds d: Hs is what is shared, F the addresses that are owned -/
def Own (K : PySem.W.Frag) : Kd → Hp → Hp → D → V → List Addr → Prop
  | .sh, _, Hs, d, v, F => Rep K Hs d v ∧ F = []
  | .ls k, H, Hs, d, v, F => ∃ a ds vs Fs, v = .ref a ∧ d = .lst ds ∧ H a = some (.lst vs) ∧ F = a :: Fs.flatten ∧ All3 (Own K k H Hs) ds vs Fs
  | .slf a, H, Hs, d, v, F => ∃ c dx fs vfs, v = .ref a ∧ d = .ins c fs ∧ H a = some (.ins (He.ga K c) dx vfs) ∧ F = [a] ∧ FReps K Hs fs vfs
  | .exc a dx C, _, Hs, d, v, F => v = .ref a ∧ F = [] ∧ ∃ c fs, d = .exc c fs ∧ XRep K Hs c fs (.ref C) dx
theorem Own.mono {K : PySem.W.Frag} {H H' Hs Hs' : Hp} (es : Ext Hs Hs') : ∀ {k : Kd} {d : D} {v : V} {F : List Addr}, (∀ a ∈ F, H' a = H a) → Own K k H Hs d v F → Own K k H' Hs' d v F
  | .sh, _, _, _, _, h => ⟨h.1.mono es, h.2⟩
  | .ls k, d, v, F, hf, h => by
    obtain ⟨a, ds, vs, Fs, rfl, rfl, ha, rfl, r⟩ := h
    refine ⟨a, ds, vs, Fs, rfl, rfl, ?_, rfl, r.imp fun d v G hG q => Own.mono es (fun b hb => hf b (List.mem_cons_of_mem _ (List.mem_flatten.mpr ⟨G, hG, hb⟩))) q⟩
    rw [hf a List.mem_cons_self]; exact ha
  | .slf a, d, v, F, hf, h => by
    obtain ⟨c, dx, fs, vfs, rfl, rfl, ha, rfl, r⟩ := h
    exact ⟨c, dx, fs, vfs, rfl, rfl, by rw [hf a List.mem_cons_self]; exact ha, rfl, r.mono es⟩
  | .exc a dx C, d, v, F, hf, h => by
    obtain ⟨h1, h2, c, fs, h3, h4⟩ := h
    exact ⟨h1, h2, c, fs, h3, h4.mono es⟩

/-- both heaps have grown: all, and the shared part -/
structure Grow (H Hs H' Hs' : Hp) : Prop where
  ex : Ext H H'
  exs : Ext Hs Hs'
  sub : Ext Hs' H'
  fr : ∀ a o, Hs' a = some o → Hs a = none → H a = none
theorem Grow.refl {H Hs : Hp} (h : Ext Hs H) : Grow H Hs H Hs := ⟨.refl _, .refl _, h, fun a o e n => by rw [n] at e; cases e⟩
theorem Grow.trans {H Hs H1 Hs1 H2 Hs2 : Hp} (a : Grow H Hs H1 Hs1) (b : Grow H1 Hs1 H2 Hs2) : Grow H Hs H2 Hs2 :=
  ⟨a.ex.trans b.ex, a.exs.trans b.exs, b.sub, fun x o e n => by
    cases q : Hs1 x with
    | none => exact a.ex.none (b.fr x o e q)
    | some u => exact a.fr x u q n⟩
theorem Grow.new {H Hs : Hp} {p : Addr} {o : HO} (h : Ext Hs H) (hp : H p = none) : Grow H Hs (upd H p o) (upd Hs p o) := by
  refine ⟨.new hp, .new (h.none hp), fun a u e => ?_, fun a u e n => ?_⟩
  · by_cases q : a = p
    · subst q; rw [upd_same] at e ⊢; exact e
    · rw [upd_ne q] at e ⊢; exact h a u e
  · by_cases q : a = p
    · subst q; exact hp
    · rw [upd_ne q] at e; rw [n] at e; cases e
/-- a new object that is not shared yet -/
theorem Grow.newOwn {H Hs : Hp} {p : Addr} {o : HO} (h : Ext Hs H) (hp : H p = none) : Grow H Hs (upd H p o) Hs :=
  ⟨.new hp, .refl _, h.trans (.new hp), fun a u e n => by rw [n] at e; cases e⟩
/-- it is shared now -/
def join (Hs H : Hp) (F : List Addr) : Hp := fun a => if a ∈ F then H a else Hs a
theorem join_in {Hs H : Hp} {F : List Addr} {a : Addr} (h : a ∈ F) : join Hs H F a = H a := by unfold join; rw [if_pos h]
theorem join_out {Hs H : Hp} {F : List Addr} {a : Addr} (h : a ∉ F) : join Hs H F a = Hs a := by unfold join; rw [if_neg h]
theorem join_sub {Hs H : Hp} {F : List Addr} (h : Ext Hs H) : Ext (join Hs H F) H := fun a o e => by
  by_cases q : a ∈ F
  · rw [join_in q] at e; exact e
  · rw [join_out q] at e; exact h a o e
theorem join_ext {Hs H : Hp} {F : List Addr} (h : Ext Hs H) : Ext Hs (join Hs H F) := fun a o e => by
  by_cases q : a ∈ F
  · rw [join_in q]; exact h a o e
  · rw [join_out q]; exact e
theorem Own.share {K : PySem.W.Frag} {H Hs : Hp} (sub : Ext Hs H) : ∀ {k : Kd} {d : D} {v : V} {F G : List Addr}, (∀ a ∈ F, a ∈ G) → Own K k H Hs d v F → Rep K (join Hs H G) d v
  | .sh, _, _, _, _, _, h => h.1.mono (join_ext sub)
  | .ls k, d, v, F, G, hf, h => by
    obtain ⟨a, ds, vs, Fs, rfl, rfl, ha, rfl, r⟩ := h
    refine .lst (vs := vs) ?_ ?_
    · rw [join_in (hf a List.mem_cons_self)]; exact ha
    · have hf' : ∀ F ∈ Fs, ∀ a ∈ F, a ∈ G := fun F hF a ha => hf a (List.mem_cons_of_mem _ (List.mem_flatten.mpr ⟨F, hF, ha⟩))
      clear ha hf
      induction r with
      | nil => exact .nil
      | cons q _ ih => exact .cons (Own.share sub (hf' _ List.mem_cons_self) q) (ih fun F hF => hf' F (List.mem_cons_of_mem _ hF))
  | .slf a, d, v, F, G, hf, h => by
    obtain ⟨c, dx, fs, vfs, rfl, rfl, ha, rfl, r⟩ := h
    exact .ins (vfs := vfs) (dx := dx) (by rw [join_in (hf a List.mem_cons_self)]; exact ha) (r.mono (join_ext sub))
  | .exc a dx C, d, v, F, G, hf, h => by
    obtain ⟨rfl, h2, c, fs, rfl, h4⟩ := h
    exact .exc
theorem Own.ext {K : PySem.W.Frag} {H H' Hs Hs' : Hp} (g : Ext H H') (es : Ext Hs Hs') {k : Kd} {d : D} {v : V} {F : List Addr} (al : ∀ a ∈ F, H a ≠ none) (h : Own K k H Hs d v F) : Own K k H' Hs' d v F :=
  h.mono es fun a ha => by
    cases q : H a with
    | none => exact absurd q (al a ha)
    | some o => exact g a o q

/-- a result: v holds d behind a growth of the heaps -/
def Res (K : PySem.W.Frag) (r : Kd) (d : D) (v : V) (H Hs H' : Hp) : Prop :=
  ∃ Hs' G, Grow H Hs H' Hs' ∧ G.Nodup ∧ (∀ a ∈ G, H a = none ∧ Hs' a = none ∧ H' a ≠ none) ∧ Own K r H' Hs' d v G
theorem Res.sh {K : PySem.W.Frag} {d : D} {v : V} {H Hs H' Hs' : Hp} (g : Grow H Hs H' Hs') (r : Rep K Hs' d v) : Res K .sh d v H Hs H' :=
  ⟨Hs', [], g, List.nodup_nil, (fun _ h => by cases h), ⟨r, rfl⟩⟩
theorem Res.out {K : PySem.W.Frag} {d : D} {v : V} {H Hs H' : Hp} (r : Res K .sh d v H Hs H') : ∃ Hs', Grow H Hs H' Hs' ∧ Rep K Hs' d v := by
  obtain ⟨Hs', G, g, _, _, h, _⟩ := r
  exact ⟨Hs', g, h⟩
theorem Res.share {K : PySem.W.Frag} {k : Kd} {d : D} {v : V} {H Hs H' : Hp} (r : Res K k d v H Hs H') : Res K .sh d v H Hs H' := by
  obtain ⟨Hs', G, g, nd, fr, h⟩ := r
  refine .sh (Hs' := join Hs' H' G) ⟨g.ex, g.exs.trans (join_ext g.sub), join_sub g.sub, fun a o e n => ?_⟩ (h.share g.sub fun _ h => h)
  by_cases q : a ∈ G
  · exact (fr a q).1
  · rw [join_out q] at e; exact g.fr a o e n
theorem Res.pre {K : PySem.W.Frag} {k : Kd} {d : D} {v : V} {H Hs H1 Hs1 H' : Hp} (g : Grow H Hs H1 Hs1) (r : Res K k d v H1 Hs1 H') : Res K k d v H Hs H' := by
  obtain ⟨Hs', G, g', nd, fr, h⟩ := r
  exact ⟨Hs', G, g.trans g', nd, fun a ha => ⟨g.ex.none (fr a ha).1, (fr a ha).2⟩, h⟩

/-! ### the state of a body -/
abbrev Env := List (Option D)
abbrev Foot := Nat → List Addr
def kAt (κ : List Kd) (i : Nat) : Kd := κ.getD i .sh
/-- H0, Hs0: the heaps at the def's entry; S: what the def may change of them -/
structure Rel (K : PySem.W.Frag) (S : List Addr) (H0 Hs0 : Hp) (κ : List Kd) (ρ : Env) (σ : L2.St) (H Hs : Hp) (F : Foot) : Prop where
  len : ρ.length = σ.length
  sl : ∀ i d, ρ[i]? = some (some d) → ∃ v, σ[i]? = some (some v) ∧ Own K (kAt κ i) H Hs d v (F i)
  nd : ∀ i, (F i).Nodup
  dj : ∀ i j a, a ∈ F i → a ∈ F j → i = j
  al : ∀ i a, a ∈ F i → H a ≠ none ∧ Hs a = none
  fr : ∀ i a, a ∈ F i → Hs0 a = none ∧ (H0 a = none ∨ (a ∈ S ∧ i = 0))
  g : Ext Hs0 Hs
  sub : Ext Hs H
  old : ∀ a o, H0 a = some o → a ∉ S → H a = some o
  st : ∀ a, H0 a ≠ none → H a ≠ none
  new : ∀ a o, Hs a = some o → Hs0 a = none → H0 a = none

section
variable {K : PySem.W.Frag} {S : List Addr} {H0 Hs0 : Hp} {κ : List Kd} {ρ : Env} {σ : L2.St} {H Hs H' Hs' : Hp} {F : Foot}
theorem Rel.grow (R : Rel K S H0 Hs0 κ ρ σ H Hs F) (g : Grow H Hs H' Hs') : Rel K S H0 Hs0 κ ρ σ H' Hs' F where
  len := R.len
  sl := fun i d e => by
    obtain ⟨v, h1, h2⟩ := R.sl i d e
    exact ⟨v, h1, h2.ext g.ex g.exs fun a ha => (R.al i a ha).1⟩
  nd := R.nd
  dj := R.dj
  al := fun i a ha => by
    obtain ⟨h1, h2⟩ := R.al i a ha
    refine ⟨fun e => h1 (g.ex.none e), ?_⟩
    cases q : Hs' a with
    | none => rfl
    | some o => exact absurd (g.fr a o q h2) h1
  fr := R.fr
  g := R.g.trans g.exs
  sub := g.sub
  old := fun a o e h => g.ex a o (R.old a o e h)
  st := fun a h e => R.st a h (g.ex.none e)
  new := fun a o e n => by
    cases q : Hs a with
    | none =>
      have z := g.fr a o e q
      cases y : H0 a with
      | none => rfl
      | some u => exact absurd z (R.st a (by rw [y]; simp))
    | some u => exact R.new a u q n
/-- from the entry (nothing may be changed) -/
theorem Rel.all (R : Rel K [] H0 Hs0 κ ρ σ H Hs F) : Grow H0 Hs0 H Hs := ⟨fun a o e => R.old a o e (List.not_mem_nil), R.g, R.sub, fun a o e n => R.new a o e n⟩
def setF (F : Foot) (i : Nat) (G : List Addr) : Foot := fun j => if j = i then G else F j
theorem setF_same {i : Nat} {G : List Addr} : setF F i G i = G := by unfold setF; rw [if_pos rfl]
theorem setF_ne {i j : Nat} {G : List Addr} (h : j ≠ i) : setF F i G j = F j := by unfold setF; rw [if_neg h]
theorem kAt_set_same {i : Nat} {k : Kd} (h : i < κ.length) : kAt (κ.set i k) i = k := by
  unfold kAt; rw [List.getD_eq_getElem?_getD, List.getElem?_set_self h]; rfl
theorem kAt_set_ne {i j : Nat} {k : Kd} (h : j ≠ i) : kAt (κ.set i k) j = kAt κ j := by
  unfold kAt; rw [List.getD_eq_getElem?_getD, List.getD_eq_getElem?_getD, List.getElem?_set_ne (Ne.symm h)]
/-- a slot gets a result -/
theorem Rel.put (R : Rel K S H0 Hs0 κ ρ σ H Hs F) {i : Nat} {r : Kd} {d : D} {v : V} (hi : i < κ.length) (q : Res K r d v H Hs H') : ∃ Hs' F', Rel K S H0 Hs0 (κ.set i r) (ρ.set i (some d)) (σ.set i (some v)) H' Hs' F' ∧ Ext Hs Hs' := by
  obtain ⟨Hs', G, g, nd, fr, ow⟩ := q
  have R' := R.grow g
  have off : ∀ j a, a ∈ G → a ∉ F j := fun j a ha hj => (R.al j a hj).1 (fr a ha).1
  refine ⟨Hs', setF F i G, ⟨by rw [List.length_set, List.length_set]; exact R'.len, fun j e h => ?_, fun j => ?_, fun j l a h1 h2 => ?_, fun j a ha => ?_, fun j a ha => ?_, R'.g, R'.sub, R'.old, R'.st, R'.new⟩, g.exs⟩
  · by_cases hj : j = i
    · subst hj
      have hl : j < ρ.length := by
        cases Nat.lt_or_ge j ρ.length with
        | inl z => exact z
        | inr z => rw [List.getElem?_eq_none (by rw [List.length_set]; exact z)] at h; cases h
      rw [List.getElem?_set_self hl] at h
      cases h
      exact ⟨v, List.getElem?_set_self (R.len ▸ hl), by rw [kAt_set_same hi, setF_same]; exact ow⟩
    · rw [List.getElem?_set_ne (Ne.symm hj)] at h
      obtain ⟨u, h1, h2⟩ := R'.sl j e h
      exact ⟨u, by rw [List.getElem?_set_ne (Ne.symm hj)]; exact h1, by rw [kAt_set_ne hj, setF_ne hj]; exact h2⟩
  · by_cases hj : j = i
    · subst hj; rw [setF_same]; exact nd
    · rw [setF_ne hj]; exact R.nd j
  · by_cases hj : j = i
    · by_cases hl : l = i
      · rw [hj, hl]
      · subst hj; rw [setF_same] at h1; rw [setF_ne hl] at h2; exact absurd h2 (off l a h1)
    · by_cases hl : l = i
      · subst hl; rw [setF_same] at h2; rw [setF_ne hj] at h1; exact absurd h1 (off j a h2)
      · rw [setF_ne hj] at h1; rw [setF_ne hl] at h2; exact R.dj j l a h1 h2
  · by_cases hj : j = i
    · subst hj; rw [setF_same] at ha; exact ⟨(fr a ha).2.2, (fr a ha).2.1⟩
    · rw [setF_ne hj] at ha; exact R'.al j a ha
  · by_cases hj : j = i
    · subst hj
      rw [setF_same] at ha
      have hn := (fr a ha).1
      refine ⟨R.g.none (R.sub.none hn), .inl ?_⟩
      cases y : H0 a with
      | none => rfl
      | some u => exact absurd hn (R.st a (by rw [y]; simp))
    · rw [setF_ne hj] at ha; exact R.fr j a ha
/-- a slot's datum, shared for good -/
theorem Rel.freeze (R : Rel K S H0 Hs0 κ ρ σ H Hs F) {i : Nat} {d : D} (hs : S = [] ∨ i ≠ 0) (hi : i < κ.length) (hd : ρ[i]? = some (some d)) : ∃ Hs' F', Rel K S H0 Hs0 (κ.set i .sh) ρ σ H Hs' F' ∧ Ext Hs Hs' := by
  obtain ⟨v, hv, ow⟩ := R.sl i d hd
  have sh := ow.share R.sub (G := F i) fun _ h => h
  have ex := join_ext (F := F i) R.sub
  refine ⟨join Hs H (F i), setF F i [], ⟨R.len, fun j e h => ?_, fun j => ?_, fun j l a h1 h2 => ?_, fun j a ha => ?_, fun j a ha => ?_, R.g.trans ex, join_sub R.sub, R.old, R.st, fun a o e n => ?_⟩, ex⟩
  · by_cases hj : j = i
    · subst hj
      rw [hd] at h
      cases h
      exact ⟨v, hv, by rw [kAt_set_same hi, setF_same]; exact ⟨sh, rfl⟩⟩
    · obtain ⟨u, h1, h2⟩ := R.sl j e h
      exact ⟨u, h1, by rw [kAt_set_ne hj, setF_ne hj]; exact h2.mono ex fun _ _ => rfl⟩
  · by_cases hj : j = i
    · subst hj; rw [setF_same]; exact List.nodup_nil
    · rw [setF_ne hj]; exact R.nd j
  · by_cases hj : j = i
    · subst hj; rw [setF_same] at h1; cases h1
    · by_cases hl : l = i
      · subst hl; rw [setF_same] at h2; cases h2
      · rw [setF_ne hj] at h1; rw [setF_ne hl] at h2; exact R.dj j l a h1 h2
  · by_cases hj : j = i
    · subst hj; rw [setF_same] at ha; cases ha
    · rw [setF_ne hj] at ha
      refine ⟨(R.al j a ha).1, ?_⟩
      rw [join_out fun z => hj (R.dj j i a ha z)]
      exact (R.al j a ha).2
  · by_cases hj : j = i
    · subst hj; rw [setF_same] at ha; cases ha
    · rw [setF_ne hj] at ha; exact R.fr j a ha
  · by_cases q : a ∈ F i
    · rcases (R.fr i a q).2 with z | z
      · exact z
      · rcases hs with h | h
        · rw [h] at z; exact nomatch z.1
        · exact absurd z.2 h
    · rw [join_out q] at e; exact R.new a o e n
/-- an owned list in a slot changes its items -/
theorem Rel.mut (R : Rel K S H0 Hs0 κ ρ σ H Hs F) {i : Nat} {k : Kd} {d d' : D} {v : V} {G : List Addr} (hd : ρ[i]? = some (some d)) (hv : σ[i]? = some (some v)) (hH : ∀ a, a ∉ F i → a ∉ G → H' a = H a) (hex : Ext Hs H')
    (hal : ∀ a, H a ≠ none → H' a ≠ none) (nd : G.Nodup) (fr : ∀ a ∈ G, a ∈ F i ∨ (H a = none ∧ H' a ≠ none)) (ow : Own K (kAt κ i) H' Hs d' v G) :
    ∃ F', Rel K S H0 Hs0 κ (ρ.set i (some d')) σ H' Hs F' := by
  have off : ∀ j a, j ≠ i → a ∈ F j → a ∉ F i ∧ a ∉ G := fun j a hj ha => by
    have h1 : a ∉ F i := fun z => hj (R.dj j i a ha z)
    refine ⟨h1, fun z => ?_⟩
    rcases fr a z with y | y
    · exact h1 y
    · exact (R.al j a ha).1 y.1
  have hGs : ∀ a ∈ G, Hs a = none := fun a ha => by
    rcases fr a ha with y | y
    · exact (R.al i a y).2
    · exact R.sub.none y.1
  refine ⟨setF F i G, ⟨by rw [List.length_set]; exact R.len, fun j e h => ?_, fun j => ?_, fun j l a h1 h2 => ?_, fun j a ha => ?_, fun j a ha => ?_, R.g, hex, fun a o e hs => ?_, fun a h => hal a (R.st a h), R.new⟩⟩
  · by_cases hj : j = i
    · subst hj
      rw [List.getElem?_set_self (List.getElem?_eq_some_iff.mp hd).1] at h
      cases h
      exact ⟨v, hv, by rw [setF_same]; exact ow⟩
    · rw [List.getElem?_set_ne (Ne.symm hj)] at h
      obtain ⟨u, h1, h2⟩ := R.sl j e h
      exact ⟨u, h1, by rw [setF_ne hj]; exact h2.mono (.refl _) fun a ha => hH a (off j a hj ha).1 (off j a hj ha).2⟩
  · by_cases hj : j = i
    · subst hj; rw [setF_same]; exact nd
    · rw [setF_ne hj]; exact R.nd j
  · by_cases hj : j = i
    · by_cases hl : l = i
      · rw [hj, hl]
      · subst hj; rw [setF_same] at h1; rw [setF_ne hl] at h2; exact absurd h1 (off l a hl h2).2
    · by_cases hl : l = i
      · subst hl; rw [setF_same] at h2; rw [setF_ne hj] at h1; exact absurd h2 (off j a hj h1).2
      · rw [setF_ne hj] at h1; rw [setF_ne hl] at h2; exact R.dj j l a h1 h2
  · by_cases hj : j = i
    · subst hj; rw [setF_same] at ha
      refine ⟨?_, hGs a ha⟩
      rcases fr a ha with y | y
      · exact hal a (R.al j a y).1
      · exact y.2
    · rw [setF_ne hj] at ha; exact ⟨hal a (R.al j a ha).1, (R.al j a ha).2⟩
  · by_cases hj : j = i
    · subst hj; rw [setF_same] at ha
      rcases fr a ha with y | y
      · exact R.fr j a y
      · refine ⟨R.g.none (R.sub.none y.1), .inl ?_⟩
        cases z : H0 a with
        | none => rfl
        | some u => exact absurd y.1 (R.st a (by rw [z]; simp))
    · rw [setF_ne hj] at ha; exact R.fr j a ha
  · have h1 := R.old a o e hs
    rw [hH a (fun z => ?_) (fun z => ?_)]
    · exact h1
    · rcases (R.fr i a z).2 with y | y
      · rw [e] at y; cases y
      · exact hs y.1
    · rcases fr a z with y | y
      · rcases (R.fr i a y).2 with x | x
        · rw [e] at x; cases x
        · exact hs x.1
      · rw [h1] at y; cases y.1
end

/-! ### outcomes -/
inductive O (α : Type) where
  | stuck | ok (a : α) | exc (c : Str) (fs : List (Str × D))
def O.bind {α β : Type} (x : O α) (f : α → O β) : O β := match x with
  | .stuck => .stuck
  | .ok a => f a
  | .exc c fs => .exc c fs
instance : Monad O where
  pure := .ok
  bind := O.bind
def XRes (K : PySem.W.Frag) (c : Str) (fs : List (Str × D)) (cls : Value) (dx : Option Addr) (H Hs H' : Hp) : Prop := ∃ Hs', Grow H Hs H' Hs' ∧ XRep K Hs' c fs cls dx

/-- what is wanted behind an expression that comes to o -/
def EPost (K : PySem.W.Frag) (W : WX) (r : Kd) (σ : L2.St) (H Hs : Hp) (Q : VK) : O D → Prop
  | .stuck => False
  | .ok d => ∀ v H', Res K r d v H Hs H' → Q v H'
  | .exc c fs => ∀ cls dx H', XRes K c fs cls dx H Hs H' → W cls dx σ H'
def tE (K : PySem.W.Frag) (W : WX) (κ : List Kd) (r : Kd) (f : Env → O D) : TE := fun σ H Q =>
  ∃ S H0 Hs0 ρ Hs F, Rel K S H0 Hs0 κ ρ σ H Hs F ∧ EPost K W r σ H Hs Q (f ρ)
/-- the expression e comes to f of the slots -/
abbrev CE (X : Cx) (W : WX) (κ : List Kd) (r : Kd) (e : Expr) (f : Env → O D) : Prop := PE X e (tE X.K W κ r f)
def APost (K : PySem.W.Frag) (W : WX) (σ : L2.St) (H Hs : Hp) (Q : List V → Hp → Prop) : O (List D) → Prop
  | .stuck => False
  | .ok ds => ∀ vs H' Hs', Grow H Hs H' Hs' → Reps K Hs' ds vs → Q vs H'
  | .exc c fs => ∀ cls dx H', XRes K c fs cls dx H Hs H' → W cls dx σ H'
def tA (K : PySem.W.Frag) (W : WX) (κ : List Kd) (f : Env → O (List D)) : TA := fun σ H Q =>
  ∃ S H0 Hs0 ρ Hs F, Rel K S H0 Hs0 κ ρ σ H Hs F ∧ APost K W σ H Hs Q (f ρ)
abbrev CA (X : Cx) (W : WX) (κ : List Kd) (es : List Expr) (f : Env → O (List D)) : Prop := PA X es (tA X.K W κ f)
def TPost (K : PySem.W.Frag) (W : WX) (σ : L2.St) (H Hs : Hp) (Q : Bool → Hp → Prop) : O Bool → Prop
  | .stuck => False
  | .ok b => ∀ H' Hs', Grow H Hs H' Hs' → Q b H'
  | .exc c fs => ∀ cls dx H', XRes K c fs cls dx H Hs H' → W cls dx σ H'
def tT (K : PySem.W.Frag) (W : WX) (κ : List Kd) (f : Env → O Bool) : TT := fun σ H Q =>
  ∃ S H0 Hs0 ρ Hs F, Rel K S H0 Hs0 κ ρ σ H Hs F ∧ TPost K W σ H Hs Q (f ρ)
abbrev CT (X : Cx) (W : WX) (κ : List Kd) (e : Expr) (f : Env → O Bool) : Prop := PT X e (tT X.K W κ f)

end T

set_option Elab.async false
set_option linter.all false
set_option maxRecDepth 100000
set_option maxHeartbeats 1000000
/-! T1: expressions: names, constants, operators, comparisons, tests, displays, items, slices. -/
namespace T
open PySem L2

/-! ### how outcomes are put together -/
/-- an equation that simp is to apply by a rewrite, never by unfolding -/
theorem nd {α : Sort _} {a b : α} (h : a = b) : a = b := h
@[simp] theorem bind_ok {α β : Type} (a : α) (f : α → O β) : (O.ok a >>= f) = f a := nd rfl
@[simp] theorem bind_stuck {α β : Type} (f : α → O β) : ((O.stuck : O α) >>= f) = O.stuck := nd rfl
@[simp] theorem bind_exc {α β : Type} (c : Str) (fs : List (Str × D)) (f : α → O β) : ((O.exc c fs : O α) >>= f) = O.exc c fs := nd rfl
@[simp] theorem pure_ok {α : Type} (a : α) : (pure a : O α) = O.ok a := rfl

theorem PE.imp {X : Cx} {e : Expr} {t t' : TE} (h : PE X e t) (hi : ∀ σ H Q, t' σ H Q → t σ H Q) : PE X e t' := ⟨fun pins s σ H Q I q => h.run pins s σ H Q I (hi σ H Q q)⟩
theorem PT.imp {X : Cx} {e : Expr} {t t' : TT} (h : PT X e t) (hi : ∀ σ H Q, t' σ H Q → t σ H Q) : PT X e t' := ⟨fun pins s σ H Q I q => h.run pins s σ H Q I (hi σ H Q q)⟩
theorem PW.imp {X : Cx} {e : Expr} {t t' : TT} (h : PW X e t) (hi : ∀ σ H Q, t' σ H Q → t σ H Q) : PW X e t' := ⟨fun wh pins s σ H Q I q => h.run wh pins s σ H Q I (hi σ H Q q)⟩
theorem PA.imp {X : Cx} {e : List Expr} {t t' : TA} (h : PA X e t) (hi : ∀ σ H Q, t' σ H Q → t σ H Q) : PA X e t' := ⟨fun pos pins s σ H Q I q => h.run pos pins s σ H Q I (hi σ H Q q)⟩

section
variable {X : Cx} {W : WX} {κ : List Kd}

theorem xres_pre {K : PySem.W.Frag} {c : Str} {fs : List (Str × D)} {cls : Value} {dx : Option Addr} {H Hs H1 Hs1 H' : Hp} (g : Grow H Hs H1 Hs1) (r : XRes K c fs cls dx H1 Hs1 H') : XRes K c fs cls dx H Hs H' := by
  obtain ⟨Hs', g', x⟩ := r
  exact ⟨Hs', g.trans g', x⟩

/-- a part is evaluated, its datum shared; then the rest -/
theorem step {S : List Addr} {H0 Hs0 : Hp} {ρ : Env} {σ : L2.St} {H Hs : Hp} {F : Foot} {K : PySem.W.Frag} {f : Env → O D} {k : D → O D} {r : Kd} {Q : VK} (R : Rel K S H0 Hs0 κ ρ σ H Hs F) (p : EPost K W r σ H Hs Q (f ρ >>= k))
    {R2 : V → Hp → Prop} (h : ∀ d v H1 Hs1, f ρ = .ok d → Grow H Hs H1 Hs1 → Rel K S H0 Hs0 κ ρ σ H1 Hs1 F → Rep K Hs1 d v → EPost K W r σ H1 Hs1 Q (k d) → R2 v H1) : tE K W κ .sh f σ H R2 := by
  refine ⟨S, H0, Hs0, ρ, Hs, F, R, ?_⟩
  cases e : f ρ with
  | stuck => rw [e] at p; exact p
  | exc c fs => rw [e] at p; exact p
  | ok d =>
    rw [e] at p
    intro v H1 q
    obtain ⟨Hs1, g, rp⟩ := q.out
    refine h d v H1 Hs1 e g (R.grow g) rp ?_
    have p' : EPost K W r σ H Hs Q (k d) := p
    cases ek : k d with
    | stuck => rw [ek] at p'; exact p'
    | ok z => rw [ek] at p'; exact fun v' H' q' => p' v' H' (q'.pre g)
    | exc c fs => rw [ek] at p'; exact fun cls dx H' q' => p' cls dx H' (xres_pre g q')
/-- the same for arguments -/
theorem stepA {S : List Addr} {H0 Hs0 : Hp} {ρ : Env} {σ : L2.St} {H Hs : Hp} {F : Foot} {K : PySem.W.Frag} {f : Env → O (List D)} {k : List D → O D} {r : Kd} {Q : VK} (R : Rel K S H0 Hs0 κ ρ σ H Hs F) (p : EPost K W r σ H Hs Q (f ρ >>= k))
    {R2 : List V → Hp → Prop} (h : ∀ d v H1 Hs1, f ρ = .ok d → Grow H Hs H1 Hs1 → Rel K S H0 Hs0 κ ρ σ H1 Hs1 F → Reps K Hs1 d v → EPost K W r σ H1 Hs1 Q (k d) → R2 v H1) : tA K W κ f σ H R2 := by
  refine ⟨S, H0, Hs0, ρ, Hs, F, R, ?_⟩
  cases e : f ρ with
  | stuck => rw [e] at p; exact p
  | exc c fs => rw [e] at p; exact p
  | ok d =>
    rw [e] at p
    intro v H1 Hs1 g rp
    refine h d v H1 Hs1 e g (R.grow g) rp ?_
    have p' : EPost K W r σ H Hs Q (k d) := p
    cases ek : k d with
    | stuck => rw [ek] at p'; exact p'
    | ok z => rw [ek] at p'; exact fun v' H' q' => p' v' H' (q'.pre g)
    | exc c fs => rw [ek] at p'; exact fun cls dx H' q' => p' cls dx H' (xres_pre g q')

/-! ### names and constants -/
def mVar (i : Nat) : Env → O D := fun ρ => match ρ[i]? with
  | some (some d) => .ok d
  | _ => .stuck
def mC (d : D) : Env → O D := fun _ => .ok d
theorem ce_var (i : Nat) {x : Str} {pos : Pos} (hk : kAt κ i = .sh) (hp : PE X (.Name x pos) (tVar i)) : CE X W κ .sh (.Name x pos) (mVar i) :=
  PE.imp hp fun σ H Q h => by
    obtain ⟨S, H0, Hs0, ρ, Hs, F, R, p⟩ := h
    unfold mVar at p
    split at p
    · rename_i d e
      obtain ⟨v, h1, h2⟩ := R.sl i d e
      rw [hk] at h2
      exact ⟨v, h1, p v H (.sh (.refl R.sub) h2.1)⟩
    · exact p.elim
theorem ce_const {e : Expr} {d : D} {v : V} (hp : PE X e (tC v)) (hr : ∀ Hs, Rep X.K Hs d v) : CE X W κ .sh e (mC d) :=
  PE.imp hp fun σ H Q h => by
    obtain ⟨S, H0, Hs0, ρ, Hs, F, R, p⟩ := h
    exact p v H (.sh (.refl R.sub) (hr _))
theorem ce_int {i : Int} {j : Nat} {pos : Pos} : CE X W κ .sh (.Constant (.int i) j pos) (mC (.int i)) := ce_const pe_int fun _ => .int i
theorem ce_bl {b : Bool} {j : Nat} {pos : Pos} : CE X W κ .sh (.Constant (.bool b) j pos) (mC (.bl b)) := ce_const pe_bl fun _ => .bl b
theorem ce_non {j : Nat} {pos : Pos} : CE X W κ .sh (.Constant .none j pos) (mC .non) := ce_const pe_non fun _ => .non
theorem ce_str {s : Str} {j : Nat} {pos : Pos} : CE X W κ .sh (.Constant (.str s) j pos) (mC (.str s)) := ce_const pe_str fun _ => .str s
/-- the owned list of a slot as a shared datum is not to be had; but where the outcome is flat, it may be read -/
def D.flat : D → Bool
  | .non | .bl _ | .int _ | .str _ => true
  | _ => false
theorem D.flat_rep {K : PySem.W.Frag} {H H' : Hp} {d : D} {v : V} (h : d.flat = true) (r : Rep K H d v) : Rep K H' d v := by
  cases r with
  | non => exact .non
  | bl b => exact .bl b
  | int i => exact .int i
  | str s => exact .str s
  | tup _ _ => cases h
  | lst _ _ => cases h
  | scr _ => cases h
  | ins _ _ => cases h
  | exc => cases h
  | exv _ _ _ => cases h
def asFlat (d : D) : O D := if d.flat = true then .ok d else .stuck
def mFlat (f : Env → O D) : Env → O D := fun ρ => match f ρ with
  | .ok d => asFlat d
  | _ => .stuck
theorem Rel.open_ {K : PySem.W.Frag} {S : List Addr} {H0 Hs0 : Hp} {ρ : Env} {σ : L2.St} {H Hs : Hp} {F : Foot} (R : Rel K S H0 Hs0 κ ρ σ H Hs F) {κ' : List Kd} (hk : ∀ i, kAt κ' i = .sh) : Rel K [] H H κ' ρ σ H H (fun _ => []) where
  len := R.len
  sl := fun i d e => by
    obtain ⟨v, h1, h2⟩ := R.sl i d e
    refine ⟨v, h1, ?_⟩
    rw [hk]
    exact ⟨(h2.share R.sub (G := F i) fun _ h => h).mono (join_sub R.sub), rfl⟩
  nd := fun _ => List.nodup_nil
  dj := fun _ _ _ h => nomatch h
  al := fun _ _ h => nomatch h
  fr := fun _ _ h => nomatch h
  g := .refl _
  sub := .refl _
  old := fun _ _ e _ => e
  st := fun _ h => h
  new := fun _ _ e n => by rw [e] at n; cases n
theorem kAt_nil (i : Nat) : kAt [] i = .sh := by unfold kAt; simp
theorem ce_borrow {e : Expr} {f : Env → O D} (h : CE X W [] .sh e f) : CE X W κ .sh e (mFlat f) :=
  PE.imp h fun σ H Q q => by
    obtain ⟨S, H0, Hs0, ρ, Hs, F, R, p⟩ := q
    refine ⟨[], H, H, ρ, H, fun _ => [], R.open_ kAt_nil, ?_⟩
    unfold mFlat at p
    have gr : ∀ {H' Hs' : Hp}, Grow H H H' Hs' → Grow H Hs H' Hs := fun g => ⟨g.ex, .refl _, R.sub.trans g.ex, fun a o e n => by rw [e] at n; cases n⟩
    cases e : f ρ with
    | stuck => rw [e] at p; exact p
    | ok d =>
      rw [e] at p
      have p' : EPost X.K W .sh σ H Hs Q (asFlat d) := p
      unfold asFlat at p'
      by_cases hd : d.flat = true
      · rw [if_pos hd] at p'
        intro v H' r
        obtain ⟨Hs', g, rp⟩ := r.out
        exact p' v H' (.sh (gr g) (D.flat_rep hd rp))
      · rw [if_neg hd] at p'; exact p'.elim
    | exc c fs => rw [e] at p; exact p.elim
theorem ce_share {r : Kd} {e : Expr} {f : Env → O D} (h : CE X W κ r e f) : CE X W κ .sh e f :=
  PE.imp h fun σ H Q q => by
    obtain ⟨S, H0, Hs0, ρ, Hs, F, R, p⟩ := q
    refine ⟨S, H0, Hs0, ρ, Hs, F, R, ?_⟩
    cases e : f ρ with
    | stuck => rw [e] at p; exact p
    | ok d => rw [e] at p; exact fun v H' r => p v H' r.share
    | exc c fs => rw [e] at p; exact p

/-! ### operators -/
/-- what an operator's rule does over data -/
def BinSem (K : PySem.W.Frag) (r : R2) (rr : Kd) (o : D → D → O D) : Prop := ∀ (H Hs : Hp) (d e z : D) (x y : V) (Q : VK), Ext Hs H → Rep K Hs d x → Rep K Hs e y → o d e = .ok z → (∀ v H', Res K rr z v H Hs H' → Q v H') → r x y H Q
def mBin (o : D → D → O D) (f g : Env → O D) : Env → O D := fun ρ => f ρ >>= fun x => g ρ >>= fun y => match o x y with
  | .ok z => .ok z
  | _ => .stuck
theorem bin_run {r : R2} {rr : Kd} {o : D → D → O D} (hs : BinSem X.K r rr o) {f g : Env → O D} {σ : L2.St} {H : Hp} {Q : VK} (h : tE X.K W κ rr (mBin o f g) σ H Q) : tOp r (tE X.K W κ .sh f) (tE X.K W κ .sh g) σ H Q := by
  obtain ⟨S, H0, Hs0, ρ, Hs, F, R, p⟩ := h
  refine step R p fun x vx H1 Hs1 _ g1 R1 rx p1 => ?_
  refine step R1 p1 fun y vy H2 Hs2 _ g2 R2 ry p2 => ?_
  cases e : o x y with
  | stuck => rw [e] at p2; exact p2.elim
  | exc c fs => rw [e] at p2; exact p2.elim
  | ok z => rw [e] at p2; exact hs H2 Hs2 x y z vx vy Q R2.sub (rx.mono g2.exs) ry e p2
theorem ce_bin {op : Operator} {r : R2} {rr : Kd} {o : D → D → O D} {a b : Expr} {pos : Pos} {f g : Env → O D} (hs : BinSem X.K r rr o) (ho : OpR X (binaryOp op) r) (ha : CE X W κ .sh a f) (hb : CE X W κ .sh b g) :
    CE X W κ rr (.BinOp a op b pos) (mBin o f g) := PE.imp (pe_op ho ha hb) fun _ _ _ h => bin_run hs h
theorem BinSem.or {K : PySem.W.Frag} {r r' : R2} {rr : Kd} {o o' o2 : D → D → O D} (h : BinSem K r rr o) (h' : BinSem K r' rr o') (hc : ∀ d e z, o2 d e = .ok z → o d e = .ok z ∨ o' d e = .ok z) : BinSem K (fun x y H Q => r x y H Q ∨ r' x y H Q) rr o2 :=
  fun H Hs d e z x y Q sub rx ry hz q => (hc d e z hz).elim (fun k => .inl (h H Hs d e z x y Q sub rx ry k q)) fun k => .inr (h' H Hs d e z x y Q sub rx ry k q)
theorem BinSem.imp {K : PySem.W.Frag} {r r' : R2} {rr : Kd} {o : D → D → O D} (h : BinSem K r rr o) (hr : ∀ x y H Q, r x y H Q → r' x y H Q) : BinSem K r' rr o := fun H Hs d e z x y Q sub rx ry hz q => hr x y H Q (h H Hs d e z x y Q sub rx ry hz q)
theorem BinSem.flat {K : PySem.W.Frag} {r : R2} {o : D → D → O D} (h : ∀ (H Hs : Hp) (d e z : D) (x y : V) (Q : VK), Ext Hs H → Rep K Hs d x → Rep K Hs e y → o d e = .ok z → (∀ v, Rep K Hs z v → Q v H) → r x y H Q) : BinSem K r .sh o :=
  fun H Hs d e z x y Q sub rx ry hz q => h H Hs d e z x y Q sub rx ry hz fun v rv => q v H (.sh (.refl sub) rv)

/-- ints only -/
def dI (c : Int → Int → Bool) (g : Int → Int → D) : D → D → O D
  | .int i, .int j => if c i j = true then .ok (g i j) else .stuck
  | _, _ => .stuck
theorem sem_I {K : PySem.W.Frag} {C : Int → Int → Prop} {c : Int → Int → Bool} {g : Int → Int → D} {gv : Int → Int → V} (hc : ∀ i j, c i j = true → C i j) (hg : ∀ Hs i j, Rep K Hs (g i j) (gv i j)) : BinSem K (rI C gv) .sh (dI c g) :=
  .flat fun H Hs d e z x y Q sub rx ry hz q => by
    cases rx <;> first | (cases hz; done) | skip
    cases ry <;> first | (cases hz; done) | skip
    rename_i i j
    dsimp only [dI] at hz
    by_cases hcc : c i j = true
    · rw [if_pos hcc] at hz
      cases hz
      exact ⟨i, j, rfl, rfl, hc i j hcc, q _ (hg _ _ _)⟩
    · rw [if_neg hcc] at hz; cases hz
theorem sem_I0 {K : PySem.W.Frag} {g : Int → Int → D} {gv : Int → Int → V} (hg : ∀ Hs i j, Rep K Hs (g i j) (gv i j)) : BinSem K (rI0 gv) .sh (dI (fun _ _ => true) g) :=
  .imp (sem_I (C := fun _ _ => True) (gv := gv) (fun _ _ _ => trivial) hg) fun x y H Q h => by
    obtain ⟨i, j, e1, e2, _, q⟩ := h
    exact ⟨i, j, e1, e2, q⟩
def dStrCat : D → D → O D
  | .str a, .str b => if a.length + b.length ≤ sizeLine then .ok (.str (a ++ b)) else .stuck
  | _, _ => .stuck
def dLstCat : D → D → O D
  | .lst a, .lst b => if a.length + b.length ≤ sizeLine then .ok (.lst (a ++ b)) else .stuck
  | _, _ => .stuck
def dTupCat : D → D → O D
  | .tup a, .tup b => if a.length + b.length ≤ sizeLine then .ok (.tup (a ++ b)) else .stuck
  | _, _ => .stuck
theorem sem_strCat {K : PySem.W.Frag} : BinSem K (fun x y H Q => ∃ i j, x = .str i ∧ y = .str j ∧ i.length + j.length ≤ sizeLine ∧ Q (.str (i ++ j)) H) .sh dStrCat :=
  .flat fun H Hs d e z x y Q sub rx ry hz q => by
    cases rx <;> first | (cases hz; done) | skip
    cases ry <;> first | (cases hz; done) | skip
    rename_i i j
    dsimp only [dStrCat] at hz
    by_cases hcc : i.length + j.length ≤ sizeLine
    · rw [if_pos hcc] at hz
      cases hz
      exact ⟨i, j, rfl, rfl, hcc, q _ (.str _)⟩
    · rw [if_neg hcc] at hz; cases hz
/-- a new list, owned: its items are shared -/
theorem Res.list {K : PySem.W.Frag} {H Hs : Hp} {ds : List D} {vs : List V} {p : Addr} (sub : Ext Hs H) (r : Reps K Hs ds vs) (hp : H p = none) : Res K (.ls .sh) (.lst ds) (.ref p) H Hs (upd H p (.lst vs)) := by
  refine ⟨Hs, [p], .newOwn sub hp, by simp, fun a ha => ?_, p, ds, vs, ds.map fun _ => [], rfl, rfl, upd_same, ?_, ?_⟩
  · have e : a = p := by simpa using ha
    subst e
    exact ⟨hp, sub.none hp, by rw [upd_same]; simp⟩
  · simp
  · induction ds generalizing vs with
    | nil => cases r; exact .nil
    | cons d ds ih =>
      cases r with
      | cons a b =>
        exact .cons ⟨a, rfl⟩ (ih b)
theorem Res.tuple {K : PySem.W.Frag} {H Hs : Hp} {ds : List D} {vs : List V} {p : Addr} (sub : Ext Hs H) (r : Reps K Hs ds vs) (hp : H p = none) : Res K .sh (.tup ds) (.ref p) H Hs (upd H p (.tup vs)) :=
  .sh (.new sub hp) (.tup (SqT.of upd_same) (r.mono (.new (sub.none hp))))
theorem sem_lstCat {K : PySem.W.Frag} : BinSem K rCat (.ls .sh) dLstCat := fun H Hs d e z x y Q sub rx ry hz q => by
  cases rx <;> first | (cases hz; done) | skip
  cases ry <;> first | (cases hz; done) | skip
  rename_i a ds vs ha ra b es us hb rb
  dsimp only [dLstCat] at hz
  by_cases hcc : ds.length + es.length ≤ sizeLine
  · rw [if_pos hcc] at hz
    cases hz
    refine ⟨a, b, vs, us, rfl, rfl, sub _ _ ha, sub _ _ hb, by rw [← ra.length, ← rb.length]; exact hcc, fun p hp => q _ _ (.list sub (ra.append rb) hp)⟩
  · rw [if_neg hcc] at hz; cases hz
theorem sem_tupCat {K : PySem.W.Frag} : BinSem K (rCatA K) .sh dTupCat := fun H Hs d e z x y Q sub rx ry hz q => by
  cases rx <;> first | (cases hz; done) | skip
  cases ry <;> first | (cases hz; done) | skip
  rename_i a ds vs ha ra b es us hb rb
  dsimp only [dTupCat] at hz
  by_cases hcc : ds.length + es.length ≤ sizeLine
  · rw [if_pos hcc] at hz
    cases hz
    refine ⟨a, b, vs, us, rfl, rfl, sub.sqt ha, sub.sqt hb, by rw [← ra.length, ← rb.length]; exact hcc, fun e => ?_, fun n e => ?_, fun _ _ p hp => q _ _ (.tuple sub (ra.append rb) hp)⟩
    · subst e
      cases ra
      exact q _ _ (.sh (.refl sub) (Rep.tup hb rb))
    · subst e
      cases rb
      rw [List.append_nil] at q
      exact q _ _ (.sh (.refl sub) (Rep.tup ha ra))
  · rw [if_neg hcc] at hz; cases hz
def dAdd : D → D → O D
  | .int i, .int j => .ok (.int (i + j))
  | .str a, .str b => if a.length + b.length ≤ sizeLine then .ok (.str (a ++ b)) else .stuck
  | .tup a, .tup b => if a.length + b.length ≤ sizeLine then .ok (.tup (a ++ b)) else .stuck
  | .lst a, .lst b => if a.length + b.length ≤ sizeLine then .ok (.lst (a ++ b)) else .stuck
  | _, _ => .stuck
theorem BinSem.share {K : PySem.W.Frag} {r : R2} {k : Kd} {o : D → D → O D} (h : BinSem K r k o) : BinSem K r .sh o := fun H Hs d e z x y Q sub rx ry hz q => h H Hs d e z x y Q sub rx ry hz fun v H' r => q v H' r.share
theorem ce_add {a b : Expr} {pos : Pos} {f g : Env → O D} (ha : CE X W κ .sh a f) (hb : CE X W κ .sh b g) : CE X W κ .sh (.BinOp a .Add b pos) (mBin dAdd f g) :=
  ce_bin (r := fun x y H Q => _ ∨ _) (o := dAdd)
    (BinSem.or (o' := fun d e => match d, e with | .int _, .int _ => .stuck | _, _ => dAdd d e) (sem_I0 (g := fun i j => .int (i + j)) fun _ _ _ => .int _)
      (BinSem.or (o' := fun d e => match d, e with | .int _, .int _ => .stuck | .str _, .str _ => .stuck | _, _ => dAdd d e) sem_strCat
        (BinSem.or sem_tupCat sem_lstCat.share fun d e z h => by
          cases d <;> cases e <;> first | (exact .inl h) | (exact .inr h) | (cases h)) fun d e z h => by
        cases d <;> cases e <;> first | (exact .inl h) | (exact .inr h) | (cases h)) fun d e z h => by
      cases d <;> cases e <;> first | (exact .inl h) | (exact .inr h) | (cases h))
    (op_add.or (op_add_str.or (op_catA.or op_cat))) ha hb
/-- list + list, the new one owned -/
theorem ce_catO {a b : Expr} {pos : Pos} {f g : Env → O D} (ha : CE X W κ .sh a f) (hb : CE X W κ .sh b g) : CE X W κ (.ls .sh) (.BinOp a .Add b pos) (mBin dLstCat f g) := ce_bin sem_lstCat op_cat ha hb
def dSub : D → D → O D := dI (fun _ _ => true) fun i j => .int (i - j)
theorem ce_sub {a b : Expr} {pos : Pos} {f g : Env → O D} (ha : CE X W κ .sh a f) (hb : CE X W κ .sh b g) : CE X W κ .sh (.BinOp a .Sub b pos) (mBin dSub f g) := ce_bin (sem_I0 fun _ _ _ => .int _) op_sub ha hb
def cMul (i j : Int) : Bool := decide (i.natAbs < 2 ^ 64) || decide (j.natAbs < 2 ^ 64)
def dMulI : D → D → O D := dI cMul fun i j => .int (i * j)
theorem sem_mulI {K : PySem.W.Frag} : BinSem K (rI CMul fun i j => .int (i * j)) .sh dMulI := sem_I (fun i j h => by
  unfold cMul at h
  simp only [Bool.or_eq_true, Bool.and_eq_true, decide_eq_true_eq] at h
  unfold CMul
  omega) fun _ _ _ => .int _
def dRep : D → D → O D
  | .lst a, .int k => if k.natAbs < 2 ^ 63 ∧ a.length * k.toNat ≤ sizeLine then .ok (.lst (List.replicate k.toNat a).flatten) else .stuck
  | _, _ => .stuck
theorem sem_rep {K : PySem.W.Frag} : BinSem K rRep (.ls .sh) dRep := fun H Hs d e z x y Q sub rx ry hz q => by
  cases rx <;> first | (cases hz; done) | skip
  cases ry <;> first | (cases hz; done) | skip
  rename_i a ds vs ha ra k
  dsimp only [dRep] at hz
  by_cases hcc : k.natAbs < 2 ^ 63 ∧ ds.length * k.toNat ≤ sizeLine
  · rw [if_pos hcc] at hz
    cases hz
    refine ⟨a, k, vs, rfl, rfl, sub _ _ ha, by omega, by omega, by rw [← ra.length]; exact hcc.2, fun p hp => q _ _ (.list sub (ra.rep _) hp)⟩
  · rw [if_neg hcc] at hz; cases hz
def dMul : D → D → O D
  | .int i, .int j => if cMul i j = true then .ok (.int (i * j)) else .stuck
  | .lst a, .int k => if k.natAbs < 2 ^ 63 ∧ a.length * k.toNat ≤ sizeLine then .ok (.lst (List.replicate k.toNat a).flatten) else .stuck
  | _, _ => .stuck
theorem ce_mul {a b : Expr} {pos : Pos} {f g : Env → O D} (ha : CE X W κ .sh a f) (hb : CE X W κ .sh b g) : CE X W κ .sh (.BinOp a .Mult b pos) (mBin dMul f g) :=
  ce_bin (BinSem.or sem_mulI sem_rep.share fun d e z h => by cases d <;> cases e <;> first | (exact .inl h) | (exact .inr h) | (cases h)) (op_mul.or op_rep) ha hb
theorem ce_repO {a b : Expr} {pos : Pos} {f g : Env → O D} (ha : CE X W κ .sh a f) (hb : CE X W κ .sh b g) : CE X W κ (.ls .sh) (.BinOp a .Mult b pos) (mBin dRep f g) := ce_bin sem_rep op_rep ha hb
def dFdiv : D → D → O D := dI (fun _ j => decide (0 < j) && decide (j.toNat < 1073741824)) fun i j => .int (i / j)
theorem ce_fdiv {a b : Expr} {pos : Pos} {f g : Env → O D} (ha : CE X W κ .sh a f) (hb : CE X W κ .sh b g) : CE X W κ .sh (.BinOp a .FloorDiv b pos) (mBin dFdiv f g) :=
  ce_bin (sem_I (C := CDiv) (fun i j h => by simp only [Bool.and_eq_true, decide_eq_true_eq] at h; unfold CDiv; omega) fun _ _ _ => .int _) op_fdiv ha hb
def dMod : D → D → O D := dI (fun _ j => decide (0 < j)) fun i j => .int (i % j)
theorem ce_mod {a b : Expr} {pos : Pos} {f g : Env → O D} (ha : CE X W κ .sh a f) (hb : CE X W κ .sh b g) : CE X W κ .sh (.BinOp a .Mod b pos) (mBin dMod f g) :=
  ce_bin (sem_I (C := fun _ j => 0 < j) (fun i j h => of_decide_eq_true h) fun _ _ _ => .int _) op_mod ha hb
def dPow : D → D → O D := dI (fun i j => decide (0 ≤ j) && (decide (j.toNat ≤ 1000000) && decide (i.natAbs < 2 ^ 64))) fun i j => .int (i ^ j.toNat)
theorem ce_pow {a b : Expr} {pos : Pos} {f g : Env → O D} (ha : CE X W κ .sh a f) (hb : CE X W κ .sh b g) : CE X W κ .sh (.BinOp a .Pow b pos) (mBin dPow f g) :=
  ce_bin (sem_I (C := CPow) (fun i j h => by simp only [Bool.and_eq_true, decide_eq_true_eq] at h; exact ⟨h.1, by omega, h.2.2⟩) fun _ _ _ => .int _) op_pow ha hb
def dShr : D → D → O D := dI (fun _ j => decide (0 ≤ j)) fun i j => .int (i / 2 ^ j.toNat)
theorem ce_shr {a b : Expr} {pos : Pos} {f g : Env → O D} (ha : CE X W κ .sh a f) (hb : CE X W κ .sh b g) : CE X W κ .sh (.BinOp a .RShift b pos) (mBin dShr f g) :=
  ce_bin (sem_I (C := fun _ j => 0 ≤ j) (fun i j h => of_decide_eq_true h) fun _ _ _ => .int _) op_shr ha hb
def dXor : D → D → O D := dI (fun _ _ => true) fun i j => .int (Builtin.bitXor i j)
theorem ce_xor {a b : Expr} {pos : Pos} {f g : Env → O D} (ha : CE X W κ .sh a f) (hb : CE X W κ .sh b g) : CE X W κ .sh (.BinOp a .BitXor b pos) (mBin dXor f g) := ce_bin (sem_I0 fun _ _ _ => .int _) op_xor ha hb
/-- -a -/
def dNeg : D → O D
  | .int i => .ok (.int (-i))
  | _ => .stuck
def mUn (o : D → O D) (f : Env → O D) : Env → O D := fun ρ => f ρ >>= o
theorem ce_neg {a : Expr} {pos : Pos} {f : Env → O D} (ha : CE X W κ .sh a f) : CE X W κ .sh (.UnaryOp .USub a pos) (mUn dNeg f) :=
  PE.imp (pe_un un_neg ha) fun σ H Q h => by
    obtain ⟨S, H0, Hs0, ρ, Hs, F, R, p⟩ := h
    refine step R p fun x vx H1 Hs1 _ g1 R1 rx p1 => ?_
    cases rx <;> first | exact p1.elim | skip
    exact ⟨_, rfl, p1 _ _ (.sh (.refl R1.sub) (.int _))⟩
end
end T

set_option Elab.async false
set_option linter.all false
set_option maxRecDepth 100000
set_option maxHeartbeats 1000000
/-! T2: comparisons, tests, displays, items, slices, calls of built-ins. -/
namespace T
open PySem L2

/-! ### plain data -/
mutual
def D.pd : D → Option PyData
  | .non => some .none
  | .bl b => some (.bool b)
  | .int i => some (.int i)
  | .str s => some (.str s)
  | .tup xs => (D.pds xs).map PyData.tuple
  | .lst xs => (D.pds xs).map PyData.list
  | .scr _ => none
  | .ins _ _ => none
  | .exc _ _ => none
  | .exv _ _ => none
  | .dct _ => none
  | .set _ => none
def D.pds : List D → Option (List PyData)
  | [] => some []
  | x :: xs => (D.pd x).bind fun p => (D.pds xs).map fun ps => p :: ps
end
section
variable {K : PySem.W.Frag} {H : Hp}
mutual
theorem Rep.dp {d : D} {v : V} {p : PyData} : Rep K H d v → d.pd = some p → Dp K H v p
  | .non, e => by cases e; exact .non
  | .bl b, e => by cases e; exact .bl b
  | .int i, e => by cases e; exact .int i
  | .str s, e => by cases e; exact .str s
  | .tup (ds := ds) h r, e => by
    rw [D.pd] at e
    cases q : D.pds ds with
    | none => rw [q] at e; cases e
    | some ps => rw [q] at e; cases e; exact .tup h (Reps.dp r q)
  | .lst (ds := ds) h r, e => by
    rw [D.pd] at e
    cases q : D.pds ds with
    | none => rw [q] at e; cases e
    | some ps => rw [q] at e; cases e; exact .lst (SqL.of h) (Reps.dp r q)
  | .scr h, e => by rw [D.pd] at e; cases e
  | .ins h r, e => by rw [D.pd] at e; cases e
  | .exc, e => by rw [D.pd] at e; cases e
  | .exv _ _ _, e => by rw [D.pd] at e; cases e
theorem Reps.dp {ds : List D} {vs : List V} {ps : List PyData} : Reps K H ds vs → D.pds ds = some ps → DpAll K H vs ps
  | .nil, e => by rw [D.pds] at e; cases e; exact .nil
  | .cons (d := d) (ds := ds) a b, e => by
    rw [D.pds] at e
    cases q : D.pd d with
    | none => rw [q] at e; cases e
    | some p =>
      rw [q] at e
      cases q2 : D.pds ds with
      | none => rw [q2] at e; cases e
      | some ps => rw [q2] at e; cases e; exact .cons (Rep.dp a q) (Reps.dp b q2)
end
end

section
variable {X : Cx} {W : WX} {κ : List Kd}
/-! ### comparisons -/
theorem ce_cmp {op : CmpOp} {r : R2} {o : D → D → O D} {a b : Expr} {pos : Pos} {f g : Env → O D} (hs : BinSem X.K r .sh o) (ho : OpR X (compareOp op) r) (ha : CE X W κ .sh a f) (hb : CE X W κ .sh b g) (hm : behindInMarks op b = false) :
    CE X W κ .sh (.Compare a [op] [b] pos) (mBin o f g) := PE.imp (pe_cmpR ho ha hb hm) fun _ _ _ h => bin_run hs h
def asB (d : D) : O Bool := match d with
  | .bl b => .ok b
  | _ => .stuck
def mTest (f : Env → O D) : Env → O Bool := fun ρ => f ρ >>= asB
theorem test_of {K : PySem.W.Frag} {f : Env → O D} {σ : L2.St} {H : Hp} {Q : Bool → Hp → Prop} (h : tT K W κ (mTest f) σ H Q) : tE K W κ .sh f σ H fun x H' => ∃ k, x = .bl k ∧ Q k H' := by
  obtain ⟨S, H0, Hs0, ρ, Hs, F, R, p⟩ := h
  refine ⟨S, H0, Hs0, ρ, Hs, F, R, ?_⟩
  have p' : TPost K W σ H Hs Q (f ρ >>= asB) := p
  cases e : f ρ with
  | stuck => rw [e] at p'; exact p'
  | exc c fs => rw [e] at p'; exact p'
  | ok d =>
    rw [e, bind_ok] at p'
    intro v H' r
    obtain ⟨Hs', g, rp⟩ := r.out
    cases rp <;> first | exact p'.elim | skip
    exact ⟨_, rfl, p' H' Hs' g⟩
theorem ct_cmp {op : CmpOp} {r : R2} {o : D → D → O D} {a b : Expr} {pos : Pos} {f g : Env → O D} (hs : BinSem X.K r .sh o) (ho : OpR X (compareOp op) r) (ha : CE X W κ .sh a f) (hb : CE X W κ .sh b g) (hm : behindInMarks op b = false) :
    CT X W κ (.Compare a [op] [b] pos) (mTest (mBin o f g)) := PT.imp (pt_cmpR ho ha hb hm) fun _ _ _ h => bin_run (W := W) (κ := κ) hs (test_of h)
theorem ct_val {e : Expr} {f : Env → O D} (h : CE X W κ .sh e f) (he : ∀ whole, isTrue e X.env whole = (do let v ← whole; standAt e.pos; holding [v] (truthy v)) := by intro _; rfl) : CT X W κ e (mTest f) :=
  PT.imp (pt_val h he) fun _ _ _ q => test_of q
/-- what follows a test -/
theorem stepT {S : List Addr} {H0 Hs0 : Hp} {ρ : Env} {σ : L2.St} {H Hs : Hp} {F : Foot} {K : PySem.W.Frag} {f : Env → O Bool} {o : Bool → O D} {r : Kd} {Q : VK} (R : Rel K S H0 Hs0 κ ρ σ H Hs F) (p : EPost K W r σ H Hs Q (f ρ >>= o))
    {R2 : Bool → Hp → Prop} (h : ∀ b H1 Hs1, f ρ = .ok b → Grow H Hs H1 Hs1 → Rel K S H0 Hs0 κ ρ σ H1 Hs1 F → EPost K W r σ H1 Hs1 Q (o b) → R2 b H1) : tT K W κ f σ H R2 := by
  refine ⟨S, H0, Hs0, ρ, Hs, F, R, ?_⟩
  cases e : f ρ with
  | stuck => rw [e] at p; exact p
  | exc c fs => rw [e] at p; exact p
  | ok b =>
    rw [e] at p
    intro H1 Hs1 g
    refine h b H1 Hs1 e g (R.grow g) ?_
    have p' : EPost K W r σ H Hs Q (o b) := p
    cases ek : o b with
    | stuck => rw [ek] at p'; exact p'
    | ok z => rw [ek] at p'; exact fun v' H' q' => p' v' H' (q'.pre g)
    | exc c fs => rw [ek] at p'; exact fun cls dx H' q' => p' cls dx H' (xres_pre g q')
theorem stepTT {S : List Addr} {H0 Hs0 : Hp} {ρ : Env} {σ : L2.St} {H Hs : Hp} {F : Foot} {K : PySem.W.Frag} {f : Env → O Bool} {o : Bool → O Bool} {Q : Bool → Hp → Prop} (R : Rel K S H0 Hs0 κ ρ σ H Hs F) (p : TPost K W σ H Hs Q (f ρ >>= o))
    {R2 : Bool → Hp → Prop} (h : ∀ b H1 Hs1, f ρ = .ok b → Grow H Hs H1 Hs1 → Rel K S H0 Hs0 κ ρ σ H1 Hs1 F → TPost K W σ H1 Hs1 Q (o b) → R2 b H1) : tT K W κ f σ H R2 := by
  refine ⟨S, H0, Hs0, ρ, Hs, F, R, ?_⟩
  cases e : f ρ with
  | stuck => rw [e] at p; exact p
  | exc c fs => rw [e] at p; exact p
  | ok b =>
    rw [e] at p
    intro H1 Hs1 g
    refine h b H1 Hs1 e g (R.grow g) ?_
    have p' : TPost K W σ H Hs Q (o b) := p
    cases ek : o b with
    | stuck => rw [ek] at p'; exact p'
    | ok z => rw [ek] at p'; exact fun H' Hs' q' => p' H' Hs' (g.trans q')
    | exc c fs => rw [ek] at p'; exact fun cls dx H' q' => p' cls dx H' (xres_pre g q')
def mNot (f : Env → O Bool) : Env → O Bool := fun ρ => f ρ >>= fun b => .ok (!b)
def mAnd (f g : Env → O Bool) : Env → O Bool := fun ρ => f ρ >>= fun b => if b = true then g ρ else .ok false
def mOr (f g : Env → O Bool) : Env → O Bool := fun ρ => f ρ >>= fun b => if b = true then .ok true else g ρ
theorem ct_not {a : Expr} {pos : Pos} {f : Env → O Bool} (ha : CT X W κ a f) : CT X W κ (.UnaryOp .Not a pos) (mNot f) :=
  PT.imp (pt_not ha) fun σ H Q h => by
    obtain ⟨S, H0, Hs0, ρ, Hs, F, R, p⟩ := h
    exact stepTT R p fun b H1 Hs1 _ g R1 p1 => p1 H1 Hs1 (.refl R1.sub)
theorem tAnd_of {K : PySem.W.Frag} {f g : Env → O Bool} {σ : L2.St} {H : Hp} {Q : Bool → Hp → Prop} (h : tT K W κ (mAnd f g) σ H Q) : tAnd (tT K W κ f) (tT K W κ g) σ H Q := by
  obtain ⟨S, H0, Hs0, ρ, Hs, F, R, p⟩ := h
  refine stepTT R p fun b H1 Hs1 _ g1 R1 p1 => ?_
  cases b with
  | true => rw [if_pos rfl] at p1 ⊢; exact ⟨S, H0, Hs0, ρ, Hs1, F, R1, p1⟩
  | false => rw [if_neg Bool.false_ne_true] at p1 ⊢; exact p1 H1 Hs1 (.refl R1.sub)
theorem tOr_of {K : PySem.W.Frag} {f g : Env → O Bool} {σ : L2.St} {H : Hp} {Q : Bool → Hp → Prop} (h : tT K W κ (mOr f g) σ H Q) : tOr (tT K W κ f) (tT K W κ g) σ H Q := by
  obtain ⟨S, H0, Hs0, ρ, Hs, F, R, p⟩ := h
  refine stepTT R p fun b H1 Hs1 _ g1 R1 p1 => ?_
  cases b with
  | true => rw [if_pos rfl] at p1 ⊢; exact p1 H1 Hs1 (.refl R1.sub)
  | false => rw [if_neg Bool.false_ne_true] at p1 ⊢; exact ⟨S, H0, Hs0, ρ, Hs1, F, R1, p1⟩
abbrev CW (X : Cx) (W : WX) (κ : List Kd) (e : Expr) (f : Env → O Bool) : Prop := PW X e (tT X.K W κ f)
theorem cw_and1 {a : Expr} {pos : Pos} {f : Env → O Bool} (h : CT X W κ a f) : CW X W κ (.BoolOp .And [a] pos) f := pw_and1 h
theorem cw_or1 {a : Expr} {pos : Pos} {f : Env → O Bool} (h : CT X W κ a f) : CW X W κ (.BoolOp .Or [a] pos) f := pw_or1 h
theorem cw_and {a b : Expr} {rest : List Expr} {pos : Pos} {f g : Env → O Bool} (ha : CT X W κ a f) (hb : CW X W κ (.BoolOp .And (b :: rest) pos) g) : CW X W κ (.BoolOp .And (a :: b :: rest) pos) (mAnd f g) :=
  PW.imp (pw_and ha hb) fun _ _ _ h => tAnd_of h
theorem cw_or {a b : Expr} {rest : List Expr} {pos : Pos} {f g : Env → O Bool} (ha : CT X W κ a f) (hb : CW X W κ (.BoolOp .Or (b :: rest) pos) g) : CW X W κ (.BoolOp .Or (a :: b :: rest) pos) (mOr f g) :=
  PW.imp (pw_or ha hb) fun _ _ _ h => tOr_of h
theorem ct_bool {e : Expr} {f : Env → O Bool} (h : CW X W κ e f) : CT X W κ e f := PW.pt h
/-! bool-valued and, or, not as a value -/
def mBl (f : Env → O Bool) : Env → O D := fun ρ => f ρ >>= fun b => .ok (.bl b)
def mAndV (f g : Env → O D) : Env → O D := fun ρ => f ρ >>= asB >>= fun b => if b = true then g ρ else .ok (.bl false)
def mOrV (f g : Env → O D) : Env → O D := fun ρ => f ρ >>= asB >>= fun b => if b = true then .ok (.bl true) else g ρ
def mNotV (f : Env → O D) : Env → O D := fun ρ => f ρ >>= asB >>= fun b => .ok (.bl (!b))
theorem bind_assoc {α β γ : Type} (x : O α) (f : α → O β) (g : β → O γ) : (x >>= f >>= g) = (x >>= fun a => f a >>= g) := by cases x <;> rfl
theorem ce_one {op : BoolOp} {a : Expr} {pos : Pos} {f : Env → O D} (h : CE X W κ .sh a f) : CE X W κ .sh (.BoolOp op [a] pos) f := pe_one h
theorem ce_and {a b : Expr} {rest : List Expr} {pos : Pos} {f g : Env → O D} (ha : CE X W κ .sh a f) (hb : CE X W κ .sh (.BoolOp .And (b :: rest) pos) g) : CE X W κ .sh (.BoolOp .And (a :: b :: rest) pos) (mAndV f g) :=
  PE.imp (pe_and ha hb) fun σ H Q h => by
    obtain ⟨S, H0, Hs0, ρ, Hs, F, R, p⟩ := h
    have p' : EPost X.K W .sh σ H Hs Q (f ρ >>= fun d => asB d >>= fun b => if b = true then g ρ else .ok (.bl false)) := by rw [← bind_assoc]; exact p
    refine step R p' fun x vx H1 Hs1 _ g1 R1 rx p1 => ?_
    cases rx <;> first | exact p1.elim | skip
    rename_i b _
    refine ⟨b, rfl, ?_⟩
    have p2 : EPost X.K W .sh σ H1 Hs1 Q (if b = true then g ρ else .ok (.bl false)) := p1
    cases b with
    | true => rw [if_pos rfl] at p2 ⊢; exact ⟨S, H0, Hs0, ρ, Hs1, F, R1, p2⟩
    | false => rw [if_neg Bool.false_ne_true] at p2 ⊢; exact p2 _ _ (.sh (.refl R1.sub) (.bl _))
theorem ce_or {a b : Expr} {rest : List Expr} {pos : Pos} {f g : Env → O D} (ha : CE X W κ .sh a f) (hb : CE X W κ .sh (.BoolOp .Or (b :: rest) pos) g) : CE X W κ .sh (.BoolOp .Or (a :: b :: rest) pos) (mOrV f g) :=
  PE.imp (pe_or ha hb) fun σ H Q h => by
    obtain ⟨S, H0, Hs0, ρ, Hs, F, R, p⟩ := h
    have p' : EPost X.K W .sh σ H Hs Q (f ρ >>= fun d => asB d >>= fun b => if b = true then .ok (.bl true) else g ρ) := by rw [← bind_assoc]; exact p
    refine step R p' fun x vx H1 Hs1 _ g1 R1 rx p1 => ?_
    cases rx <;> first | exact p1.elim | skip
    rename_i b _
    refine ⟨b, rfl, ?_⟩
    have p2 : EPost X.K W .sh σ H1 Hs1 Q (if b = true then .ok (.bl true) else g ρ) := p1
    cases b with
    | true => rw [if_pos rfl] at p2 ⊢; exact p2 _ _ (.sh (.refl R1.sub) (.bl _))
    | false => rw [if_neg Bool.false_ne_true] at p2 ⊢; exact ⟨S, H0, Hs0, ρ, Hs1, F, R1, p2⟩
theorem ce_not {a : Expr} {pos : Pos} {f : Env → O D} (ha : CE X W κ .sh a f) : CE X W κ .sh (.UnaryOp .Not a pos) (mNotV f) :=
  PE.imp (pe_not ha) fun σ H Q h => by
    obtain ⟨S, H0, Hs0, ρ, Hs, F, R, p⟩ := h
    have p' : EPost X.K W .sh σ H Hs Q (f ρ >>= fun d => asB d >>= fun b => .ok (.bl (!b))) := by rw [← bind_assoc]; exact p
    refine step R p' fun x vx H1 Hs1 _ g1 R1 rx p1 => ?_
    cases rx <;> first | exact p1.elim | skip
    rename_i b _
    exact ⟨b, rfl, p1 _ _ (.sh (.refl R1.sub) (.bl _))⟩
def mIf (c : Env → O Bool) (f g : Env → O D) : Env → O D := fun ρ => c ρ >>= fun b => if b = true then f ρ else g ρ
theorem ce_if {c a b : Expr} {pos : Pos} {r : Kd} {t : Env → O Bool} {f g : Env → O D} (hc : CT X W κ c t) (ha : CE X W κ r a f) (hb : CE X W κ r b g) : CE X W κ r (.IfExp c a b pos) (mIf t f g) :=
  PE.imp (pe_ifExp hc ha hb) fun σ H Q h => by
    obtain ⟨S, H0, Hs0, ρ, Hs, F, R, p⟩ := h
    refine stepT R p fun b H1 Hs1 _ g1 R1 p1 => ?_
    cases b with
    | true => rw [if_pos rfl] at p1 ⊢; exact ⟨S, H0, Hs0, ρ, Hs1, F, R1, p1⟩
    | false => rw [if_neg Bool.false_ne_true] at p1 ⊢; exact ⟨S, H0, Hs0, ρ, Hs1, F, R1, p1⟩
/-- a < b < c -/
def mChain (o o' : D → D → O D) (f g h : Env → O D) : Env → O D := fun ρ => f ρ >>= fun x => g ρ >>= fun y => match o x y with
  | .ok (.bl true) => h ρ >>= fun z => (match o' y z with
    | .ok (.bl b) => .ok (.bl b)
    | _ => .stuck)
  | .ok (.bl false) => .ok (.bl false)
  | _ => .stuck

/-! the comparisons themselves -/
def dLt : D → D → O D := dI (fun _ _ => true) fun i j => .bl (decide (i < j))
def dLe : D → D → O D := dI (fun _ _ => true) fun i j => .bl (decide (i ≤ j))
def dGt : D → D → O D := dI (fun _ _ => true) fun i j => .bl (decide (j < i))
def dGe : D → D → O D := dI (fun _ _ => true) fun i j => .bl (decide (j ≤ i))
theorem sem_lt {K : PySem.W.Frag} : BinSem K (rI0 fun i j => .bl (decide (i < j))) .sh dLt := sem_I0 fun _ _ _ => .bl _
theorem sem_le {K : PySem.W.Frag} : BinSem K (rI0 fun i j => .bl (decide (i ≤ j))) .sh dLe := sem_I0 fun _ _ _ => .bl _
theorem sem_gt {K : PySem.W.Frag} : BinSem K (rI0 fun i j => .bl (decide (j < i))) .sh dGt := sem_I0 fun _ _ _ => .bl _
theorem sem_ge {K : PySem.W.Frag} : BinSem K (rI0 fun i j => .bl (decide (j ≤ i))) .sh dGe := sem_I0 fun _ _ _ => .bl _
def eqData (d e : D) : O Bool := match d.pd, e.pd with
  | some p, some q => if SeqAt.shaped p = true ∧ SeqAt.shaped q = true then .ok (PyData.eqv p q) else .stuck
  | _, _ => .stuck
def eqB : D → D → O Bool
  | .int i, .int j => .ok (decide (i = j))
  | .str i, .str j => .ok (decide (i = j))
  | .bl i, .bl j => .ok (decide (i = j))
  | d, e => eqData d e
def dEq (d e : D) : O D := eqB d e >>= fun b => .ok (.bl b)
def dNe (d e : D) : O D := eqB d e >>= fun b => .ok (.bl (!b))
theorem eqData_ok {d e : D} {b : Bool} (h : eqData d e = .ok b) : ∃ p q, d.pd = some p ∧ e.pd = some q ∧ SeqAt.shaped p = true ∧ SeqAt.shaped q = true ∧ b = PyData.eqv p q := by
  unfold eqData at h
  cases ep : d.pd with
  | none => rw [ep] at h; cases h
  | some p =>
    cases eq : e.pd with
    | none => rw [ep, eq] at h; cases h
    | some q =>
      rw [ep, eq] at h
      dsimp only at h
      split at h
      · rename_i hc
        cases h
        exact ⟨p, q, rfl, rfl, hc.1, hc.2, rfl⟩
      · cases h
theorem eqB_ok {K : PySem.W.Frag} {H Hs : Hp} {d e : D} {x y : V} {b : Bool} (sub : Ext Hs H) (rx : Rep K Hs d x) (ry : Rep K Hs e y) (h : eqB d e = .ok b) :
    (scal x y = true ∧ b = decide (x = y)) ∨ ∃ p q, Dp K H x p ∧ Dp K H y q ∧ SeqAt.shaped p = true ∧ SeqAt.shaped q = true ∧ b = PyData.eqv p q := by
  have dat : eqData d e = .ok b → ∃ p q, Dp K H x p ∧ Dp K H y q ∧ SeqAt.shaped p = true ∧ SeqAt.shaped q = true ∧ b = PyData.eqv p q := fun h => by
    obtain ⟨p, q, h1, h2, h3, h4, h5⟩ := eqData_ok h
    exact ⟨p, q, (rx.mono sub).dp h1, (ry.mono sub).dp h2, h3, h4, h5⟩
  unfold eqB at h
  split at h
  · cases rx; cases ry; cases h; exact .inl ⟨rfl, by simp⟩
  · cases rx; cases ry; cases h; exact .inl ⟨rfl, by simp⟩
  · cases rx; cases ry; cases h; exact .inl ⟨rfl, by simp⟩
  · exact .inr (dat h)
theorem sem_eq {K : PySem.W.Frag} : BinSem K (fun x y H Q => rEq x y H Q ∨ rEqD K x y H Q) .sh dEq := .flat fun H Hs d e z x y Q sub rx ry hz q => by
  unfold dEq at hz
  cases eb : eqB d e with
  | stuck => rw [eb] at hz; cases hz
  | exc c fs => rw [eb] at hz; cases hz
  | ok b =>
    rw [eb] at hz
    cases hz
    rcases eqB_ok sub rx ry eb with ⟨h1, h2⟩ | ⟨p, s, h1, h2, h3, h4, h5⟩
    · exact .inl ⟨h1, h2 ▸ q _ (.bl _)⟩
    · exact .inr ⟨p, s, h1, h2, h3, h4, h5 ▸ q _ (.bl _)⟩
theorem sem_ne {K : PySem.W.Frag} : BinSem K (fun x y H Q => rNe x y H Q ∨ rNeD K x y H Q) .sh dNe := .flat fun H Hs d e z x y Q sub rx ry hz q => by
  unfold dNe at hz
  cases eb : eqB d e with
  | stuck => rw [eb] at hz; cases hz
  | exc c fs => rw [eb] at hz; cases hz
  | ok b =>
    rw [eb] at hz
    cases hz
    rcases eqB_ok sub rx ry eb with ⟨h1, h2⟩ | ⟨p, s, h1, h2, h3, h4, h5⟩
    · exact .inl ⟨h1, h2 ▸ q _ (.bl _)⟩
    · exact .inr ⟨p, s, h1, h2, h3, h4, h5 ▸ q _ (.bl _)⟩
/-- x in xs -/
def inFlat (x : D) (xs : List D) : O Bool := if x.flat = true ∧ xs.all D.flat = true then .ok (xs.any fun y => match y, x with
  | .non, .non => true
  | .bl a, .bl b => a == b
  | .bl a, .int b => (if a then 1 else 0) == b
  | .int a, .bl b => a == (if b then 1 else 0)
  | .int a, .int b => a == b
  | .str a, .str b => a == b
  | _, _ => false) else .stuck
def inB : D → D → O Bool
  | .str a, .str b => .ok (!(Builtin.Str.occurrences b a 0 b.length 1).isEmpty)
  | x, .tup ys => inFlat x ys
  | x, .lst ys => if x.flat = true ∧ ys.all D.flat = true then inFlat x ys else match x.pd, D.pds ys with
    | some p, some qs => if SeqAt.shaped p = true ∧ SeqAt.shaped (.list qs) = true then .ok (qs.any fun z => PyData.eqv z p) else .stuck
    | _, _ => .stuck
  | _, _ => .stuck
def dIn (d e : D) : O D := inB d e >>= fun b => .ok (.bl b)
def dNotIn (d e : D) : O D := inB d e >>= fun b => .ok (.bl (!b))
theorem flat_V {K : PySem.W.Frag} {H : Hp} {d : D} {v : V} (r : Rep K H d v) (h : d.flat = true) : flatV v = true := by
  cases r <;> first | rfl | cases h
theorem flat_Vs {K : PySem.W.Frag} {H : Hp} : ∀ {ds : List D} {vs : List V}, Reps K H ds vs → ds.all D.flat = true → vs.all flatV = true
  | _, _, .nil, _ => rfl
  | _, _, .cons a b, h => by
    rw [List.all_cons, Bool.and_eq_true] at h
    rw [List.all_cons, flat_V a h.1, flat_Vs b h.2]; rfl
theorem inFlat_ok {K : PySem.W.Frag} {H : Hp} {d : D} {ds : List D} {v : V} {vs : List V} {b : Bool} (r : Rep K H d v) (rs : Reps K H ds vs) (h : inFlat d ds = .ok b) : flatV v = true ∧ vs.all flatV = true ∧ b = inV v vs := by
  unfold inFlat at h
  split at h
  · rename_i hc
    refine ⟨flat_V r hc.1, flat_Vs rs hc.2, ?_⟩
    obtain ⟨h1, h2⟩ := hc
    cases h
    unfold inV
    induction ds generalizing vs with
    | nil => cases rs; rfl
    | cons e es ih =>
      cases rs with
      | cons a q =>
        rw [List.all_cons, Bool.and_eq_true] at h2
        rw [List.any_cons, List.any_cons, ih q h2.2]
        congr 1
        have h3 := h2.1
        cases a <;> cases r <;> first | rfl | (cases h1; done) | (cases h3; done)
  · cases h

theorem sem_in {K : PySem.W.Frag} (neg : Bool) : BinSem K (fun x y H Q => (∃ i j, x = .str i ∧ y = .str j ∧ Q (.bl (if neg then !(!(Builtin.Str.occurrences j i 0 j.length 1).isEmpty) else !(Builtin.Str.occurrences j i 0 j.length 1).isEmpty)) H) ∨ rIn K neg x y H Q ∨
    ∃ d ds, Dp K H x d ∧ Dp K H y (.list ds) ∧ SeqAt.shaped d = true ∧ SeqAt.shaped (.list ds) = true ∧ Q (.bl (if neg then !(ds.any fun z => PyData.eqv z d) else ds.any fun z => PyData.eqv z d)) H) .sh
    (fun d e => inB d e >>= fun b => .ok (.bl (if neg then !b else b))) := .flat fun H Hs d e z x y Q sub rx ry hz q => by
  cases eb : inB d e with
  | stuck => rw [eb] at hz; cases hz
  | exc c fs => rw [eb] at hz; cases hz
  | ok b =>
    rw [eb] at hz
    cases hz
    have q := fun v => q v
    unfold inB at eb
    split at eb
    · cases rx; cases ry; cases eb
      exact .inl ⟨_, _, rfl, rfl, q _ (.bl _)⟩
    · cases ry with
      | tup h rs =>
        obtain ⟨h1, h2, h3⟩ := inFlat_ok rx rs eb
        subst h3
        exact .inr (.inl ⟨_, _, rfl, .inr (sub.sqt h), h1, h2, q _ (.bl _)⟩)
    · cases ry with
      | lst h rs =>
        split at eb
        · obtain ⟨h1, h2, h3⟩ := inFlat_ok rx rs eb
          subst h3
          exact .inr (.inl ⟨_, _, rfl, .inl (SqL.of (sub _ _ h)), h1, h2, q _ (.bl _)⟩)
        · split at eb
          · rename_i p qs e1 e2
            split at eb
            · rename_i hc
              cases eb
              exact .inr (.inr ⟨p, qs, (rx.mono sub).dp e1, .lst (SqL.of (sub _ _ h)) ((rs.mono sub).dp e2), hc.1, hc.2, q _ (.bl _)⟩)
            · cases eb
          · cases eb
    · cases eb
theorem op_inAll (hu : X.A.units + 65 < cLine) : OpR X (compareOp .In) (fun x y H Q => (∃ i j, x = .str i ∧ y = .str j ∧ Q (.bl (!(Builtin.Str.occurrences j i 0 j.length 1).isEmpty)) H) ∨ rIn X.K false x y H Q ∨
    ∃ d ds, Dp X.K H x d ∧ Dp X.K H y (.list ds) ∧ SeqAt.shaped d = true ∧ SeqAt.shaped (.list ds) = true ∧ Q (.bl (ds.any fun z => PyData.eqv z d)) H) := op_in_str.or (op_in_seq.or (op_inD hu))
theorem op_ninAll (hu : X.A.units + 65 < cLine) : OpR X (compareOp .NotIn) (fun x y H Q => (∃ i j, x = .str i ∧ y = .str j ∧ Q (.bl (!(!(Builtin.Str.occurrences j i 0 j.length 1).isEmpty))) H) ∨ rIn X.K true x y H Q ∨
    ∃ d ds, Dp X.K H x d ∧ Dp X.K H y (.list ds) ∧ SeqAt.shaped d = true ∧ SeqAt.shaped (.list ds) = true ∧ Q (.bl (!ds.any fun z => PyData.eqv z d)) H) := op_notin_str.or (op_notIn_seq.or (op_notInD hu))
/-- is None -/
def D.isN : D → Bool
  | .non => true
  | _ => false
def dIsN : D → D → O D
  | d, .non => .ok (.bl d.isN)
  | _, _ => .stuck
def dNotN : D → D → O D
  | d, .non => .ok (.bl (!d.isN))
  | _, _ => .stuck
theorem isN_V {K : PySem.W.Frag} {H : Hp} {d : D} {v : V} (r : Rep K H d v) : decide (v = .non) = d.isN := by
  cases r <;> simp [D.isN]
theorem sem_isN {K : PySem.W.Frag} : BinSem K (fun x y H Q => y = .non ∧ Q (.bl (decide (x = .non))) H) .sh dIsN := .flat fun H Hs d e z x y Q sub rx ry hz q => by
  cases ry <;> first | (cases hz; done) | skip
  cases hz
  exact ⟨rfl, by rw [isN_V rx]; exact q _ (.bl _)⟩
theorem sem_notN {K : PySem.W.Frag} : BinSem K (fun x y H Q => y = .non ∧ Q (.bl (!decide (x = .non))) H) .sh dNotN := .flat fun H Hs d e z x y Q sub rx ry hz q => by
  cases ry <;> first | (cases hz; done) | skip
  cases hz
  exact ⟨rfl, by rw [isN_V rx]; exact q _ (.bl _)⟩
theorem sem_in0 {K : PySem.W.Frag} : BinSem K (fun x y H Q => (∃ i j, x = .str i ∧ y = .str j ∧ Q (.bl (!(Builtin.Str.occurrences j i 0 j.length 1).isEmpty)) H) ∨ rIn K false x y H Q ∨
    ∃ d ds, Dp K H x d ∧ Dp K H y (.list ds) ∧ SeqAt.shaped d = true ∧ SeqAt.shaped (.list ds) = true ∧ Q (.bl (ds.any fun z => PyData.eqv z d)) H) .sh dIn := sem_in false
theorem sem_nin0 {K : PySem.W.Frag} : BinSem K (fun x y H Q => (∃ i j, x = .str i ∧ y = .str j ∧ Q (.bl (!(!(Builtin.Str.occurrences j i 0 j.length 1).isEmpty))) H) ∨ rIn K true x y H Q ∨
    ∃ d ds, Dp K H x d ∧ Dp K H y (.list ds) ∧ SeqAt.shaped d = true ∧ SeqAt.shaped (.list ds) = true ∧ Q (.bl (!ds.any fun z => PyData.eqv z d)) H) .sh dNotIn := sem_in true
/-- a chain of two comparisons -/
theorem chain_run {r r' : R2} {o o' : D → D → O D} {f g h : Env → O D} {σ : L2.St} {H : Hp} {Q : VK} (hs : BinSem X.K r .sh o) (hs' : BinSem X.K r' .sh o') (q : tE X.K W κ .sh (mChain o o' f g h) σ H Q) : tChain r r' (tE X.K W κ .sh f) (tE X.K W κ .sh g) (tE X.K W κ .sh h) σ H Q := by
  obtain ⟨S, H0, Hs0, ρ, Hs, F, R, p⟩ := q
  refine step R p fun x vx H1 Hs1 _ g1 R1 rx p1 => ?_
  refine step R1 p1 fun y vy H2 Hs2 _ g2 R2 ry p2 => ?_
  cases e : o x y with
  | stuck => rw [e] at p2; exact p2.elim
  | exc c fs => rw [e] at p2; exact p2.elim
  | ok z =>
    refine hs H2 Hs2 x y z vx vy _ R2.sub (rx.mono g2.exs) ry e fun v H3 rz => ?_
    obtain ⟨Hs3, g3, rz⟩ := rz.out
    rw [e] at p2
    cases rz <;> first | exact p2.elim | skip
    rename_i b
    refine ⟨b, rfl, ?_⟩
    cases b with
    | true =>
      have p3 : EPost X.K W .sh σ H2 Hs2 Q (h ρ >>= fun z => (match o' y z with
        | .ok (.bl b) => .ok (.bl b)
        | _ => .stuck)) := p2
      have p4 : EPost X.K W .sh σ H3 Hs3 Q (h ρ >>= fun z => (match o' y z with
        | .ok (.bl b) => .ok (.bl b)
        | _ => .stuck)) := by
        cases eh : h ρ with
        | stuck => rw [eh] at p3; exact p3.elim
        | exc c fs => rw [eh] at p3; exact fun cls dx H' q' => p3 cls dx H' (xres_pre g3 q')
        | ok z =>
          rw [eh, bind_ok] at p3
          rw [bind_ok]
          split at p3
          · exact fun v' H' q' => p3 v' H' (q'.pre g3)
          · exact p3.elim
      rw [if_pos rfl]
      refine step (R2.grow g3) p4 fun z vz H4 Hs4 _ g4 R4 rz p5 => ?_
      cases e2 : o' y z with
      | stuck => rw [e2] at p5; exact p5.elim
      | exc c fs => rw [e2] at p5; exact p5.elim
      | ok w =>
        rw [e2] at p5
        have ryy := (ry.mono g3.exs).mono g4.exs
        refine hs' H4 Hs4 y z w vy vz Q R4.sub ryy rz e2 fun v H5 rw_ => ?_
        split at p5
        · rename_i b' eb
          cases eb
          exact p5 v H5 rw_
        · exact p5.elim
    | false =>
      have p3 : EPost X.K W .sh σ H2 Hs2 Q (.ok (.bl false)) := p2
      rw [if_neg Bool.false_ne_true]
      exact p3 _ _ (.sh g3 (.bl _))
end
end T

set_option Elab.async false
set_option linter.all false
set_option maxRecDepth 100000
set_option maxHeartbeats 1000000
/-! T3: argument lists, displays, items, slices, calls of built-ins. -/
namespace T
open PySem L2
section
variable {X : Cx} {W : WX} {κ : List Kd}
/-! ### arguments -/
def mNil : Env → O (List D) := fun _ => .ok []
def mCons (f : Env → O D) (g : Env → O (List D)) : Env → O (List D) := fun ρ => f ρ >>= fun d => g ρ >>= fun ds => .ok (d :: ds)
theorem stepAA {S : List Addr} {H0 Hs0 : Hp} {ρ : Env} {σ : L2.St} {H Hs : Hp} {F : Foot} {K : PySem.W.Frag} {f : Env → O D} {k : D → O (List D)} {Q : List V → Hp → Prop} (R : Rel K S H0 Hs0 κ ρ σ H Hs F) (p : APost K W σ H Hs Q (f ρ >>= k))
    {R2 : V → Hp → Prop} (h : ∀ d v H1 Hs1, f ρ = .ok d → Grow H Hs H1 Hs1 → Rel K S H0 Hs0 κ ρ σ H1 Hs1 F → Rep K Hs1 d v → APost K W σ H1 Hs1 Q (k d) → R2 v H1) : tE K W κ .sh f σ H R2 := by
  refine ⟨S, H0, Hs0, ρ, Hs, F, R, ?_⟩
  cases e : f ρ with
  | stuck => rw [e] at p; exact p
  | exc c fs => rw [e] at p; exact p
  | ok d =>
    rw [e] at p
    intro v H1 q
    obtain ⟨Hs1, g, rp⟩ := q.out
    refine h d v H1 Hs1 e g (R.grow g) rp ?_
    have p' : APost K W σ H Hs Q (k d) := p
    cases ek : k d with
    | stuck => rw [ek] at p'; exact p'
    | ok z => rw [ek] at p'; exact fun v' H' Hs' q' => p' v' H' Hs' (g.trans q')
    | exc c fs => rw [ek] at p'; exact fun cls dx H' q' => p' cls dx H' (xres_pre g q')
theorem ca_nil : CA X W κ [] mNil := PA.imp pa_nil fun σ H Q h => by
  obtain ⟨S, H0, Hs0, ρ, Hs, F, R, p⟩ := h
  exact p [] H Hs (.refl R.sub) .nil
theorem ca_cons {e : Expr} {es : List Expr} {f : Env → O D} {g : Env → O (List D)} (ha : CE X W κ .sh e f) (hr : CA X W κ es g) (hs : starEach (e :: es) X.env = (false, eval e X.env) :: starEach es X.env := by rfl) : CA X W κ (e :: es) (mCons f g) :=
  PA.imp (pa_cons ha hr hs) fun σ H Q h => by
    obtain ⟨S, H0, Hs0, ρ, Hs, F, R, p⟩ := h
    refine stepAA R p fun x vx H1 Hs1 _ g1 R1 rx p1 => ?_
    refine ⟨S, H0, Hs0, ρ, Hs1, F, R1, ?_⟩
    cases e : g ρ with
    | stuck => rw [e] at p1; exact p1
    | exc c fs => rw [e] at p1; exact p1
    | ok ds => rw [e] at p1; exact fun vs H' Hs' g2 rs => p1 _ H' Hs' g2 (.cons (rx.mono g2.exs) rs)
/-! ### displays -/
def mkT (ds : List D) : O D := if ds.length ≤ sizeLine then .ok (.tup ds) else .stuck
def mkL (ds : List D) : O D := if ds.length ≤ sizeLine then .ok (.lst ds) else .stuck
def mTup (f : Env → O (List D)) : Env → O D := fun ρ => f ρ >>= mkT
def mLst (f : Env → O (List D)) : Env → O D := fun ρ => f ρ >>= mkL
theorem ce_tup {es : List Expr} {x1 : _} {pos : Pos} {f : Env → O (List D)} (h : CA X W κ es f) : CE X W κ .sh (.Tuple es x1 pos) (mTup f) :=
  PE.imp (pe_tup h) fun σ H Q q => by
    obtain ⟨S, H0, Hs0, ρ, Hs, F, R, p⟩ := q
    refine stepA R p fun ds vs H1 Hs1 _ g1 R1 rs p1 => ?_
    unfold mkT at p1
    split at p1
    · rename_i hl
      exact ⟨by rw [← rs.length]; exact hl, fun t ht => p1 _ _ (.tuple R1.sub rs ht)⟩
    · exact p1.elim
theorem ce_lstO {es : List Expr} {pos : Pos} {f : Env → O (List D)} (h : CA X W κ es f) : CE X W κ (.ls .sh) (.List es pos) (mLst f) :=
  PE.imp (pe_lst h) fun σ H Q q => by
    obtain ⟨S, H0, Hs0, ρ, Hs, F, R, p⟩ := q
    refine stepA R p fun ds vs H1 Hs1 _ g1 R1 rs p1 => ?_
    unfold mkL at p1
    split at p1
    · rename_i hl
      exact ⟨by rw [← rs.length]; exact hl, fun t ht => p1 _ _ (.list R1.sub rs ht)⟩
    · exact p1.elim
theorem ce_lst {es : List Expr} {pos : Pos} {f : Env → O (List D)} (h : CA X W κ es f) : CE X W κ .sh (.List es pos) (mLst f) := ce_share (ce_lstO h)
/-- an empty list that is to hold owned lists -/
theorem ce_nilO {k : Kd} {pos : Pos} : CE X W κ (.ls k) (.List [] pos) (mC (.lst [])) :=
  PE.imp (pe_lst (ca_nil (W := W) (κ := κ))) fun σ H Q q => by
    obtain ⟨S, H0, Hs0, ρ, Hs, F, R, p⟩ := q
    refine ⟨S, H0, Hs0, ρ, Hs, F, R, fun vs H1 Hs1 g1 rs => ?_⟩
    cases rs
    refine ⟨Nat.zero_le _, fun l hl => p _ _ ?_⟩
    refine ⟨Hs1, [l], g1.trans (.newOwn g1.sub hl), by simp, fun a ha => ?_, l, [], [], [], rfl, rfl, upd_same, rfl, .nil⟩
    have e : a = l := by simpa using ha
    subst e
    exact ⟨g1.ex.none hl, g1.sub.none hl, by rw [upd_same]; simp⟩
/-! ### items -/
def dIx : D → D → O D
  | .lst xs, .int i => match atI xs i with
    | some d => .ok d
    | none => .stuck
  | .tup xs, .int i => match atI xs i with
    | some d => .ok d
    | none => .stuck
  | .scr xs, .int i => match atI xs i with
    | some d => .ok (.int d)
    | none => .stuck
  | .str s, .int i => if s.length ≤ sizeLine then (match atI s.cps.toList i with
    | some c => .ok (.str ⟨#[c]⟩)
    | none => .stuck) else .stuck
  | _, _ => .stuck
theorem atI_rep {K : PySem.W.Frag} {H : Hp} {ds : List D} {vs : List V} {i : Int} {d : D} (r : Reps K H ds vs) (h : atI ds i = some d) : ∃ v, atI vs i = some v ∧ Rep K H d v := by
  unfold atI at h ⊢
  rw [← r.length]
  cases e : ixN ds.length i with
  | none => rw [e] at h; cases h
  | some j =>
    rw [e] at h
    obtain ⟨v, h1, h2⟩ := r.get (i := j) h
    exact ⟨v, h1, h2⟩
theorem sem_ix {K : PySem.W.Frag} : BinSem K (rIx K) .sh dIx := .flat fun H Hs d e z x y Q sub rx ry hz q => by
  cases ry <;> first | (cases rx <;> cases hz; done) | skip
  rename_i i
  cases rx <;> first | (cases hz; done) | skip
  · rename_i s
    dsimp only [dIx] at hz
    split at hz
    · rename_i hl
      split at hz
      · rename_i c hc
        cases hz
        exact .inr (.inr ⟨s, i, c, rfl, rfl, hl, hc, q _ (.str _)⟩)
      · cases hz
    · cases hz
  · rename_i a ds vs h r
    dsimp only [dIx] at hz
    split at hz
    · rename_i c hc
      cases hz
      obtain ⟨v, h1, h2⟩ := atI_rep r hc
      exact .inr (.inl ⟨a, vs, i, v, rfl, rfl, sub.sqt h, h1, q _ h2⟩)
    · cases hz
  · rename_i a ds vs h r
    dsimp only [dIx] at hz
    split at hz
    · rename_i c hc
      cases hz
      obtain ⟨v, h1, h2⟩ := atI_rep r hc
      exact .inl ⟨a, vs, i, v, rfl, rfl, SqL.of (sub _ _ h), h1, q _ h2⟩
    · cases hz
  · rename_i a ns h
    dsimp only [dIx] at hz
    split at hz
    · rename_i c hc
      cases hz
      refine .inl ⟨a, ns.map V.int, i, .int c, rfl, rfl, sub.sql h, ?_, q _ (.int _)⟩
      unfold atI at hc ⊢
      rw [List.length_map]
      cases e : ixN ns.length i with
      | none => rw [e] at hc; cases hc
      | some j =>
        rw [e, Option.bind_some] at hc
        rw [Option.bind_some, List.getElem?_map, hc]; rfl
    · cases hz
theorem ce_ix {a b : Expr} {pos : Pos} {f g : Env → O D} (ha : CE X W κ .sh a f) (hb : CE X W κ .sh b g) (hs : PlainIx b := by exact fun _ _ => rfl) : CE X W κ .sh (.Subscript a b pos) (mBin dIx f g) :=
  PE.imp (pe_ix ix_seq ha hb hs) fun _ _ _ h => bin_run sem_ix h
/-- an item of a slot's own list, the item shared -/
def mIxO (i : Nat) (g : Env → O D) : Env → O D := fun ρ => match ρ[i]? with
  | some (some d) => g ρ >>= fun e => dIx d e
  | _ => .stuck
theorem ce_ixO (i : Nat) {x : Str} {p pos : Pos} {b : Expr} {g : Env → O D} (hk : kAt κ i = .ls .sh) (hp : PE X (.Name x p) (tVar i)) (hb : CE X W κ .sh b g) (hs : PlainIx b := by exact fun _ _ => rfl) : CE X W κ .sh (.Subscript (.Name x p) b pos) (mIxO i g) :=
  PE.imp (pe_ix ix_seq hp hb hs) fun σ H Q h => by
    obtain ⟨S, H0, Hs0, ρ, Hs, F, R, p⟩ := h
    unfold mIxO at p
    split at p
    · rename_i d e
      obtain ⟨v, h1, h2⟩ := R.sl i d e
      rw [hk] at h2
      obtain ⟨a, ds, vs, Fs, rfl, rfl, ha, hF, r⟩ := h2
      refine ⟨_, h1, ?_⟩
      refine step R p fun y vy H1 Hs1 _ g1 R1 ry p1 => ?_
      cases ry <;> first | exact p1.elim | skip
      rename_i k _
      have p2 : EPost X.K W .sh σ H1 Hs1 Q (match atI ds k with
        | some d => .ok d
        | none => .stuck) := p1
      cases ea : atI ds k with
      | none => rw [ea] at p2; exact p2.elim
      | some d =>
        rw [ea] at p2
        have rs : Reps X.K Hs ds vs := by
          clear p p1 p2 ea hF ha e
          induction r with
          | nil => exact .nil
          | cons q _ ih => exact .cons q.1 ih
        obtain ⟨v, h3, h4⟩ := atI_rep rs ea
        exact .inl ⟨a, vs, k, v, rfl, rfl, SqL.of (g1.ex _ _ ha), h3, p2 v H1 (.sh (.refl R1.sub) (h4.mono g1.exs))⟩
    · exact p.elim
/-! ### slices -/
def tOpt (K : PySem.W.Frag) (W : WX) (κ : List Kd) (f : Env → O (Option Int)) : TO := fun σ H Q =>
  ∃ S H0 Hs0 ρ Hs F, Rel K S H0 Hs0 κ ρ σ H Hs F ∧ match f ρ with
    | .stuck => False
    | .ok i => ∀ H' Hs', Grow H Hs H' Hs' → Q i H'
    | .exc c fs => ∀ cls dx H', XRes K c fs cls dx H Hs H' → W cls dx σ H'
abbrev CO (X : Cx) (W : WX) (κ : List Kd) (e : Option Expr) (f : Env → O (Option Int)) : Prop := PO X e (tOpt X.K W κ f)
theorem PO.imp {e : Option Expr} {t t' : TO} (h : PO X e t) (hi : ∀ σ H Q, t' σ H Q → t σ H Q) : PO X e t' := ⟨fun pins s σ H Q I q => h.run pins s σ H Q I (hi σ H Q q)⟩
def mB0 : Env → O (Option Int) := fun _ => .ok none
def asInt (d : D) : O Int := match d with
  | .int i => .ok i
  | _ => .stuck
def mB1 (f : Env → O D) : Env → O (Option Int) := fun ρ => f ρ >>= asInt >>= fun i => .ok (some i)
theorem co_none : CO X W κ none mB0 := PO.imp po_none fun σ H Q h => by
  obtain ⟨S, H0, Hs0, ρ, Hs, F, R, p⟩ := h
  exact p H Hs (.refl R.sub)
theorem co_some {e : Expr} {f : Env → O D} (h : CE X W κ .sh e f) : CO X W κ (some e) (mB1 f) := PO.imp (po_some h) fun σ H Q q => by
  obtain ⟨S, H0, Hs0, ρ, Hs, F, R, p⟩ := q
  refine ⟨S, H0, Hs0, ρ, Hs, F, R, ?_⟩
  unfold mB1 at p
  cases e : f ρ with
  | stuck => rw [e] at p; exact p
  | exc c fs => rw [e] at p; exact p
  | ok d =>
    rw [e] at p
    intro v H' r
    obtain ⟨Hs', g, rp⟩ := r.out
    cases rp <;> first | exact p.elim | skip
    exact ⟨_, rfl, p H' Hs' g⟩
def cutD (xs : List D) (lo hi : Option Int) : List D := (xs.drop (HT.sIx xs.length 0 lo)).take (HT.sIx xs.length xs.length hi - HT.sIx xs.length 0 lo)
def dSl (d : D) (lo hi : Option Int) : O D := match d with
  | .lst xs => .ok (.lst (cutD xs lo hi))
  | .tup xs => .ok (.tup (cutD xs lo hi))
  | .str s => if s.length ≤ sizeLine then .ok (.str (cutS s lo hi)) else .stuck
  | _ => .stuck
def dSlL (d : D) (lo hi : Option Int) : O D := match d with
  | .lst xs => .ok (.lst (cutD xs lo hi))
  | _ => .stuck
def mSl (o : D → Option Int → Option Int → O D) (f : Env → O D) (lo hi : Env → O (Option Int)) : Env → O D := fun ρ => f ρ >>= fun d => lo ρ >>= fun l => hi ρ >>= fun h => o d l h
theorem cut_rep {K : PySem.W.Frag} {H : Hp} {ds : List D} {vs : List V} (r : Reps K H ds vs) (lo hi : Option Int) : Reps K H (cutD ds lo hi) (cutV vs lo hi) := by
  unfold cutD cutV
  rw [r.length]
  exact (r.drop _).take _
theorem stepO {S : List Addr} {H0 Hs0 : Hp} {ρ : Env} {σ : L2.St} {H Hs : Hp} {F : Foot} {K : PySem.W.Frag} {f : Env → O (Option Int)} {o : Option Int → O D} {r : Kd} {Q : VK} (R : Rel K S H0 Hs0 κ ρ σ H Hs F) (p : EPost K W r σ H Hs Q (f ρ >>= o))
    {R2 : Option Int → Hp → Prop} (h : ∀ b H1 Hs1, f ρ = .ok b → Grow H Hs H1 Hs1 → Rel K S H0 Hs0 κ ρ σ H1 Hs1 F → EPost K W r σ H1 Hs1 Q (o b) → R2 b H1) : tOpt K W κ f σ H R2 := by
  refine ⟨S, H0, Hs0, ρ, Hs, F, R, ?_⟩
  cases e : f ρ with
  | stuck => rw [e] at p; exact p
  | exc c fs => rw [e] at p; exact p
  | ok b =>
    rw [e] at p
    intro H1 Hs1 g
    refine h b H1 Hs1 e g (R.grow g) ?_
    have p' : EPost K W r σ H Hs Q (o b) := p
    cases ek : o b with
    | stuck => rw [ek] at p'; exact p'
    | ok z => rw [ek] at p'; exact fun v' H' q' => p' v' H' (q'.pre g)
    | exc c fs => rw [ek] at p'; exact fun cls dx H' q' => p' cls dx H' (xres_pre g q')
/-- a slice's rule over data -/
def SlSem (K : PySem.W.Frag) (r : V → Option Int → Option Int → Hp → VK → Prop) (rr : Kd) (o : D → Option Int → Option Int → O D) : Prop :=
  ∀ (H Hs : Hp) (d z : D) (x : V) (lo hi : Option Int) (Q : VK), Ext Hs H → Rep K Hs d x → o d lo hi = .ok z → (∀ v H', Res K rr z v H Hs H' → Q v H') → r x lo hi H Q
theorem ce_sl {r : V → Option Int → Option Int → Hp → VK → Prop} {rr : Kd} {o : D → Option Int → Option Int → O D} {e : Expr} {lo hi : Option Expr} {p2 pos : Pos} {f : Env → O D} {l h : Env → O (Option Int)} (hs : SlSem X.K r rr o) (hr : SlR X r)
    (ho : ∀ d l h c fs, o d l h ≠ .exc c fs) (he : CE X W κ .sh e f) (hl : CO X W κ lo l) (hh : CO X W κ hi h) : CE X W κ rr (.Subscript e (.Slice lo hi none p2) pos) (mSl o f l h) :=
  PE.imp (pe_slice hr he hl hh) fun σ H Q q => by
    obtain ⟨S, H0, Hs0, ρ, Hs, F, R, p⟩ := q
    refine step R p fun d v H1 Hs1 _ g1 R1 rd p1 => ?_
    refine stepO R1 p1 fun a H2 Hs2 _ g2 R2 p2 => ?_
    refine stepO R2 p2 fun b H3 Hs3 _ g3 R3 p3 => ?_
    cases e : o d a b with
    | stuck => rw [e] at p3; exact p3.elim
    | exc c fs => exact absurd e (ho _ _ _ _ _)
    | ok z => rw [e] at p3; exact hs H3 Hs3 d z v a b Q R3.sub ((rd.mono g2.exs).mono g3.exs) e p3
theorem sem_slAll {K : PySem.W.Frag} : SlSem K (fun x lo hi H Q => rSlL K x lo hi H Q ∨ rSlA K x lo hi H Q ∨ rSlS x lo hi H Q) .sh dSl := fun H Hs d z x lo hi Q sub rx hz q => by
  cases rx <;> first | (cases hz; done) | skip
  · rename_i s
    dsimp only [dSl] at hz
    split at hz
    · rename_i hl
      cases hz
      exact .inr (.inr ⟨s, rfl, hl, q _ _ (.sh (.refl sub) (.str _))⟩)
    · cases hz
  · rename_i a ds vs h r
    cases hz
    refine .inr (.inl ⟨a, vs, rfl, sub.sqt h, fun e => ?_, fun _ p hp => q _ _ (.tuple sub (cut_rep r lo hi) hp)⟩)
    have e2 : cutD ds lo hi = ds := by
      unfold cutD
      rw [r.length, e.1, e.2, List.drop_zero, Nat.sub_zero, ← r.length, List.take_length]
    rw [e2] at q
    exact q _ _ (.sh (.refl sub) (Rep.tup h r))
  · rename_i a ds vs h r
    cases hz
    exact .inl ⟨a, vs, rfl, SqL.of (sub _ _ h), fun p hp => q _ _ (Res.list sub (cut_rep r lo hi) hp).share⟩
theorem sem_slL {K : PySem.W.Frag} : SlSem K (rSlL K) (.ls .sh) dSlL := fun H Hs d z x lo hi Q sub rx hz q => by
  cases rx <;> first | (cases hz; done) | skip
  rename_i a ds vs h r
  cases hz
  exact ⟨a, vs, rfl, SqL.of (sub _ _ h), fun p hp => q _ _ (.list sub (cut_rep r lo hi) hp)⟩
theorem ce_slice {e : Expr} {lo hi : Option Expr} {p2 pos : Pos} {f : Env → O D} {l h : Env → O (Option Int)} (he : CE X W κ .sh e f) (hl : CO X W κ lo l) (hh : CO X W κ hi h) : CE X W κ .sh (.Subscript e (.Slice lo hi none p2) pos) (mSl dSl f l h) :=
  ce_sl sem_slAll (sl_list.or (sl_tupA.or sl_str)) (fun d l h c fs e => by unfold dSl at e; split at e <;> first | (cases e; done) | (split at e <;> cases e)) he hl hh
theorem ce_sliceO {e : Expr} {lo hi : Option Expr} {p2 pos : Pos} {f : Env → O D} {l h : Env → O (Option Int)} (he : CE X W κ .sh e f) (hl : CO X W κ lo l) (hh : CO X W κ hi h) : CE X W κ (.ls .sh) (.Subscript e (.Slice lo hi none p2) pos) (mSl dSlL f l h) :=
  ce_sl sem_slL sl_list (fun d l h c fs e => by unfold dSlL at e; split at e <;> cases e) he hl hh

/-! ### calls of built-ins -/
def CallSem (K : PySem.W.Frag) (r : List V → Hp → VK → Prop) (rr : Kd) (o : List D → O D) : Prop :=
  ∀ (H Hs : Hp) (ds : List D) (z : D) (vs : List V) (Q : VK), Ext Hs H → Reps K Hs ds vs → o ds = .ok z → (∀ v H', Res K rr z v H Hs H' → Q v H') → r vs H Q
def noX (x : O D) : O D := match x with
  | .ok z => .ok z
  | _ => .stuck
def mCall (o : List D → O D) (f : Env → O (List D)) : Env → O D := fun ρ => f ρ >>= fun ds => noX (o ds)
theorem call_run {r : List V → Hp → VK → Prop} {rr : Kd} {o : List D → O D} {f : Env → O (List D)} {σ : L2.St} {H : Hp} {Q : VK} (hs : CallSem X.K r rr o) (q : tE X.K W κ rr (mCall o f) σ H Q) : tCB r (tA X.K W κ f) σ H Q := by
  obtain ⟨S, H0, Hs0, ρ, Hs, F, R, p⟩ := q
  refine stepA R p fun ds vs H1 Hs1 _ g1 R1 rs p1 => ?_
  cases e : o ds with
  | stuck => rw [e] at p1; exact p1.elim
  | exc c fs => rw [e] at p1; exact p1.elim
  | ok z => rw [e] at p1; exact hs H1 Hs1 ds z vs Q R1.sub rs e p1
theorem ce_callB {r : List V → Hp → VK → Prop} {rr : Kd} {o : List D → O D} {f : Env → O (List D)} {id : String} {x : Str} {p pos : Pos} {e : Expr} {es : List Expr} (hs : CallSem X.K r rr o) (hc : CallR X (.builtin id) r) (hg : Gl X x) (hm : X.mg x = none)
    (hv : bootBuiltins x = some (.builtin id)) (ha : CA X W κ (e :: es) f) (hn : x ≠ "__name__" := by decide) (hdb : (x == ("__debug__" : Str)) = false := by decide)
    (he : starEach (e :: es) X.env = (false, eval e X.env) :: starEach es X.env := by rfl) (hpl : (backTo pos (starEach es X.env)).any (·.1) = false := by rfl) : CE X W κ rr (.Call (.Name x p) (e :: es) [] pos) (mCall o f) :=
  PE.imp (pe_callB hc hg hm hv ha hn hdb he hpl) fun _ _ _ q => call_run hs q
theorem ce_callTy {r : List V → Hp → VK → Prop} {rr : Kd} {o : List D → O D} {f : Env → O (List D)} {Ty : String} {x : Str} {p pos : Pos} {e : Expr} {es : List Expr} (hs : CallSem X.K r rr o) (hc : CallR X (.type Ty) r) (hg : Gl X x) (hm : X.mg x = none)
    (hv : bootBuiltins x = some (.type Ty)) (ha : CA X W κ (e :: es) f) (hn : x ≠ "__name__" := by decide) (hdb : (x == ("__debug__" : Str)) = false := by decide)
    (he : starEach (e :: es) X.env = (false, eval e X.env) :: starEach es X.env := by rfl) (hpl : (backTo pos (starEach es X.env)).any (·.1) = false := by rfl) : CE X W κ rr (.Call (.Name x p) (e :: es) [] pos) (mCall o f) :=
  PE.imp (pe_callTy hc hg hm hv ha hn hdb he hpl) fun _ _ _ q => call_run hs q
theorem CallSem.flat {K : PySem.W.Frag} {r : List V → Hp → VK → Prop} {o : List D → O D} (h : ∀ (H Hs : Hp) (ds : List D) (z : D) (vs : List V) (Q : VK), Ext Hs H → Reps K Hs ds vs → o ds = .ok z → (∀ v, Rep K Hs z v → Q v H) → r vs H Q) : CallSem K r .sh o :=
  fun H Hs ds z vs Q sub rs hz q => h H Hs ds z vs Q sub rs hz fun v rv => q v H (.sh (.refl sub) rv)
theorem CallSem.share {K : PySem.W.Frag} {r : List V → Hp → VK → Prop} {k : Kd} {o : List D → O D} (h : CallSem K r k o) : CallSem K r .sh o := fun H Hs ds z vs Q sub rs hz q => h H Hs ds z vs Q sub rs hz fun v H' r => q v H' r.share
def dLen : List D → O D
  | [.lst xs] => .ok (.int xs.length)
  | [.tup xs] => .ok (.int xs.length)
  | [.scr xs] => .ok (.int xs.length)
  | [.str s] => if s.length ≤ sizeLine then .ok (.int s.length) else .stuck
  | _ => .stuck
theorem sem_len {K : PySem.W.Frag} : CallSem K (fun xs H Q => ∃ x n, xs = [x] ∧ LenV K x H n ∧ Q (.int n) H) .sh dLen := .flat fun H Hs ds z vs Q sub rs hz q => by
  unfold dLen at hz
  split at hz
  · cases rs with | cons a b => cases b; cases a with | lst h r => cases hz; exact ⟨_, _, rfl, .inl ⟨_, SqL.of (sub _ _ h), rfl⟩, by rw [← r.length]; exact q _ (.int _)⟩
  · cases rs with | cons a b => cases b; cases a with | tup h r => cases hz; exact ⟨_, _, rfl, .inr ⟨_, sub.sqt h, rfl⟩, by rw [← r.length]; exact q _ (.int _)⟩
  · cases rs with | cons a b => cases b; cases a with | scr h => cases hz; exact ⟨_, _, rfl, .inl ⟨_, sub.sql h, rfl⟩, by rw [List.length_map]; exact q _ (.int _)⟩
  · cases rs with | cons a b =>
      cases b
      cases a
      split at hz
      · rename_i hl
        cases hz; exact ⟨_, _, rfl, ⟨hl, rfl⟩, q _ (.int _)⟩
      · cases hz
  · cases hz
def dAbs : List D → O D
  | [.int i] => .ok (.int (if i < 0 then -i else i))
  | _ => .stuck
theorem sem_abs {K : PySem.W.Frag} : CallSem K (fun xs H Q => ∃ i, xs = [.int i] ∧ Q (.int (if i < 0 then -i else i)) H) .sh dAbs := .flat fun H Hs ds z vs Q sub rs hz q => by
  unfold dAbs at hz
  split at hz
  · cases rs with | cons a b => cases b; cases a; cases hz; exact ⟨_, rfl, q _ (.int _)⟩
  · cases hz
def dMax2 : List D → O D
  | [.int i, .int j] => .ok (.int (if j > i then j else i))
  | _ => .stuck
def dMin2 : List D → O D
  | [.int i, .int j] => .ok (.int (if j < i then j else i))
  | _ => .stuck
theorem sem_max2 {K : PySem.W.Frag} : CallSem K (fun xs H Q => ∃ i j, xs = [.int i, .int j] ∧ Q (.int (if j > i then j else i)) H) .sh dMax2 := .flat fun H Hs ds z vs Q sub rs hz q => by
  unfold dMax2 at hz
  split at hz
  · cases rs with | cons a b => cases b with | cons c d => cases d; cases a; cases c; cases hz; exact ⟨_, _, rfl, q _ (.int _)⟩
  · cases hz
theorem sem_min2 {K : PySem.W.Frag} : CallSem K (fun xs H Q => ∃ i j, xs = [.int i, .int j] ∧ Q (.int (if j < i then j else i)) H) .sh dMin2 := .flat fun H Hs ds z vs Q sub rs hz q => by
  unfold dMin2 at hz
  split at hz
  · cases rs with | cons a b => cases b with | cons c d => cases d; cases a; cases c; cases hz; exact ⟨_, _, rfl, q _ (.int _)⟩
  · cases hz
def dMin3 : List D → O D
  | [.int i, .int j, .int k] => .ok (.int (if k < (if j < i then j else i) then k else if j < i then j else i))
  | _ => .stuck
theorem sem_min3 {K : PySem.W.Frag} : CallSem K (rNuC3 nuMin3) .sh dMin3 := .flat fun H Hs ds z vs Q sub rs hz q => by
  unfold dMin3 at hz
  split at hz
  · rename_i i j k
    cases rs with | cons a b => cases b with | cons c d => cases d with | cons e f =>
      cases f; cases a; cases c; cases e; cases hz
      refine ⟨.int i, .int j, .int k, _, rfl, ?_, q _ (.int _)⟩
      by_cases h1 : j < i
      · by_cases h2 : k < j <;> simp [nuMin3, nuMin2, nuLt, nuCB, h1, h2]
      · by_cases h2 : k < i <;> simp [nuMin3, nuMin2, nuLt, nuCB, h1, h2]
  · cases hz
/-- int(n), int(flag) -/
def dInt : List D → O D
  | [.int i] => .ok (.int i)
  | [.bl k] => .ok (.int (if k then 1 else 0))
  | _ => .stuck
theorem sem_int {K : PySem.W.Frag} : CallSem K (fun xs H Q => (∃ i, xs = [.int i] ∧ Q (.int i) H) ∨ ∃ k, xs = [.bl k] ∧ Q (.int (if k then 1 else 0)) H) .sh dInt := .flat fun H Hs ds z vs Q sub rs hz q => by
  unfold dInt at hz
  split at hz
  · cases rs with | cons a b => cases b; cases a; cases hz; exact .inl ⟨_, rfl, q _ (.int _)⟩
  · cases rs with | cons a b => cases b; cases a; cases hz; exact .inr ⟨_, rfl, q _ (.int _)⟩
  · cases hz
/-- int(text) -/
def dIntS : List D → O D
  | [.str s] => match PySem.intText? s with
    | some n => if s.length ≤ 640 then .ok (.int n) else .stuck
    | none => .stuck
  | _ => .stuck
theorem sem_intS {K : PySem.W.Frag} : CallSem K (fun xs H Q => ∃ a n, xs = [.str a] ∧ PySem.intText? a = some n ∧ a.length ≤ 640 ∧ Q (.int n) H) .sh dIntS := .flat fun H Hs ds z vs Q sub rs hz q => by
  unfold dIntS at hz
  split at hz
  · cases rs with | cons a b =>
      cases b; cases a
      split at hz
      · rename_i n hn
        split at hz
        · rename_i hl
          cases hz; exact ⟨_, n, rfl, hn, hl, q _ (.int _)⟩
        · cases hz
      · cases hz
  · cases hz
/-- str(n) -/
def dStr : List D → O D
  | [.int i] => if i.natAbs.log2 < 1920 then .ok (.str (toString i)) else .stuck
  | _ => .stuck
theorem sem_str {K : PySem.W.Frag} : CallSem K (fun xs H Q => ∃ i, xs = [.int i] ∧ i.natAbs.log2 < 1920 ∧ Q (.str (toString i)) H) .sh dStr := .flat fun H Hs ds z vs Q sub rs hz q => by
  unfold dStr at hz
  split at hz
  · cases rs with | cons a b =>
      cases b; cases a
      split at hz
      · rename_i hl
        cases hz; exact ⟨_, rfl, hl, q _ (.str _)⟩
      · cases hz
  · cases hz
/-- list(xs), tuple(xs) -/
def dList : List D → O D
  | [.lst xs] => .ok (.lst xs)
  | [.tup xs] => .ok (.lst xs)
  | [.scr xs] => .ok (.lst (xs.map .int))
  | _ => .stuck
theorem sem_list {K : PySem.W.Frag} : CallSem K (fun xs H Q => ∃ p ys, xs = [.ref p] ∧ (SqL K H p ys ∨ SqT K H p ys) ∧ ∀ l, H l = none → Q (.ref l) (upd H l (.lst ys))) (.ls .sh) dList := fun H Hs ds z vs Q sub rs hz q => by
  unfold dList at hz
  split at hz
  · cases rs with | cons a b => cases b; cases a with | lst h r => cases hz; exact ⟨_, _, rfl, .inl (SqL.of (sub _ _ h)), fun p hp => q _ _ (.list sub r hp)⟩
  · cases rs with | cons a b => cases b; cases a with | tup h r => cases hz; exact ⟨_, _, rfl, .inr (sub.sqt h), fun p hp => q _ _ (.list sub r hp)⟩
  · cases rs with | cons a b => cases b; cases a with | scr h => cases hz; exact ⟨_, _, rfl, .inl (sub.sql h), fun p hp => q _ _ (.list sub (Reps.ofInts _) hp)⟩
  · cases hz
def dTuple : List D → O D
  | [.lst xs] => .ok (.tup xs)
  | [.tup xs] => .ok (.tup xs)
  | [.scr xs] => .ok (.tup (xs.map .int))
  | _ => .stuck
theorem sem_tuple {K : PySem.W.Frag} : CallSem K (fun xs H Q => ∃ p ys, xs = [.ref p] ∧ ((SqL K H p ys ∧ ∀ l, H l = none → Q (.ref l) (upd H l (.tup ys))) ∨ (SqT K H p ys ∧ Q (.ref p) H))) .sh dTuple := fun H Hs ds z vs Q sub rs hz q => by
  unfold dTuple at hz
  split at hz
  · cases rs with | cons a b => cases b; cases a with | lst h r => cases hz; exact ⟨_, _, rfl, .inl ⟨SqL.of (sub _ _ h), fun p hp => q _ _ (.tuple sub r hp)⟩⟩
  · cases rs with | cons a b => cases b; cases a with | tup h r => cases hz; exact ⟨_, _, rfl, .inr ⟨sub.sqt h, q _ _ (.sh (.refl sub) (.tup h r))⟩⟩
  · cases rs with | cons a b => cases b; cases a with | scr h => cases hz; exact ⟨_, _, rfl, .inl ⟨sub.sql h, fun p hp => q _ _ (.tuple sub (Reps.ofInts _) hp)⟩⟩
  · cases hz
/-- the ints of a list -/
def intsOf : List D → Option (List Int)
  | [] => some []
  | .int i :: r => (intsOf r).map fun l => i :: l
  | _ :: _ => none
theorem intsOf_eq : ∀ {ds : List D} {ns : List Int}, intsOf ds = some ns → ds = ns.map D.int
  | [], _, h => by cases h; rfl
  | d :: r, ns, h => by
    cases d with
    | int i =>
      unfold intsOf at h
      cases e : intsOf r with
      | none => rw [e] at h; cases h
      | some l => rw [e] at h; cases h; rw [intsOf_eq e]; rfl
    | _ => cases h
@[simp] theorem intsOf_map (ns : List Int) : intsOf (ns.map D.int) = some ns := by
  induction ns with
  | nil => rfl
  | cons n ns ih => rw [List.map_cons, intsOf, ih]; rfl
def dSum : List D → O D
  | [.lst xs] => match intsOf xs with
    | some ns => .ok (.int ns.sum)
    | none => .stuck
  | _ => .stuck
theorem sem_sum {K : PySem.W.Frag} : CallSem K (rSum K) .sh dSum := .flat fun H Hs ds z vs Q sub rs hz q => by
  unfold dSum at hz
  split at hz
  · cases rs with | cons a b => cases b; cases a with | lst h r =>
      split at hz
      · rename_i ns e
        cases hz
        rw [intsOf_eq e] at r
        rw [Reps.ints r] at h
        exact ⟨_, ns, rfl, SqL.of (sub _ _ h), q _ (.int _)⟩
      · cases hz
  · cases hz
/-- int(n), int(flag), int(text) -/
def dIntA : List D → O D
  | [.int i] => .ok (.int i)
  | [.bl k] => .ok (.int (if k then 1 else 0))
  | [.str s] => (match PySem.intText? s with
    | some n => if s.length ≤ 640 then .ok (.int n) else .stuck
    | none => .stuck)
  | _ => .stuck
theorem CallSem.or {K : PySem.W.Frag} {r r' : List V → Hp → VK → Prop} {k : Kd} {o o' o2 : List D → O D} (h : CallSem K r k o) (h' : CallSem K r' k o') (hc : ∀ ds z, o2 ds = .ok z → o ds = .ok z ∨ o' ds = .ok z) : CallSem K (fun xs H Q => r xs H Q ∨ r' xs H Q) k o2 :=
  fun H Hs ds z vs Q sub rs hz q => (hc ds z hz).elim (fun e => .inl (h H Hs ds z vs Q sub rs e q)) fun e => .inr (h' H Hs ds z vs Q sub rs e q)
theorem sem_intA {K : PySem.W.Frag} : CallSem K (fun xs H Q => ((∃ i, xs = [.int i] ∧ Q (.int i) H) ∨ ∃ k, xs = [.bl k] ∧ Q (.int (if k then 1 else 0)) H) ∨ (∃ a n, xs = [.str a] ∧ PySem.intText? a = some n ∧ a.length ≤ 640 ∧ Q (.int n) H)) .sh dIntA :=
  .or sem_int sem_intS fun ds z h => by
    unfold dIntA at h
    split at h
    · exact .inl h
    · exact .inl h
    · exact .inr h
    · cases h
theorem call_intA : CallR X (.type "int") (fun xs H Q => ((∃ i, xs = [.int i] ∧ Q (.int i) H) ∨ ∃ k, xs = [.bl k] ∧ Q (.int (if k then 1 else 0)) H) ∨ (∃ a n, xs = [.str a] ∧ PySem.intText? a = some n ∧ a.length ≤ 640 ∧ Q (.int n) H)) := call_int1.or call_int_str
theorem u65 {k : Nat} {A : Around} (hr : Room k A) : A.units + 65 < cLine := by have := hr.un; omega
theorem ce_chain {op op' : CmpOp} {r r' : R2} {o o' : D → D → O D} {a b d : Expr} {pos : Pos} {f g h : Env → O D} (hs : BinSem X.K r .sh o) (hs' : BinSem X.K r' .sh o') (ho : OpR X (compareOp op) r) (ho' : OpR X (compareOp op') r') (ha : CE X W κ .sh a f) (hb : CE X W κ .sh b g) (hd : CE X W κ .sh d h)
    (hm : lastMarks [op, op'] [b, d] = false := by with_unfolding_all rfl) : CE X W κ .sh (.Compare a [op, op'] [b, d] pos) (mChain o o' f g h) := PE.imp (pe_chain ho ho' ha hb hd hm) fun _ _ _ q => chain_run hs hs' q
theorem ct_chain {op op' : CmpOp} {r r' : R2} {o o' : D → D → O D} {a b d : Expr} {pos : Pos} {f g h : Env → O D} (hs : BinSem X.K r .sh o) (hs' : BinSem X.K r' .sh o') (ho : OpR X (compareOp op) r) (ho' : OpR X (compareOp op') r') (ha : CE X W κ .sh a f) (hb : CE X W κ .sh b g) (hd : CE X W κ .sh d h)
    (hm : lastMarks [op, op'] [b, d] = false := by with_unfolding_all rfl) : CT X W κ (.Compare a [op, op'] [b, d] pos) (mTest (mChain o o' f g h)) := PT.imp (pt_chain ho ho' ha hb hd hm) fun _ _ _ q => chain_run (W := W) (κ := κ) hs hs' (test_of q)
end
end T

set_option Elab.async false
set_option linter.all false
set_option maxRecDepth 100000
set_option maxHeartbeats 1000000
/-! T4: statements. -/
namespace T
open PySem L2

inductive SO where
  | stuck | nx (ρ : Env) | rt (d : D) | bk (ρ : Env) | ct (ρ : Env) | exc (ρ : Env) (c : Str) (fs : List (Str × D))
/-- what stays the same through a body: the wish about errors, how the answer is held, the slots' kinds at a loop's head and behind it, those where an error may leave, whether nothing of the caller's is changed -/
structure Cf where
  W : WX
  rr : Kd
  κl : List Kd
  κx : List Kd → Prop
  pu : Bool
def SPost (K : PySem.W.Frag) (c : Cf) (S : List Addr) (H0 Hs0 : Hp) (κ' : List Kd) (Hs : Hp) (Dn : Ends) : SO → Prop
  | .stuck => False
  | .nx ρ' => ∀ σ' H' Hs' F', Rel K S H0 Hs0 κ' ρ' σ' H' Hs' F' → Ext Hs Hs' → Dn.nx σ' H'
  | .bk ρ' => ∀ σ' H' Hs' F', Rel K S H0 Hs0 c.κl ρ' σ' H' Hs' F' → Ext Hs Hs' → Dn.bk σ' H'
  | .ct ρ' => ∀ σ' H' Hs' F', Rel K S H0 Hs0 c.κl ρ' σ' H' Hs' F' → Ext Hs Hs' → Dn.ct σ' H'
  | .rt d => ∀ v H', Res K c.rr d v H0 Hs0 H' → Dn.rt v H'
  | .exc ρ' x fs => ∀ κ'' cls dx σ' H' Hs' F', c.κx κ'' → Rel K S H0 Hs0 κ'' ρ' σ' H' Hs' F' → Ext Hs Hs' → XRep K Hs' x fs cls dx → c.W cls dx σ' H'
def tS (K : PySem.W.Frag) (c : Cf) (κ κ' : List Kd) (g : Env → SO) : TS := fun Dn σ H =>
  ∃ S H0 Hs0 ρ Hs F, (c.pu = true → S = []) ∧ Rel K S H0 Hs0 κ ρ σ H Hs F ∧ SPost K c S H0 Hs0 κ' Hs Dn (g ρ)
abbrev CS (X : Cx) (c : Cf) (κ κ' : List Kd) (st : Stmt) (g : Env → SO) : Prop := PS X st (tS X.K c κ κ' g)
abbrev CSs (X : Cx) (c : Cf) (κ κ' : List Kd) (sts : List Stmt) (g : Env → SO) : Prop := PSs X sts (tS X.K c κ κ' g)
theorem PS.imp {X : Cx} {st : Stmt} {t t' : TS} (h : PS X st t) (hi : ∀ Dn σ H, t' Dn σ H → t Dn σ H) : PS X st t' := ⟨fun pins s σ H Dn I q => h.run pins s σ H Dn I (hi Dn σ H q)⟩
theorem PSs.imp {X : Cx} {st : List Stmt} {t t' : TS} (h : PSs X st t) (hi : ∀ Dn σ H, t' Dn σ H → t Dn σ H) : PSs X st t' := ⟨fun pins s σ H Dn I q => h.run pins s σ H Dn I (hi Dn σ H q)⟩
theorem SPost.mono {K : PySem.W.Frag} {c : Cf} {S : List Addr} {H0 Hs0 Hs Hs1 : Hp} {κ' : List Kd} {Dn : Ends} {o : SO} (e : Ext Hs Hs1) (h : SPost K c S H0 Hs0 κ' Hs Dn o) : SPost K c S H0 Hs0 κ' Hs1 Dn o := by
  cases o with
  | stuck => exact h
  | nx ρ => exact fun σ' H' Hs' F' R x => h σ' H' Hs' F' R (e.trans x)
  | rt d => exact h
  | bk ρ => exact fun σ' H' Hs' F' R x => h σ' H' Hs' F' R (e.trans x)
  | ct ρ => exact fun σ' H' Hs' F' R x => h σ' H' Hs' F' R (e.trans x)
  | exc ρ x fs => exact fun κ'' cls dx σ' H' Hs' F' hk R y => h κ'' cls dx σ' H' Hs' F' hk R (e.trans y)

section
variable {X : Cx} {c : Cf} {κ κ1 κ' : List Kd}
/-- an expression within a statement -/
def sE (f : Env → O D) (k : D → Env → SO) : Env → SO := fun ρ => match f ρ with
  | .ok d => k d ρ
  | .exc x fs => .exc ρ x fs
  | .stuck => .stuck
theorem stepS {S : List Addr} {H0 Hs0 : Hp} {ρ : Env} {σ : L2.St} {H Hs : Hp} {F : Foot} {K : PySem.W.Frag} {f : Env → O D} {k : D → Env → SO} {r : Kd} {Dn : Ends} (hx : c.κx κ) (R : Rel K S H0 Hs0 κ ρ σ H Hs F) (p : SPost K c S H0 Hs0 κ' Hs Dn (sE f k ρ))
    {R2 : V → Hp → Prop} (h : ∀ d v H1, f ρ = .ok d → Res K r d v H Hs H1 → SPost K c S H0 Hs0 κ' Hs Dn (k d ρ) → R2 v H1) : tE K c.W κ r f σ H R2 := by
  refine ⟨S, H0, Hs0, ρ, Hs, F, R, ?_⟩
  unfold sE at p
  cases e : f ρ with
  | stuck => rw [e] at p; exact p
  | exc x fs =>
    rw [e] at p
    intro cls dx H' q
    obtain ⟨Hs', g, xr⟩ := q
    exact p κ cls dx σ H' Hs' F hx (R.grow g) g.exs xr
  | ok d =>
    rw [e] at p
    exact fun v H1 q => h d v H1 e q p
/-! ### blocks -/
def sNext : Env → SO := fun ρ => .nx ρ
def sSeq (g h : Env → SO) : Env → SO := fun ρ => match g ρ with
  | .nx ρ' => h ρ'
  | o => o
theorem css_nil : CSs X c κ κ [] sNext := PSs.imp pss_nil fun Dn σ H q => by
  obtain ⟨S, H0, Hs0, ρ, Hs, F, hp, R, p⟩ := q
  exact p σ H Hs F R (.refl _)
theorem css_cons {st : Stmt} {rest : List Stmt} {g h : Env → SO} (h1 : CS X c κ κ1 st g) (h2 : CSs X c κ1 κ' rest h) : CSs X c κ κ' (st :: rest) (sSeq g h) :=
  PSs.imp (pss_cons h1 h2) fun Dn σ H q => by
    obtain ⟨S, H0, Hs0, ρ, Hs, F, hp, R, p⟩ := q
    refine ⟨S, H0, Hs0, ρ, Hs, F, hp, R, ?_⟩
    unfold sSeq at p
    cases e : g ρ with
    | stuck => rw [e] at p; exact p
    | nx ρ' =>
      rw [e] at p
      exact fun σ' H' Hs' F' R' x => ⟨S, H0, Hs0, ρ', Hs', F', hp, R', p.mono x⟩
    | rt d => rw [e] at p; exact p
    | bk ρ' => rw [e] at p; exact p
    | ct ρ' => rw [e] at p; exact p
    | exc ρ' x fs => rw [e] at p; exact p
theorem css_one {st : Stmt} {g : Env → SO} (h1 : CS X c κ κ' st g) : CSs X c κ κ' [st] g := pss_one h1
/-- a slot's list is shared from here on -/
theorem Rel.freeze' {K : PySem.W.Frag} {S : List Addr} {H0 Hs0 : Hp} {ρ : Env} {σ : L2.St} {H Hs : Hp} {F : Foot} (R : Rel K S H0 Hs0 κ ρ σ H Hs F) {i : Nat} (hs : S = [] ∨ i ≠ 0) (hi : i < κ.length) : ∃ Hs' F', Rel K S H0 Hs0 (κ.set i .sh) ρ σ H Hs' F' ∧ Ext Hs Hs' := by
  cases e : ρ[i]? with
  | some o =>
    cases o with
    | some d => exact R.freeze hs hi e
    | none =>
      refine ⟨Hs, setF F i [], ⟨R.len, fun j d h => ?_, fun j => ?_, fun j l a h1 h2 => ?_, fun j a ha => ?_, fun j a ha => ?_, R.g, R.sub, R.old, R.st, R.new⟩, .refl _⟩
      · by_cases hj : j = i
        · subst hj; rw [e] at h; cases h
        · obtain ⟨u, h1, h2⟩ := R.sl j d h
          exact ⟨u, h1, by rw [kAt_set_ne hj, setF_ne hj]; exact h2⟩
      · by_cases hj : j = i
        · subst hj; rw [setF_same]; exact List.nodup_nil
        · rw [setF_ne hj]; exact R.nd j
      · by_cases hj : j = i
        · subst hj; rw [setF_same] at h1; cases h1
        · by_cases hl : l = i
          · subst hl; rw [setF_same] at h2; cases h2
          · rw [setF_ne hj] at h1; rw [setF_ne hl] at h2; exact R.dj j l a h1 h2
      · by_cases hj : j = i
        · subst hj; rw [setF_same] at ha; cases ha
        · rw [setF_ne hj] at ha; exact R.al j a ha
      · by_cases hj : j = i
        · subst hj; rw [setF_same] at ha; cases ha
        · rw [setF_ne hj] at ha; exact R.fr j a ha
  | none =>
    refine ⟨Hs, setF F i [], ⟨R.len, fun j d h => ?_, fun j => ?_, fun j l a h1 h2 => ?_, fun j a ha => ?_, fun j a ha => ?_, R.g, R.sub, R.old, R.st, R.new⟩, .refl _⟩
    · by_cases hj : j = i
      · subst hj; rw [e] at h; cases h
      · obtain ⟨u, h1, h2⟩ := R.sl j d h
        exact ⟨u, h1, by rw [kAt_set_ne hj, setF_ne hj]; exact h2⟩
    · by_cases hj : j = i
      · subst hj; rw [setF_same]; exact List.nodup_nil
      · rw [setF_ne hj]; exact R.nd j
    · by_cases hj : j = i
      · subst hj; rw [setF_same] at h1; cases h1
      · by_cases hl : l = i
        · subst hl; rw [setF_same] at h2; cases h2
        · rw [setF_ne hj] at h1; rw [setF_ne hl] at h2; exact R.dj j l a h1 h2
    · by_cases hj : j = i
      · subst hj; rw [setF_same] at ha; cases ha
      · rw [setF_ne hj] at ha; exact R.al j a ha
    · by_cases hj : j = i
      · subst hj; rw [setF_same] at ha; cases ha
      · rw [setF_ne hj] at ha; exact R.fr j a ha
theorem css_freeze (i : Nat) {sts : List Stmt} {g : Env → SO} (hp : c.pu = true ∨ i ≠ 0) (hi : i < κ.length) (h : CSs X c (κ.set i .sh) κ' sts g) : CSs X c κ κ' sts g := PSs.imp h fun Dn σ H q => by
  obtain ⟨S, H0, Hs0, ρ, Hs, F, hp', R, p⟩ := q
  obtain ⟨Hs', F', R', x⟩ := R.freeze' (hp.imp (fun h => hp' h) fun h => h) hi
  exact ⟨S, H0, Hs0, ρ, Hs', F', hp', R', p.mono x⟩
/-! ### plain statements -/
def sAsg (i : Nat) (f : Env → O D) : Env → SO := sE f fun d ρ => .nx (ρ.set i (some d))
theorem cs_asg (i : Nat) {r : Kd} {st : Stmt} {f : Env → O D} (hi : i < κ.length) (hx : c.κx κ) (hp : PS X st (tAsg (tE X.K c.W κ r f) (gName i))) (hk' : κ.set i r = κ' := by rfl) : CS X c κ κ' st (sAsg i f) := by
  subst hk'
  exact PS.imp hp fun Dn σ H q => by
    obtain ⟨S, H0, Hs0, ρ, Hs, F, hp, R, p⟩ := q
    refine stepS hx R p fun d v H1 _ q p1 => ?_
    obtain ⟨Hs', F', R', x⟩ := R.put hi q
    exact p1 _ _ Hs' F' R' x
def sDrop (f : Env → O D) : Env → SO := sE f fun _ ρ => .nx ρ
theorem cs_expr {e : Expr} {pos : Pos} {f : Env → O D} (he : CE X c.W κ .sh e f) (hx : c.κx κ) (hs : swapsWith e none pos.line X.env = pure false := by rfl) : CS X c κ κ (.Expr e pos) (sDrop f) :=
  PS.imp (ps_expr he hs) fun Dn σ H q => by
    obtain ⟨S, H0, Hs0, ρ, Hs, F, hp, R, p⟩ := q
    refine stepS hx R p fun d v H1 _ q p1 => ?_
    obtain ⟨Hs', g, _⟩ := q.out
    exact p1 σ H1 Hs' F (R.grow g) g.exs
def sRet (f : Env → O D) : Env → SO := sE f fun d _ => .rt d
theorem Rel.top {K : PySem.W.Frag} {S : List Addr} {H0 Hs0 : Hp} {ρ : Env} {σ : L2.St} {H Hs : Hp} {F : Foot} (R : Rel K S H0 Hs0 κ ρ σ H Hs F) (hS : S = []) : Grow H0 Hs0 H Hs := by subst hS; exact R.all
theorem cs_ret {e : Expr} {pos : Pos} {f : Env → O D} (hpu : c.pu = true) (he : CE X c.W κ c.rr e f) (hx : c.κx κ) : CS X c κ κ' (.Return (some e) pos) (sRet f) :=
  PS.imp (ps_ret he) fun Dn σ H q => by
    obtain ⟨S, H0, Hs0, ρ, Hs, F, hp, R, p⟩ := q
    refine stepS hx R p fun d v H1 _ q p1 => ?_
    exact p1 v H1 (q.pre (R.top (hp hpu)))
def sRetN : Env → SO := fun _ => .rt .non
theorem cs_retN {pos : Pos} (hpu : c.pu = true) (hrr : c.rr = .sh) : CS X c κ κ' (.Return none pos) sRetN :=
  PS.imp ps_retN fun Dn σ H q => by
    obtain ⟨S, H0, Hs0, ρ, Hs, F, hp, R, p⟩ := q
    refine p .non H ?_
    rw [hrr]
    exact .sh (R.top (hp hpu)) .non
/-- return x, x a slot with a list of its own -/
theorem cs_retO (i : Nat) {x : Str} {p pos : Pos} (hpu : c.pu = true) (hk : kAt κ i = c.rr) (hp : PE X (.Name x p) (tVar i)) : CS X c κ κ' (.Return (some (.Name x p)) pos) (sRet (mVar i)) :=
  PS.imp (ps_ret hp) fun Dn σ H q => by
    obtain ⟨S, H0, Hs0, ρ, Hs, F, hS, R, p⟩ := q
    unfold sRet sE mVar at p
    cases e : ρ[i]? with
    | none => rw [e] at p; exact p.elim
    | some o =>
      cases o with
      | none => rw [e] at p; exact p.elim
      | some d =>
        rw [e] at p
        obtain ⟨v, h1, h2⟩ := R.sl i d e
        rw [hk] at h2
        refine ⟨v, h1, p v H ?_⟩
        have hS' := hS hpu
        subst hS'
        refine ⟨Hs, F i, R.all, R.nd i, fun a ha => ⟨?_, (R.al i a ha).2, (R.al i a ha).1⟩, h2⟩
        rcases (R.fr i a ha).2 with z | z
        · exact z
        · exact nomatch z.1
def sIf (t : Env → O Bool) (g h : Env → SO) : Env → SO := fun ρ => match t ρ with
  | .ok true => g ρ
  | .ok false => h ρ
  | .exc x fs => .exc ρ x fs
  | .stuck => .stuck
theorem stepST {S : List Addr} {H0 Hs0 : Hp} {ρ : Env} {σ : L2.St} {H Hs : Hp} {F : Foot} {K : PySem.W.Frag} {t : Env → O Bool} {g h : Env → SO} {Dn : Ends} (hx : c.κx κ) (R : Rel K S H0 Hs0 κ ρ σ H Hs F) (p : SPost K c S H0 Hs0 κ' Hs Dn (sIf t g h ρ))
    {R2 : Bool → Hp → Prop} (hh : ∀ b H1 Hs1, Rel K S H0 Hs0 κ ρ σ H1 Hs1 F → SPost K c S H0 Hs0 κ' Hs1 Dn (if b = true then g ρ else h ρ) → R2 b H1) : tT K c.W κ t σ H R2 := by
  refine ⟨S, H0, Hs0, ρ, Hs, F, R, ?_⟩
  unfold sIf at p
  cases e : t ρ with
  | stuck => rw [e] at p; exact p
  | exc x fs =>
    rw [e] at p
    intro cls dx H' q
    obtain ⟨Hs', g, xr⟩ := q
    exact p κ cls dx σ H' Hs' F hx (R.grow g) g.exs xr
  | ok b =>
    intro H1 Hs1 gr
    refine hh b H1 Hs1 (R.grow gr) ?_
    rw [e] at p
    cases b with
    | true => rw [if_pos rfl]; exact p.mono gr.exs
    | false => rw [if_neg Bool.false_ne_true]; exact p.mono gr.exs
theorem cs_if {e : Expr} {a b : List Stmt} {pos : Pos} {t : Env → O Bool} {g h : Env → SO} (hc : CT X c.W κ e t) (ha : CSs X c κ κ' a g) (hb : CSs X c κ κ' b h) (hx : c.κx κ) : CS X c κ κ' (.If e a b pos) (sIf t g h) :=
  PS.imp (ps_if hc ha hb) fun Dn σ H q => by
    obtain ⟨S, H0, Hs0, ρ, Hs, F, hp, R, p⟩ := q
    refine stepST hx R p fun b H1 Hs1 R1 p1 => ?_
    cases b with
    | true => rw [if_pos rfl] at p1 ⊢; exact ⟨S, H0, Hs0, ρ, Hs1, F, hp, R1, p1⟩
    | false => rw [if_neg Bool.false_ne_true] at p1 ⊢; exact ⟨S, H0, Hs0, ρ, Hs1, F, hp, R1, p1⟩
theorem cs_pass {pos : Pos} : CS X c κ κ (.Pass pos) sNext := PS.imp ps_pass fun Dn σ H q => by
  obtain ⟨S, H0, Hs0, ρ, Hs, F, hp, R, p⟩ := q
  exact p σ H Hs F R (.refl _)
def sBreak : Env → SO := fun ρ => .bk ρ
def sCont : Env → SO := fun ρ => .ct ρ
theorem cs_break {pos : Pos} (hk : c.κl = κ) : CS X c κ κ' (.Break pos) sBreak := PS.imp ps_break fun Dn σ H q => by
  obtain ⟨S, H0, Hs0, ρ, Hs, F, hp, R, p⟩ := q
  exact p σ H Hs F (by rw [hk]; exact R) (.refl _)
theorem cs_cont {pos : Pos} (hk : c.κl = κ) : CS X c κ κ' (.Continue pos) sCont := PS.imp ps_continue fun Dn σ H q => by
  obtain ⟨S, H0, Hs0, ρ, Hs, F, hp, R, p⟩ := q
  exact p σ H Hs F (by rw [hk]; exact R) (.refl _)

/-! ### a slot's own list changes -/
theorem All3.length {α β γ : Type} {R : α → β → γ → Prop} : ∀ {as : List α} {bs : List β} {cs : List γ}, All3 R as bs cs → as.length = bs.length ∧ as.length = cs.length
  | _, _, _, .nil => ⟨rfl, rfl⟩
  | _, _, _, .cons _ t => ⟨by simp [(All3.length t).1], by simp [(All3.length t).2]⟩
theorem All3.append {α β γ : Type} {R : α → β → γ → Prop} : ∀ {as as' : List α} {bs bs' : List β} {cs cs' : List γ}, All3 R as bs cs → All3 R as' bs' cs' → All3 R (as ++ as') (bs ++ bs') (cs ++ cs')
  | _, _, _, _, _, _, .nil, h => h
  | _, _, _, _, _, _, .cons a b, h => .cons a (All3.append b h)
theorem All3.get {α β γ : Type} {R : α → β → γ → Prop} : ∀ {as : List α} {bs : List β} {cs : List γ} {i : Nat} {a : α}, All3 R as bs cs → as[i]? = some a → ∃ b c, bs[i]? = some b ∧ cs[i]? = some c ∧ R a b c
  | _, _, _, _, _, .nil, e => by simp at e
  | _, _, _, 0, _, .cons r t, e => by simp at e; subst e; exact ⟨_, _, rfl, rfl, r⟩
  | _, _, _, i + 1, _, .cons r t, e => by
    obtain ⟨b, c, h1, h2, h3⟩ := All3.get (i := i) t (by simpa using e)
    exact ⟨b, c, by simpa using h1, by simpa using h2, h3⟩
theorem All3.set {α β γ : Type} {R : α → β → γ → Prop} {a : α} {b : β} {c : γ} (r : R a b c) : ∀ {as : List α} {bs : List β} {cs : List γ} (i : Nat), All3 R as bs cs → All3 R (as.set i a) (bs.set i b) (cs.set i c)
  | _, _, _, _, .nil => .nil
  | _, _, _, 0, .cons _ t => .cons r t
  | _, _, _, i + 1, .cons q t => .cons q (All3.set r i t)
theorem All3.eraseIdx {α β γ : Type} {R : α → β → γ → Prop} : ∀ {as : List α} {bs : List β} {cs : List γ} (i : Nat), All3 R as bs cs → All3 R (as.eraseIdx i) (bs.eraseIdx i) (cs.eraseIdx i)
  | _, _, _, _, .nil => .nil
  | _, _, _, 0, .cons _ t => t
  | _, _, _, i + 1, .cons q t => .cons q (All3.eraseIdx i t)
theorem own_ls {K : PySem.W.Frag} {k : Kd} {H Hs : Hp} {ds : List D} {v : V} {F : List Addr} (h : Own K (.ls k) H Hs (.lst ds) v F) : ∃ a vs Fs, v = .ref a ∧ H a = some (.lst vs) ∧ F = a :: Fs.flatten ∧ All3 (Own K k H Hs) ds vs Fs := by
  obtain ⟨a, ds', vs, Fs, h1, h2, h3, h4, h5⟩ := h
  cases h2
  exact ⟨a, vs, Fs, h1, h3, h4, h5⟩
/-- the own list of a slot gets other items, H being what it was but for that list -/
theorem Rel.items {K : PySem.W.Frag} {S : List Addr} {H0 Hs0 : Hp} {ρ : Env} {σ : L2.St} {H Hs : Hp} {F : Foot} (R : Rel K S H0 Hs0 κ ρ σ H Hs F) {i : Nat} {k : Kd} {d : D} {a : Addr} {ds' : List D} {vs vs' : List V} {Fs' : List (List Addr)} (hd : ρ[i]? = some (some d)) (hv : σ[i]? = some (some (.ref a)))
    (hk : kAt κ i = .ls k) (ha : H a = some (.lst vs)) (hF : a ∈ F i) (nd : (a :: Fs'.flatten).Nodup) (fr : ∀ b ∈ Fs'.flatten, b ∈ F i ∨ (H b ≠ none ∧ Hs b = none ∧ (∀ j, b ∉ F j) ∧ (H0 b = none))) (al : All3 (Own K k H Hs) ds' vs' Fs') :
    ∃ F', Rel K S H0 Hs0 κ (ρ.set i (some (.lst ds'))) σ (upd H a (.lst vs')) Hs F' := by
  have hne : Hs a = none := (R.al i a hF).2
  have off : ∀ b, H b ≠ none → (upd H a (.lst vs')) b ≠ none := fun b h => by
    by_cases q : b = a
    · rw [q, upd_same]; simp
    · rw [upd_ne q]; exact h
  have ow : Own K (.ls k) (upd H a (.lst vs')) Hs (.lst ds') (.ref a) (a :: Fs'.flatten) := by
    refine ⟨a, ds', vs', Fs', rfl, rfl, upd_same, rfl, al.imp fun d v G hG q => q.mono (.refl _) fun b hb => upd_ne fun e => ?_⟩
    subst e
    exact (List.nodup_cons.mp nd).1 (List.mem_flatten.mpr ⟨G, hG, hb⟩)
  refine ⟨setF F i (a :: Fs'.flatten), ⟨by rw [List.length_set]; exact R.len, fun j e h => ?_, fun j => ?_, fun j l b h1 h2 => ?_, fun j b hb => ?_, fun j b hb => ?_, R.g, fun b o e => ?_, fun b o e hs => ?_, fun b h => off b (R.st b h), R.new⟩⟩
  · by_cases hj : j = i
    · subst hj
      rw [List.getElem?_set_self (List.getElem?_eq_some_iff.mp hd).1] at h
      cases h
      exact ⟨_, hv, by rw [setF_same, hk]; exact ow⟩
    · rw [List.getElem?_set_ne (Ne.symm hj)] at h
      obtain ⟨u, h1, h2⟩ := R.sl j e h
      exact ⟨u, h1, by rw [setF_ne hj]; exact h2.mono (.refl _) fun b hb => upd_ne fun e => hj (R.dj j i b hb (e ▸ hF))⟩
  · by_cases hj : j = i
    · subst hj; rw [setF_same]; exact nd
    · rw [setF_ne hj]; exact R.nd j
  · have ofi : ∀ m, m ≠ i → b ∈ a :: Fs'.flatten → b ∉ F m := fun m hm hb hbm => by
      rcases List.mem_cons.mp hb with e | hb
      · exact hm (R.dj m i b hbm (e ▸ hF))
      · rcases fr b hb with z | z
        · exact hm (R.dj m i b hbm z)
        · exact z.2.2.1 m hbm
    by_cases hj : j = i
    · by_cases hl : l = i
      · rw [hj, hl]
      · subst hj; rw [setF_same] at h1; rw [setF_ne hl] at h2; exact absurd h2 (ofi l hl h1)
    · by_cases hl : l = i
      · subst hl; rw [setF_same] at h2; rw [setF_ne hj] at h1; exact absurd h1 (ofi j hj h2)
      · rw [setF_ne hj] at h1; rw [setF_ne hl] at h2; exact R.dj j l b h1 h2
  · by_cases hj : j = i
    · subst hj; rw [setF_same] at hb
      rcases List.mem_cons.mp hb with e | hb
      · subst e; exact ⟨off _ (R.al _ _ hF).1, hne⟩
      · rcases fr b hb with z | z
        · exact ⟨off _ (R.al _ _ z).1, (R.al _ _ z).2⟩
        · exact ⟨off _ z.1, z.2.1⟩
    · rw [setF_ne hj] at hb; exact ⟨off _ (R.al j b hb).1, (R.al j b hb).2⟩
  · by_cases hj : j = i
    · subst hj; rw [setF_same] at hb
      rcases List.mem_cons.mp hb with e | hb
      · subst e; exact R.fr _ _ hF
      · rcases fr b hb with z | z
        · exact R.fr _ _ z
        · exact ⟨R.g.none z.2.1, .inl z.2.2.2⟩
    · rw [setF_ne hj] at hb; exact R.fr j b hb
  · rw [upd_ne fun z => by rw [z, hne] at e; cases e]
    exact R.sub b o e
  · have h1 := R.old b o e hs
    rw [upd_ne fun z => ?_]
    · exact h1
    · subst z
      rcases (R.fr i b hF).2 with y | y
      · rw [e] at y; cases y
      · exact hs y.1
theorem getElem?_V {σ : L2.St} {i : Nat} {v w : V} (h : σ[i]? = some (some v)) (h' : σ[i]? = some (some w)) : v = w := by
  rw [h] at h'; cases h'; rfl
theorem Rel.own {K : PySem.W.Frag} {S : List Addr} {H0 Hs0 : Hp} {ρ : Env} {σ : L2.St} {H Hs : Hp} {F : Foot} (R : Rel K S H0 Hs0 κ ρ σ H Hs F) {i : Nat} {k : Kd} {ds : List D} (hd : ρ[i]? = some (some (.lst ds))) (hk : kAt κ i = .ls k) :
    ∃ a vs Fs, σ[i]? = some (some (.ref a)) ∧ H a = some (.lst vs) ∧ F i = a :: Fs.flatten ∧ All3 (Own K k H Hs) ds vs Fs := by
  obtain ⟨v, h1, h2⟩ := R.sl i _ hd
  rw [hk] at h2
  obtain ⟨a, vs, Fs, rfl, h3, h4, h5⟩ := own_ls h2
  exact ⟨a, vs, Fs, h1, h3, h4, h5⟩
/-- xs.append(e) -/
def sApp (i : Nat) (f : Env → O D) : Env → SO := fun ρ => match ρ[i]? with
  | some (some (.lst ds)) => sE f (fun d ρ => if ds.length < sizeLine then .nx (ρ.set i (some (.lst (ds ++ [d])))) else .stuck) ρ
  | _ => .stuck
theorem isList {K : PySem.W.Frag} {a : Addr} {H : Hp} {vs : List V} (h : H a = some (.lst vs)) : tyV K "list" (.ref a) H := .inl ⟨rfl, vs, SqL.of h⟩
theorem mem_flatSet {b : Addr} {Fs : List (List Addr)} {G : List Addr} {m : Nat} (h : b ∈ (Fs.set m G).flatten) : b ∈ Fs.flatten ∨ b ∈ G := by
  obtain ⟨L, hL, hb⟩ := List.mem_flatten.mp h
  rcases List.mem_or_eq_of_mem_set hL with h | h
  · exact .inl (List.mem_flatten.mpr ⟨L, h, hb⟩)
  · rw [← h]; exact .inr hb
theorem nodup_set {G : List Addr} (nd : G.Nodup) : ∀ {Fs : List (List Addr)} (m : Nat), Fs.flatten.Nodup → (∀ b ∈ Fs.flatten, b ∉ G) → (Fs.set m G).flatten.Nodup
  | [], _, _, _ => by simp
  | L :: Ls, 0, n, out => by
    rw [List.flatten_cons] at n out
    rw [List.set_cons_zero, List.flatten_cons]
    exact List.nodup_append.mpr ⟨nd, (List.nodup_append.mp n).2.1, fun b hb b' hb' e => out b (List.mem_append_right _ (e ▸ hb')) hb⟩
  | L :: Ls, m + 1, n, out => by
    rw [List.flatten_cons] at n out
    obtain ⟨y1, y2, y3⟩ := List.nodup_append.mp n
    rw [List.set_cons_succ, List.flatten_cons]
    refine List.nodup_append.mpr ⟨y1, nodup_set nd m y2 fun b hb => out b (List.mem_append_right _ hb), fun b hb b' hb' e => ?_⟩
    rcases mem_flatSet hb' with h | h
    · exact y3 b hb b' h e
    · exact out b (List.mem_append_left _ hb) (e ▸ h)
theorem mem_flat1 {a : Addr} {Fs : List (List Addr)} {G : List Addr} (h : a ∈ (Fs ++ [G]).flatten) : a ∈ Fs.flatten ∨ a ∈ G := by
  rw [List.flatten_append] at h
  simpa using List.mem_append.mp h
theorem cs_append (i : Nat) {k : Kd} {x : Str} {p0 p1 pos pos' : Pos} {e : Expr} {f : Env → O D} (hk : kAt κ i = .ls k) (hx : c.κx κ)
    (hst : PS X (.Expr (.Call (.Attribute (.Name x p0) "append" p1) [e] [] pos) pos') (tDrop (tBM X.K "list" rAppend (tVar i) (tCons (tE X.K c.W κ k f) tNil)))) : CS X c κ κ (.Expr (.Call (.Attribute (.Name x p0) "append" p1) [e] [] pos) pos') (sApp i f) :=
  PS.imp hst fun Dn σ H q => by
    obtain ⟨S, H0, Hs0, ρ, Hs, F, hS, R, p⟩ := q
    unfold sApp at p
    split at p
    · rename_i ds hd
      obtain ⟨a, vs, Fs, hv, ha, hF, al⟩ := R.own hd hk
      refine ⟨_, hv, isList ha, ?_⟩
      refine stepS hx R p fun d v H1 _ q p1 => ?_
      obtain ⟨Hs1, G, g, nd, fr, ow⟩ := q
      have R1 := R.grow g
      have ha1 := g.ex _ _ ha
      split at p1
      · rename_i hl
        have hlen := al.length.1
        refine ⟨a, vs, v, rfl, rfl, ha1, by rw [← hlen]; exact hl, ?_⟩
        have ndF := R.nd i
        rw [hF] at ndF
        have offF : ∀ b ∈ G, ∀ j, b ∉ F j := fun b hb j hj => (R.al j b hj).1 (fr b hb).1
        have hH0 : ∀ b ∈ G, H0 b = none := fun b hb => by
          cases y : H0 b with
          | none => rfl
          | some u => exact absurd (fr b hb).1 (R.st b (by rw [y]; simp))
        obtain ⟨n1, n2⟩ := List.nodup_cons.mp ndF
        have A : (a :: (Fs ++ [G]).flatten).Nodup := by
          rw [List.flatten_append, List.flatten_cons, List.flatten_nil, List.append_nil]
          refine List.nodup_cons.mpr ⟨fun h => ?_, List.nodup_append.mpr ⟨n2, nd, fun b hb b' hb' e => ?_⟩⟩
          · rcases List.mem_append.mp h with h | h
            · exact n1 h
            · exact offF a h i (by rw [hF]; exact List.mem_cons_self)
          · subst e
            exact offF b hb' i (by rw [hF]; exact List.mem_cons_of_mem _ hb)
        have B : ∀ b ∈ (Fs ++ [G]).flatten, b ∈ F i ∨ (H1 b ≠ none ∧ Hs1 b = none ∧ (∀ j, b ∉ F j) ∧ (H0 b = none)) := fun b hb => by
          rcases mem_flat1 hb with h | h
          · exact .inl (by rw [hF]; exact List.mem_cons_of_mem _ h)
          · exact .inr ⟨(fr b h).2.2, (fr b h).2.1, offF b h, hH0 b h⟩
        have C : All3 (Own X.K k H1 Hs1) (ds ++ [d]) (vs ++ [v]) (Fs ++ [G]) := by
          refine All3.append (al.imp fun d v G hG q => q.ext g.ex g.exs fun b hb => (R.al i b ?_).1) (.cons ow .nil)
          rw [hF]
          exact List.mem_cons_of_mem _ (List.mem_flatten.mpr ⟨G, hG, hb⟩)
        obtain ⟨F', R'⟩ := R1.items hd hv hk ha1 (by rw [hF]; exact List.mem_cons_self) A B C
        exact p1 σ _ Hs1 F' R' g.exs
      · exact p1.elim
    · exact p.elim
/-- xs[j] = e -/
def sSet (i : Nat) (f g : Env → O D) : Env → SO := fun ρ => match ρ[i]? with
  | some (some (.lst ds)) => sE f (fun d => sE g fun j ρ => match j with
    | .int j => (match ixN ds.length j with
      | some m => .nx (ρ.set i (some (.lst (ds.set m d))))
      | none => .stuck)
    | _ => .stuck) ρ
  | _ => .stuck
theorem cs_set (i : Nat) {k : Kd} {st : Stmt} {f g : Env → O D} (hk : kAt κ i = .ls k) (hx : c.κx κ) (hst : PS X st (tAsg (tE X.K c.W κ k f) (gSub (tVar i) (tE X.K c.W κ .sh g) rSetL))) : CS X c κ κ st (sSet i f g) :=
  PS.imp hst fun Dn σ H q => by
    obtain ⟨S, H0, Hs0, ρ, Hs, F, hS, R, p⟩ := q
    unfold sSet at p
    split at p
    · rename_i ds hd
      obtain ⟨a, vs, Fs, hv, ha, hF, al⟩ := R.own hd hk
      refine stepS hx R p fun d v H1 _ q p1 => ?_
      obtain ⟨Hs1, G, g1, nd, fr, ow⟩ := q
      have R1 := R.grow g1
      refine ⟨_, hv, ?_⟩
      refine stepS hx R1 (p1.mono g1.exs) fun j w H2 _ q2 p2 => ?_
      obtain ⟨Hs2, g2, rj⟩ := q2.out
      cases rj <;> first | exact p2.elim | skip
      rename_i j _
      dsimp only at p2
      have g12 := g1.trans g2
      have R2 := R.grow g12
      have ha2 := g12.ex _ _ ha
      have hlen := al.length.1
      cases em : ixN ds.length j with
      | none => rw [em] at p2; exact p2.elim
      | some m =>
        rw [em] at p2
        have hm : m < ds.length := (ixN_seq em).2.1
        refine ⟨a, vs, j, m, rfl, rfl, ha2, by rw [← hlen]; exact em, ?_⟩
        have ndF := R.nd i
        rw [hF] at ndF
        have offF : ∀ b ∈ G, ∀ j, b ∉ F j := fun b hb j hj => (R.al j b hj).1 (fr b hb).1
        have hH0 : ∀ b ∈ G, H0 b = none := fun b hb => by
          cases y : H0 b with
          | none => rfl
          | some u => exact absurd (fr b hb).1 (R.st b (by rw [y]; simp))
        obtain ⟨n1, n2⟩ := List.nodup_cons.mp ndF
        have A : (a :: (Fs.set m G).flatten).Nodup := by
          refine List.nodup_cons.mpr ⟨fun h => ?_, nodup_set nd m n2 fun b hb hg => offF b hg i (by rw [hF]; exact List.mem_cons_of_mem _ hb)⟩
          rcases mem_flatSet h with h | h
          · exact n1 h
          · exact offF a h i (by rw [hF]; exact List.mem_cons_self)
        have B : ∀ b ∈ (Fs.set m G).flatten, b ∈ F i ∨ (H2 b ≠ none ∧ Hs2 b = none ∧ (∀ j, b ∉ F j) ∧ (H0 b = none)) := fun b hb => by
          rcases mem_flatSet hb with h | h
          · exact .inl (by rw [hF]; exact List.mem_cons_of_mem _ h)
          · refine .inr ⟨fun e => (fr b h).2.2 (g2.ex.none e), ?_, offF b h, hH0 b h⟩
            cases y : Hs2 b with
            | none => rfl
            | some u => exact absurd (g2.fr b u y (fr b h).2.1) (fr b h).2.2
        have C : All3 (Own X.K k H2 Hs2) (ds.set m d) (vs.set m v) (Fs.set m G) := by
          refine All3.set (ow.ext g2.ex g2.exs fun b hb => (fr b hb).2.2) m (al.imp fun d v G hG q => q.ext g12.ex g12.exs fun b hb => (R.al i b ?_).1)
          rw [hF]
          exact List.mem_cons_of_mem _ (List.mem_flatten.mpr ⟨G, hG, hb⟩)
        obtain ⟨F', R'⟩ := R2.items hd hv hk ha2 (by rw [hF]; exact List.mem_cons_self) A B C
        exact p2 σ _ Hs2 F' R' g2.exs
    · exact p.elim
end
end T

set_option Elab.async false
set_option linter.all false
set_option maxRecDepth 100000
set_option maxHeartbeats 1000000
/-! T5: what is walked; for; list comprehensions. -/
namespace T
open PySem L2

/-! ### targets -/
inductive Tg where
  | nm (i : Nat) | tp (is : List Nat)
def putMany : List Nat → List D → Env → Option Env
  | [], [], ρ => some ρ
  | i :: is, d :: ds, ρ => putMany is ds (ρ.set i (some d))
  | _, _, _ => none
def Tg.put : Tg → D → Env → Option Env
  | .nm i, d, ρ => some (ρ.set i (some d))
  | .tp is, .tup ds, ρ => putMany is ds ρ
  | _, _, _ => none
def gNames : List Nat → TGs
  | [] => gNil
  | i :: is => gCons (gName i) (gNames is)
def Tg.tg (K : PySem.W.Frag) : Tg → TG
  | .nm i => gName i
  | .tp is => gTup K is.length (gNames is)
def Tg.slots : Tg → List Nat
  | .nm i => [i]
  | .tp is => is
theorem wipe_set {σ : L2.St} {j : Nat} {x : Option V} : ∀ {vs : List Nat}, j ∈ vs → wipe (σ.set j x) vs = wipe σ vs
  | v :: vs, h => by
    unfold wipe
    by_cases hj : j ∈ vs
    · rw [wipe_set hj]
    · have e : j = v := by
        rcases List.mem_cons.mp h with h | h
        · exact h
        · exact absurd h hj
      subst e
      have k : ∀ (vs : List Nat), j ∉ vs → wipe (σ.set j x) vs = (wipe σ vs).set j x := by
        intro vs
        induction vs with
        | nil => intro _; rfl
        | cons w ws ih =>
          intro h
          unfold wipe
          rw [ih fun z => h (List.mem_cons_of_mem _ z), List.set_comm _ _ fun e => h (by rw [e]; exact List.mem_cons_self)]
      rw [k vs hj, List.set_set]
section
variable {K : PySem.W.Frag} {S : List Addr} {H0 Hs0 : Hp} {κ : List Kd} {ρ : Env} {σ : L2.St} {H Hs : Hp} {F : Foot}
/-- a shared datum into a slot -/
theorem Rel.putSh (R : Rel K S H0 Hs0 κ ρ σ H Hs F) {i : Nat} {d : D} {v : V} (hk : kAt κ i = .sh) (r : Rep K Hs d v) : Rel K S H0 Hs0 κ (ρ.set i (some d)) (σ.set i (some v)) H Hs (setF F i []) := by
  refine ⟨by rw [List.length_set, List.length_set]; exact R.len, fun j e h => ?_, fun j => ?_, fun j l a h1 h2 => ?_, fun j a ha => ?_, fun j a ha => ?_, R.g, R.sub, R.old, R.st, R.new⟩
  · by_cases hj : j = i
    · subst hj
      have hl : j < ρ.length := by
        cases Nat.lt_or_ge j ρ.length with
        | inl z => exact z
        | inr z => rw [List.getElem?_eq_none (by rw [List.length_set]; exact z)] at h; cases h
      rw [List.getElem?_set_self hl] at h
      cases h
      exact ⟨v, List.getElem?_set_self (R.len ▸ hl), by rw [hk, setF_same]; exact ⟨r, rfl⟩⟩
    · rw [List.getElem?_set_ne (Ne.symm hj)] at h
      obtain ⟨u, h1, h2⟩ := R.sl j e h
      exact ⟨u, by rw [List.getElem?_set_ne (Ne.symm hj)]; exact h1, by rw [setF_ne hj]; exact h2⟩
  · by_cases hj : j = i
    · subst hj; rw [setF_same]; exact List.nodup_nil
    · rw [setF_ne hj]; exact R.nd j
  · by_cases hj : j = i
    · subst hj; rw [setF_same] at h1; cases h1
    · by_cases hl : l = i
      · subst hl; rw [setF_same] at h2; cases h2
      · rw [setF_ne hj] at h1; rw [setF_ne hl] at h2; exact R.dj j l a h1 h2
  · by_cases hj : j = i
    · subst hj; rw [setF_same] at ha; cases ha
    · rw [setF_ne hj] at ha; exact R.al j a ha
  · by_cases hj : j = i
    · subst hj; rw [setF_same] at ha; cases ha
    · rw [setF_ne hj] at ha; exact R.fr j a ha
theorem names_run : ∀ (is : List Nat) {ds : List D} {vs : List V} {ρ ρ' : Env} {σ : L2.St} {F : Foot} {Q : L2.St → Hp → Prop}, (∀ i ∈ is, kAt κ i = .sh) → Rel K S H0 Hs0 κ ρ σ H Hs F → Reps K Hs ds vs → putMany is ds ρ = some ρ' →
    (∀ σ' F', Rel K S H0 Hs0 κ ρ' σ' H Hs F' → (∀ ws : List Nat, (∀ i ∈ is, i ∈ ws) → wipe σ' ws = wipe σ ws) → Q σ' H) → gNames is vs σ H Q
  | [], ds, vs, ρ, ρ', σ, F, Q, _, R, r, hp, h => by
    cases r with
    | nil => cases hp; exact ⟨rfl, h σ F R fun _ _ => rfl⟩
    | cons _ _ => cases hp
  | i :: is, ds, vs, ρ, ρ', σ, F, Q, hk, R, r, hp, h => by
    cases r with
    | nil => cases hp
    | cons a b =>
      refine ⟨_, _, rfl, ?_⟩
      refine names_run is (fun j hj => hk j (List.mem_cons_of_mem _ hj)) (R.putSh (hk i List.mem_cons_self) a) b hp fun σ' F' R' hw => h σ' F' R' fun ws hws => ?_
      rw [hw ws fun j hj => hws j (List.mem_cons_of_mem _ hj), wipe_set (hws i List.mem_cons_self)]
theorem Tg.run (t : Tg) {d : D} {v : V} {ρ' : Env} {Q : L2.St → Hp → Prop} (hk : ∀ i ∈ t.slots, kAt κ i = .sh) (R : Rel K S H0 Hs0 κ ρ σ H Hs F) (r : Rep K Hs d v) (hp : t.put d ρ = some ρ')
    (h : ∀ σ' F', Rel K S H0 Hs0 κ ρ' σ' H Hs F' → (∀ ws : List Nat, (∀ i ∈ t.slots, i ∈ ws) → wipe σ' ws = wipe σ ws) → Q σ' H) : t.tg K v σ H Q := by
  cases t with
  | nm i =>
    cases hp
    exact h _ _ (R.putSh (hk i List.mem_cons_self) r) fun ws hws => wipe_set (hws i List.mem_cons_self)
  | tp is =>
    cases r with
    | tup ht rs =>
      have e : ∀ (is : List Nat) (ds : List D) (ρ : Env), putMany is ds ρ = some ρ' → ds.length = is.length := by
        intro is
        induction is with
        | nil => intro ds ρ h; cases ds with | nil => rfl | cons _ _ => cases h
        | cons i is ih => intro ds ρ h; cases ds with | nil => cases h | cons d ds => rw [List.length_cons, List.length_cons, ih ds _ h]
      exact ⟨_, _, rfl, R.sub.sqt ht, by rw [← rs.length]; exact e _ _ _ hp, names_run is hk R rs hp h⟩
    | _ => cases hp
end

/-! ### what is walked -/
structure Walks (K : PySem.W.Frag) (J : It) (ds : List D) (Hs1 : Hp) : Prop where
  go : ∀ i H Hs, i < ds.length → Ext Hs1 Hs → Ext Hs H → J.go i H
  yld : ∀ i H Hs x H' d, Ext Hs1 Hs → Ext Hs H → J.yld i H x H' → ds[i]? = some d → ∃ Hs', Grow H Hs H' Hs' ∧ Rep K Hs' d x
  stop : ∀ H Hs, Ext Hs1 Hs → Ext Hs H → J.stop ds.length H
def tI (K : PySem.W.Frag) (W : WX) (κ : List Kd) (f : Env → O (List D)) : TI := fun σ H R =>
  ∃ S H0 Hs0 ρ Hs F, Rel K S H0 Hs0 κ ρ σ H Hs F ∧ match f ρ with
    | .stuck => False
    | .ok ds => ∀ J H' Hs', Grow H Hs H' Hs' → Walks K J ds Hs' → R J H'
    | .exc c fs => ∀ cls dx H', XRes K c fs cls dx H Hs H' → W cls dx σ H'
abbrev CI (X : Cx) (W : WX) (κ : List Kd) (tg e : Expr) (f : Env → O (List D)) : Prop := PI X tg e (tI X.K W κ f)
section
variable {X : Cx} {W : WX} {κ : List Kd} {tg : Expr}
def dSeq : D → O (List D)
  | .lst xs => .ok xs
  | .tup xs => .ok xs
  | .scr ns => .ok (ns.map .int)
  | .str s => .ok (s.cps.toList.map fun c => .str ⟨#[c]⟩)
  | _ => .stuck
def mSeq (f : Env → O D) : Env → O (List D) := fun ρ => f ρ >>= dSeq
theorem walks_list {K : PySem.W.Frag} {a : Addr} {ds : List D} {vs : List V} {Hs : Hp} (h : SqL K Hs a vs) (r : Reps K Hs ds vs) : Walks K (Itl K a) ds Hs where
  go := fun i H Hs' hi e s => by
    have hv : i < vs.length := by rw [← r.length]; exact hi
    exact ⟨vs, vs[i], s.sql (e.sql h), List.getElem?_eq_getElem hv⟩
  yld := fun i H Hs' x H' d e s y hd => by
    obtain ⟨e1, y⟩ := y
    subst e1
    have hx := y vs (s.sql (e.sql h))
    obtain ⟨v, h1, h2⟩ := r.get hd
    rw [hx] at h1
    cases h1
    exact ⟨Hs', .refl s, h2.mono e⟩
  stop := fun H Hs' e s => ⟨vs, s.sql (e.sql h), by rw [r.length]; exact Nat.le_refl _⟩
theorem walks_tup {K : PySem.W.Frag} {a : Addr} {ds : List D} {vs : List V} {Hs : Hp} (h : SqT K Hs a vs) (r : Reps K Hs ds vs) : Walks K (Itt K a) ds Hs where
  go := fun i H Hs' hi e s => by
    have hv : i < vs.length := by rw [← r.length]; exact hi
    exact ⟨vs, vs[i], s.sqt (e.sqt h), List.getElem?_eq_getElem hv⟩
  yld := fun i H Hs' x H' d e s y hd => by
    obtain ⟨e1, y⟩ := y
    subst e1
    have hx := y vs (s.sqt (e.sqt h))
    obtain ⟨v, h1, h2⟩ := r.get hd
    rw [hx] at h1
    cases h1
    exact ⟨Hs', .refl s, h2.mono e⟩
  stop := fun H Hs' e s => ⟨vs, s.sqt (e.sqt h), by rw [r.length]; exact Nat.le_refl _⟩
theorem walks_str {K : PySem.W.Frag} {s : Str} {Hs : Hp} : Walks K (Its s) (s.cps.toList.map fun c => .str ⟨#[c]⟩) Hs where
  go := fun i H Hs' hi e _ => by
    show i < s.cps.size
    rw [List.length_map, Array.length_toList] at hi
    exact hi
  yld := fun i H Hs' x H' d e sb y hd => by
    obtain ⟨e1, c, y1, y2⟩ := y
    subst e1
    rw [List.getElem?_map, Array.getElem?_toList, y1] at hd
    cases hd
    subst y2
    exact ⟨Hs', .refl sb, .str _⟩
  stop := fun H Hs' e _ => by
    show s.cps.size ≤ _
    rw [List.length_map, Array.length_toList]
    exact Nat.le_refl _
theorem ci_seq {e : Expr} {f : Env → O D} (he : CE X W κ .sh e f) : CI X W κ tg e (mSeq f) := by
  refine ⟨fun pins s σ H R I h => ?_⟩
  obtain ⟨S, H0, Hs0, ρ, Hs, F, Rl, p⟩ := h
  unfold mSeq at p
  have none_ : ∀ {R2 : V → Hp → Prop}, f ρ = .stuck → tE X.K W κ .sh f σ H R2 := fun e => by rw [e] at p; exact p.elim
  cases ef : f ρ with
  | stuck => rw [ef] at p; exact p.elim
  | exc c fs =>
    rw [ef] at p
    refine (pi_list he).run pins s σ H R I ⟨S, H0, Hs0, ρ, Hs, F, Rl, ?_⟩
    rw [ef]
    exact p
  | ok d =>
    rw [ef] at p
    have p' : (match dSeq d with
      | .stuck => False
      | .ok ds => ∀ J H' Hs', Grow H Hs H' Hs' → Walks X.K J ds Hs' → R J H'
      | .exc c fs => ∀ cls dx H', XRes X.K c fs cls dx H Hs H' → W cls dx σ H') := p
    cases d with
    | lst xs =>
      refine (pi_list he).run pins s σ H R I ⟨S, H0, Hs0, ρ, Hs, F, Rl, ?_⟩
      rw [ef]
      intro v H1 q
      obtain ⟨Hs1, g, r⟩ := q.out
      cases r with
      | lst hl rs => exact ⟨_, rfl, ⟨_, SqL.of (g.sub _ _ hl)⟩, p' _ H1 Hs1 g (walks_list (SqL.of hl) rs)⟩
    | tup xs =>
      refine (pi_tup he).run pins s σ H R I ⟨S, H0, Hs0, ρ, Hs, F, Rl, ?_⟩
      rw [ef]
      intro v H1 q
      obtain ⟨Hs1, g, r⟩ := q.out
      cases r with
      | tup hl rs => exact ⟨_, rfl, ⟨_, g.sub.sqt hl⟩, p' _ H1 Hs1 g (walks_tup hl rs)⟩
    | scr ns =>
      refine (pi_list he).run pins s σ H R I ⟨S, H0, Hs0, ρ, Hs, F, Rl, ?_⟩
      rw [ef]
      intro v H1 q
      obtain ⟨Hs1, g, r⟩ := q.out
      cases r with
      | scr hl => exact ⟨_, rfl, ⟨_, g.sub.sql hl⟩, p' _ H1 Hs1 g (walks_list hl (Reps.ofInts _))⟩
    | str z =>
      refine (pi_str he).run pins s σ H R I ⟨S, H0, Hs0, ρ, Hs, F, Rl, ?_⟩
      rw [ef]
      intro v H1 q
      obtain ⟨Hs1, g, r⟩ := q.out
      cases r
      exact ⟨_, rfl, p' _ H1 Hs1 g walks_str⟩
    | _ => exact p'.elim
/-- range -/
def rangeD (lo hi : Int) : List D := (List.range (hi - lo).toNat).map fun (i : Nat) => D.int (lo + i)
def okR (i j : Int) : Bool := decide (i.natAbs < 2 ^ 62) && decide (j.natAbs < 2 ^ 62)
def dRange1 : List D → O (List D)
  | [.int j] => if okR 0 j = true then .ok (rangeD 0 j) else .stuck
  | _ => .stuck
def dRange2 : List D → O (List D)
  | [.int i, .int j] => if okR i j = true then .ok (rangeD i j) else .stuck
  | _ => .stuck
def mRange1 (f : Env → O (List D)) : Env → O (List D) := fun ρ => f ρ >>= dRange1
def mRange2 (f : Env → O (List D)) : Env → O (List D) := fun ρ => f ρ >>= dRange2
theorem okR_out {i j : Int} (h : okR i j = true) : -(2 ^ 62) ≤ i ∧ i < 2 ^ 62 ∧ -(2 ^ 62) ≤ j ∧ j < 2 ^ 62 := by
  unfold okR at h
  simp only [Bool.and_eq_true, decide_eq_true_eq] at h
  omega
theorem walks_range {K : PySem.W.Frag} {lo hi : Int} {Hs : Hp} : Walks K (Itr lo (hi - lo).toNat) (rangeD lo hi) Hs where
  go := fun i H Hs' hi e _ => by
    show i < _
    unfold rangeD at hi
    rw [List.length_map, List.length_range] at hi
    exact hi
  yld := fun i H Hs' x H' d e sb y hd => by
    obtain ⟨e1, y2⟩ := y
    subst e1 y2
    unfold rangeD at hd
    rw [List.getElem?_map] at hd
    cases er : (List.range (hi - lo).toNat)[i]? with
    | none => rw [er] at hd; cases hd
    | some k =>
      rw [er] at hd
      cases hd
      obtain ⟨hl, e2⟩ := List.getElem?_eq_some_iff.mp er
      rw [List.getElem_range] at e2
      subst e2
      exact ⟨Hs', .refl sb, .int _⟩
  stop := fun H Hs' e _ => by
    show _ ≤ _
    unfold rangeD
    rw [List.length_map, List.length_range]
    exact Nat.le_refl _
theorem stepI {S : List Addr} {H0 Hs0 : Hp} {ρ : Env} {σ : L2.St} {H Hs : Hp} {F : Foot} {K : PySem.W.Frag} {f : Env → O (List D)} {k : List D → O (List D)} {R : It → Hp → Prop} (Rl : Rel K S H0 Hs0 κ ρ σ H Hs F) (p : match (f ρ >>= k) with
    | .stuck => False
    | .ok ds => ∀ J H' Hs', Grow H Hs H' Hs' → Walks K J ds Hs' → R J H'
    | .exc c fs => ∀ cls dx H', XRes K c fs cls dx H Hs H' → W cls dx σ H')
    (hk : ∀ ds c fs, k ds ≠ .exc c fs) {R2 : List V → Hp → Prop} (h : ∀ ds es vs H1 Hs1, k ds = .ok es → Ext Hs1 H1 → Reps K Hs1 ds vs → (∀ J, Walks K J es Hs1 → R J H1) → R2 vs H1) : tA K W κ f σ H R2 := by
  refine ⟨S, H0, Hs0, ρ, Hs, F, Rl, ?_⟩
  cases e : f ρ with
  | stuck => rw [e] at p; exact p
  | exc c fs => rw [e] at p; exact p
  | ok ds =>
    rw [e, bind_ok] at p
    intro vs H1 Hs1 g rs
    cases ek : k ds with
    | stuck => rw [ek] at p; exact p.elim
    | exc c fs => exact absurd ek (hk _ _ _)
    | ok es =>
      rw [ek] at p
      exact h ds es vs H1 Hs1 ek g.sub rs fun J w => p J H1 Hs1 g w
theorem ci_range1 {a : Expr} {f : Env → O (List D)} {p pos : Pos} (hg : Gl X "range") (hm : X.mg "range" = none) (ha : CA X W κ [a] f) (hs : starEach [a] X.env = [(false, eval a X.env)] := by rfl) : CI X W κ tg (.Call (.Name "range" p) [a] [] pos) (mRange1 f) := by
  refine ⟨fun pins s σ H R I h => ?_⟩
  obtain ⟨S, H0, Hs0, ρ, Hs, F, Rl, q⟩ := h
  refine (pi_range1 hg hm ha hs).run pins s σ H R I ?_
  refine stepI Rl q (fun ds c fs e => by unfold dRange1 at e; split at e <;> first | (split at e <;> cases e) | cases e) fun ds es vs H1 Hs1 hk sub rs w => ?_
  unfold dRange1 at hk
  split at hk
  · split at hk
    · rename_i j hj
      cases hk
      cases rs with | cons a b => cases b; cases a; exact ⟨_, rfl, (okR_out hj).2.2.1, (okR_out hj).2.2.2, by have z := w _ walks_range; rw [Int.sub_zero] at z; exact z⟩
    · cases hk
  · cases hk
theorem ci_range2 {a b : Expr} {f : Env → O (List D)} {p pos : Pos} (hg : Gl X "range") (hm : X.mg "range" = none) (ha : CA X W κ [a, b] f) (hs : starEach [a, b] X.env = [(false, eval a X.env), (false, eval b X.env)] := by rfl)
    (hs2 : starEach [b] X.env = [(false, eval b X.env)] := by rfl) : CI X W κ tg (.Call (.Name "range" p) [a, b] [] pos) (mRange2 f) := by
  refine ⟨fun pins s σ H R I h => ?_⟩
  obtain ⟨S, H0, Hs0, ρ, Hs, F, Rl, q⟩ := h
  refine (pi_range2 hg hm ha hs hs2).run pins s σ H R I ?_
  refine stepI Rl q (fun ds c fs e => by unfold dRange2 at e; split at e <;> first | (split at e <;> cases e) | cases e) fun ds es vs H1 Hs1 hk sub rs w => ?_
  unfold dRange2 at hk
  split at hk
  · split at hk
    · rename_i j hj
      cases hk
      cases rs with | cons a b => cases b with | cons b c => cases c; cases a; cases b; exact ⟨_, _, rfl, okR_out hj, w _ walks_range⟩
    · cases hk
  · cases hk
/-- enumerate(xs) -/
def enumD : Nat → List D → List D
  | _, [] => []
  | n, d :: ds => .tup [.int (n : Nat), d] :: enumD (n + 1) ds
theorem enumD_get : ∀ {n : Nat} {ds : List D} {i : Nat}, (enumD n ds)[i]? = (ds[i]?).map fun d => .tup [.int ((n + i : Nat) : Int), d]
  | _, [], _ => by simp [enumD]
  | n, d :: ds, 0 => by simp [enumD]
  | n, d :: ds, i + 1 => by
    rw [enumD, List.getElem?_cons_succ, List.getElem?_cons_succ, enumD_get]
    congr 1
    funext d
    rw [show n + 1 + i = n + (i + 1) by omega]
theorem enumD_length : ∀ {n : Nat} {ds : List D}, (enumD n ds).length = ds.length
  | _, [] => rfl
  | n, d :: ds => by rw [enumD, List.length_cons, List.length_cons, enumD_length]
def dEnum : List D → O (List D)
  | [.lst xs] => .ok (enumD 0 xs)
  | _ => .stuck
def mEnum (f : Env → O (List D)) : Env → O (List D) := fun ρ => f ρ >>= dEnum
theorem walks_enum {K : PySem.W.Frag} {a : Addr} {ds : List D} {vs : List V} {Hs : Hp} (h : SqL K Hs a vs) (r : Reps K Hs ds vs) : Walks K (Ite K a) (enumD 0 ds) Hs where
  go := fun i H Hs' hi e s => by
    have hv : i < vs.length := by rw [← r.length, ← enumD_length (n := 0)]; exact hi
    exact ⟨vs, vs[i], s.sql (e.sql h), List.getElem?_eq_getElem hv⟩
  yld := fun i H Hs' x H' d e s y hd => by
    obtain ⟨T, z, e1, e2, e3, y⟩ := y
    subst e1 e3
    have hx := y vs (s.sql (e.sql h))
    rw [enumD_get] at hd
    cases ed : ds[i]? with
    | none => rw [ed] at hd; cases hd
    | some d' =>
      rw [ed] at hd
      cases hd
      obtain ⟨v, h1, h2⟩ := r.get ed
      rw [hx] at h1
      cases h1
      refine ⟨upd Hs' T (.tup [.int (i : Nat), z]), .new s e2, .tup (SqT.of upd_same) (.cons ?_ (.cons ((h2.mono e).mono (.new (s.none e2))) .nil))⟩
      rw [Nat.zero_add]
      exact .int _
  stop := fun H Hs' e s => ⟨vs, s.sql (e.sql h), by rw [enumD_length, r.length]; exact Nat.le_refl _⟩
theorem ci_enum {a : Expr} {f : Env → O (List D)} {p pos tpos : Pos} {elts : List Expr} {kk : Nat} (hg : Gl X "enumerate") (hm : X.mg "enumerate" = none) (ha : CA X W κ [a] f) (hs : starEach [a] X.env = [(false, eval a X.env)] := by rfl) :
    CI X W κ (.Tuple elts kk tpos) (.Call (.Name "enumerate" p) [a] [] pos) (mEnum f) := by
  refine ⟨fun pins s σ H R I h => ?_⟩
  obtain ⟨S, H0, Hs0, ρ, Hs, F, Rl, q⟩ := h
  refine (pi_enum hg hm ha hs).run pins s σ H R I ?_
  refine stepI Rl q (fun ds c fs e => by unfold dEnum at e; split at e <;> cases e) fun ds es vs H1 Hs1 hk sub rs w => ?_
  unfold dEnum at hk
  split at hk
  · cases hk
    cases rs with | cons a b => cases b; cases a with | lst h r => exact ⟨_, _, rfl, SqL.of (sub _ _ h), w _ (walks_enum (SqL.of h) r)⟩
  · cases hk
/-- reversed(xs) -/
def dRev : D → O (List D)
  | .lst xs => .ok xs.reverse
  | .tup xs => .ok xs.reverse
  | _ => .stuck
def mRev (f : Env → O D) : Env → O (List D) := fun ρ => f ρ >>= dRev
theorem rev_get {α : Type} {xs : List α} {i : Nat} (h : i < xs.length) : xs.reverse[i]? = xs[xs.length - 1 - i]? := by
  rw [List.getElem?_reverse h]
theorem walks_rev {K : PySem.W.Frag} {a : Addr} {ds : List D} {vs : List V} {Hs : Hp} (h : SqL K Hs a vs) (r : Reps K Hs ds vs) : Walks K (Itv K a vs.length) ds.reverse Hs where
  go := fun i H Hs' hi e s => by
    have hv : i < vs.length := by rw [← r.length, ← List.length_reverse]; exact hi
    have hw : vs.length - 1 - i < vs.length := by omega
    exact ⟨hv, vs, vs[vs.length - 1 - i], s.sql (e.sql h), List.getElem?_eq_getElem hw⟩
  yld := fun i H Hs' x H' d e s y hd => by
    obtain ⟨e1, y⟩ := y
    subst e1
    have hx := y vs (s.sql (e.sql h))
    have hi : i < ds.length := by
      have := (List.getElem?_eq_some_iff.mp hd).1
      rw [List.length_reverse] at this
      exact this
    rw [rev_get hi, r.length] at hd
    obtain ⟨v, h1, h2⟩ := r.get hd
    rw [hx] at h1
    cases h1
    exact ⟨Hs', .refl s, h2.mono e⟩
  stop := fun H Hs' e s => by
    show vs.length ≤ _
    rw [List.length_reverse, r.length]
    exact Nat.le_refl _
theorem walks_revT {K : PySem.W.Frag} {a : Addr} {ds : List D} {vs : List V} {Hs : Hp} (h : SqT K Hs a vs) (r : Reps K Hs ds vs) : Walks K (RT.ItvT K a vs.length) ds.reverse Hs where
  go := fun i H Hs' hi e s => by
    have hv : i < vs.length := by rw [← r.length, ← List.length_reverse]; exact hi
    have hw : vs.length - 1 - i < vs.length := by omega
    exact ⟨hv, vs, vs[vs.length - 1 - i], s.sqt (e.sqt h), List.getElem?_eq_getElem hw⟩
  yld := fun i H Hs' x H' d e s y hd => by
    obtain ⟨e1, y⟩ := y
    subst e1
    have hx := y vs (s.sqt (e.sqt h))
    have hi : i < ds.length := by
      have := (List.getElem?_eq_some_iff.mp hd).1
      rw [List.length_reverse] at this
      exact this
    rw [rev_get hi, r.length] at hd
    obtain ⟨v, h1, h2⟩ := r.get hd
    rw [hx] at h1
    cases h1
    exact ⟨Hs', .refl s, h2.mono e⟩
  stop := fun H Hs' e s => by
    show vs.length ≤ _
    rw [List.length_reverse, r.length]
    exact Nat.le_refl _
theorem ci_rev {a : Expr} {f : Env → O D} {p pos : Pos} (hg : Gl X "reversed") (hm : X.mg "reversed" = none) (he : CE X W κ .sh a f) (hs : starEach [a] X.env = (false, eval a X.env) :: starEach [] X.env := by rfl) : CI X W κ tg (.Call (.Name "reversed" p) [a] [] pos) (mRev f) := by
  refine ⟨fun pins s σ H R I h => ?_⟩
  obtain ⟨S, H0, Hs0, ρ, Hs, F, Rl, q⟩ := h
  refine (RT.pi_revA hg hm he hs).run pins s σ H R I ?_
  refine ⟨S, H0, Hs0, ρ, Hs, F, Rl, ?_⟩
  unfold mRev at q
  cases ef : f ρ with
  | stuck => rw [ef] at q; exact q
  | exc c fs => rw [ef] at q; exact q
  | ok d =>
    rw [ef, bind_ok] at q
    intro v H1 r
    obtain ⟨Hs1, g, r⟩ := r.out
    unfold dRev at q
    cases r with
    | lst h rs => exact ⟨_, _, rfl, .inl ⟨SqL.of (g.sub _ _ h), q _ H1 Hs1 g (walks_rev (SqL.of h) rs)⟩⟩
    | tup h rs => exact ⟨_, _, rfl, .inr ⟨g.sub.sqt h, q _ H1 Hs1 g (walks_revT h rs)⟩⟩
    | _ => exact q.elim
/-- zip(xs, ys) -/
def zipD : List D → List D → List D
  | x :: xs, y :: ys => .tup [x, y] :: zipD xs ys
  | _, _ => []
end

/-! ### for -/
def forD (tg : Tg) (body : Env → SO) : List D → Env → SO
  | [], ρ => .nx ρ
  | d :: ds, ρ => match tg.put d ρ with
    | none => .stuck
    | some ρ1 => match body ρ1 with
      | .nx ρ' => forD tg body ds ρ'
      | .ct ρ' => forD tg body ds ρ'
      | .bk ρ' => .nx ρ'
      | o => o
def sFor (it : Env → O (List D)) (tg : Tg) (body : Env → SO) : Env → SO := fun ρ => match it ρ with
  | .ok ds => forD tg body ds ρ
  | .exc x fs => .exc ρ x fs
  | .stuck => .stuck
section
variable {X : Cx} {c : Cf} {κ : List Kd}
theorem cs_for {tgE iter : Expr} {body : List Stmt} {pos : Pos} {it : Env → O (List D)} {tg : Tg} {g : Env → SO} (hp : PassesOwn (model X.prog X.w) X.A X.env X.xe) (hc : X.calm = true) (hi : CI X c.W κ tgE iter it) (hg : PG X tgE (tg.tg X.K)) (hk : ∀ i ∈ tg.slots, kAt κ i = .sh)
    (hb : CSs X { c with κl := κ } κ κ body g) (hx : c.κx κ) (hs : ∀ x, foldedSetIterable iter X.env x = pure x := by intro _; rfl) : CS X c κ κ (.For tgE iter body [] pos) (sFor it tg g) :=
  PS.imp (ps_for hp hc hi hg hb hs) fun Dn σ H q => by
    obtain ⟨S, H0, Hs0, ρ, Hs, F, hS, R, p⟩ := q
    refine ⟨S, H0, Hs0, ρ, Hs, F, R, ?_⟩
    unfold sFor at p
    cases ei : it ρ with
    | stuck => rw [ei] at p; exact p
    | exc x fs =>
      rw [ei] at p
      intro cls dx H' q
      obtain ⟨Hs', g, xr⟩ := q
      exact p κ cls dx σ H' Hs' F hx (R.grow g) g.exs xr
    | ok ds =>
      rw [ei] at p
      intro J H1 Hs1 gr w
      refine ⟨fun i m σ' H' => m = ds.length - i ∧ i ≤ ds.length ∧ ∃ ρ' Hs' F', Rel X.K S H0 Hs0 κ ρ' σ' H' Hs' F' ∧ Ext Hs1 Hs' ∧ SPost X.K c S H0 Hs0 κ Hs' Dn (forD tg g (ds.drop i) ρ'), ⟨ds.length, by simp, Nat.zero_le _, ρ, Hs1, F, R.grow gr, .refl _, p.mono gr.exs⟩, ?_⟩
      rintro i m σ' H' ⟨rfl, hi, ρ', Hs', F', R', e', p'⟩
      by_cases hlt : i < ds.length
      · refine .inr ⟨w.go i H' Hs' hlt e' R'.sub, fun σ2 H2 => i + 1 ≤ ds.length ∧ ∃ ρ' Hs' F', Rel X.K S H0 Hs0 κ ρ' σ2 H2 Hs' F' ∧ Ext Hs1 Hs' ∧ SPost X.K c S H0 Hs0 κ Hs' Dn (forD tg g (ds.drop (i + 1)) ρ'), fun σ2 H2 n => ⟨ds.length - (i + 1), by omega, rfl, n⟩, fun x H2 y => ?_⟩
        have hd : ds[i]? = some ds[i] := List.getElem?_eq_getElem hlt
        obtain ⟨Hs2, g2, rx⟩ := w.yld i H' Hs' x H2 _ e' R'.sub y hd
        rw [List.drop_eq_getElem_cons hlt, forD] at p'
        have R2 := R'.grow g2
        cases et : tg.put ds[i] ρ' with
        | none => rw [et] at p'; exact p'.elim
        | some ρ1 =>
          rw [et] at p'
          refine tg.run hk R2 rx et fun σ3 F3 R3 _ => ?_
          refine ⟨S, H0, Hs0, ρ1, Hs2, F3, hS, R3, ?_⟩
          have p2 := p'.mono g2.exs
          dsimp only at p2
          have e2 := e'.trans g2.exs
          cases eb : g ρ1 with
          | stuck => rw [eb] at p2; exact p2
          | nx ρ4 => rw [eb] at p2; exact fun σ4 H4 Hs4 F4 R4 x4 => ⟨hlt, ρ4, Hs4, F4, R4, e2.trans x4, p2.mono x4⟩
          | ct ρ4 => rw [eb] at p2; exact fun σ4 H4 Hs4 F4 R4 x4 => ⟨hlt, ρ4, Hs4, F4, R4, e2.trans x4, p2.mono x4⟩
          | bk ρ4 => rw [eb] at p2; exact p2
          | rt d => rw [eb] at p2; exact p2
          | exc ρ4 x fs => rw [eb] at p2; exact p2
      · have e : i = ds.length := by omega
        subst e
        refine .inl ⟨w.stop H' Hs' e' R'.sub, ?_⟩
        rw [List.drop_length, forD] at p'
        exact p' σ' H' Hs' F' R' (.refl _)
end

/-! ### list comprehensions -/
def wipeD (ρ : Env) : List Nat → Env
  | [] => ρ
  | v :: vs => (wipeD ρ vs).set v none
/-- no error may come up within -/
def noXF {α : Type} (x : O α) : O α := match x with
  | .ok a => .ok a
  | _ => .stuck
def compD (tg : Tg) (t : Env → O Bool) (e : Env → O D) (ρ : Env) : List D → List D → O (List D)
  | [], acc => .ok acc
  | d :: ds, acc => match tg.put d ρ with
    | none => .stuck
    | some ρ1 => match t ρ1 with
      | .ok true => (match e ρ1 with
        | .ok z => if acc.length < sizeLine then compD tg t e ρ ds (acc ++ [z]) else .stuck
        | _ => .stuck)
      | .ok false => compD tg t e ρ ds acc
      | _ => .stuck
def mComp (it : Env → O (List D)) (vs : List Nat) (tg : Tg) (t : Env → O Bool) (e : Env → O D) : Env → O D := fun ρ => it ρ >>= fun ds => compD tg t e (wipeD ρ vs) ds [] >>= fun r => .ok (.lst r)
def WF : WX := fun _ _ _ _ => False
def mYes : Env → O Bool := fun _ => .ok true
section
variable {K : PySem.W.Frag} {S : List Addr} {H0 Hs0 : Hp} {κ : List Kd} {ρ : Env} {σ : L2.St} {H Hs : Hp} {F : Foot}
theorem Rel.unset (R : Rel K S H0 Hs0 κ ρ σ H Hs F) (j : Nat) : Rel K S H0 Hs0 κ (ρ.set j none) (σ.set j none) H Hs F where
  len := by rw [List.length_set, List.length_set]; exact R.len
  sl := fun i d e => by
    by_cases hj : i = j
    · subst hj
      by_cases hl : i < ρ.length
      · rw [List.getElem?_set_self hl] at e; cases e
      · rw [List.getElem?_eq_none (by rw [List.length_set]; omega)] at e; cases e
    · rw [List.getElem?_set_ne (Ne.symm hj)] at e ⊢
      exact R.sl i d e
  nd := R.nd
  dj := R.dj
  al := R.al
  fr := R.fr
  g := R.g
  sub := R.sub
  old := R.old
  st := R.st
  new := R.new
theorem Rel.wipe (R : Rel K S H0 Hs0 κ ρ σ H Hs F) : ∀ vs : List Nat, Rel K S H0 Hs0 κ (wipeD ρ vs) (L2.wipe σ vs) H Hs F
  | [] => R
  | v :: vs => (R.wipe vs).unset v
end
section
variable {X : Cx} {W : WX} {κ : List Kd}
abbrev CTs (X : Cx) (W : WX) (κ : List Kd) (ifs : List Expr) (t : Env → O Bool) : Prop := PTs X ifs (tT X.K W κ t)
theorem cts_nil : CTs X W κ [] mYes := ⟨fun pins s σ H Q I q => pts_nil.run pins s σ H Q I (by
  obtain ⟨S, H0, Hs0, ρ, Hs, F, R, p⟩ := q
  exact p H Hs (.refl R.sub))⟩
theorem cts_one {c : Expr} {t : Env → O Bool} (h : CT X W κ c t) : CTs X W κ [c] t := pts_one h
theorem wipe_again {σ : L2.St} {vs : List Nat} : ∀ ws : List Nat, (∀ v ∈ ws, v ∈ vs) → wipe (wipe σ vs) ws = wipe σ vs
  | [], _ => rfl
  | v :: ws, hv => by
    show ((wipe (wipe σ vs) ws).set v none) = wipe σ vs
    rw [wipe_again ws fun u hu => hv u (List.mem_cons_of_mem _ hu)]
    apply List.ext_getElem?
    intro j
    by_cases hj : v = j
    · subst hj
      by_cases hl : v < (wipe σ vs).length
      · rw [List.getElem?_set_self hl]
        cases q : (wipe σ vs)[v]? with
        | none => rw [List.getElem?_eq_none_iff] at q; omega
        | some o =>
          cases o with
          | none => rfl
          | some u => exact absurd (hv v List.mem_cons_self) (wipe_some q).2
      · rw [List.getElem?_eq_none (by rw [List.length_set]; omega), List.getElem?_eq_none (by omega)]
    · rw [List.getElem?_set_ne hj]
/-- the reading of a comprehension -/
theorem comp_run {K : PySem.W.Frag} {it : Env → O (List D)} {vs : List Nat} {tg : Tg} {t : Env → O Bool} {e : Env → O D} {σ : L2.St} {H : Hp} {Q : VK} (hsl : ∀ i ∈ tg.slots, i ∈ vs ∧ kAt κ i = .sh) (h : tE K W κ (.ls .sh) (mComp it vs tg t e) σ H Q) :
    tLc (tI K W κ it) (tg.tg K) (tT K WF κ t) (tE K WF κ .sh e) vs σ H Q := by
  obtain ⟨S, H0, Hs0, ρ, Hs, F, R, p⟩ := h
  refine ⟨S, H0, Hs0, ρ, Hs, F, R, ?_⟩
  unfold mComp at p
  cases ei : it ρ with
  | stuck => rw [ei] at p; exact p
  | exc x fs => rw [ei] at p; exact p
  | ok ds =>
    rw [ei, bind_ok] at p
    intro J H1 Hs1 gr w D hD
    have hDs : Hs1 D = none := gr.sub.none hD
    -- behind i items: acc at D, the rest is due
    refine ⟨fun i m H' => m = ds.length - i ∧ i ≤ ds.length ∧ ∃ Hs' acc us, Ext H1 H' ∧ Ext Hs1 Hs' ∧ Ext Hs' H' ∧ (∀ a o, Hs' a = some o → Hs1 a = none → H1 a = none) ∧ Hs' D = none ∧ H' D = some (.lst us) ∧ Reps K Hs' acc us ∧
      EPost K W (.ls .sh) σ H Hs Q (compD tg t e (wipeD ρ vs) (ds.drop i) acc >>= fun r => .ok (.lst r)), ⟨ds.length, by simp, Nat.zero_le _, Hs1, [], [], .new hD, .refl _, gr.sub.trans (.new hD), fun a o e n => by (rw [n] at e; cases e), hDs, upd_same, .nil, p⟩, ?_⟩
    rintro i m H' ⟨rfl, hi, Hs', acc, us, x1, x2, x3, x4, x5, x6, rs, p'⟩
    by_cases hlt : i < ds.length
    · refine .inr ⟨w.go i H' Hs' hlt x2 x3, fun H2 => i + 1 ≤ ds.length ∧ ∃ Hs' acc us, Ext H1 H2 ∧ Ext Hs1 Hs' ∧ Ext Hs' H2 ∧ (∀ a o, Hs' a = some o → Hs1 a = none → H1 a = none) ∧ Hs' D = none ∧ H2 D = some (.lst us) ∧ Reps K Hs' acc us ∧
        EPost K W (.ls .sh) σ H Hs Q (compD tg t e (wipeD ρ vs) (ds.drop (i + 1)) acc >>= fun r => .ok (.lst r)), fun H2 n => ⟨ds.length - (i + 1), by omega, rfl, n⟩, fun x H2 y => ?_⟩
      have hd : ds[i]? = some ds[i] := List.getElem?_eq_getElem hlt
      obtain ⟨Hs2, g2, rx⟩ := w.yld i H' Hs' x H2 _ x2 x3 y hd
      rw [List.drop_eq_getElem_cons hlt, compD] at p'
      -- the state of the slots, D beside them
      have Rg : Rel K S H0 Hs0 κ ρ σ H2 Hs2 F := by
        have g01 : Grow H1 Hs1 H2 Hs2 := ⟨x1.trans g2.ex, x2.trans g2.exs, g2.sub, fun a o q n => by
          cases z : Hs' a with
          | none => exact x1.none (g2.fr a o q z)
          | some u => exact x4 a u z n⟩
        exact R.grow (gr.trans g01)
      have Rw := Rg.wipe vs
      have hD2 : Hs2 D = none := by
        cases z : Hs2 D with
        | none => rfl
        | some u => exact absurd x6 (by rw [g2.fr D u z x5]; simp)
      have x7 : ∀ a o, Hs2 a = some o → Hs1 a = none → H1 a = none := fun a o q n => by
        cases z : Hs' a with
        | none => exact x1.none (g2.fr a o q z)
        | some u => exact x4 a u z n
      cases et : tg.put ds[i] (wipeD ρ vs) with
      | none => rw [et] at p'; exact p'.elim
      | some ρ1 =>
        rw [et] at p'
        dsimp only at p'
        refine tg.run (fun j hj => (hsl j hj).2) Rw rx et fun σ3 F3 R3 hw => ⟨?_, ?_⟩
        · rw [hw vs fun j hj => (hsl j hj).1]
          exact wipe_again vs fun v hv => hv
        · refine ⟨S, H0, Hs0, ρ1, Hs2, F3, R3, ?_⟩
          cases eb : t ρ1 with
          | stuck => rw [eb] at p'; exact p'.elim
          | exc x fs => rw [eb] at p'; exact p'.elim
          | ok b =>
            rw [eb] at p'
            intro H3 Hs3 g3
            have hD3 : Hs3 D = none := by
              cases z : Hs3 D with
              | none => rfl
              | some u =>
                have q := g3.fr D u z hD2
                rw [g2.ex _ _ x6] at q
                cases q
            have x8 : ∀ a o, Hs3 a = some o → Hs1 a = none → H1 a = none := fun a o q n => by
              cases z : Hs2 a with
              | none => exact (x1.trans g2.ex).none (g3.fr a o q z)
              | some u => exact x7 a u z n
            cases b with
            | false =>
              rw [if_neg Bool.false_ne_true]
              exact ⟨hlt, Hs3, acc, us, (x1.trans g2.ex).trans g3.ex, (x2.trans g2.exs).trans g3.exs, g3.sub, x8, hD3, g3.ex _ _ (g2.ex _ _ x6), (rs.mono g2.exs).mono g3.exs, p'⟩
            | true =>
              rw [if_pos rfl]
              dsimp only at p'
              refine ⟨S, H0, Hs0, ρ1, Hs3, F3, R3.grow g3, ?_⟩
              cases ee : e ρ1 with
              | stuck => rw [ee] at p'; exact p'.elim
              | exc x fs => rw [ee] at p'; exact p'.elim
              | ok z =>
                rw [ee] at p'
                dsimp only at p'
                intro v H4 q4
                obtain ⟨Hs4, g4, rz⟩ := q4.out
                have x64 : H4 D = some (.lst us) := g4.ex _ _ (g3.ex _ _ (g2.ex _ _ x6))
                have hD4 : Hs4 D = none := by
                  cases z : Hs4 D with
                  | none => rfl
                  | some u =>
                    have q := g4.fr D u z hD3
                    rw [g3.ex _ _ (g2.ex _ _ x6)] at q
                    cases q
                by_cases hz : acc.length < sizeLine
                · rw [if_pos hz] at p'
                  have rl := rs.length
                  refine ⟨us, x64, by rw [← rl]; exact hz, hlt, Hs4, acc ++ [z], us ++ [v], ?_, ((x2.trans g2.exs).trans g3.exs).trans g4.exs, ?_, ?_, hD4, upd_same, ((((rs.mono g2.exs).mono g3.exs).mono g4.exs).append (.cons rz .nil)), p'⟩
                  · intro a o q
                    have hne : a ≠ D := fun z => by rw [z, hD] at q; cases q
                    rw [upd_ne hne]
                    exact g4.ex _ _ (g3.ex _ _ (g2.ex _ _ (x1 a o q)))
                  · intro a o q
                    have hne : a ≠ D := fun z => by rw [z, hD4] at q; cases q
                    rw [upd_ne hne]
                    exact g4.sub a o q
                  · intro a o q n
                    cases z : Hs3 a with
                    | none => exact ((x1.trans g2.ex).trans g3.ex).none (g4.fr a o q z)
                    | some u => exact x8 a u z n
                · rw [if_neg hz] at p'; exact p'.elim
    · have ee : i = ds.length := by omega
      subst ee
      refine .inl ⟨w.stop H' Hs' x2 x3, ?_⟩
      rw [List.drop_length, compD, bind_ok] at p'
      refine p' _ H' ⟨Hs', [D], ⟨gr.ex.trans x1, gr.exs.trans x2, x3, fun a o q n => ?_⟩, by simp, fun a ha => ?_, D, acc, us, acc.map fun _ => [], rfl, rfl, x6, ?_, ?_⟩
      · cases z : Hs1 a with
        | none => exact gr.ex.none (x4 a o q z)
        | some u => exact gr.fr a u z n
      · have e : a = D := by simpa using ha
        subst e
        exact ⟨gr.ex.none hD, x5, by rw [x6]; simp⟩
      · simp
      · clear p' p w x6
        induction acc generalizing us with
        | nil => cases rs; exact .nil
        | cons d acc ih => cases rs with | cons a b => exact .cons ⟨a, rfl⟩ (ih _ b)
theorem ce_compO {elt tgE iter : Expr} {ifs : List Expr} {scope : Scope} {own : List (Str × Nat)} {pos : Pos} {it : Env → O (List D)} {tg : Tg} {t : Env → O Bool} {e : Env → O D} (hc : X.calm = true) (hN : X.N.Nodup) (hi : CI X W κ tgE iter it) (ok : BlkOk X.N X.env.scope scope own)
    (hsl : ∀ i ∈ tg.slots, i ∈ own.map (·.2) ∧ kAt κ i = .sh)
    (hg : ∀ (s : Shared) (H : Hp) (C : Addr) (cl : List (Str × Addr)) (fp : List Addr), PG (X.blk s H scope (compEnvC scope cl C X.env) fp) tgE (tg.tg X.K)) (ht : ∀ (s : Shared) (H : Hp) (C : Addr) (cl : List (Str × Addr)) (fp : List Addr), CTs (X.blk s H scope (compEnvC scope cl C X.env) fp) WF κ ifs t)
    (he : ∀ (s : Shared) (H : Hp) (C : Addr) (cl : List (Str × Addr)) (fp : List Addr), CE (X.blk s H scope (compEnvC scope cl C X.env) fp) WF κ .sh elt e) (hs : ∀ x, foldedSetIterable iter X.env x = pure x := by intro _; rfl) :
    CE X W κ (.ls .sh) (.ListComp elt [⟨tgE, iter, ifs, 0⟩] scope pos) (mComp it (own.map (·.2)) tg t e) :=
  PE.imp (pe_lc hc hN hi ok hg ht he hs) fun _ _ _ q => comp_run hsl q
/-- y = [..] on one line -/
theorem cs_comp {c : Cf} {κ' : List Kd} {i : Nat} {y : Str} {py spos : Pos} {elt tgE iter : Expr} {ifs : List Expr} {scope : Scope} {own : List (Str × Nat)} {pos : Pos} {it : Env → O (List D)} {tg : Tg} {t : Env → O Bool} {e : Env → O D} (hil : i < κ.length) (hx : c.κx κ)
    (hst : PS X (.Assign [.Name y py] (.ListComp elt [⟨tgE, iter, ifs, 0⟩] scope pos) spos) (tAsg (tLc (tI X.K c.W κ it) (tg.tg X.K) (tT X.K WF κ t) (tE X.K WF κ .sh e) (own.map (·.2))) (gName i))) (hsl : ∀ i ∈ tg.slots, i ∈ own.map (·.2) ∧ kAt κ i = .sh) (hk' : κ.set i (.ls .sh) = κ' := by rfl) :
    CS X c κ κ' (.Assign [.Name y py] (.ListComp elt [⟨tgE, iter, ifs, 0⟩] scope pos) spos) (sAsg i (mComp it (own.map (·.2)) tg t e)) := by
  subst hk'
  exact PS.imp hst fun Dn σ H q => by
    obtain ⟨S, H0, Hs0, ρ, Hs, F, hS, R, p⟩ := q
    refine comp_run hsl (stepS hx R p fun d v H1 _ q p1 => ?_)
    obtain ⟨Hs', F', R', x⟩ := R.put hil q
    exact p1 _ _ Hs' F' R' x
theorem cs_compS {c : Cf} {κ' : List Kd} {i : Nat} {y : Str} {py spos : Pos} {elt tgE iter : Expr} {ifs : List Expr} {scope : Scope} {own : List (Str × Nat)} {pos : Pos} {it : Env → O (List D)} {tg : Tg} {t : Env → O Bool} {e : Env → O D} (hil : i < κ.length) (hx : c.κx κ)
    (hst : PS X (.Assign [.Name y py] (.ListComp elt [⟨tgE, iter, ifs, 0⟩] scope pos) spos) (tAsg (tLc (tI X.K c.W κ it) (tg.tg X.K) (tT X.K WF κ t) (tE X.K WF κ .sh e) (own.map (·.2))) (gName i))) (hsl : ∀ i ∈ tg.slots, i ∈ own.map (·.2) ∧ kAt κ i = .sh) (hk' : κ.set i .sh = κ' := by rfl) :
    CS X c κ κ' (.Assign [.Name y py] (.ListComp elt [⟨tgE, iter, ifs, 0⟩] scope pos) spos) (sAsg i (mComp it (own.map (·.2)) tg t e)) := by
  subst hk'
  exact PS.imp hst fun Dn σ H q => by
    obtain ⟨S, H0, Hs0, ρ, Hs, F, hS, R, p⟩ := q
    refine comp_run hsl (stepS hx R p fun d v H1 _ q p1 => ?_)
    obtain ⟨Hs', F', R', x⟩ := R.put hil q.share
    exact p1 _ _ Hs' F' R' x
end
end T

set_option Elab.async false
set_option linter.all false
set_option maxRecDepth 100000
set_option maxHeartbeats 1000000
/-! T6: what a def promises over data; its body; its calls. -/
namespace T
open PySem L2

/-- m tells what the def gives for the data that are written; dd: the defaults behind them -/
def spM (K : PySem.W.Frag) (dd : List D) (m : List D → O D) (rr : Kd) : Sp := fun vs H Q E => ∃ Hs ds, Ext Hs H ∧ Reps K Hs (ds ++ dd) vs ∧ match m ds with
  | .stuck => False
  | .ok d => ∀ v H', Res K rr d v H Hs H' → Q v H'
  | .exc c fs => ∀ cls dx H', XRes K c fs cls dx H Hs H' → E cls dx H'
/-- m says nothing but of n data -/
def Ar (n : Nat) (m : List D → O D) : Prop := ∀ ds, ds.length ≠ n → m ds = .stuck
theorem spM_len {K : PySem.W.Frag} {n : Nat} {dd : List D} {m : List D → O D} {rr : Kd} (ar : Ar n m) {vs : List V} {H : Hp} {Q : VK} {E : XK} (h : spM K dd m rr vs H Q E) : vs.length = n + dd.length := by
  obtain ⟨Hs, ds, _, r, q⟩ := h
  rw [← r.length, List.length_append]
  by_cases e : ds.length = n
  · rw [e]
  · rw [ar ds e] at q; exact q.elim
/-- a def that may be called by its name with n data, at level k -/
def Callee (P : Program) (w : World) (K : PySem.W.Frag) (mg : Str → Option Value) (base : Heap) (x : Str) (k : Nat) (m : List D → O D) (rr : Kd) : Prop :=
  ∃ (f : Addr) (fd : FuncData) (ps : List Str) (dvs : List V) (ds : List Value) (dd : List D), mg x = some (.ref f) ∧ PySem.W.keepIn K (.ref f) = true ∧ FnOk P w K mg base (L2N.CX P w) k f fd ps (spM K dd m rr) ∧ Binds K fd ps ds ∧ Vals dvs ds ∧ ∀ Hs, Reps K Hs dd dvs
theorem Callee.mono {P : Program} {w : World} {K : PySem.W.Frag} {mg : Str → Option Value} {base : Heap} {x : Str} {j k : Nat} {m : List D → O D} {rr : Kd} (c : Callee P w K mg base x j m rr) (h : j ≤ k) : Callee P w K mg base x k m rr := by
  obtain ⟨f, fd, ps, dvs, ds, dd, h1, h2, h3, h4⟩ := c
  exact ⟨f, fd, ps, dvs, ds, dd, h1, h2, h3.mono h, h4⟩
theorem spM_imp {K : PySem.W.Frag} {dd : List D} {m n : List D → O D} {rr : Kd} (h : ∀ a, n a = .stuck ∨ m a = n a) {vs : List V} {H : Hp} {Q : VK} {E : XK} (q : spM K dd n rr vs H Q E) : spM K dd m rr vs H Q E := by
  obtain ⟨Hs, ds, e, r, q⟩ := q
  refine ⟨Hs, ds, e, r, ?_⟩
  rcases h ds with z | z
  · rw [z] at q; exact q.elim
  · rw [z]; exact q
/-- m may be said otherwise, where it says anything -/
theorem Callee.is {P : Program} {w : World} {K : PySem.W.Frag} {mg : Str → Option Value} {base : Heap} {x : Str} {k : Nat} {m n : List D → O D} {rr : Kd} (c : Callee P w K mg base x k m rr) (h : ∀ a, n a = .stuck ∨ m a = n a) : Callee P w K mg base x k n rr := by
  obtain ⟨f, fd, ps, dvs, ds, dd, h1, h2, h3, h4⟩ := c
  exact ⟨f, fd, ps, dvs, ds, dd, h1, h2, h3.imp fun vs H Q E q => spM_imp h q, h4⟩
theorem Callee.share {P : Program} {w : World} {K : PySem.W.Frag} {mg : Str → Option Value} {base : Heap} {x : Str} {k : Nat} {m : List D → O D} {rr : Kd} (c : Callee P w K mg base x k m rr) : Callee P w K mg base x k m .sh := by
  obtain ⟨f, fd, ps, dvs, ds, dd, h1, h2, h3, h4⟩ := c
  refine ⟨f, fd, ps, dvs, ds, dd, h1, h2, h3.imp fun vs H Q E q => ?_, h4⟩
  obtain ⟨Hs, es, e, r, q⟩ := q
  refine ⟨Hs, es, e, r, ?_⟩
  cases em : m es with
  | stuck => rw [em] at q; exact q
  | ok d => rw [em] at q; exact fun v H' z => q v H' z.share
  | exc c fs => rw [em] at q; exact q
section
variable {X : Cx} {W : WX} {κ : List Kd}
def mApp (m : List D → O D) (f : Env → O (List D)) : Env → O D := fun ρ => f ρ >>= m
theorem app_run {K : PySem.W.Frag} {m : List D → O D} {f : Env → O (List D)} {dd : List D} {dvs : List V} {r : Kd} {σ : L2.St} {H : Hp} {Q : VK} {E : XK} (hE : ∀ cls dx H', W cls dx σ H' → E cls dx H') (hd : ∀ Hs, Reps K Hs dd dvs) (q : tE K W κ r (mApp m f) σ H Q) :
    tA K W κ f σ H fun vs H1 => spM K dd m r (vs ++ dvs) H1 Q E := by
  obtain ⟨S, H0, Hs0, ρ, Hs, F, R, p⟩ := q
  refine stepA R p fun ds vs H1 Hs1 e g1 R1 rs p1 => ?_
  refine ⟨Hs1, ds, R1.sub, rs.append (hd _), ?_⟩
  cases em : m ds with
  | stuck => rw [em] at p1; exact p1
  | ok z => rw [em] at p1; exact p1
  | exc c fs => rw [em] at p1; exact fun cls dx H' x => hE _ _ _ (p1 cls dx H' x)
theorem ce_call {x : Str} {k : Nat} {m : List D → O D} {rr : Kd} {p pos : Pos} {e : Expr} {es : List Expr} {f : Env → O (List D)} (C : Callee X.prog X.w X.K X.mg X.base x k m rr) (hr : Room k X.A) (tk : L2N.Takes X W) (hg : Gl X x) (ha : CA X W κ (e :: es) f)
    (hdb : (x == ("__debug__" : Str)) = false := by decide) (he : starEach (e :: es) X.env = (false, eval e X.env) :: starEach es X.env := by rfl) (hpl : (backTo pos (starEach es X.env)).any (·.1) = false := by rfl) : CE X W κ rr (.Call (.Name x p) (e :: es) [] pos) (mApp m f) := by
  obtain ⟨fa, fd, ps, dvs, ds, dd, hm, hk, F, hb, hd, hdd⟩ := C
  exact PE.imp (pe_callSD (E := fun σ => WE W σ) F hr hg hm hk hb hd (fun σ => L2N.passAt tk σ) ha hdb he hpl) fun σ H Q q => app_run (E := WE W σ) (fun _ _ _ h => h) hdd q
/-- where no slots matter to what is wished of errors -/
theorem ce_call0 {x : Str} {k : Nat} {m : List D → O D} {rr : Kd} {p pos : Pos} {E : XK} (C : Callee X.prog X.w X.K X.mg X.base x k m rr) (hr : Room k X.A) (hx : Passes (L2N.CX X.prog X.w) X E) (hE : ∀ cls dx σ H', W cls dx σ H' → E cls dx H') (hg : Gl X x)
    (hdb : (x == ("__debug__" : Str)) = false := by decide) : CE X W κ rr (.Call (.Name x p) [] [] pos) (mApp m mNil) := by
  obtain ⟨fa, fd, ps, dvs, ds, dd, hm, hk, F, hb, hd, hdd⟩ := C
  refine PE.imp (pe_call0 (E := E) F hr hg hm hk hb hd hx hdb) fun σ H Q q => ?_
  obtain ⟨S, H0, Hs0, ρ, Hs, F, R, p⟩ := q
  refine ⟨Hs, [], R.sub, hdd _, ?_⟩
  have p1 : EPost X.K W rr σ H Hs Q (m []) := p
  cases em : m [] with
  | stuck => rw [em] at p1; exact p1
  | ok z => rw [em] at p1; exact p1
  | exc c fs => rw [em] at p1; exact fun cls dx H' x => hE _ _ σ _ (p1 cls dx H' x)
end

/-! ### a def by its body -/
def endD (rr : Kd) : SO → O D
  | .rt d => .ok d
  | .nx _ => if rr = .sh then .ok .non else .stuck
  | .exc _ c fs => .exc c fs
  | _ => .stuck
def startD (N : Nat) (ds : List D) : Env := ds.map some ++ List.replicate (N - ds.length) none
def mDef (N n : Nat) (rr : Kd) (g : Env → SO) : List D → O D := fun ds => if ds.length = n then endD rr (g (startD N ds)) else .stuck
theorem ar_def {N n : Nat} {rr : Kd} {g : Env → SO} : Ar n (mDef N n rr g) := fun ds h => if_neg h
theorem kAt_all {κ : List Kd} (h : κ.all (fun k => decide (k = .sh)) = true) (i : Nat) : kAt κ i = .sh := by
  unfold kAt
  rw [List.getD_eq_getElem?_getD]
  cases e : κ[i]? with
  | none => rfl
  | some k => exact of_decide_eq_true (List.all_eq_true.mp h k (List.mem_of_getElem? e))
/-- no error leaves a body but by what is wished of it -/
def cDef (E : XK) (rr : Kd) : Cf := { W := fun cls d _ H => E cls d H, rr := rr, κl := [], κx := fun _ => True, pu := true }
theorem rel_start {K : PySem.W.Frag} {N : List Str} {κ : List Kd} {ds : List D} {vs : List V} {H Hs : Hp} (hk : ∀ i, kAt κ i = .sh) (sub : Ext Hs H) (r : Reps K Hs ds vs) : Rel K [] H Hs κ (startD N.length ds) (L2.start N vs) H Hs (fun _ => []) where
  len := by
    unfold startD L2.start
    rw [List.length_append, List.length_append, List.length_map, List.length_map, List.length_replicate, List.length_replicate, r.length]
  sl := fun i d e => by
    unfold startD at e
    have hi : i < ds.length := by
      by_cases hi : i < ds.length
      · exact hi
      · rw [List.getElem?_append_right (by simpa using hi), List.getElem?_replicate] at e
        split at e <;> cases e
    rw [List.getElem?_append_left (by simpa using hi), List.getElem?_map] at e
    cases q : ds[i]? with
    | none => rw [q] at e; cases e
    | some d' =>
      rw [q] at e
      cases e
      obtain ⟨v, h1, h2⟩ := r.get q
      refine ⟨v, ?_, by rw [hk]; exact ⟨h2, rfl⟩⟩
      unfold L2.start
      rw [List.getElem?_append_left (by rw [List.length_map, ← r.length]; exact hi), List.getElem?_map, h1]; rfl
  nd := fun _ => List.nodup_nil
  dj := fun _ _ _ h => nomatch h
  al := fun _ _ h => nomatch h
  fr := fun _ _ h => nomatch h
  g := .refl _
  sub := sub
  old := fun _ _ e _ => e
  st := fun _ h => h
  new := fun _ _ e n => by rw [e] at n; cases n
section
variable {P : Program} {w : World} {K : PySem.W.Frag} {mg : Str → Option Value} {base : Heap} {x qual : Str} {params : Arguments} {body : List Stmt} {scope : Scope} {dvs : List V} {kws : List (Str × V)} {f : Addr} {fd : FuncData}
theorem def_ok {N ps : List Str} {k : Nat} {rr : Kd} {κ κ' : List Kd} {g : Env → SO} (F : FunD K x qual params body scope dvs kws f fd) (S : FnScope N ps scope) (hκ : ∀ i, kAt κ i = .sh)
    (hb : ∀ (cdv : Value) (A : Around) (outer : List PySem.Env) (s : Shared) (H : Hp) (E : XK), Room k (A.deeper (PyProof.Rows.envOfC qual scope s.heap.objs.size f cdv)) →
      CSs (cxOf (L2N.CX P w) P w K mg base N qual scope f cdv A outer s H E) (cDef E rr) κ κ' body g) : FnOk P w K mg base (L2N.CX P w) (k + 1) f fd ps (spM K [] (mDef N.length ps.length rr g) rr) := by
  refine F.ok S (fun vs H Q E h => by have e := spM_len ar_def h; rw [e]; rfl) fun cdv A outer s H vs Q E hr h => ⟨_, hb cdv A outer s H E hr, ?_⟩
  obtain ⟨Hs, ds, sub, r, q⟩ := h
  rw [List.append_nil] at r
  refine ⟨[], H, Hs, startD N.length ds, Hs, fun _ => [], fun _ => rfl, rel_start hκ sub r, ?_⟩
  unfold mDef at q
  by_cases hl : ds.length = ps.length
  · rw [if_pos hl] at q
    cases e : g (startD N.length ds) with
    | stuck => rw [e] at q; exact q
    | bk ρ => rw [e] at q; exact q.elim
    | ct ρ => rw [e] at q; exact q.elim
    | rt d => rw [e] at q; exact q
    | nx ρ =>
      rw [e] at q
      unfold endD at q
      dsimp only at q
      by_cases hrr : rr = .sh
      · rw [if_pos hrr] at q
        subst hrr
        exact fun σ' H' Hs' F' R' x => q .non H' (.sh R'.all .non)
      · rw [if_neg hrr] at q; exact q.elim
    | exc ρ c fs =>
      rw [e] at q
      exact fun κ'' cls dx σ' H' Hs' F' _ R' x xr => q cls dx H' ⟨Hs', R'.all, xr⟩
  · rw [if_neg hl] at q; exact q.elim
theorem callee_of {ps : List Str} {k : Nat} {rr : Kd} {m : List D → O D} (hm : mg x = some (.ref f)) (F : FunD K x qual params body scope dvs kws f fd) (G : FnOk P w K mg base (L2N.CX P w) k f fd ps (spM K [] m rr)) (hb : Binds K fd ps []) : Callee P w K mg base x k m rr :=
  ⟨f, fd, ps, [], [], [], hm, F.kp, G, hb, .nil, fun _ => .nil⟩
end
end T

set_option Elab.async false
set_option linter.all false
set_option maxRecDepth 100000
set_option maxHeartbeats 1000000
/-! T7: isinstance; classes and their instances. -/
namespace T
open PySem L2

/-! ### isinstance -/
inductive Ty where
  | b (n : String) | o (c : Str)
  deriving DecidableEq
def Ty.v (K : PySem.W.Frag) : Ty → Value
  | .b n => .type n
  | .o c => .ref (He.ga K c)
def Ty.w (K : PySem.W.Frag) : Ty → V
  | .b n => .ty n
  | .o c => .ref (He.ga K c)
def D.ty : D → Option Ty
  | .non => some (.b "NoneType")
  | .bl _ => some (.b "bool")
  | .int _ => some (.b "int")
  | .str _ => some (.b "str")
  | .tup _ => some (.b "tuple")
  | .lst _ => some (.b "list")
  | .scr _ => some (.b "list")
  | .ins c _ => some (.o c)
  | .exc _ _ => none
  | .exv _ _ => none
  | .dct _ => none
  | .set _ => none
def bTy : List String := ["NoneType", "bool", "int", "str", "tuple", "list", "dict"]
def isiOne (cl : List Str) : Ty → Ty → Option Bool
  | .b x, .b y => if x ∈ bTy ∧ y ∈ bTy then some (x == y || (x == "bool" && y == "int")) else none
  | .b x, .o c => if x ∈ bTy ∧ c ∈ cl then some false else none
  | .o c, .b y => if y ∈ bTy ∧ c ∈ cl then some false else none
  | .o c, .o e => if c ∈ cl ∧ e ∈ cl then some (decide (c = e)) else none
def isiAny (cl : List Str) (t : Ty) : List Ty → Option Bool
  | [] => some false
  | u :: us => match isiOne cl t u with
    | some true => some true
    | some false => isiAny cl t us
    | none => none
theorem kit_bb : ∀ x ∈ bTy, ∀ y ∈ bTy, kitB x y = some (x == y || (x == "bool" && y == "int")) := by decide +kernel
/-- what the top has made of the classes cl (none is another one's base) -/
structure Kit (K : PySem.W.Frag) (cl : List Str) : Prop where
  cls : ∀ c ∈ cl, Cls K (He.ga K c)
  att : ∀ c ∈ cl, PySem.W.findIn K (.ref (He.ga K c)) "__class__" = some (some (.builtin "object.__class__")) ∧ PySem.W.mroIn K (He.ga K c) (.type "object") = some true
  spc : PySem.W.specialIn K (.builtin "object.__class__") "__get__" = some (some (.builtin "getset_descriptor.__get__"))
  tak : PySem.W.takesIn K (.builtin "object.__class__") = some true
  bo : ∀ x ∈ bTy, ∀ c ∈ cl, PySem.W.kitOne K (.type x) (.ref (He.ga K c)) = some false
  ob : ∀ x ∈ bTy, ∀ c ∈ cl, PySem.W.kitOne K (.ref (He.ga K c)) (.type x) = some false
  oo : ∀ c ∈ cl, ∀ e ∈ cl, PySem.W.kitOne K (.ref (He.ga K c)) (.ref (He.ga K e)) = some (decide (c = e))
def kitC (K : PySem.W.Frag) (cl : List Str) : Bool :=
  cl.all (fun c => (He.Fa.cls c).ok K && (decide (PySem.W.findIn K (.ref (He.ga K c)) "__class__" = some (some (.builtin "object.__class__"))) && decide (PySem.W.mroIn K (He.ga K c) (.type "object") = some true))) &&
  (decide (PySem.W.specialIn K (.builtin "object.__class__") "__get__" = some (some (.builtin "getset_descriptor.__get__"))) && (decide (PySem.W.takesIn K (.builtin "object.__class__") = some true) &&
  (bTy.all (fun x => cl.all fun c => decide (PySem.W.kitOne K (.type x) (.ref (He.ga K c)) = some false) && decide (PySem.W.kitOne K (.ref (He.ga K c)) (.type x) = some false)) &&
  cl.all fun c => cl.all fun e => decide (PySem.W.kitOne K (.ref (He.ga K c)) (.ref (He.ga K e)) = some (decide (c = e))))))
theorem kit_by {K : PySem.W.Frag} {cl : List Str} (h : kitC K cl = true) : Kit K cl := by
  unfold kitC at h
  simp only [Bool.and_eq_true, List.all_eq_true, decide_eq_true_eq] at h
  obtain ⟨h1, h2, h3, h4, h5⟩ := h
  exact ⟨fun c hc => He.cls_ok (h1 c hc).1, fun c hc => (h1 c hc).2, h2, h3, fun x hx c hc => (h4 x hx c hc).1, fun x hx c hc => (h4 x hx c hc).2, h5⟩
section
variable {K : PySem.W.Frag} {cl : List Str}
theorem Kit.one (k : Kit K cl) {t u : Ty} {r : Bool} (h : isiOne cl t u = some r) : PySem.W.kitOne K (t.v K) (u.v K) = some r := by
  unfold isiOne at h
  split at h
  · split at h
    · rename_i hc
      cases h
      exact kit_ty (kit_bb _ hc.1 _ hc.2)
    · cases h
  · split at h
    · rename_i hc
      cases h
      exact k.bo _ hc.1 _ hc.2
    · cases h
  · split at h
    · rename_i hc
      cases h
      exact k.ob _ hc.1 _ hc.2
    · cases h
  · split at h
    · rename_i hc
      cases h
      exact k.oo _ hc.1 _ hc.2
    · cases h
theorem Kit.any (k : Kit K cl) {t : Ty} {r : Bool} : ∀ {us : List Ty}, isiAny cl t us = some r → PySem.W.kitAny K (t.v K) (us.map (Ty.v K)) = some r
  | [], h => by cases h; rfl
  | u :: us, h => by
    unfold isiAny at h
    cases e : isiOne cl t u with
    | none => rw [e] at h; cases h
    | some b =>
      rw [e] at h
      have q := k.one e
      cases b with
      | true =>
        cases h
        exact kitAny_cons q (fun z => by cases z) fun _ => rfl
      | false => exact kitAny_cons q (fun _ => k.any h) fun z => by cases z
theorem Kit.tyx (k : Kit K cl) {H : Hp} {d : D} {v : V} {t : Ty} (r : Rep K H d v) (ht : d.ty = some t) (hc : ∀ c, t = .o c → c ∈ cl) : TyX K H v (t.v K) := by
  cases r with
  | non => cases ht; exact .base .non
  | bl b => cases ht; exact .base (.bl b)
  | int i => cases ht; exact .base (.int i)
  | str s => cases ht; exact .base (.str s)
  | tup h r =>
    cases ht
    rcases h with (h | ⟨o, h⟩) | ⟨o, its, n, h1, h2, _⟩
    · exact .base (.tup h)
    · exact .fTuple h
    · exact .kTuple h1 h2
  | lst h r => cases ht; exact .base (.lst h)
  | scr h =>
    cases ht
    rcases h with (h | ⟨o, h⟩) | ⟨o, its, n, h1, h2, _⟩
    · exact .base (.lst h)
    · exact .base (.frz h)
    · exact .kList h1 h2
  | ins h r =>
    cases ht
    have hm := hc _ rfl
    exact .base (.ins h (k.cls _ hm) (k.att _ hm).1 k.spc k.tak (k.att _ hm).2)
  | exc => cases ht
  | exv _ _ _ => cases ht
end
section
variable {X : Cx} {W : WX} {κ : List Kd} {cl : List Str}
def dIsi (cl : List Str) (us : List Ty) (d : D) : O D := match d.ty with
  | some t => (match t with
    | .o c => if c ∈ cl then (match isiAny cl t us with
      | some b => .ok (.bl b)
      | none => .stuck) else .stuck
    | .b _ => match isiAny cl t us with
      | some b => .ok (.bl b)
      | none => .stuck)
  | none => .stuck
theorem dIsi_ok {us : List Ty} {d z : D} (h : dIsi cl us d = .ok z) : ∃ t b, d.ty = some t ∧ (∀ c, t = .o c → c ∈ cl) ∧ isiAny cl t us = some b ∧ z = .bl b := by
  unfold dIsi at h
  cases e : d.ty with
  | none => rw [e] at h; cases h
  | some t =>
    rw [e] at h
    cases t with
    | o c =>
      dsimp only at h
      split at h
      · rename_i hc
        split at h
        · rename_i b hb
          cases h
          exact ⟨_, b, rfl, (fun c' q => by cases q; exact hc), hb, rfl⟩
        · cases h
      · cases h
    | b n =>
      dsimp only at h
      split at h
      · rename_i b hb
        cases h
        exact ⟨_, b, rfl, (fun c' q => by cases q), hb, rfl⟩
      · cases h
/-- isinstance(a, T) -/
theorem ce_isi {a ce : Expr} {p pos : Pos} {f : Env → O D} {u : Ty} (k : Kit X.K cl) (hg : Gl X "isinstance") (hm : X.mg "isinstance" = none) (ha : CE X W κ .sh a f) (hc : PE X ce (tC (u.w X.K)))
    (he : starEach [a, ce] X.env = (false, eval a X.env) :: starEach [ce] X.env := by rfl) (he2 : starEach [ce] X.env = (false, eval ce X.env) :: starEach [] X.env := by rfl) (hpl : (backTo pos (starEach [ce] X.env)).any (·.1) = false := by rfl) :
    CE X W κ .sh (.Call (.Name "isinstance" p) [a, ce] [] pos) (mUn (dIsi cl [u]) f) :=
  PE.imp (pe_callB call_isi hg hm (by decide +kernel) (pa_cons ha (pa_cons hc pa_nil he2) he) (by decide) (by decide) he hpl) fun σ H Q q => by
    obtain ⟨S, H0, Hs0, ρ, Hs, F, R, p⟩ := q
    refine step R p fun d v H1 Hs1 _ g1 R1 rd p1 => ?_
    cases e : dIsi cl [u] d with
    | stuck => rw [e] at p1; exact p1.elim
    | exc c fs => unfold dIsi at e; (repeat' split at e) <;> cases e
    | ok z =>
      rw [e] at p1
      obtain ⟨t, b, h1, h2, h3, rfl⟩ := dIsi_ok e
      have h4 : isiOne cl t u = some b := by
        unfold isiAny at h3
        cases q : isiOne cl t u with
        | none => rw [q] at h3; cases h3
        | some r =>
          rw [q] at h3
          cases r with
          | true => exact h3
          | false => exact h3
      refine ⟨v, u.w X.K, t.v X.K, u.v X.K, b, rfl, ?_, k.tyx (rd.mono R1.sub) h1 h2, k.one h4, p1 _ _ (.sh (.refl R1.sub) (.bl b))⟩
      cases u with
      | b n => exact .ty n
      | o c => exact .own _
theorem pe_ty {n : String} {x : Str} {pos : Pos} (hg : Gl X x) (hm : X.mg x = none) (hv : bootBuiltins x = some (.type n)) (hn : x ≠ "__name__" := by decide) (hd : (x == ("__debug__" : Str)) = false := by decide) : PE X (.Name x pos) (tC ((Ty.b n).w X.K)) := pe_bltn hg hm hv rfl hn hd
theorem pe_cl {x : Str} {pos : Pos} (hg : Gl X x) (hm : X.mg x = some (.ref (He.ga X.K x))) (hd : (x == ("__debug__" : Str)) = false := by decide) : PE X (.Name x pos) (tC ((Ty.o x).w X.K)) := pe_glob hg hm rfl hd
/-- a written tuple of classes -/
inductive PCls (X : Cx) : List Expr → List Ty → Prop
  | nil : PCls X [] []
  | cons {e : Expr} {es : List Expr} {u : Ty} {us : List Ty} (h : PE X e (tC (u.w X.K))) (hs : starEach (e :: es) X.env = (false, eval e X.env) :: starEach es X.env) (t : PCls X es us) : PCls X (e :: es) (u :: us)
theorem PCls.pa : ∀ {es : List Expr} {us : List Ty}, PCls X es us → PA X es (fun _ H Q => Q (us.map (Ty.w X.K)) H)
  | _, _, .nil => PA.imp pa_nil fun _ _ _ h => h
  | _, _, .cons h hs t => PA.imp (pa_cons h t.pa hs) fun _ _ _ q => q
theorem clsV_all {K : PySem.W.Frag} : ∀ us : List Ty, Paired ClsV (us.map (Ty.w K)) (us.map (Ty.v K))
  | [] => .nil
  | .b n :: us => .cons (.ty n) (clsV_all us)
  | .o c :: us => .cons (.own _) (clsV_all us)
theorem ce_isiT {a : Expr} {es : List Expr} {x1 : _} {p p2 pos : Pos} {f : Env → O D} {us : List Ty} (k : Kit X.K cl) (hg : Gl X "isinstance") (hm : X.mg "isinstance" = none) (ha : CE X W κ .sh a f) (hc : PCls X es us) (hl : us.length ≤ 100 := by decide)
    (he : starEach [a, .Tuple es x1 p2] X.env = (false, eval a X.env) :: starEach [.Tuple es x1 p2] X.env := by rfl) (he2 : starEach [.Tuple es x1 p2] X.env = (false, eval (.Tuple es x1 p2) X.env) :: starEach [] X.env := by rfl) (hpl : (backTo pos (starEach [.Tuple es x1 p2] X.env)).any (·.1) = false := by rfl) :
    CE X W κ .sh (.Call (.Name "isinstance" p) [a, .Tuple es x1 p2] [] pos) (mUn (dIsi cl us) f) :=
  PE.imp (pe_callB call_isiT hg hm (by decide +kernel) (pa_cons ha (pa_cons (pe_tup hc.pa) pa_nil he2) he) (by decide) (by decide) he hpl) fun σ H Q q => by
    obtain ⟨S, H0, Hs0, ρ, Hs, F, R, p⟩ := q
    refine step R p fun d v H1 Hs1 _ g1 R1 rd p1 => ?_
    refine ⟨by rw [List.length_map]; exact Nat.le_trans hl (by decide), fun t ht => ?_⟩
    cases e : dIsi cl us d with
    | stuck => rw [e] at p1; exact p1.elim
    | exc c fs => unfold dIsi at e; (repeat' split at e) <;> cases e
    | ok z =>
      rw [e] at p1
      obtain ⟨ty, b, h1, h2, h3, rfl⟩ := dIsi_ok e
      exact ⟨v, t, us.map (Ty.w X.K), ty.v X.K, us.map (Ty.v X.K), b, rfl, upd_same, clsV_all us, k.tyx ((rd.mono R1.sub).mono (.new ht)) h1 h2, k.any h3, p1 _ _ (.sh (.newOwn R1.sub ht) (.bl b))⟩
end
end T

set_option Elab.async false
set_option linter.all false
set_option maxRecDepth 100000
set_option maxHeartbeats 1000000
/-! T8: attributes, properties, methods, the making of instances. -/
namespace T
open PySem L2
theorem ext_iff {H H' : Hp} (h : Ext H H') : Ext H H' := h

/-! ### attributes -/
def fldIn (cs : List Str) (f : Str) (c : Str) (fs : List (Str × D)) : O D := if c ∈ cs then (match fs.lookup f with
  | some z => .ok z
  | none => .stuck) else .stuck
def dFld (cs : List Str) (f : Str) (d : D) : O D := match d with
  | .ins c fs => fldIn cs f c fs
  | _ => .stuck
def FldOk (K : PySem.W.Frag) (cs : List Str) (f : Str) : Prop := ∀ c ∈ cs, Cls K (He.ga K c) ∧ NoAttr K (He.ga K c) f
def fldC (K : PySem.W.Frag) (cs : List Str) (f : Str) : Bool := cs.all fun c => (He.Fa.cls c).ok K && (He.Fa.noat c f).ok K
theorem fld_by {K : PySem.W.Frag} {cs : List Str} {f : Str} (h : fldC K cs f = true) : FldOk K cs f := fun c hc => by
  have := List.all_eq_true.mp h c hc
  rw [Bool.and_eq_true] at this
  exact ⟨He.cls_ok this.1, He.noat_ok this.2⟩
theorem fldIn_ok {cs : List Str} {f c : Str} {fs : List (Str × D)} {z : D} (h : fldIn cs f c fs = .ok z) : c ∈ cs ∧ fs.lookup f = some z := by
  unfold fldIn at h
  split at h
  · rename_i hc
    split at h
    · rename_i w hw
      cases h
      exact ⟨hc, hw⟩
    · cases h
  · cases h
theorem fldIn_x {cs : List Str} {f c x : Str} {fs gs : List (Str × D)} : fldIn cs f c fs ≠ .exc x gs := fun h => by
  unfold fldIn at h
  (repeat' split at h) <;> cases h
section
variable {X : Cx} {W : WX} {κ : List Kd}
theorem ce_fld {cs : List Str} {f : Str} {e : Expr} {pos : Pos} {g : Env → O D} (hk : FldOk X.K cs f) (he : CE X W κ .sh e g) (hb : attributeBase e f X.env (eval e X.env) = eval e X.env := by rfl) : CE X W κ .sh (.Attribute e f pos) (mUn (dFld cs f) g) :=
  PE.imp (pe_fld he hb) fun σ H Q h => by
    obtain ⟨S, H0, Hs0, ρ, Hs, F, R, p⟩ := h
    refine step R p fun d v H1 Hs1 _ g1 R1 rd p1 => ?_
    cases rd <;> first | exact p1.elim | skip
    rename_i c a dx fs vfs ha hf _
    have p2 : EPost X.K W .sh σ H1 Hs1 Q (fldIn cs f c fs) := p1
    cases e : fldIn cs f c fs with
    | stuck => rw [e] at p2; exact p2.elim
    | exc x gs => exact absurd e fldIn_x
    | ok z =>
      rw [e] at p2
      obtain ⟨hc, hl⟩ := fldIn_ok e
      obtain ⟨u, h1, h2⟩ := hf.get hl
      exact ⟨a, _, dx, vfs, u, rfl, R1.sub _ _ ha, (hk c hc).1, (hk c hc).2, h1, p2 _ _ (.sh (.refl R1.sub) h2)⟩
/-- self.f within __init__ -/
def mSelf (cs : List Str) (i : Nat) (f : Str) : Env → O D := fun ρ => match ρ[i]? with
  | some (some (.ins c fs)) => fldIn cs f c fs
  | _ => .stuck
theorem ce_fldS (i : Nat) {cs : List Str} {f x : Str} {p pos : Pos} (hk : FldOk X.K cs f) {a : Addr} (hi : kAt κ i = .slf a) (hp : PE X (.Name x p) (tVar i)) (hb : attributeBase (.Name x p) f X.env (eval (.Name x p) X.env) = eval (.Name x p) X.env := by rfl) :
    CE X W κ .sh (.Attribute (.Name x p) f pos) (mSelf cs i f) :=
  PE.imp (pe_fld hp hb) fun σ H Q h => by
    obtain ⟨S, H0, Hs0, ρ, Hs, F, R, p⟩ := h
    unfold mSelf at p
    split at p
    · rename_i c fs e
      obtain ⟨v, h1, h2⟩ := R.sl i _ e
      rw [hi] at h2
      obtain ⟨c', dx, fs', vfs, rfl, h3, ha, _, hf⟩ := h2
      cases h3
      refine ⟨_, h1, ?_⟩
      cases e : fldIn cs f c fs with
      | stuck => rw [e] at p; exact p.elim
      | exc x gs => exact absurd e fldIn_x
      | ok z =>
        rw [e] at p
        obtain ⟨hc, hl⟩ := fldIn_ok e
        obtain ⟨u, h1, h2⟩ := hf.get hl
        exact ⟨a, _, dx, vfs, u, rfl, ha, (hk c hc).1, (hk c hc).2, h1, p _ _ (.sh (.refl R.sub) h2)⟩
    · exact p.elim
end

/-! ### defs at their addresses: methods, properties -/
def CalleeA (P : Program) (w : World) (K : PySem.W.Frag) (mg : Str → Option Value) (base : Heap) (f : Addr) (k : Nat) (m : List D → O D) (rr : Kd) : Prop :=
  ∃ (fd : FuncData) (ps : List Str) (dvs : List V) (ds : List Value) (dd : List D), FnOk P w K mg base (L2N.CX P w) k f fd ps (spM K dd m rr) ∧ Binds K fd ps ds ∧ Vals dvs ds ∧ ∀ Hs, Reps K Hs dd dvs
theorem CalleeA.is {P : Program} {w : World} {K : PySem.W.Frag} {mg : Str → Option Value} {base : Heap} {f : Addr} {k : Nat} {m n : List D → O D} {rr : Kd} (c : CalleeA P w K mg base f k m rr) (h : ∀ a, n a = .stuck ∨ m a = n a) : CalleeA P w K mg base f k n rr := by
  obtain ⟨fd, ps, dvs, ds, dd, h2, h4⟩ := c
  exact ⟨fd, ps, dvs, ds, dd, h2.imp fun vs H Q E q => spM_imp h q, h4⟩
theorem calleeA_of {P : Program} {w : World} {K : PySem.W.Frag} {mg : Str → Option Value} {base : Heap} {f : Addr} {fd : FuncData} {ps : List Str} {k : Nat} {rr : Kd} {m : List D → O D} (G : FnOk P w K mg base (L2N.CX P w) k f fd ps (spM K [] m rr)) (hb : Binds K fd ps []) : CalleeA P w K mg base f k m rr :=
  ⟨fd, ps, [], [], [], G, hb, .nil, fun _ => .nil⟩
/-- the getter of a property -/
def propG (K : PySem.W.Frag) (c m : Str) : Addr := match PySem.W.findIn K (.ref (He.ga K c)) m with
  | some (some (.ref p)) => (match PySem.W.recIn K p "property" with
    | some (.ref g :: _) => g
    | _ => 0)
  | _ => 0
def propB (K : PySem.W.Frag) (c m : Str) : Bool := (He.Fa.cls c).ok K && (match PySem.W.findIn K (.ref (He.ga K c)) m with
  | some (some (.ref p)) => decide (PySem.W.specialIn K (.ref p) "__get__" = some (some (.builtin "property.__get__"))) && (decide (PySem.W.takesIn K (.ref p) = some true) && (match PySem.W.recIn K p "property" with
    | some (.ref _ :: _) => true
    | _ => false))
  | _ => false)
theorem prop_by {K : PySem.W.Frag} {c m : Str} (h : propB K c m = true) : Cls K (He.ga K c) ∧ ∃ p, PropOf K (He.ga K c) m p (propG K c m) := by
  unfold propB at h
  rw [Bool.and_eq_true] at h
  refine ⟨He.cls_ok h.1, ?_⟩
  have h2 := h.2
  unfold propG
  cases e : PySem.W.findIn K (.ref (He.ga K c)) m with
  | none => rw [e] at h2; cases h2
  | some o =>
    cases o with
    | none => rw [e] at h2; cases h2
    | some v =>
      cases v with
      | ref p =>
        rw [e] at h2
        dsimp only at h2 ⊢
        simp only [Bool.and_eq_true, decide_eq_true_eq] at h2
        obtain ⟨a1, a2, a3⟩ := h2
        cases e2 : PySem.W.recIn K p "property" with
        | none => rw [e2] at a3; cases a3
        | some l =>
          cases l with
          | nil => rw [e2] at a3; cases a3
          | cons z r =>
            cases z with
            | ref g => exact ⟨p, ⟨e, a1, a2, r, e2⟩⟩
            | _ => rw [e2] at a3; cases a3
      | _ => rw [e] at h2; cases h2
theorem no_passes {P : Program} {w : World} {X : Cx} : Passes (L2N.CX P w) X (fun _ _ _ => False) := fun _ _ _ _ _ _ _ h => by
  obtain ⟨_, _, _, _, _, _, _, _, _, _, _, _, z⟩ := h
  exact z.elim
section
variable {X : Cx} {W : WX} {κ : List Kd}
def mProp (c : Str) (m : List D → O D) (f : Env → O D) : Env → O D := fun ρ => f ρ >>= fun x => match x with
  | .ins c' fs => if c' = c then noX (m [.ins c' fs]) else .stuck
  | _ => .stuck
theorem ce_prop {c : Str} {f : Str} {k : Nat} {m : List D → O D} {rr : Kd} {e : Expr} {pos : Pos} {g : Env → O D} (hp : Cls X.K (He.ga X.K c) ∧ ∃ p, PropOf X.K (He.ga X.K c) f p (propG X.K c f)) (C : CalleeA X.prog X.w X.K X.mg X.base (propG X.K c f) k m rr) (hr : Room (k + 1) X.A) (he : CE X W κ .sh e g)
    (hab : attributeBase e f X.env (eval e X.env) = eval e X.env := by rfl) : CE X W κ rr (.Attribute e f pos) (mProp c m g) := by
  obtain ⟨fd, ps, dvs, ds, dd, F, hb, hd, hdd⟩ := C
  obtain ⟨hc, p, hp⟩ := hp
  exact PE.imp (pe_prop (E := fun _ _ _ => False) he hc hp F hr hb hd no_passes hab) fun σ H Q h => by
    obtain ⟨S, H0, Hs0, ρ, Hs, F, R, p⟩ := h
    refine step R p fun d v H1 Hs1 _ g1 R1 rd p1 => ?_
    cases rd <;> first | exact p1.elim | skip
    rename_i c' a dx fs vfs ha hf _
    dsimp only at p1
    by_cases hcc : c' = c
    · subst hcc
      rw [if_pos rfl] at p1
      refine ⟨a, dx, vfs, rfl, R1.sub _ _ ha, Hs1, [.ins c' fs], R1.sub, Reps.cons (.ins ha hf) (hdd _), ?_⟩
      cases em : m [.ins c' fs] with
      | stuck => rw [em] at p1; exact p1
      | exc x gs => rw [em] at p1; exact p1.elim
      | ok z => rw [em] at p1; exact p1
    · rw [if_neg hcc] at p1; exact p1.elim
/-- o.m(..) -/
def mMeth (c n : Str) (m : List D → O D) (f : Env → O D) (g : Env → O (List D)) : Env → O D := fun ρ => f ρ >>= fun x => match x with
  | .ins c' fs => if c' = c ∧ fs.lookup n = none then g ρ >>= fun ds => m (.ins c' fs :: ds) else .stuck
  | _ => .stuck
def MetOk (K : PySem.W.Frag) (c n : Str) : Prop := Cls K (He.ga K c) ∧ Meth K (He.ga K c) n (He.ma K (He.ga K c) n)
def metC (K : PySem.W.Frag) (c n : Str) : Bool := (He.Fa.cls c).ok K && (He.Fa.meth c n).ok K
theorem met_by {K : PySem.W.Frag} {c n : Str} (h : metC K c n = true) : MetOk K c n := by
  unfold metC at h
  rw [Bool.and_eq_true] at h
  exact ⟨He.cls_ok h.1, He.meth_ok h.2⟩
def tMetX (C : Addr) (m : Str) (sp : Sp) (dvs : List V) (E : St → XK) (ta : TE) (t : TA) : TE := fun σ H Q => ta σ H fun x H1 => ∃ a dx fs, x = .ref a ∧ H1 a = some (.ins C dx fs) ∧ fs.lookup m = none ∧ t σ H1 fun vs H2 => sp (x :: vs ++ dvs) H2 Q (E σ)
theorem pe_metX {CX : CXT} {k : Nat} {C f : Addr} {fd : FuncData} {ps : List Str} {sp : Sp} {dvs : List V} {ds : List Value} {E : St → XK} {m : Str} {o e : Expr} {es : List Expr} {apos pos : Pos} {ta : TE} {t : TA} {pl : Sem Bool} (he : PE X o ta) (c : Cls X.K C) (hm : Meth X.K C m f) (F : FnOk X.prog X.w X.K X.mg X.base CX k f fd ps sp) (hr : Room k X.A) (hb : Binds X.K fd ps ds) (hd : Vals dvs ds) (hx : ∀ σ, PassesAt CX X σ (E σ)) (ha : PA X (e :: es) t)
    (ht : eval (.Call (.Attribute o m apos) (e :: es) [] pos) X.env = (do let ov ← eval o X.env; standAt apos.atName; let (f, first) ← holding [ov] (getMethod ov m pl); callWith pos f first (backTo pos (starEach (e :: es) X.env)) (backToKw pos (keywordEach [] X.env))) := by rfl)
    (hst : starEach (e :: es) X.env = (false, eval e X.env) :: starEach es X.env := by rfl) (hpl : (backTo pos (starEach es X.env)).any (·.1) = false := by rfl) : PE X (.Call (.Attribute o m apos) (e :: es) [] pos) (tMetX C m sp dvs E ta t) := by
  refine ⟨fun pins s σ H Q I h => PySem.W.methodCall_KW (pl := pl) (thn (he.run pins s σ H _ I h) fun u s1 ⟨x, H1, I1, rx, a, dx, fs, ex, ea, l, q⟩ => ?_) ht⟩
  subst ex
  obtain rfl : u = Value.ref a := rx
  refine getmeth_ok I1 ea c hm l (PySem.W.callWith_K (first := [.ref a]) (h₀ := X.base) I.ok.mod.kin hm.kp (thn (ha.run pos pins s1 σ H1 _ I1 q) fun us s2 ⟨vs, H2, I2, r, q2⟩ => ⟨I2.kIn, ?_⟩) hst hpl)
  exact run_fnSD (us := .ref a :: us) (vs := .ref a :: vs) F hr hb hd (hx σ) I2 (.cons rfl r) q2
theorem pe_metX0 {CX : CXT} {k : Nat} {C f : Addr} {fd : FuncData} {ps : List Str} {sp : Sp} {dvs : List V} {ds : List Value} {E : St → XK} {m : Str} {o : Expr} {apos pos : Pos} {ta : TE} {pl : Sem Bool} (he : PE X o ta) (c : Cls X.K C) (hm : Meth X.K C m f) (F : FnOk X.prog X.w X.K X.mg X.base CX k f fd ps sp) (hr : Room k X.A) (hb : Binds X.K fd ps ds) (hd : Vals dvs ds) (hx : ∀ σ, PassesAt CX X σ (E σ))
    (ht : eval (.Call (.Attribute o m apos) [] [] pos) X.env = (do let ov ← eval o X.env; standAt apos.atName; let (f, first) ← holding [ov] (getMethod ov m pl); callWith pos f first (backTo pos (starEach [] X.env)) (backToKw pos (keywordEach [] X.env))) := by rfl) :
    PE X (.Call (.Attribute o m apos) [] [] pos) (tMetX C m sp dvs E ta tNil) := by
  refine ⟨fun pins s σ H Q I h => PySem.W.methodCall_KW (pl := pl) (thn (he.run pins s σ H _ I h) fun u s1 ⟨x, H1, I1, rx, a, dx, fs, ex, ea, l, q⟩ => ?_) ht⟩
  subst ex
  obtain rfl : u = Value.ref a := rx
  exact getmeth_ok I1 ea c hm l (PySem.W.callWith_K0 (first := [.ref a]) I1.kIn hm.kp (run_fnSD (us := [.ref a]) (vs := [.ref a]) F hr hb hd (hx σ) I1 (.cons rfl .nil) q))
theorem met_run {K : PySem.W.Frag} {c n : Str} {m : List D → O D} {f : Env → O D} {g : Env → O (List D)} {dd : List D} {dvs : List V} {rr : Kd} {σ : L2.St} {H : Hp} {Q : VK} {E : St → XK} {t : TA} (hE : ∀ cls dx H', W cls dx σ H' → E σ cls dx H') (hdd : ∀ Hs, Reps K Hs dd dvs)
    (ht : ∀ σ H Q, tA K W κ g σ H Q → t σ H Q) (h : tE K W κ rr (mMeth c n m f g) σ H Q) : tMetX (He.ga K c) n (spM K dd m rr) dvs E (tE K W κ .sh f) t σ H Q := by
  obtain ⟨S, H0, Hs0, ρ, Hs, F, R, p⟩ := h
  refine step R p fun d v H1 Hs1 _ g1 R1 rd p1 => ?_
  cases rd <;> first | exact p1.elim | skip
  rename_i c' a dx fs vfs ha hf _
  dsimp only at p1
  by_cases hcc : c' = c ∧ fs.lookup n = none
  · rw [if_pos hcc] at p1
    obtain ⟨rfl, hl⟩ := hcc
    refine ⟨a, dx, vfs, rfl, R1.sub _ _ ha, hf.lookup_none hl, ht _ _ _ ?_⟩
    refine stepA R1 p1 fun ds vs H2 Hs2 _ g2 R2 rs p2 => ?_
    refine ⟨Hs2, .ins c' fs :: ds, R2.sub, Reps.cons ((Rep.ins ha hf).mono g2.exs) (rs.append (hdd _)), ?_⟩
    cases em : m (.ins c' fs :: ds) with
    | stuck => rw [em] at p2; exact p2
    | ok z => rw [em] at p2; exact p2
    | exc x gs => rw [em] at p2; exact fun cls dx H' q => hE _ _ _ (p2 cls dx H' q)
  · rw [if_neg hcc] at p1; exact p1.elim
theorem ce_meth {c n : Str} {k : Nat} {m : List D → O D} {rr : Kd} {o e : Expr} {es : List Expr} {apos pos : Pos} {f : Env → O D} {g : Env → O (List D)} {pl : Sem Bool} (hm : MetOk X.K c n) (C : CalleeA X.prog X.w X.K X.mg X.base (He.ma X.K (He.ga X.K c) n) k m rr) (hr : Room k X.A) (tk : L2N.Takes X W) (he : CE X W κ .sh o f) (ha : CA X W κ (e :: es) g)
    (ht : eval (.Call (.Attribute o n apos) (e :: es) [] pos) X.env = (do let ov ← eval o X.env; standAt apos.atName; let (f, first) ← holding [ov] (getMethod ov n pl); callWith pos f first (backTo pos (starEach (e :: es) X.env)) (backToKw pos (keywordEach [] X.env))) := by rfl)
    (hst : starEach (e :: es) X.env = (false, eval e X.env) :: starEach es X.env := by rfl) (hpl : (backTo pos (starEach es X.env)).any (·.1) = false := by rfl) : CE X W κ rr (.Call (.Attribute o n apos) (e :: es) [] pos) (mMeth c n m f g) := by
  obtain ⟨fd, ps, dvs, ds, dd, F, hb, hd, hdd⟩ := C
  exact PE.imp (pe_metX (E := fun σ => WE W σ) he hm.1 hm.2 F hr hb hd (fun σ => L2N.passAt tk σ) ha ht hst hpl) fun σ H Q q => met_run (fun _ _ _ h => h) hdd (fun _ _ _ h => h) q
theorem ce_meth0 {c n : Str} {k : Nat} {m : List D → O D} {rr : Kd} {o : Expr} {apos pos : Pos} {f : Env → O D} {pl : Sem Bool} (hm : MetOk X.K c n) (C : CalleeA X.prog X.w X.K X.mg X.base (He.ma X.K (He.ga X.K c) n) k m rr) (hr : Room k X.A) (tk : L2N.Takes X W) (he : CE X W κ .sh o f)
    (ht : eval (.Call (.Attribute o n apos) [] [] pos) X.env = (do let ov ← eval o X.env; standAt apos.atName; let (f, first) ← holding [ov] (getMethod ov n pl); callWith pos f first (backTo pos (starEach [] X.env)) (backToKw pos (keywordEach [] X.env))) := by rfl) : CE X W κ rr (.Call (.Attribute o n apos) [] [] pos) (mMeth c n m f mNil) := by
  obtain ⟨fd, ps, dvs, ds, dd, F, hb, hd, hdd⟩ := C
  exact PE.imp (pe_metX0 (E := fun σ => WE W σ) he hm.1 hm.2 F hr hb hd (fun σ => L2N.passAt tk σ) ht) fun σ H Q q => met_run (fun _ _ _ h => h) hdd (fun σ H Q h => by
    obtain ⟨S, H0, Hs0, ρ, Hs, F, R, p⟩ := h
    exact p [] H Hs (.refl R.sub) .nil) q
end
def putD (f : Str) (d : D) : List (Str × D) → List (Str × D)
  | [] => [(f, d)]
  | (g, x) :: r => if g = f then (g, d) :: r else (g, x) :: putD f d r
theorem FReps.put {K : PySem.W.Frag} {Hs : Hp} {f : Str} {d : D} {v : V} (r : Rep K Hs d v) : ∀ {fs : List (Str × D)} {vfs : List (Str × V)}, FReps K Hs fs vfs → FReps K Hs (putD f d fs) (putF f v vfs)
  | [], _, .nil => .cons r .nil
  | (y, z) :: fs, _, .cons (v := u) (vs := us) a b => by
    rw [show putF f v ((y, u) :: us) = (if y = f then (y, v) :: us else (y, u) :: putF f v us) from rfl, putD]
    by_cases h : y = f
    · rw [if_pos h, if_pos h]
      exact .cons r b
    · rw [if_neg h, if_neg h]
      exact .cons a (FReps.put r b)
theorem FReps.length {K : PySem.W.Frag} {Hs : Hp} : ∀ {fs : List (Str × D)} {vfs : List (Str × V)}, FReps K Hs fs vfs → fs.length = vfs.length
  | _, _, .nil => rfl
  | _, _, .cons _ b => by simp [FReps.length b]

/-! ### self.f = e within __init__ -/
section
variable {X : Cx} {c : Cf} {κ : List Kd}
def sSetA (cs : List Str) (i : Nat) (n : Str) (f : Env → O D) : Env → SO := sE f fun d ρ => match ρ[i]? with
  | some (some (.ins c fs)) => if c ∈ cs ∧ fs.length < 900 then .nx (ρ.set i (some (.ins c (putD n d fs)))) else .stuck
  | _ => .stuck
theorem cs_setA (i : Nat) {cs : List Str} {n x : Str} {p p' pos : Pos} {e : Expr} {f : Env → O D} (hk : FldOk X.K cs n) {a : Addr} (hi : kAt κ i = .slf a) (hx : c.κx κ) (hp : PE X (.Name x p) (tVar i)) (he : CE X c.W κ .sh e f)
    (hs : swapsWith e (some (.Attribute (.Name x p) n p')) pos.line X.env = pure false := by rfl) : CS X c κ κ (.Assign [.Attribute (.Name x p) n p'] e pos) (sSetA cs i n f) :=
  PS.imp (ps_fld hp he hs) fun Dn σ H q => by
    obtain ⟨S, H0, Hs0, ρ, Hs, F, hS, R, p⟩ := q
    refine stepS hx R p fun d v H1 _ q p1 => ?_
    obtain ⟨Hs1, g1, rd⟩ := q.out
    have R1 := R.grow g1
    split at p1
    · rename_i c0 fs e
      split at p1
      · rename_i hc
        obtain ⟨u, h1, h2⟩ := R1.sl i _ e
        rw [hi] at h2
        obtain ⟨c', dx, fs', vfs, rfl, h3, ha, hF, hf⟩ := h2
        cases h3
        refine ⟨_, h1, a, _, dx, vfs, rfl, ha, (hk c0 hc.1).1, (hk c0 hc.1).2, by rw [← hf.length]; exact Nat.lt_of_lt_of_le hc.2 (by decide), ?_⟩
        have hne : Hs1 a = none := (R1.al i a (by rw [hF]; exact List.mem_cons_self)).2
        obtain ⟨F', R'⟩ := R1.mut (H' := upd H1 a (.ins (He.ga X.K c0) dx (putF n v vfs))) (k := .slf a) (d' := .ins c0 (putD n d fs)) (v := .ref a) (G := [a]) e h1 (fun b hb _ => upd_ne fun z => hb (by rw [hF, z]; exact List.mem_cons_self))
          (fun b o q => by rw [upd_ne fun z => by rw [z, hne] at q; cases q]; exact R1.sub b o q) (fun b hb => by
            by_cases q : b = a
            · rw [q, upd_same]; simp
            · rw [upd_ne q]; exact hb) (by simp) (fun b hb => .inl (by rw [hF]; exact hb)) (by
            rw [hi]
            exact ⟨c0, dx, _, _, rfl, rfl, upd_same, rfl, hf.put rd⟩)
        exact p1 σ _ Hs1 F' R' g1.exs
      · exact p1.elim
    · exact p1.elim
end

/-! ### the making of instances -/
structure InGrow (a : Addr) (H Hs H' Hs' : Hp) : Prop where
  ex : ∀ b o, b ≠ a → H b = some o → H' b = some o
  exs : Ext Hs Hs'
  sub : Ext Hs' H'
  fr : ∀ b o, Hs' b = some o → Hs b = none → H b = none
def spI (K : PySem.W.Frag) (c : Str) (dd : List D) (m : List D → O D) : Sp := fun vs H Q E => ∃ Hs ds a us dx, vs = .ref a :: us ∧ Ext Hs H ∧ Reps K Hs (ds ++ dd) us ∧ H a = some (.ins (He.ga K c) dx []) ∧ Hs a = none ∧ match m ds with
  | .stuck => False
  | .ok d => ∀ H' Hs' fs dx' vfs, InGrow a H Hs H' Hs' → d = .ins c fs → H' a = some (.ins (He.ga K c) dx' vfs) → FReps K Hs' fs vfs → Q .non H'
  | .exc x fs => ∀ cls dx' H' Hs', InGrow a H Hs H' Hs' → XRep K Hs' x fs cls dx' → E cls dx' H'
theorem spI_len {K : PySem.W.Frag} {c : Str} {n : Nat} {dd : List D} {m : List D → O D} (ar : Ar n m) {vs : List V} {H : Hp} {Q : VK} {E : XK} (h : spI K c dd m vs H Q E) : vs.length = n + dd.length + 1 := by
  obtain ⟨Hs, ds, a, us, dx, rfl, _, r, _, _, q⟩ := h
  rw [List.length_cons, ← r.length, List.length_append]
  by_cases e : ds.length = n
  · rw [e]
  · rw [ar ds e] at q; exact q.elim
/-- c(..) at level k -/
def CalleeI (P : Program) (w : World) (K : PySem.W.Frag) (mg : Str → Option Value) (base : Heap) (c : Str) (k : Nat) (m : List D → O D) : Prop :=
  ∃ (f : Addr) (fd : FuncData) (ps : List Str) (dvs : List V) (ds : List Value) (dd : List D), mg c = some (.ref (He.ga K c)) ∧ Mk K (He.ga K c) f ∧ FnOk P w K mg base (L2N.CX P w) k f fd ps (spI K c dd m) ∧ Binds K fd ps ds ∧ Vals dvs ds ∧ ∀ Hs, Reps K Hs dd dvs
theorem CalleeI.is {P : Program} {w : World} {K : PySem.W.Frag} {mg : Str → Option Value} {base : Heap} {c : Str} {k : Nat} {m n : List D → O D} (C : CalleeI P w K mg base c k m) (h : ∀ a, n a = .stuck ∨ m a = n a) : CalleeI P w K mg base c k n := by
  obtain ⟨f, fd, ps, dvs, ds, dd, h1, h2, h3, h4⟩ := C
  refine ⟨f, fd, ps, dvs, ds, dd, h1, h2, h3.imp fun vs H Q E q => ?_, h4⟩
  obtain ⟨Hs, es, a, us, dx, q1, q2, q3, q4, q5, q6⟩ := q
  refine ⟨Hs, es, a, us, dx, q1, q2, q3, q4, q5, ?_⟩
  rcases h es with z | z
  · rw [z] at q6; exact q6.elim
  · rw [z]; exact q6
section
variable {X : Cx} {W : WX} {κ : List Kd}
def tMakeX (C : Addr) (sp : Sp) (dvs : List V) (E : St → XK) (t : TA) : TE := fun σ H Q => t σ H fun vs H1 => ∀ x dx, H1 x = none → H1 dx = none → dx ≠ x → sp (.ref x :: (vs ++ dvs)) (upd (upd H1 dx (.own x)) x (.ins C dx [])) (fun v H2 => v = .non ∧ Q (.ref x) H2) (E σ)
theorem run_makeX {CX : CXT} {k : Nat} {f C : Addr} {fd : FuncData} {ps : List Str} {sp : Sp} {dvs : List V} {ds us : List Value} {vs : List V} {E : XK} {Q : VK} {pins : List (Addr × Obj)} {σ : St} {H : Hp} {s : Shared} (M : Mk X.K C f) (F : FnOk X.prog X.w X.K X.mg X.base CX k f fd ps sp) (hr : Room (k + 1) X.A) (hb : Binds X.K fd ps ds) (hd : Vals dvs ds)
    (hx : PassesAt CX X σ E) (I : Inv X pins σ H s) (r : Vals vs us) (h : ∀ x dx, H x = none → H dx = none → dx ≠ x → sp (.ref x :: (vs ++ dvs)) (upd (upd H dx (.own x)) x (.ins C dx [])) (fun v H2 => v = .non ∧ Q (.ref x) H2) E) : wpAny (model X.prog X.w) X.A (call (.ref C) us) (EP X pins σ Q) X.xe s := by
  have J := Inv.made (C := C) I
  have hq := h (s.heap.objs.size + 1) s.heap.objs.size (I.hok.fresh (Nat.le_succ _)) (I.hok.fresh (Nat.le_refl _)) (Nat.ne_of_lt (Nat.lt_succ_self _))
  have rr : Vals (V.ref (s.heap.objs.size + 1) :: (vs ++ dvs)) (Value.ref (s.heap.objs.size + 1) :: (us ++ ds)) := .cons rfl (r.append hd)
  have hl : (Value.ref (s.heap.objs.size + 1) :: us ++ ds).length = ps.length := (F.len _ _ _ _ hq ▸ rr.length).symm
  refine wpAny_call (make_map (f := f) I.kIn M.makes M.init (beq_iff_eq.mp M.fn) (codeAny_mono (F.run _ X.stack _ _ ⟨Value.ref (s.heap.objs.size + 1) :: us, []⟩ (Value.ref (s.heap.objs.size + 1) :: (us ++ ds)) _ _ E (hr.make C us []) (J.env0.make C us []) (hb _ (Value.ref (s.heap.objs.size + 1) :: us) J.kIn hl) rr hq) fun r s' hq' => ?_))
  cases r with
  | error e => exact hx pins _ _ e s' J hq'
  | ok fl =>
    cases fl with
    | ret u =>
      obtain ⟨v, H', I3, rv, ev, q3⟩ := J.after hq'
      cases ev
      exact ⟨rv, V.ref (s.heap.objs.size + 1), H', I3, rfl, q3⟩
    | next => cases hq'
    | brk => cases hq'
    | cont => cases hq'
theorem pe_makeX {CX : CXT} {k : Nat} {f C : Addr} {x : Str} {fd : FuncData} {ps : List Str} {sp : Sp} {dvs : List V} {ds : List Value} {E : St → XK} {e : Expr} {es : List Expr} {p pos : Pos} {t : TA} (M : Mk X.K C f) (F : FnOk X.prog X.w X.K X.mg X.base CX k f fd ps sp) (hr : Room (k + 1) X.A) (hg : Gl X x) (hm : X.mg x = some (.ref C)) (hb : Binds X.K fd ps ds) (hd : Vals dvs ds) (hx : ∀ σ, PassesAt CX X σ (E σ)) (ha : PA X (e :: es) t)
    (hdb : (x == ("__debug__" : Str)) = false) (he : starEach (e :: es) X.env = (false, eval e X.env) :: starEach es X.env) (hpl : (backTo pos (starEach es X.env)).any (·.1) = false) : PE X (.Call (.Name x p) (e :: es) [] pos) (tMakeX C sp dvs E t) :=
  ⟨fun pins s σ H Q I h => wpAny_Call_Name_kw (ld_glob I hg hm (PySem.W.callWith_K (h₀ := X.base) I.ok.mod.kin M.kp (thn (ha.run pos pins s σ H _ I h) fun us s1 ⟨vs, H1, I1, r, q⟩ => ⟨I1.kIn, run_makeX M F hr hb hd (hx σ) I1 r q⟩) he hpl) hdb)⟩
theorem InGrow.grow {a dx : Addr} {o u : HO} {H1 Hs1 H' Hs' : Hp} (ha : H1 a = none) (hd : H1 dx = none) (g : InGrow a (upd (upd H1 dx o) a u) Hs1 H' Hs') : Grow H1 Hs1 H' Hs' := ⟨fun b z e => g.ex b z (ne_of_none e ha) (by rw [upd_ne (ne_of_none e ha), upd_ne (ne_of_none e hd)]; exact e), g.exs, g.sub, fun b z e n => by
  have q := g.fr b z e n
  by_cases h1 : b = a
  · rw [h1]; exact ha
  · rw [upd_ne h1] at q
    by_cases h2 : b = dx
    · rw [h2]; exact hd
    · rw [upd_ne h2] at q; exact q⟩
theorem make_run {K : PySem.W.Frag} {c : Str} {m : List D → O D} {f : Env → O (List D)} {dd : List D} {dvs : List V} {σ : L2.St} {H : Hp} {Q : VK} {E : St → XK} (hE : ∀ cls dx H', W cls dx σ H' → E σ cls dx H') (hdd : ∀ Hs, Reps K Hs dd dvs) (h : tE K W κ .sh (mApp m f) σ H Q) :
    tMakeX (He.ga K c) (spI K c dd m) dvs E (tA K W κ f) σ H Q := by
  obtain ⟨S, H0, Hs0, ρ, Hs, F, R, p⟩ := h
  refine stepA R p fun ds vs H1 Hs1 _ g1 R1 rs p1 => fun x dx hx hdx hne => ?_
  refine ⟨Hs1, ds, x, vs ++ dvs, dx, rfl, (R1.sub.trans (.new hdx)).trans (.new (by rw [upd_ne (Ne.symm hne)]; exact hx)), rs.append (hdd _), upd_same, R1.sub.none hx, ?_⟩
  cases em : m ds with
  | stuck => rw [em] at p1; exact p1
  | ok d =>
    rw [em] at p1
    intro H' Hs' fs dx' vfs g e ha hf
    subst e
    have gg := g.grow hx hdx
    have hs : Hs' x = none := by
      cases q : Hs' x with
      | none => rfl
      | some o =>
        have z := g.fr x o q (R1.sub.none hx)
        rw [upd_same] at z; cases z
    refine ⟨rfl, p1 _ _ (.sh (Hs' := join Hs' H' [x]) ⟨gg.ex, gg.exs.trans (join_ext gg.sub), join_sub gg.sub, fun b o e n => ?_⟩ (.ins (vfs := vfs) (dx := dx') (by rw [join_in (List.mem_singleton.mpr rfl)]; exact ha) (hf.mono (join_ext gg.sub))))⟩
    by_cases hb : b ∈ [x]
    · rw [List.mem_singleton.mp hb]; exact hx
    · rw [join_out hb] at e; exact gg.fr b o e n
  | exc y gs =>
    rw [em] at p1
    exact fun cls dx' H' Hs' g xr => hE _ _ _ (p1 cls dx' H' ⟨Hs', g.grow hx hdx, xr⟩)
theorem ce_make {c : Str} {k : Nat} {m : List D → O D} {e : Expr} {es : List Expr} {p pos : Pos} {f : Env → O (List D)} (C : CalleeI X.prog X.w X.K X.mg X.base c k m) (hr : Room (k + 1) X.A) (tk : L2N.Takes X W) (hg : Gl X c) (ha : CA X W κ (e :: es) f)
    (hdb : (c == ("__debug__" : Str)) = false := by decide) (he : starEach (e :: es) X.env = (false, eval e X.env) :: starEach es X.env := by rfl) (hpl : (backTo pos (starEach es X.env)).any (·.1) = false := by rfl) : CE X W κ .sh (.Call (.Name c p) (e :: es) [] pos) (mApp m f) := by
  obtain ⟨fa, fd, ps, dvs, ds, dd, hm, M, F, hb, hd, hdd⟩ := C
  exact PE.imp (pe_makeX (E := fun σ => WE W σ) M F hr hg hm hb hd (fun σ => L2N.passAt tk σ) ha hdb he hpl) fun σ H Q q => make_run (fun _ _ _ h => h) hdd q
end
/-! ### __init__ by its body -/
def endI (c0 : Str) : SO → O D
  | .nx ρ => (match ρ[0]? with
    | some (some (D.ins c fs)) => if c = c0 then .ok (.ins c fs) else .stuck
    | _ => .stuck)
  | .exc _ c fs => .exc c fs
  | _ => .stuck
def mInit (c : Str) (N n : Nat) (g : Env → SO) : List D → O D := fun ds => if ds.length = n then endI c (g (some (.ins c []) :: startD (N - 1) ds)) else .stuck
theorem ar_init {c : Str} {N n : Nat} {g : Env → SO} : Ar n (mInit c N n g) := fun ds h => if_neg h
def cInit (E : XK) : Cf := { W := fun cls d _ H => E cls d H, rr := .sh, κl := [], κx := fun _ => True, pu := false }
theorem kAt_cons {k : Kd} {κ : List Kd} (i : Nat) : kAt (k :: κ) (i + 1) = kAt κ i := by unfold kAt; simp
theorem rel_init {K : PySem.W.Frag} {x c : Str} {N : List Str} {κ : List Kd} {ds : List D} {vs : List V} {H Hs : Hp} {a dx : Addr} (hk : ∀ i, kAt κ i = .sh) (sub : Ext Hs H) (r : Reps K Hs ds vs) (ha : H a = some (.ins (He.ga K c) dx [])) (hs : Hs a = none) :
    Rel K [a] H Hs (.slf a :: κ) (some (.ins c []) :: startD N.length ds) (L2.start (x :: N) (.ref a :: vs)) H Hs (fun i => if i = 0 then [a] else []) := by
  have e : L2.start (x :: N) (.ref a :: vs) = some (.ref a) :: L2.start N vs := by unfold L2.start; simp
  rw [e]
  have R := rel_start (K := K) (N := N) hk sub r
  refine ⟨by rw [List.length_cons, List.length_cons, R.len], fun i d h => ?_, fun i => ?_, fun i j b h1 h2 => ?_, fun i b h => ?_, fun i b h => ?_, .refl _, sub, fun b o e _ => e, fun b h => h, fun b o e n => by rw [e] at n; cases n⟩
  · cases i with
    | zero =>
      have e : D.ins c [] = d := by simpa using h
      subst e
      exact ⟨.ref a, rfl, c, dx, [], [], rfl, rfl, ha, rfl, .nil⟩
    | succ i =>
      obtain ⟨v, h1, h2⟩ := R.sl i d h
      exact ⟨v, h1, by rw [kAt_cons, if_neg (Nat.succ_ne_zero _)]; exact h2⟩
  · split <;> simp
  · split at h1
    · split at h2
      · omega
      · cases h2
    · cases h1
  · split at h
    · have e : b = a := by simpa using h
      subst e
      exact ⟨by rw [ha]; simp, hs⟩
    · cases h
  · split at h
    · rename_i hi
      have e : b = a := by simpa using h
      subst e
      exact ⟨hs, .inr ⟨List.mem_singleton.mpr rfl, hi⟩⟩
    · cases h
theorem Rel.inGrow {K : PySem.W.Frag} {a : Addr} {H0 Hs0 : Hp} {κ : List Kd} {ρ : Env} {σ : L2.St} {H Hs : Hp} {F : Foot} (R : Rel K [a] H0 Hs0 κ ρ σ H Hs F) : InGrow a H0 Hs0 H Hs :=
  ⟨fun b o h e => R.old b o e (fun z => h (List.mem_singleton.mp z)), R.g, R.sub, R.new⟩
section
variable {P : Program} {w : World} {K : PySem.W.Frag} {mg : Str → Option Value} {base : Heap} {x qual : Str} {params : Arguments} {body : List Stmt} {scope : Scope} {dvs : List V} {kws : List (Str × V)} {f : Addr} {fd : FuncData}
theorem init_ok {c s0 : Str} {N ps : List Str} {k : Nat} {κ : List Kd} {κ' : Addr → List Kd} {g : Env → SO} (F : FunD K x qual params body scope dvs kws f fd) (S : FnScope (s0 :: N) (s0 :: ps) scope) (hκ : ∀ i, kAt κ i = .sh) (hκ' : ∀ a, kAt (κ' a) 0 = .slf a)
    (hb : ∀ (a : Addr) (cdv : Value) (A : Around) (outer : List PySem.Env) (s : Shared) (H : Hp) (E : XK), Room k (A.deeper (PyProof.Rows.envOfC qual scope s.heap.objs.size f cdv)) →
      CSs (cxOf (L2N.CX P w) P w K mg base (s0 :: N) qual scope f cdv A outer s H E) (cInit E) (.slf a :: κ) (κ' a) body g) : FnOk P w K mg base (L2N.CX P w) (k + 1) f fd (s0 :: ps) (spI K c [] (mInit c (N.length + 1) ps.length g)) := by
  refine F.ok S (fun vs H Q E h => by have e := spI_len ar_init h; rw [e]; rfl) fun cdv A outer s H vs Q E hr h => ?_
  obtain ⟨Hs, ds, a, us, dx, rfl, sub, r, ha, hs, q⟩ := h
  refine ⟨_, hb a cdv A outer s H E hr, ?_⟩
  rw [List.append_nil] at r
  refine ⟨[a], H, Hs, some (.ins c []) :: startD N.length ds, Hs, fun i => if i = 0 then [a] else [], (fun z => by cases z), rel_init hκ sub r ha hs, ?_⟩
  unfold mInit at q
  by_cases hl : ds.length = ps.length
  · rw [if_pos hl] at q
    rw [Nat.add_sub_cancel] at q
    cases e : g (some (.ins c []) :: startD N.length ds) with
    | stuck => rw [e] at q; exact q
    | bk ρ => rw [e] at q; exact q.elim
    | ct ρ => rw [e] at q; exact q.elim
    | rt d => rw [e] at q; exact q.elim
    | nx ρ =>
      rw [e] at q
      intro σ' H' Hs' F' R' xx
      unfold endI at q
      dsimp only at q
      cases h0 : ρ[0]? with
      | none => rw [h0] at q; exact q.elim
      | some o =>
        rw [h0] at q
        cases o with
        | none => exact q.elim
        | some d =>
          cases d with
          | ins c1 fs =>
            obtain ⟨v, h1, h2⟩ := R'.sl 0 _ h0
            rw [hκ'] at h2
            obtain ⟨c2, dx2, fs2, vfs, rfl, h3, h4, h5, h6⟩ := h2
            cases h3
            dsimp only at q
            by_cases hc : c1 = c
            · rw [if_pos hc] at q
              subst hc
              exact q H' Hs' fs dx2 vfs R'.inGrow rfl h4 h6
            · rw [if_neg hc] at q; exact q.elim
          | _ => exact q.elim
    | exc ρ y gs =>
      rw [e] at q
      exact fun κ'' cls dx' σ' H' Hs' F' _ R' xx xr => q cls dx' H' Hs' R'.inGrow xr
  · rw [if_neg hl] at q; exact q.elim
end
end T

set_option Elab.async false
set_option linter.all false
set_option maxRecDepth 100000
set_option maxHeartbeats 2000000
/-! T9: errors: their classes, raise, try .. except .. as e, what a suite asks of e, calls within a suite. -/
namespace T
open PySem L2

/-! ### the error classes -/
def xis (base : Str) (c : Str) : Ty → Bool
  | .o e => decide (e = c) || decide (e = base)
  | .b n => decide (n = "ValueError")
def oexB (K : PySem.W.Frag) (C : Addr) : Bool := match K.lookup C with
  | some ⟨.type "type", _, .cls cd, sl⟩ => (match cd.mro, sl.toList with
    | .ref C' :: bm, [_, _, _, _, some (.builtin n), _] => C' == C && n == "ValueError.__new__" && !cd.hasDel && cd.hasDict && PySem.HandSPX.refsVE bm
    | _, _ => false)
  | _ => false
theorem oexB_ok {K : PySem.W.Frag} {C : Addr} (h : oexB K C = true) : ∃ nm q N bs bm sn sub ab col dd k0 k1 k2 k3 k5, K.lookup C = some (excClassObj nm q C N bs bm true sn sub ab col dd k0 k1 k2 k3 k5 "ValueError.__new__") ∧ PySem.HandSPX.refsVE bm = true := by
  unfold oexB at h
  split at h
  · rename_i dd cd sl ho
    split at h
    · rename_i C' bm k0 k1 k2 k3 n k5 hm hs
      simp only [Bool.and_eq_true, beq_iff_eq, Bool.not_eq_true'] at h
      obtain ⟨⟨⟨⟨rfl, rfl⟩, hdel⟩, hdict⟩, hr⟩ := h
      obtain ⟨nm, bs, mro, ns, qn, hd, sn, sub, ab, col, del⟩ := cd
      dsimp only at hm hdel hdict
      subst hm hdel hdict
      have es : sl = #[k0, k1, k2, k3, some (.builtin "ValueError.__new__"), k5] := by
        cases sl with
        | mk l => simp only at hs; rw [hs]
      subst es
      exact ⟨_, _, _, _, bm, _, _, _, _, _, _, _, _, _, _, ho, hr⟩
    · cases h
  · cases h
/-- the text's error classes errs below base (over ValueError); us: the classes that isinstance is asked with; fns: the fields -/
structure ErrK (K : PySem.W.Frag) (base : Str) (errs : List Str) (us : List Ty) (fns : List Str) : Prop where
  oex : ∀ c ∈ errs, OexC K (He.ga K c)
  hcl : ∀ c ∈ errs, (PySem.W.clsIn K (He.ga K c)).isSome = true
  xf : ∀ c ∈ errs, XfC K (He.ga K c)
  ob : ∀ c ∈ errs, PySem.W.findIn K (.ref (He.ga K c)) "__class__" = some (some (.builtin "object.__class__")) ∧ PySem.W.mroIn K (He.ga K c) (.type "object") = some true
  spc : PySem.W.specialIn K (.builtin "object.__class__") "__get__" = some (some (.builtin "getset_descriptor.__get__"))
  tak : PySem.W.takesIn K (.builtin "object.__class__") = some true
  one : ∀ c ∈ errs, ∀ u ∈ us, PySem.W.kitOne K (.ref (He.ga K c)) (u.v K) = some (xis base c u)
  exm : ∀ c ∈ errs, PySem.W.exmOne K (.ref (He.ga K c)) (.ref (He.ga K base)) = some true
  no : ∀ c ∈ errs, ∀ f ∈ fns, PySem.W.findIn K (.ref (He.ga K c)) f = some none
def errC (K : PySem.W.Frag) (base : Str) (errs : List Str) (us : List Ty) (fns : List Str) : Bool :=
  errs.all (fun c => (oexB K (He.ga K c) && (decide (PySem.W.findIn K (.ref (He.ga K c)) "__setattr__" = some (some (.builtin "object.__setattr__"))) && (decide (PySem.W.subIn K (.ref (He.ga K c)) (.type "BaseException") = some true) && (decide (PySem.W.typeIn K (.ref (He.ga K c)) = some (.type "type")) && PySem.W.keepIn K (.ref (He.ga K c)))))) &&
    ((PySem.W.clsIn K (He.ga K c)).isSome && (xfB K (He.ga K c) && (decide (PySem.W.findIn K (.ref (He.ga K c)) "__class__" = some (some (.builtin "object.__class__"))) && decide (PySem.W.mroIn K (He.ga K c) (.type "object") = some true)))) &&
    (us.all (fun u => decide (PySem.W.kitOne K (.ref (He.ga K c)) (u.v K) = some (xis base c u))) && (decide (PySem.W.exmOne K (.ref (He.ga K c)) (.ref (He.ga K base)) = some true) && fns.all fun f => decide (PySem.W.findIn K (.ref (He.ga K c)) f = some none)))) &&
  (decide (PySem.W.specialIn K (.builtin "object.__class__") "__get__" = some (some (.builtin "getset_descriptor.__get__"))) && decide (PySem.W.takesIn K (.builtin "object.__class__") = some true))
theorem err_by {K : PySem.W.Frag} {base : Str} {errs : List Str} {us : List Ty} {fns : List Str} (h : errC K base errs us fns = true) : ErrK K base errs us fns := by
  unfold errC at h
  rw [Bool.and_eq_true, Bool.and_eq_true] at h
  obtain ⟨h, h2, h3⟩ := h
  have h4 : ∀ c ∈ errs, _ := fun c hc => List.all_eq_true.mp h c hc
  simp only [Bool.and_eq_true, decide_eq_true_eq] at h4
  refine ⟨fun c hc => ?_, fun c hc => (h4 c hc).1.2.1, fun c hc => xfB_ok (h4 c hc).1.2.2.1, fun c hc => ⟨(h4 c hc).1.2.2.2.1, (h4 c hc).1.2.2.2.2⟩, of_decide_eq_true h2, of_decide_eq_true h3, fun c hc u hu => ?_, fun c hc => (h4 c hc).2.2.1, fun c hc f hf => ?_⟩
  · obtain ⟨a1, a2, a3, a4, a5⟩ := (h4 c hc).1.1
    exact ⟨oexB_ok a1, a2, a3, a4, a5⟩
  · exact of_decide_eq_true (List.all_eq_true.mp (h4 c hc).2.1 u hu)
  · exact of_decide_eq_true (List.all_eq_true.mp (h4 c hc).2.2.2 f hf)

/-! ### their __init__ -/
/-- what __init__(self, y1, ..) of an error promises -/
def spX (K : PySem.W.Frag) (c : Str) (ns : List Str) : Sp := fun vs H Q _ => ∃ a ys, vs = .ref a :: ys ∧ ys.length = ns.length ∧ H a = some (exo a (He.ga K c) none) ∧ ∀ d, H d = none → d ≠ a → Q .non (upd (upd H d (exd d (ns.zip ys).reverse)) a (exo a (He.ga K c) (some d)))
def tInX (K : PySem.W.Frag) : List (Nat × Str) → TS
  | [] => tNext
  | (i, f) :: r => tSeq (tOst K f (tVar 0) (tVar i)) (tInX K r)
theorem upd_upd {H : Hp} {a : Addr} {o u : HO} : upd (upd H a o) a u = upd H a u := by
  funext b
  by_cases h : b = a
  · rw [h, upd_same, upd_same]
  · rw [upd_ne h, upd_ne h, upd_ne h]
theorem upd_swap {H : Hp} {a b : Addr} {o u : HO} (h : a ≠ b) : upd (upd H a o) b u = upd (upd H b u) a o := by
  funext c
  by_cases h1 : c = a
  · subst h1; rw [upd_ne h, upd_same, upd_same]
  · by_cases h2 : c = b
    · subst h2; rw [upd_same, upd_ne h1, upd_same]
    · rw [upd_ne h2, upd_ne h1, upd_ne h1, upd_ne h2]
theorem inX_rest {K : PySem.W.Frag} {C a d : Addr} {H : Hp} (T : OexC K C) (hne : d ≠ a) : ∀ (l : List (Nat × Str)) (ys : List V) (fs : List (Str × V)) (σ : L2.St) (D : Ends), σ[0]? = some (some (.ref a)) → (∀ p ∈ l, PySem.W.findIn K (.ref C) p.2 = some none) →
    ys.length = l.length → (∀ (j i : Nat) (f : Str) (y : V), l[j]? = some (i, f) → ys[j]? = some y → σ[i]? = some (some y)) → fs.length + l.length ≤ 900 →
    D.nx σ (upd (upd H d (exd d (((l.map (·.2)).zip ys).reverse ++ fs))) a (exo a C (some d))) → tInX K l D σ (upd (upd H d (exd d fs)) a (exo a C (some d)))
  | [], ys, fs, σ, D, _, _, _, _, _, q => q
  | (i, f) :: r, ys, fs, σ, D, h0, hn, hl, hv, hz, q => by
    cases ys with
    | nil => cases hl
    | cons y ys =>
      refine ⟨y, hv 0 i f y rfl rfl, .ref a, h0, a, C, rfl, T, hn _ List.mem_cons_self, .inr ⟨d, fs, upd_same, ?_, by rw [List.length_cons] at hz; omega, ?_⟩⟩
      · rw [upd_ne hne, upd_same]
      · have e : upd (upd (upd H d (exd d fs)) a (exo a C (some d))) d (exd d ((f, y) :: fs)) = upd (upd H d (exd d ((f, y) :: fs))) a (exo a C (some d)) := by
          rw [← upd_swap (Ne.symm (Ne.symm hne)), upd_upd]
        rw [e]
        refine inX_rest T hne r ys ((f, y) :: fs) σ D h0 (fun p hp => hn p (List.mem_cons_of_mem _ hp)) (by simpa using hl) (fun j i f y h1 h2 => hv (j + 1) i f y h1 h2) (by rw [List.length_cons] at hz ⊢; omega) ?_
        rw [show (((i, f) :: r).map (·.2)).zip (y :: ys) = (f, y) :: (r.map (·.2)).zip ys from rfl, List.reverse_cons, List.append_assoc] at q
        exact q
theorem inX_all {K : PySem.W.Frag} {C a : Addr} {H : Hp} (T : OexC K C) {i : Nat} {f : Str} {r : List (Nat × Str)} {y : V} {ys : List V} {σ : L2.St} {D : Ends} (h0 : σ[0]? = some (some (.ref a))) (hn : ∀ p ∈ (i, f) :: r, PySem.W.findIn K (.ref C) p.2 = some none) (hl : ys.length = r.length) (ha : H a = some (exo a C none))
    (hv : ∀ (j k : Nat) (g : Str) (z : V), ((i, f) :: r)[j]? = some (k, g) → (y :: ys)[j]? = some z → σ[k]? = some (some z)) (hz : r.length ≤ 800) (q : ∀ d, H d = none → d ≠ a → D.nx σ (upd (upd H d (exd d ((f :: r.map (·.2)).zip (y :: ys)).reverse)) a (exo a C (some d)))) : tInX K ((i, f) :: r) D σ H := by
  refine ⟨y, hv 0 i f y rfl rfl, .ref a, h0, a, C, rfl, T, hn _ List.mem_cons_self, .inl ⟨ha, fun d hd hne => ?_⟩⟩
  refine inX_rest T hne r ys [(f, y)] σ D h0 (fun p hp => hn p (List.mem_cons_of_mem _ hp)) hl (fun j k g z h1 h2 => hv (j + 1) k g z h1 h2) (by rw [List.length_singleton]; omega) ?_
  have q' := q d hd hne
  rw [List.zip_cons_cons, List.reverse_cons] at q'
  exact q'
section
variable {P : Program} {w : World} {K : PySem.W.Frag} {mg : Str → Option Value} {base : Heap} {x qual : Str} {params : Arguments} {body : List Stmt} {scope : Scope} {f : Addr} {fd : FuncData}
theorem idx_get : ∀ (ns : List Str) (n j : Nat), (ns.zipIdx n)[j]? = (ns[j]?).map fun f => (f, n + j)
  | [], n, j => by simp
  | a :: r, n, 0 => by simp
  | a :: r, n, j + 1 => by
    rw [List.zipIdx_cons, List.getElem?_cons_succ, List.getElem?_cons_succ, idx_get]
    congr 1; funext f; rw [show n + 1 + j = n + (j + 1) by omega]
def slotsX : List Str → Nat → List (Nat × Str)
  | [], _ => []
  | f :: r, n => (n, f) :: slotsX r (n + 1)
theorem slotsX_get : ∀ (ns : List Str) (n j : Nat), (slotsX ns n)[j]? = (ns[j]?).map fun f => (n + j, f)
  | [], n, j => by simp [slotsX]
  | a :: r, n, 0 => by simp [slotsX]
  | a :: r, n, j + 1 => by
    rw [slotsX, List.getElem?_cons_succ, List.getElem?_cons_succ, slotsX_get]
    congr 1; funext f; rw [show n + 1 + j = n + (j + 1) by omega]
theorem slotsX_len : ∀ (ns : List Str) (n : Nat), (slotsX ns n).length = ns.length
  | [], _ => rfl
  | _ :: r, n => by rw [slotsX, List.length_cons, List.length_cons, slotsX_len]
theorem slotsX_map : ∀ (ns : List Str) (n : Nat), (slotsX ns n).map (·.2) = ns
  | [], _ => rfl
  | _ :: r, n => by rw [slotsX, List.map_cons, slotsX_map]
theorem slotsX_mem : ∀ {ns : List Str} {n : Nat} {p : Nat × Str}, p ∈ slotsX ns n → p.2 ∈ ns
  | [], _, _, h => nomatch h
  | a :: r, n, p, h => by
    rcases List.mem_cons.mp h with e | h
    · rw [e]; exact List.mem_cons_self
    · exact List.mem_cons_of_mem _ (slotsX_mem h)
theorem xinit_ok {c s0 n1 : Str} {ns : List Str} {k : Nat} (F : FunD K x qual params body scope [] [] f fd) (S : FnScope (s0 :: n1 :: ns) (s0 :: n1 :: ns) scope) (T : OexC K (He.ga K c)) (hn : ∀ f ∈ n1 :: ns, PySem.W.findIn K (.ref (He.ga K c)) f = some none) (hz : ns.length ≤ 800)
    (hb : ∀ (cdv : Value) (A : Around) (outer : List PySem.Env) (s : Shared) (H : Hp) (E : XK), Room k (A.deeper (PyProof.Rows.envOfC qual scope s.heap.objs.size f cdv)) →
      PSs (cxOf (L2N.CX P w) P w K mg base (s0 :: n1 :: ns) qual scope f cdv A outer s H E) body (tInX K (slotsX (n1 :: ns) 1))) : FnOk P w K mg base (L2N.CX P w) (k + 1) f fd (s0 :: n1 :: ns) (spX K c (n1 :: ns)) := by
  refine F.ok S (fun vs H Q E h => ?_) fun cdv A outer s H vs Q E hr h => ⟨_, hb cdv A outer s H E hr, ?_⟩
  · obtain ⟨a, ys, rfl, hl, _⟩ := h
    rw [List.length_cons, List.length_cons, hl]
  · obtain ⟨a, ys, rfl, hl, ha, q⟩ := h
    cases ys with
    | nil => cases hl
    | cons y ys =>
      have e0 : L2.start (s0 :: n1 :: ns) (.ref a :: y :: ys) = (V.ref a :: y :: ys).map some ++ List.replicate ((s0 :: n1 :: ns).length - (V.ref a :: y :: ys).length) none := rfl
      refine inX_all (a := a) (y := y) (ys := ys) T rfl (fun p hp => hn _ (slotsX_mem (ns := n1 :: ns) (n := 1) hp)) (by rw [slotsX_len]; simpa using hl) ha (fun j k g z h1 h2 => ?_) (by rw [slotsX_len]; exact hz) (fun d hd hne => ?_)
      · have h1' : (slotsX (n1 :: ns) 1)[j]? = some (k, g) := h1
        rw [slotsX_get] at h1'
        cases e : (n1 :: ns)[j]? with
        | none => rw [e] at h1'; cases h1'
        | some f =>
          rw [e] at h1'
          cases h1'
          rw [e0, List.getElem?_append_left (by
            rw [List.length_map, List.length_cons]
            have := (List.getElem?_eq_some_iff.mp h2).1
            omega), List.getElem?_map, show (V.ref a :: y :: ys)[1 + j]? = (y :: ys)[j]? by rw [Nat.add_comm, List.getElem?_cons_succ], h2]
          rfl
      · rw [slotsX_map]
        exact q d hd hne
end
/-- c(..), an error, at level k: ns its fields -/
def CalleeX (P : Program) (w : World) (K : PySem.W.Frag) (mg : Str → Option Value) (base : Heap) (c : Str) (k : Nat) (ns : List Str) : Prop :=
  ∃ (f : Addr) (fd : FuncData) (ps : List Str), mg c = some (.ref (He.ga K c)) ∧ OexC K (He.ga K c) ∧ PySem.W.findIn K (.ref (He.ga K c)) "__init__" = some (some (.ref f)) ∧ PySem.W.typeIn K (.ref f) = some (.type "function") ∧ FnOk P w K mg base (L2N.CX P w) k f fd ps (spX K c ns) ∧ Binds K fd ps []
theorem pmk_oexN {X : Cx} {CX : CXT} {x : Str} {C fI : Addr} {k : Nat} {fd : FuncData} {ps : List Str} {sp : Sp} {e : Expr} {es : List Expr} {p pos : Pos} {ta : TA} (T : OexC X.K C) (iC : PySem.W.findIn X.K (.ref C) "__init__" = some (some (.ref fI))) (tI : PySem.W.typeIn X.K (.ref fI) = some (.type "function"))
    (F1 : FnOk X.prog X.w X.K X.mg X.base CX k fI fd ps sp) (hr : Room (k + 1) X.A) (hb : Binds X.K fd ps []) (hx : Passes CX X (fun _ _ _ => False)) (hg : Gl X x) (hm : X.mg x = some (.ref C)) (ha : PA X (e :: es) ta)
    (hdb : (x == ("__debug__" : Str)) = false) (he : starEach (e :: es) X.env = (false, eval e X.env) :: starEach es X.env) (hpl : (backTo pos (starEach es X.env)).any (·.1) = false) : L2N.PMk X (.Call (.Name x p) (e :: es) [] pos) (tMkO C sp [] ta) := by
  intro pins s σ H Q I h
  obtain ⟨nm, q, N, bs, bm, sn, sub, ab, col, dd, k0, k1, k2, k3, k5, hC, hbm⟩ := T.cls
  refine wpAny_Call_Name_kw (ld_glob I hg hm (PySem.W.callWith_K (h₀ := X.base) I.ok.mod.kin T.kC (thn (ha.run pos pins s σ H _ I h) fun us s1 ⟨vs, H1, I1, r1, hz, q1⟩ => ⟨I1.kIn, ?_⟩) he hpl) hdb)
  show wpAny _ _ (call (.ref C) us) _ _ _
  obtain ⟨hp, g, dr, tk, os⟩ := s1
  have up : hp.objs.size ≤ hp.objs.size + 1 := Nat.le_succ _
  have hq := q1 (hp.objs.size + 1) (I1.hok.fresh up)
  rw [List.append_nil] at hq
  have kk : ∀ b o, hp.get? b = some o → ((hp.push (PySem.W.kdv_tup us)).push (PySem.HandSPX.excO C hp.objs.size)).get? b = some o := fun b o z => Heap.get?_push_of_some _ (Heap.get?_push_of_some _ z)
  have hget : ((hp.push (PySem.W.kdv_tup us)).push (PySem.HandSPX.excO C hp.objs.size)).get? (hp.objs.size + 1) = some (PySem.HandSPX.excO C hp.objs.size) := by heap_get
  have J : Inv X pins σ (upd H1 (hp.objs.size + 1) (exo (hp.objs.size + 1) C none)) ⟨(hp.push (PySem.W.kdv_tup us)).push (PySem.HandSPX.excO C hp.objs.size), g, dr, tk, os⟩ := I1.laid (t' := tk) (a := hp.objs.size + 1) (o := exo (hp.objs.size + 1) C none) (h' := (hp.push (PySem.W.kdv_tup us)).push (PySem.HandSPX.excO C hp.objs.size)) kk up (exo_ok hget)
  have r2 : Vals (V.ref (hp.objs.size + 1) :: vs) (Value.ref (hp.objs.size + 1) :: us) := .cons rfl r1
  have hl : (Value.ref (hp.objs.size + 1) :: us ++ []).length = ps.length := by rw [List.append_nil, ← r2.length]; exact F1.len _ _ _ _ hq
  have b2 := hb _ (Value.ref (hp.objs.size + 1) :: us) J.kIn hl
  rw [List.append_nil] at b2
  refine wpAny_call (PySem.HandSPX.call_own F.excBase_ValueError (fun Y => PySem.HandSPX.refsVE_contains Y bm hbm) (I1.kIn _ _ hC) (PySem.W.looks_findIn I1.kIn iC) (fun self => PySem.W.bind_fn I1.kIn self tI) (by rw [← Paired.length r1, sizeLine_eq]; omega)
    (codeAny_mono (F1.run _ X.stack _ _ ⟨Value.ref (hp.objs.size + 1) :: us, []⟩ (Value.ref (hp.objs.size + 1) :: us) _ _ (fun _ _ _ => False) (hr.make C us []) (J.env0.make C us []) b2 r2 hq) fun r s' hq' => ?_))
  cases r with
  | error er => exact hx pins σ _ _ er s' J hq'
  | ok fl =>
    cases fl with
    | ret u =>
      obtain ⟨v, H2, os2, bare2, un2, hok2, rv, ev, d, fs, ea, ed, hd1, q2⟩ := hq'
      cases ev
      obtain ⟨h2, g2, d2, t2, os'⟩ := s'
      obtain ⟨t0, G, J2, kG, ge, hoe, na⟩ := mk_end0 (d2 := d2) (t2 := t2) I1 up kk un2 hok2 os2 bare2 ea ed hd1
      exact ⟨rv, hp.objs.size + 1, _, _, ⟨G, g2, d2, t2, os'⟩, _, .ref C, some d, rfl, J2, kG, ge, hoe, ⟨rfl, rfl, fun vs hv => by cases hv; rfl⟩, rfl, rfl, na, rfl, bare2, raises_own T.exC T.tyC, q2⟩
    | next => cases hq'
    | brk => cases hq'
    | cont => cases hq'
section
variable {X : Cx} {c : Cf} {κ κ' : List Kd}
def sRaise (n : Str) (ns : List Str) (f : Env → O (List D)) : Env → SO := fun ρ => match f ρ with
  | .ok ds => if ds.length = ns.length ∧ ds.length ≤ 1000 then .exc ρ n (ns.zip ds).reverse else .stuck
  | .exc x fs => .exc ρ x fs
  | .stuck => .stuck
theorem FReps.append {K : PySem.W.Frag} {Hs : Hp} {fs gs : List (Str × D)} {vfs wfs : List (Str × V)} : FReps K Hs fs vfs → FReps K Hs gs wfs → FReps K Hs (fs ++ gs) (vfs ++ wfs)
  | .nil, h => h
  | .cons a b, h => .cons a (FReps.append b h)
theorem FReps.reverse {K : PySem.W.Frag} {Hs : Hp} : ∀ {fs : List (Str × D)} {vfs : List (Str × V)}, FReps K Hs fs vfs → FReps K Hs fs.reverse vfs.reverse
  | _, _, .nil => .nil
  | _, _, .cons a b => by rw [List.reverse_cons, List.reverse_cons]; exact (FReps.reverse b).append (.cons a .nil)
theorem FReps.zip {K : PySem.W.Frag} {Hs : Hp} : ∀ (ns : List Str) {ds : List D} {vs : List V}, Reps K Hs ds vs → FReps K Hs (ns.zip ds) (ns.zip vs)
  | [], _, _, _ => .nil
  | n :: ns, _, _, .nil => .nil
  | n :: ns, _, _, .cons a b => .cons a (FReps.zip ns b)
theorem cs_raise {n : Str} {ns : List Str} {k : Nat} {e : Expr} {es : List Expr} {p pos cpos : Pos} {f : Env → O (List D)} (C : CalleeX X.prog X.w X.K X.mg X.base n k ns) (hr : Room (k + 1) X.A) (hc : X.calm = true) (tk : L2N.Takes X c.W) (hg : Gl X n) (ha : CA X c.W κ (e :: es) f) (hx : c.κx κ)
    (hdb : (n == ("__debug__" : Str)) = false := by decide) (he : starEach (e :: es) X.env = (false, eval e X.env) :: starEach es X.env := by rfl) (hpl : (backTo cpos (starEach es X.env)).any (·.1) = false := by rfl) : CS X c κ κ' (.Raise (some (.Call (.Name n p) (e :: es) [] cpos)) none pos) (sRaise n ns f) := by
  obtain ⟨fa, fd, ps, hm, T, iC, tI, F, hb⟩ := C
  exact PS.imp (L2N.ps_raise hc tk (pmk_oexN T iC tI F hr hb no_passes hg hm ha hdb he hpl)) fun Dn σ H q => by
    obtain ⟨S, H0, Hs0, ρ, Hs, F, hS, R, p⟩ := q
    refine ⟨S, H0, Hs0, ρ, Hs, F, R, ?_⟩
    unfold sRaise at p
    cases ef : f ρ with
    | stuck => rw [ef] at p; exact p
    | exc y fs =>
      rw [ef] at p
      exact fun cls dx H' ⟨Hs', g, xr⟩ => p κ cls dx σ H' Hs' F hx (R.grow g) g.exs xr
    | ok ds =>
      rw [ef] at p
      dsimp only at p
      by_cases hl : ds.length = ns.length ∧ ds.length ≤ 1000
      · rw [if_pos hl] at p
        intro vs H1 Hs1 g rs
        refine ⟨by rw [← rs.length]; exact hl.2, fun a haa => ⟨a, vs, by rw [List.append_nil], by rw [← rs.length]; exact hl.1, upd_same, fun d hd hne => ?_⟩⟩
        have hd1 : H1 d = none := by rw [upd_ne hne] at hd; exact hd
        refine ⟨rfl, d, (ns.zip vs).reverse, upd_same, by rw [upd_ne hne, upd_same], hd1, ?_⟩
        have eh : upd (del (upd (upd (upd H1 a (exo a (He.ga X.K n) none)) d (exd d (ns.zip vs).reverse)) a (exo a (He.ga X.K n) (some d))) a) d (.xd (ns.zip vs).reverse) = upd H1 d (.xd (ns.zip vs).reverse) := by
          funext b
          by_cases h1 : b = d
          · rw [h1, upd_same, upd_same]
          · rw [upd_ne h1, upd_ne h1]
            by_cases h2 : b = a
            · rw [h2, del_same, haa]
            · rw [del_ne h2, upd_ne h2, upd_ne h1, upd_ne h2]
        rw [eh]
        have g2 := g.trans (.new (o := .xd (ns.zip vs).reverse) g.sub hd1)
        exact p κ _ _ σ _ _ F hx (R.grow g2) g2.exs ⟨rfl, .inr ⟨d, _, rfl, upd_same, ((FReps.zip ns rs).reverse).mono (.new (g.sub.none hd1))⟩⟩
      · rw [if_neg hl] at p; exact p.elim
end

/-! ### try .. except .. as e -/
def SO.unset (i : Nat) : SO → SO
  | .nx ρ => .nx (ρ.set i none)
  | .bk ρ => .bk (ρ.set i none)
  | .ct ρ => .ct (ρ.set i none)
  | o => o
def sTry (errs : List Str) (i : Nat) (g h : Env → SO) : Env → SO := fun ρ => match g ρ with
  | .exc ρ' c fs => if c ∈ errs then (match h (ρ'.set i (some (.exc c fs))) with
    | .exc _ _ _ => .stuck
    | o => o.unset i) else .stuck
  | o => o
section
variable {X : Cx} {c : Cf} {κ κ' κb : List Kd}
theorem cs_try {base : Str} {errs : List Str} {us : List Ty} {fns : List Str} {n : Str} {i : Nat} {body suite : List Stmt} {b₀ : Stmt} {np pos pos' : Pos} {g h : Env → SO} (T : ErrK X.K base errs us fns) (hs : X.stack = X.env :: X.outer) (hf : X.env.frame = some X.env.locals) (hN : X.N.Nodup) (hi : X.N[i]? = some n) (hln : X.env.kindOf n = some .local) (hbase : Names X base (.ref (He.ga X.K base)))
    (tk : L2N.Takes X c.W) (hiκ : i < κb.length) (hki : kAt κ' i = .sh) (hkl : kAt c.κl i = .sh)
    (hb : ∀ (W : WX) (pn : List (Addr × Obj)) (xe : Value → Shared → Prop), L2N.Takes (X.tr pn xe) W → PassesOwn (model X.prog X.w) X.A X.env xe → CSs (X.tr pn xe) { c with W := W, κx := fun κ => κ = κb } κ κ' body g)
    (hsu : ∀ (a : Addr) (oe : Obj) (C : Addr) (d : Option Addr) (pn : List (Addr × Obj)), L2N.Zn (.ref C) d oe → (∃ vs, oe.data = .fields vs) → CSs (X.suite a ((a, oe) :: pn)) { c with W := WF, κx := fun _ => True } (κb.set i (.exc a d C)) κ' (b₀ :: suite) h) :
    CS X c κ κ' (.Try body [.ExceptHandler (some (.Name base np)) (some n) (b₀ :: suite) pos'] [] [] pos) (sTry errs i g h) := by
  have R0 := L2N.ps_try_as (X := X) (i := i) (np := np) (pos := pos) (pos' := pos') (Wout := c.W) (tb := fun W => tS X.K { c with W := W, κx := fun κ => κ = κb } κ κ' g) (ts := fun a cls d Dn σ H => ∃ C, cls = .ref C ∧ tS X.K { c with W := WF, κx := fun _ => True } (κb.set i (.exc a d C)) κ' h Dn σ H) hs hf hN hi hln hbase tk hb
    (fun a oe cls d pn hz hv => by
      cases cls with
      | ref C =>
        refine PSs.imp (hsu a oe C d pn hz hv) fun Dn σ H q => ?_
        obtain ⟨C', e, q⟩ := q
        cases e
        exact q
      | _ => exact ⟨fun pins s σ H Dn I q => by obtain ⟨C', e, _⟩ := q; cases e⟩)
  refine PS.imp R0 fun Dn σ H q => ?_
  obtain ⟨S, H0, Hs0, ρ, Hs, F, hS, R, p⟩ := q
  refine ⟨S, H0, Hs0, ρ, Hs, F, hS, R, ?_⟩
  unfold sTry at p
  cases eg : g ρ with
  | stuck => rw [eg] at p; exact p
  | nx ρ' => rw [eg] at p; exact p
  | rt d => rw [eg] at p; exact p
  | bk ρ' => rw [eg] at p; exact p
  | ct ρ' => rw [eg] at p; exact p
  | exc ρ' x fs =>
    rw [eg] at p
    dsimp only at p
    by_cases hx : x ∈ errs
    · rw [if_pos hx] at p
      intro κ'' cls dx σ' H' Hs' F' hk R' e' xr
      subst hk
      obtain ⟨rfl, xr2⟩ := xr
      refine ⟨true, T.exm x hx, fun _ a ha => ?_, fun z => by cases z⟩
      have q : Res X.K (.exc a dx (He.ga X.K x)) (.exc x fs) (.ref a) H' Hs' H' := ⟨Hs', [], .refl R'.sub, List.nodup_nil, (fun _ z => nomatch z), rfl, rfl, x, fs, rfl, rfl, xr2⟩
      obtain ⟨Hs1, F1, R1, e1⟩ := R'.put hiκ q
      refine ⟨_, rfl, S, H0, Hs0, _, Hs1, F1, hS, R1, ?_⟩
      have ee := e'.trans e1
      cases eh : h (ρ'.set i (some (.exc x fs))) with
      | stuck => rw [eh] at p; exact p
      | nx ρ2 => rw [eh] at p; exact fun σ2 H2 Hs2 F2 R2 e2 => p _ H2 Hs2 F2 (R2.unset i) (ee.trans e2)
      | bk ρ2 => rw [eh] at p; exact fun σ2 H2 Hs2 F2 R2 e2 => p _ H2 Hs2 F2 (R2.unset i) (ee.trans e2)
      | ct ρ2 => rw [eh] at p; exact fun σ2 H2 Hs2 F2 R2 e2 => p _ H2 Hs2 F2 (R2.unset i) (ee.trans e2)
      | rt d => rw [eh] at p; exact p
      | exc ρ2 y gs => rw [eh] at p; exact p.elim
    · rw [if_neg hx] at p; exact p.elim
end
end T

set_option Elab.async false
set_option linter.all false
set_option maxRecDepth 100000
set_option maxHeartbeats 2000000
/-! TA: what a suite asks of its error; calls within a suite; texts; tables of the top; own == and len; keywords. -/
namespace T
open PySem L2

/-! ### the caught error -/
section
variable {X : Cx} {κ : List Kd} {W : WX} {base : Str} {errs : List Str} {us : List Ty} {fns : List Str} {a C : Addr} {d : Option Addr} {oe : Obj} {pn : List (Addr × Obj)}
theorem Rel.caught {K : PySem.W.Frag} {S : List Addr} {H0 Hs0 : Hp} {ρ : Env} {σ : L2.St} {H Hs : Hp} {F : Foot} (R : Rel K S H0 Hs0 κ ρ σ H Hs F) {i : Nat} {c : Str} {fs : List (Str × D)} (hk : kAt κ i = .exc a d C) (e : ρ[i]? = some (some (.exc c fs))) :
    σ[i]? = some (some (.ref a)) ∧ C = He.ga K c ∧ ((fs = [] ∧ d = none) ∨ ∃ dd vfs, d = some dd ∧ H dd = some (.xd vfs) ∧ FReps K Hs fs vfs) := by
  obtain ⟨v, h1, h2⟩ := R.sl i _ e
  rw [hk] at h2
  obtain ⟨rfl, _, c', fs', h3, h4, h5⟩ := h2
  cases h3
  refine ⟨h1, by injection h4, h5.imp (fun z => z) fun ⟨dd, vfs, z1, z2, z3⟩ => ⟨dd, vfs, z1, R.sub _ _ z2, z3⟩⟩
def mXf (errs fns : List Str) (i : Nat) (f : Str) : Env → O D := fun ρ => match ρ[i]? with
  | some (some (.exc c fs)) => if c ∈ errs ∧ f ∈ fns then (match fs.lookup f with
    | some z => .ok z
    | none => .stuck) else .stuck
  | _ => .stuck
theorem ce_xf (i : Nat) {x f : Str} {p pos : Pos} (T : ErrK X.K base errs us fns) (hz : L2N.Zn (.ref C) d oe) (hv : ∃ vs, oe.data = .fields vs) (hk : kAt κ i = .exc a d C) (hp : PE (X.suite a ((a, oe) :: pn)) (.Name x p) (tVar i)) :
    CE (X.suite a ((a, oe) :: pn)) W κ .sh (.Attribute (.Name x p) f pos) (mXf errs fns i f) := by
  refine ⟨fun pins s σ H Q I h => ?_⟩
  obtain ⟨S, H0, Hs0, ρ, Hs, F, R, q⟩ := h
  unfold mXf at q
  split at q
  · rename_i c fs e
    by_cases hc : c ∈ errs ∧ f ∈ fns
    · rw [if_pos hc] at q
      split at q
      · rename_i z hl
        obtain ⟨h1, h2, h3⟩ := R.caught hk e
        rcases h3 with ⟨h3, _⟩ | ⟨dd, vfs, h4, h5, h6⟩
        · rw [h3] at hl; cases hl
        · obtain ⟨v, h7, h8⟩ := h6.get hl
          subst h2
          refine (pe_xf (cls := .ref (He.ga X.K c)) (T.xf c hc.1) (T.no c hc.1 f hc.2) hz.zc hv hp).run pins s σ H Q I ⟨_, h1, rfl, rfl, dd, vfs, v, h4, h5, h7, ?_⟩
          exact q v H (.sh (.refl R.sub) h8)
      · exact q.elim
    · rw [if_neg hc] at q; exact q.elim
  · exact q.elim
/-- isinstance(e, T) -/
def rXis (K : PySem.W.Frag) (C a : Addr) (d : Option Addr) : List V → Hp → VK → Prop := fun xs H Q => ∃ (c : V) (cv : Value) (b : Bool), xs = [.ref a, c] ∧ (∀ u, RelV c u → u = cv) ∧ (d = none ∨ ∃ dd vfs, d = some dd ∧ H dd = some (.xd vfs)) ∧ PySem.W.kitOne K (.ref C) cv = some b ∧ Q (.bl b) H
theorem call_xis {c : Str} (T : ErrK X.K base errs us fns) (hc : c ∈ errs) (hz : L2N.Zn (.ref (He.ga X.K c)) d oe) (hv : ∃ vs, oe.data = .fields vs) : CallR (X.suite a ((a, oe) :: pn)) (.builtin "isinstance") (rXis X.K (He.ga X.K c) a d) := by
  intro pins s σ H xs vs Q I r h
  obtain ⟨ct, cv, b, rfl, hcv, hd, e, q⟩ := h
  cases r with
  | cons rx rr =>
    cases rr with
    | cons rt rr =>
      cases rr
      cases rx
      have ec := hcv _ rt
      subst ec
      obtain ⟨hget, _⟩ := I.pin (a, oe) (List.mem_append.mpr (.inl List.mem_cons_self))
      obtain ⟨fv, hfv⟩ := hv
      have J : ∃ od, PySem.W.InstAt s.heap a oe (He.ga X.K c) od := by
        rcases hd with hd | ⟨dd, vfs, hd, hx⟩
        · exact ⟨none, hget, hz.1, by unfold PySem.W.notCls; rw [hfv] <;> rfl, by rw [hz.2.1, hd]; trivial⟩
        · have hok : ObjOk X.prog X.w H s.heap dd (.xd vfs) := I.hok dd _ hx
          obtain ⟨mA, hns, hr⟩ := hok
          obtain ⟨od, ho, hl⟩ := lookIn_ns hns
          exact ⟨some od, hget, hz.1, by unfold PySem.W.notCls; rw [hfv] <;> rfl, by rw [hz.2.1, hd]; exact ho⟩
      obtain ⟨od, J⟩ := J
      exact PySem.W.kia_one (PySem.W.kitx_exc (T.hcl c hc) (T.xf c hc).ga (T.xf c hc).gg (T.xf c hc).exC (T.ob c hc).1 T.spc T.tak (T.ob c hc).2) I.kIn J e (fun z => nomatch z) fun tk => ⟨.bl b, H, I.kept (t' := tk) fun _ _ z => z, rfl, q⟩
def mXis (base : Str) (errs : List Str) (us : List Ty) (i : Nat) (u : Ty) : Env → O D := fun ρ => match ρ[i]? with
  | some (some (.exc c _)) => if c ∈ errs ∧ u ∈ us then .ok (.bl (xis base c u)) else .stuck
  | _ => .stuck
theorem ce_xis (i : Nat) {x : Str} {ce : Expr} {p0 p pos : Pos} {u : Ty} (TT : ErrK X.K base errs us fns) (hz : L2N.Zn (.ref C) d oe) (hv : ∃ vs, oe.data = .fields vs) (hk : kAt κ i = .exc a d C) (hg : Gl (X.suite a ((a, oe) :: pn)) "isinstance") (hm : X.mg "isinstance" = none) (hp : PE (X.suite a ((a, oe) :: pn)) (.Name x p0) (tVar i)) (hc : PE (X.suite a ((a, oe) :: pn)) ce (tC (u.w X.K)))
    (he : starEach [.Name x p0, ce] (X.suite a ((a, oe) :: pn)).env = (false, eval (.Name x p0) (X.suite a ((a, oe) :: pn)).env) :: starEach [ce] (X.suite a ((a, oe) :: pn)).env := by rfl) (he2 : starEach [ce] (X.suite a ((a, oe) :: pn)).env = (false, eval ce (X.suite a ((a, oe) :: pn)).env) :: starEach [] (X.suite a ((a, oe) :: pn)).env := by rfl)
    (hpl : (backTo pos (starEach [ce] (X.suite a ((a, oe) :: pn)).env)).any (·.1) = false := by rfl) : CE (X.suite a ((a, oe) :: pn)) W κ .sh (.Call (.Name "isinstance" p) [.Name x p0, ce] [] pos) (mXis base errs us i u) := by
  refine ⟨fun pins s σ H Q I h => ?_⟩
  obtain ⟨S, H0, Hs0, ρ, Hs, F, R, q⟩ := h
  unfold mXis at q
  split at q
  · rename_i c fs e
    by_cases hcc : c ∈ errs ∧ u ∈ us
    · rw [if_pos hcc] at q
      obtain ⟨h1, h2, h3⟩ := R.caught hk e
      subst h2
      refine (pe_callB (call_xis TT hcc.1 hz hv) hg hm (by decide +kernel) (pa_cons hp (pa_cons hc pa_nil he2) he) (by decide) (by decide) he hpl).run pins s σ H Q I ?_
      refine ⟨_, h1, u.w X.K, u.v X.K, _, rfl, fun z hz => ?_, h3.imp (·.2) fun ⟨dd, vfs, z1, z2, _⟩ => ⟨dd, vfs, z1, z2⟩, TT.one c hcc.1 u hcc.2, q _ _ (.sh (.refl R.sub) (.bl _))⟩
      cases u with
      | b n => exact hz
      | o c => exact hz
    · rw [if_neg hcc] at q; exact q.elim
  · exact q.elim
end

/-! ### a def that is called within a suite -/
def CalleeH (P : Program) (w : World) (K : PySem.W.Frag) (mg : Str → Option Value) (base : Heap) (x : Str) (k : Nat) (m : List D → O D) (rr : Kd) : Prop :=
  ∃ (f : Addr) (fd : FuncData) (ps : List Str), mg x = some (.ref f) ∧ PySem.W.keepIn K (.ref f) = true ∧ L2H.FnH P w K mg base (L2N.CX P w) k f fd ps (spM K [] m rr) ∧ Binds K fd ps []
section
variable {P : Program} {w : World} {K : PySem.W.Frag} {mg : Str → Option Value} {base : Heap} {x qual : Str} {params : Arguments} {body : List Stmt} {scope : Scope} {f : Addr} {fd : FuncData}
theorem def_okH {N ps : List Str} {k : Nat} {rr : Kd} {κ κ' : List Kd} {g : Env → SO} (F : FunD K x qual params body scope [] [] f fd) (S : FnScope N ps scope) (hκ : ∀ i, kAt κ i = .sh)
    (hb : ∀ (cdv : Value) (A : Around) (outer : List PySem.Env) (s : Shared) (H : Hp) (E : XK) (p : Addr × Obj), L2H.Hot1 A p → L2H.RoomH k (A.deeper (PyProof.Rows.envOfC qual scope s.heap.objs.size f cdv)) →
      CSs (L2H.cxH (L2N.CX P w) P w K mg base N qual scope f cdv A outer s H E p) (cDef E rr) κ κ' body g) : L2H.FnH P w K mg base (L2N.CX P w) (k + 1) f fd ps (spM K [] (mDef N.length ps.length rr g) rr) := by
  obtain ⟨oc, od, dV, kV, doc, pm, an, cdv, ct, osl, rfl, lk, hcd, _, _⟩ := F.ex
  refine L2H.fn_ofH lk hcd S (fun vs H Q E h => by have e := spM_len ar_def h; rw [e]; rfl) fun A outer s H vs Q E p hot hr h => ⟨_, hb cdv A outer s H E p hot hr, ?_⟩
  obtain ⟨Hs, ds, sub, r, q⟩ := h
  rw [List.append_nil] at r
  refine ⟨[], H, Hs, startD N.length ds, Hs, fun _ => [], fun _ => rfl, rel_start hκ sub r, ?_⟩
  unfold mDef at q
  by_cases hl : ds.length = ps.length
  · rw [if_pos hl] at q
    cases e : g (startD N.length ds) with
    | stuck => rw [e] at q; exact q
    | bk ρ => rw [e] at q; exact q.elim
    | ct ρ => rw [e] at q; exact q.elim
    | rt d => rw [e] at q; exact q
    | nx ρ =>
      rw [e] at q
      unfold endD at q
      dsimp only at q
      by_cases hrr : rr = .sh
      · rw [if_pos hrr] at q
        subst hrr
        exact fun σ' H' Hs' F' R' x => q .non H' (.sh R'.all .non)
      · rw [if_neg hrr] at q; exact q.elim
    | exc ρ c fs =>
      rw [e] at q
      exact fun κ'' cls dx σ' H' Hs' F' _ R' x xr => q cls dx H' ⟨Hs', R'.all, xr⟩
  · rw [if_neg hl] at q; exact q.elim
end
section
variable {X : Cx} {W : WX} {κ : List Kd}
theorem ce_callH {x : Str} {k : Nat} {m : List D → O D} {rr : Kd} {p pos : Pos} {e : Expr} {es : List Expr} {f : Env → O (List D)} (C : CalleeH X.prog X.w X.K X.mg X.base x k m rr) (hr : L2H.RoomH k X.A) (hc : L2H.HotC X) (tk : L2N.Takes X W) (hg : Gl X x) (ha : CA X W κ (e :: es) f)
    (hdb : (x == ("__debug__" : Str)) = false := by decide) (he : starEach (e :: es) X.env = (false, eval e X.env) :: starEach es X.env := by rfl) (hpl : (backTo pos (starEach es X.env)).any (·.1) = false := by rfl) : CE X W κ rr (.Call (.Name x p) (e :: es) [] pos) (mApp m f) := by
  obtain ⟨fa, fd, ps, hm, hk, F, hb⟩ := C
  refine PE.imp (L2H.pe_callH (E := fun σ => WE W σ) F hr hc hg hm hk hb (fun σ => L2N.passAt tk σ) ha hdb he hpl) fun σ H Q q => ?_
  have z := app_run (dvs := []) (E := WE W σ) (fun _ _ _ h => h) (fun _ => .nil) q
  obtain ⟨S, H0, Hs0, ρ, Hs, F, R, p⟩ := z
  refine ⟨S, H0, Hs0, ρ, Hs, F, R, ?_⟩
  cases ef : f ρ with
  | stuck => rw [ef] at p; exact p
  | exc c fs => rw [ef] at p; exact p
  | ok ds =>
    rw [ef] at p
    intro vs H' Hs' g rs
    have q2 : spM X.K [] m rr (vs ++ []) H' Q (WE W σ) := p vs H' Hs' g rs
    rw [List.append_nil] at q2
    exact q2
theorem hotC_suite {a C : Addr} {d : Option Addr} {oe : Obj} {pn : List (Addr × Obj)} (hz : L2N.Zn (.ref C) d oe) (hv : ∃ vs, oe.data = .fields vs) : L2H.HotC (X.suite a ((a, oe) :: pn)) := by
  obtain ⟨vs, hv⟩ := hv
  exact ⟨(a, oe), ⟨rfl, vs, hv, hz.2.2 vs hv⟩, List.mem_cons_self⟩
theorem takes_suite {a : Addr} {pn : List (Addr × Obj)} : L2N.Takes (X.suite a pn) WF := fun u s' h => by
  obtain ⟨_, _, _, _, _, _, _, _, _, _, _, _, _, _, _, _, z⟩ := h
  exact z.elim
def isSh : Kd → Bool
  | .sh => true
  | _ => false
theorem isSh_ok {k : Kd} (h : isSh k = true) : k = .sh := by cases k <;> first | rfl | cases h
theorem slots_sh {κ : List Kd} {is : List Nat} (h : is.all (fun i => isSh (kAt κ i)) = true) : ∀ i ∈ is, kAt κ i = .sh := fun i hi => isSh_ok (List.all_eq_true.mp h i hi)
theorem slots_own {κ : List Kd} {is own : List Nat} (h : is.all (fun i => own.contains i && isSh (kAt κ i)) = true) : ∀ i ∈ is, i ∈ own ∧ kAt κ i = .sh := fun i hi => by
  have := List.all_eq_true.mp h i hi
  rw [Bool.and_eq_true] at this
  exact ⟨by simpa using this.1, isSh_ok this.2⟩
theorem q64 {n : Nat} (h : n + 65 < cLine) : n + 64 < cLine := by omega
theorem u65H {k : Nat} {A : Around} (hr : L2H.RoomH k A) : A.units + 65 < cLine := by have := hr.un; omega

/-! ### tests that read lists of their own -/
def mFlatT (f : Env → O Bool) : Env → O Bool := fun ρ => match f ρ with
  | .ok b => .ok b
  | _ => .stuck
theorem ct_borrow {e : Expr} {f : Env → O Bool} (h : CT X W [] e f) : CT X W κ e (mFlatT f) :=
  PT.imp h fun σ H Q q => by
    obtain ⟨S, H0, Hs0, ρ, Hs, F, R, p⟩ := q
    refine ⟨[], H, H, ρ, H, fun _ => [], R.open_ kAt_nil, ?_⟩
    unfold mFlatT at p
    cases e : f ρ with
    | stuck => rw [e] at p; exact p
    | ok b =>
      rw [e] at p
      exact fun H' Hs' g => p H' Hs ⟨g.ex, .refl _, R.sub.trans g.ex, fun a o e n => by rw [e] at n; cases n⟩
    | exc c fs => rw [e] at p; exact p.elim
/-- tuple(xs), xs a list of its own -/
def mTupO (i : Nat) : Env → O D := fun ρ => match ρ[i]? with
  | some (some (.lst ds)) => .ok (.tup ds)
  | _ => .stuck
theorem own_reps {K : PySem.W.Frag} {H Hs : Hp} {ds : List D} {vs : List V} {Fs : List (List Addr)} (h : All3 (Own K .sh H Hs) ds vs Fs) : Reps K Hs ds vs := by
  induction h with
  | nil => exact .nil
  | cons q _ ih => exact .cons q.1 ih
theorem ce_tupO (i : Nat) {x : Str} {p0 p pos : Pos} (hg : Gl X "tuple") (hm : X.mg "tuple" = none) (hk : kAt κ i = .ls .sh) (hp : PE X (.Name x p0) (tVar i))
    (he : starEach [.Name x p0] X.env = (false, eval (.Name x p0) X.env) :: starEach [] X.env := by rfl) (hpl : (backTo pos (starEach [] X.env)).any (·.1) = false := by rfl) : CE X W κ .sh (.Call (.Name "tuple" p) [.Name x p0] [] pos) (mTupO i) :=
  PE.imp (pe_callTy call_tuple_of hg hm (by decide +kernel) (pa_cons hp pa_nil he) (by decide) (by decide) he hpl) fun σ H Q q => by
    obtain ⟨S, H0, Hs0, ρ, Hs, F, R, p⟩ := q
    unfold mTupO at p
    split at p
    · rename_i ds e
      obtain ⟨a, vs, Fs, hv, ha, hF, al⟩ := R.own e hk
      exact ⟨_, hv, a, vs, rfl, .inl ⟨SqL.of ha, fun l hl => p _ _ (.tuple R.sub (own_reps al) hl)⟩⟩
    · exact p.elim

/-! ### methods of texts -/
def MetSem (K : PySem.W.Frag) (r : V → List V → Hp → VK → Prop) (rr : Kd) (o : D → List D → O D) : Prop :=
  ∀ (H Hs : Hp) (d : D) (ds : List D) (z : D) (x : V) (vs : List V) (Q : VK), Ext Hs H → Rep K Hs d x → Reps K Hs ds vs → o d ds = .ok z → (∀ v H', Res K rr z v H Hs H' → Q v H') → r x vs H Q
def isStr : D → Bool
  | .str _ => true
  | _ => false
def mM0 (o : D → List D → O D) (f : Env → O D) : Env → O D := fun ρ => f ρ >>= fun x => if isStr x = true then noX (o x []) else .stuck
def mM1 (o : D → List D → O D) (f g : Env → O D) : Env → O D := fun ρ => f ρ >>= fun x => if isStr x = true then g ρ >>= fun y => noX (o x [y]) else .stuck
theorem isStr_V {K : PySem.W.Frag} {H : Hp} {d : D} {v : V} (r : Rep K H d v) (h : isStr d = true) : ∃ a, v = .str a := by
  cases r <;> first | exact ⟨_, rfl⟩ | cases h
theorem ce_m0 {id : String} {name : Str} {apos pos : Pos} {r : V → List V → Hp → VK → Prop} {rr : Kd} {o : D → List D → O D} {e : Expr} {f : Env → O D} (hs : MetSem X.K r rr o) (slot : Slot "str" name id) (ty : typeOf (.builtin id) = pure (.type "method_descriptor")) (rule : MtR X id r) (ho : CE X W κ .sh e f)
    (hbase : attributeBase e name X.env (eval e X.env) = eval e X.env := by rfl) (hline : (apos.endLine == pos.line) = true := by rfl) : CE X W κ rr (.Call (.Attribute e name apos) [] [] pos) (mM0 o f) :=
  PE.imp (pe_m0 slot ty rule ho hbase hline) fun σ H Q q => by
    obtain ⟨S, H0, Hs0, ρ, Hs, F, R, p⟩ := q
    refine step R p fun d v H1 Hs1 _ g1 R1 rd p1 => ?_
    by_cases hd : isStr d = true
    · rw [if_pos hd] at p1
      refine ⟨isStr_V rd hd, ?_⟩
      cases e : o d [] with
      | stuck => rw [e] at p1; exact p1.elim
      | exc c fs => rw [e] at p1; exact p1.elim
      | ok z => rw [e] at p1; exact hs H1 Hs1 d [] z v [] Q R1.sub rd .nil e p1
    · rw [if_neg hd] at p1; exact p1.elim
theorem ce_m1 {id : String} {name : Str} {apos pos : Pos} {r : V → List V → Hp → VK → Prop} {rr : Kd} {o : D → List D → O D} {e e1 : Expr} {f g : Env → O D} (hs : MetSem X.K r rr o) (slot : Slot "str" name id) (ty : typeOf (.builtin id) = pure (.type "method_descriptor")) (rule : MtR X id r) (ho : CE X W κ .sh e f) (h1 : CE X W κ .sh e1 g)
    (hst : starEach [e1] X.env = [(false, eval e1 X.env)] := by rfl) (hbase : attributeBase e name X.env (eval e X.env) = eval e X.env := by rfl) (hline : (apos.endLine == pos.line) = true := by rfl) : CE X W κ rr (.Call (.Attribute e name apos) [e1] [] pos) (mM1 o f g) :=
  PE.imp (pe_m1 slot ty rule ho h1 hst hbase hline) fun σ H Q q => by
    obtain ⟨S, H0, Hs0, ρ, Hs, F, R, p⟩ := q
    refine step R p fun d v H1 Hs1 _ g1 R1 rd p1 => ?_
    by_cases hd : isStr d = true
    · rw [if_pos hd] at p1
      refine ⟨isStr_V rd hd, step R1 p1 fun y u H2 Hs2 _ g2 R2 ry p2 => ?_⟩
      cases e : o d [y] with
      | stuck => rw [e] at p2; exact p2.elim
      | exc c fs => rw [e] at p2; exact p2.elim
      | ok z => rw [e] at p2; exact hs H2 Hs2 d [y] z v [u] Q R2.sub (rd.mono g2.exs) (.cons ry .nil) e p2
    · rw [if_neg hd] at p1; exact p1.elim
def dSplit (d : D) (ds : List D) : O D := match d, ds with
  | .str a, [.str b] => if (b.length == 0) = false ∧ a.length + 2 ≤ sizeLine then .ok (.lst ((Txt.split a b).map .str)) else .stuck
  | _, _ => .stuck
theorem sem_split {K : PySem.W.Frag} : MetSem K (fun x xs H Q => ∃ a b, x = .str a ∧ xs = [.str b] ∧ (b.length == 0) = false ∧ a.length + 2 ≤ sizeLine ∧ rNewStrs (Txt.split a b) H Q) (.ls .sh) dSplit := fun H Hs d ds z x vs Q sub rd rs hz q => by
  unfold dSplit at hz
  split at hz
  · cases rd
    cases rs with | cons r1 r2 =>
      cases r2
      cases r1
      split at hz
      · rename_i hc
        cases hz
        exact ⟨_, _, rfl, rfl, hc.1, hc.2, fun p hp => q _ _ (.list sub (Reps.ofStrs _) hp)⟩
      · cases hz
  · cases hz
theorem MetSem.share {K : PySem.W.Frag} {r : V → List V → Hp → VK → Prop} {k : Kd} {o : D → List D → O D} (h : MetSem K r k o) : MetSem K r .sh o := fun H Hs d ds z x vs Q sub rd rs hz q => h H Hs d ds z x vs Q sub rd rs hz fun v H' r => q v H' r.share
def strsOf : List D → Option (List Str)
  | [] => some []
  | .str i :: r => (strsOf r).map fun l => i :: l
  | _ :: _ => none
theorem strsOf_eq : ∀ {ds : List D} {ns : List Str}, strsOf ds = some ns → ds = ns.map D.str
  | [], _, h => by cases h; rfl
  | d :: r, ns, h => by
    cases d with
    | str i =>
      unfold strsOf at h
      cases e : strsOf r with
      | none => rw [e] at h; cases h
      | some l => rw [e] at h; cases h; rw [strsOf_eq e]; rfl
    | _ => cases h
@[simp] theorem strsOf_map (ns : List Str) : strsOf (ns.map D.str) = some ns := by
  induction ns with
  | nil => rfl
  | cons n ns ih => rw [List.map_cons, strsOf, ih]; rfl
def joinS (a : Str) (xs : List D) : O D := match strsOf xs with
  | some ys => if (ys.map (·.length)).sum + ys.length * a.length ≤ 16777216 then .ok (.str (Txt.join a ys)) else .stuck
  | none => .stuck
def dJoin (d : D) (ds : List D) : O D := match d, ds with
  | .str a, [.lst xs] => joinS a xs
  | .str a, [.tup xs] => joinS a xs
  | _, _ => .stuck
theorem sem_join {K : PySem.W.Frag} : MetSem K (fun x xs H Q => ∃ a p, ∃ ys : List Str, x = .str a ∧ xs = [.ref p] ∧ (SqL K H p (ys.map V.str) ∨ SqT K H p (ys.map V.str)) ∧ (ys.map (·.length)).sum + ys.length * a.length ≤ 16777216 ∧ Q (.str (Txt.join a ys)) H) .sh dJoin := fun H Hs d ds z x vs Q sub rd rs hz q => by
  unfold dJoin at hz
  split at hz
  · cases rd
    cases rs with | cons r1 r2 =>
      cases r2
      cases r1 with | lst h r =>
        unfold joinS at hz
        split at hz
        · rename_i ys e
          split at hz
          · rename_i hl
            cases hz
            rw [strsOf_eq e] at r
            rw [Reps.strs r] at h
            exact ⟨_, _, ys, rfl, rfl, .inl (SqL.of (sub _ _ h)), hl, q _ _ (.sh (.refl sub) (.str _))⟩
          · cases hz
        · cases hz
  · cases rd
    cases rs with | cons r1 r2 =>
      cases r2
      cases r1 with | tup h r =>
        unfold joinS at hz
        split at hz
        · rename_i ys e
          split at hz
          · rename_i hl
            cases hz
            rw [strsOf_eq e] at r
            rw [Reps.strs r] at h
            exact ⟨_, _, ys, rfl, rfl, .inr (sub.sqt h), hl, q _ _ (.sh (.refl sub) (.str _))⟩
          · cases hz
        · cases hz
  · cases hz
def dUpper (d : D) (ds : List D) : O D := match d, ds with
  | .str a, [] => if a.length ≤ 5592405 then .ok (.str (Txt.upper a)) else .stuck
  | _, _ => .stuck
theorem sem_upper {K : PySem.W.Frag} : MetSem K (fun x xs H Q => ∃ a, x = .str a ∧ xs = [] ∧ a.length ≤ 5592405 ∧ Q (.str (Txt.upper a)) H) .sh dUpper := fun H Hs d ds z x vs Q sub rd rs hz q => by
  unfold dUpper at hz
  split at hz
  · cases rd
    cases rs
    split at hz
    · rename_i hl
      cases hz
      exact ⟨_, rfl, rfl, hl, q _ _ (.sh (.refl sub) (.str _))⟩
    · cases hz
  · cases hz
def dStarts (d : D) (ds : List D) : O D := match d, ds with
  | .str a, [.str b] => .ok (.bl (Txt.startswith a b))
  | _, _ => .stuck
theorem sem_starts {K : PySem.W.Frag} : MetSem K (fun x xs H Q => ∃ a b, x = .str a ∧ xs = [.str b] ∧ Q (.bl (Txt.startswith a b)) H) .sh dStarts := fun H Hs d ds z x vs Q sub rd rs hz q => by
  unfold dStarts at hz
  split at hz
  · cases rd
    cases rs with | cons r1 r2 =>
      cases r2
      cases r1
      cases hz
      exact ⟨_, _, rfl, rfl, q _ _ (.sh (.refl sub) (.bl _))⟩
  · cases hz

/-! ### methods of lists that change nothing -/
def isLst : D → Bool
  | .lst _ => true
  | _ => false
def mL1 (o : D → List D → O D) (f g : Env → O D) : Env → O D := fun ρ => f ρ >>= fun x => if isLst x = true then g ρ >>= fun y => noX (o x [y]) else .stuck
theorem isLst_V {K : PySem.W.Frag} {H Hs : Hp} {d : D} {v : V} (sub : Ext Hs H) (r : Rep K Hs d v) (h : isLst d = true) : tyV K "list" v H := by
  cases r with
  | lst h1 r1 => exact isList (sub _ _ h1)
  | _ => cases h
theorem ce_l1 {id : String} {name : Str} {apos pos : Pos} {r : V → List V → Hp → VK → Prop} {rr : Kd} {o : D → List D → O D} {e e1 : Expr} {f g : Env → O D} (hs : MetSem X.K r rr o) (slot : Slot "list" name id) (ty : typeOf (.builtin id) = pure (.type "method_descriptor")) (rule : MtR X id r) (ho : CE X W κ .sh e f) (h1 : CE X W κ .sh e1 g)
    (ht : PE X (.Call (.Attribute e name apos) [e1] [] pos) (tBM X.K "list" r (tE X.K W κ .sh f) (tCons (tE X.K W κ .sh g) tNil))) : CE X W κ rr (.Call (.Attribute e name apos) [e1] [] pos) (mL1 o f g) :=
  PE.imp ht fun σ H Q q => by
    obtain ⟨S, H0, Hs0, ρ, Hs, F, R, p⟩ := q
    refine step R p fun d v H1 Hs1 _ g1 R1 rd p1 => ?_
    by_cases hd : isLst d = true
    · rw [if_pos hd] at p1
      refine ⟨isLst_V R1.sub rd hd, step R1 p1 fun y u H2 Hs2 _ g2 R2 ry p2 => ?_⟩
      cases e : o d [y] with
      | stuck => rw [e] at p2; exact p2.elim
      | exc c fs => rw [e] at p2; exact p2.elim
      | ok z => rw [e] at p2; exact hs H2 Hs2 d [y] z v [u] Q R2.sub (rd.mono g2.exs) (.cons ry .nil) e p2
    · rw [if_neg hd] at p1; exact p1.elim
def eqF : D → D → Bool
  | .non, .non => true
  | .bl a, .bl b => a == b
  | .bl a, .int b => (if a then 1 else 0) == b
  | .int a, .bl b => a == (if b then 1 else 0)
  | .int a, .int b => a == b
  | .str a, .str b => a == b
  | _, _ => false
theorem eqF_V {K : PySem.W.Frag} {H : Hp} {d e : D} {x y : V} (rd : Rep K H d x) (re : Rep K H e y) (hd : d.flat = true) (he : e.flat = true) : eqV x y = eqF d e := by
  cases rd <;> cases re <;> first | rfl | (cases hd; done) | (cases he; done)
def idxF (y : D) : List D → Nat → Option Nat
  | [], _ => none
  | x :: xs, n => if eqF x y = true then some n else idxF y xs (n + 1)
theorem idxF_ok {y : D} : ∀ {xs : List D} {n j : Nat}, idxF y xs n = some j → n ≤ j ∧ (∃ z, xs[j - n]? = some z ∧ eqF z y = true) ∧ ∀ m z, m < j - n → xs[m]? = some z → eqF z y = false
  | [], _, _, h => by cases h
  | x :: xs, n, j, h => by
    unfold idxF at h
    by_cases e : eqF x y = true
    · rw [if_pos e] at h
      cases h
      refine ⟨Nat.le_refl _, ⟨x, by simp, e⟩, fun m z hm => by omega⟩
    · rw [if_neg e] at h
      obtain ⟨h1, ⟨z, h2, h3⟩, h4⟩ := idxF_ok h
      refine ⟨by omega, ⟨z, ?_, h3⟩, fun m z hm hz => ?_⟩
      · rw [show j - n = (j - (n + 1)) + 1 by omega, List.getElem?_cons_succ]; exact h2
      · cases m with
        | zero => simp at hz; subst hz; exact Bool.eq_false_iff.mpr e
        | succ m => exact h4 m z (by omega) (by simpa using hz)
def dIndex (d : D) (ds : List D) : O D := match d, ds with
  | .lst xs, [y] => if y.flat = true ∧ xs.all D.flat = true then (match idxF y xs 0 with
    | some j => .ok (.int (j : Nat))
    | none => .stuck) else .stuck
  | _, _ => .stuck
theorem sem_index {K : PySem.W.Frag} : MetSem K (rIndex K) .sh dIndex := fun H Hs d ds z x vs Q sub rd rs hz q => by
  unfold dIndex at hz
  split at hz
  · rename_i xs y
    cases rs with | cons r1 r2 =>
      cases r2
      cases rd with | lst h r =>
        split at hz
        · rename_i hc
          split at hz
          · rename_i j e
            cases hz
            obtain ⟨_, ⟨w, h2, h3⟩, h4⟩ := idxF_ok e
            rw [Nat.sub_zero] at h2 h4
            obtain ⟨v, h5, h6⟩ := r.get h2
            have hfl : ∀ {d : D}, d ∈ xs → d.flat = true := fun hd => List.all_eq_true.mp hc.2 _ hd
            refine ⟨_, _, _, j, v, rfl, rfl, SqL.of (sub _ _ h), flat_V r1 hc.1, flat_Vs r hc.2, h5, ?_, fun m z' hm hz' => ?_, q _ _ (.sh (.refl sub) (.int _))⟩
            · rw [eqF_V h6 r1 (hfl (List.mem_of_getElem? h2)) hc.1]; exact h3
            · obtain ⟨w', h7, h8⟩ := r.getV hz'
              rw [eqF_V h8 r1 (hfl (List.mem_of_getElem? h7)) hc.1]
              exact h4 m w' hm h7
          · cases hz
        · cases hz
  · cases hz
/-! list.count of flat items -/
def fvV : Value → V
  | .none => .non
  | .bool b => .bl b
  | .int i _ => .int i
  | .str s _ => .str s
  | _ => .non
theorem fvV_eq {v : V} {u : Value} (r : RelV v u) (h : flatV v = true) : fvV u = v := by
  cases v with
  | non => cases (show u = Value.none from r); rfl
  | bl b => cases (show u = Value.bool b from r); rfl
  | int i => obtain ⟨t, e⟩ := (show ∃ t, u = Value.int i t from r); cases e; rfl
  | str i => obtain ⟨t, e⟩ := (show ∃ t, u = Value.str i t from r); cases e; rfl
  | _ => cases h
def rCntF (K : PySem.W.Frag) : V → List V → Hp → VK → Prop := fun x xs H Q => ∃ (p : Addr) (ys : List V) (y : V), x = .ref p ∧ xs = [y] ∧ SqL K H p ys ∧ flatV y = true ∧ ys.all flatV = true ∧ Q (.int (ys.countP fun z => eqV z y : Nat)) H
theorem mt_cntF : MtR X "list.count" (rCntF X.K) := by
  intro pins s σ H x xs v us Q I rx rxs h
  obtain ⟨p, ys, y, rfl, rfl, hs, fy, fys, q⟩ := h
  cases rx
  obtain ⟨u, rfl, ru⟩ := rxs.one
  obtain ⟨its, rv, ⟨⟨cls, dd, data, sl⟩, n, ho, hc, hdn, hd⟩, hlen⟩ := I.list hs
  simp only at hc hd
  subst hc hd
  have cnt : ∀ {ys : List V} {its : List Value}, Vals ys its → ys.all flatV = true → its.countP (fun u => eqV (fvV u) y) = ys.countP fun z => eqV z y := by
    intro ys
    induction ys with
    | nil => intro its r _; cases r; rfl
    | cons z zs ih =>
      intro its r hf
      cases r with
      | cons r1 r2 =>
        rw [List.all_cons, Bool.and_eq_true] at hf
        rw [List.countP_cons, List.countP_cons, ih r2 hf.2, fvV_eq r1 hf.1]
  have each : ∀ w, w ∈ its.toArray → SeqAt.EqAt X.A.in1 s w u (eqV (fvV w) y) := fun w hw => by
    obtain ⟨i, hi, e⟩ := List.getElem_of_mem (show w ∈ its by simpa using hw)
    have hg : its[i]? = some w := by rw [List.getElem?_eq_getElem hi, e]
    have hyi : i < ys.length := by rw [rv.length]; exact hi
    obtain ⟨w', e1, rw'⟩ := rv.get (List.getElem?_eq_getElem hyi)
    rw [hg] at e1
    cases e1
    have hf := List.all_eq_true.mp fys _ (List.getElem_mem hyi)
    rw [fvV_eq rw' hf]
    exact eqAt_V rw' ru hf fy
  refine call_meets PySem.F.slot_list_count ⟨_, ho, rfl⟩ PySem.F.entry_list_count (PySem.F.args_list_count_2 _ _) (SeqAt.list_countAt p its.toArray n dd sl u fun w => eqV (fvV w) y) ⟨ho, each, ?_⟩
  refine ⟨.int (ys.countP fun z => eqV z y : Nat), H, I.tok _, ⟨s.toks, ?_⟩, q⟩
  show Value.int ((its.toArray.toList.countP _ : Nat) : Int) s.toks = Value.int _ s.toks
  rw [cnt rv fys]
def dCount (d : D) (ds : List D) : O D := match d, ds with
  | .lst xs, [y] => if y.flat = true ∧ xs.all D.flat = true then .ok (.int (xs.countP fun z => eqF z y : Nat)) else .stuck
  | _, _ => .stuck
theorem cnt_F {K : PySem.W.Frag} {H : Hp} {y : D} {u : V} (r1 : Rep K H y u) (hy : y.flat = true) : ∀ {xs : List D} {ws : List V}, Reps K H xs ws → xs.all D.flat = true → ws.countP (fun z => eqV z u) = xs.countP fun z => eqF z y
  | _, _, .nil, _ => rfl
  | d :: ds, _, .cons a b, hf => by
    rw [List.all_cons, Bool.and_eq_true] at hf
    rw [List.countP_cons, List.countP_cons, cnt_F r1 hy b hf.2, eqF_V a r1 hf.1 hy]
theorem sem_count {K : PySem.W.Frag} : MetSem K (rCntF K) .sh dCount := fun H Hs d ds z x vs Q sub rd rs hz q => by
  unfold dCount at hz
  split at hz
  · rename_i xs y
    cases rs with | cons r1 r2 =>
      cases r2
      cases rd with | lst h r =>
        split at hz
        · rename_i hc
          cases hz
          exact ⟨_, _, _, rfl, rfl, SqL.of (sub _ _ h), flat_V r1 hc.1, flat_Vs r hc.2, by rw [cnt_F r1 hc.1 r hc.2]; exact q _ _ (.sh (.refl sub) (.int _))⟩
        · cases hz
  · cases hz

/-! ### f-strings -/
def dFmt : D → O D
  | .str y => if y.length ≤ sizeLine then .ok (.str y) else .stuck
  | .int i => if i.natAbs.log2 < 1920 then .ok (.str (toString i)) else .stuck
  | _ => .stuck
theorem ce_fmt {e : Expr} {pos : Pos} {f : Env → O D} (he : CE X W κ .sh e f) : CE X W κ .sh (.FormattedValue e (-1) none pos) (mUn dFmt f) :=
  PE.imp (pe_fmt he) fun σ H Q q => by
    obtain ⟨S, H0, Hs0, ρ, Hs, F, R, p⟩ := q
    refine step R p fun d v H1 Hs1 _ g1 R1 rd p1 => ?_
    cases rd <;> first | exact p1.elim | skip
    · rename_i i _
      have p2 : EPost X.K W .sh σ H1 Hs1 Q (if i.natAbs.log2 < 1920 then .ok (.str (toString i)) else .stuck) := p1
      by_cases h : i.natAbs.log2 < 1920
      · rw [if_pos h] at p2; exact .inr ⟨i, rfl, h, p2 _ _ (.sh (.refl R1.sub) (.str _))⟩
      · rw [if_neg h] at p2; exact p2.elim
    · rename_i y _
      have p2 : EPost X.K W .sh σ H1 Hs1 Q (if y.length ≤ sizeLine then .ok (.str y) else .stuck) := p1
      by_cases h : y.length ≤ sizeLine
      · rw [if_pos h] at p2; exact .inl ⟨y, rfl, h, p2 _ _ (.sh (.refl R1.sub) (.str _))⟩
      · rw [if_neg h] at p2; exact p2.elim
def asStr : D → O Str
  | .str y => .ok y
  | _ => .stuck
def mFS : List (Env → O D) → Str → Env → O D
  | [], acc, _ => .ok (.str acc)
  | f :: fs, acc, ρ => f ρ >>= asStr >>= fun y => if (acc ++ y).length ≤ sizeLine then mFS fs (acc ++ y) ρ else .stuck
inductive CFS (X : Cx) (W : WX) (κ : List Kd) : List Expr → List (Env → O D) → Prop
  | nil : CFS X W κ [] []
  | cons {e : Expr} {f : Env → O D} {es : List Expr} {fs : List (Env → O D)} (h : CE X W κ .sh e f) (r : CFS X W κ es fs) : CFS X W κ (e :: es) (f :: fs)
theorem CFS.pj : ∀ {es : List Expr} {fs : List (Env → O D)}, CFS X W κ es fs → PJ X es (fs.map fun f => tE X.K W κ .sh f)
  | _, _, .nil => .nil
  | _, _, .cons h r => .cons h r.pj
theorem fs_run {K : PySem.W.Frag} {σ : L2.St} {Q : VK} : ∀ (fs : List (Env → O D)) (acc : Str) (H : Hp), tE K W κ .sh (mFS fs acc) σ H Q → tJs (fs.map fun f => tE K W κ .sh f) acc σ H fun out H1 => Q (.str out) H1
  | [], acc, H, q => by
    obtain ⟨S, H0, Hs0, ρ, Hs, F, R, p⟩ := q
    exact p _ _ (.sh (.refl R.sub) (.str _))
  | f :: fs, acc, H, q => by
    obtain ⟨S, H0, Hs0, ρ, Hs, F, R, p⟩ := q
    have p' : EPost K W .sh σ H Hs Q (f ρ >>= fun d => asStr d >>= fun y => if (acc ++ y).length ≤ sizeLine then mFS fs (acc ++ y) ρ else .stuck) := by rw [← bind_assoc]; exact p
    refine step R p' fun d v H1 Hs1 _ g1 R1 rd p1 => ?_
    cases rd <;> first | exact p1.elim | skip
    rename_i y _
    have p2 : EPost K W .sh σ H1 Hs1 Q (if (acc ++ y).length ≤ sizeLine then mFS fs (acc ++ y) ρ else .stuck) := p1
    by_cases h : (acc ++ y).length ≤ sizeLine
    · rw [if_pos h] at p2
      exact ⟨y, rfl, h, fs_run fs (acc ++ y) H1 ⟨S, H0, Hs0, ρ, Hs1, F, R1, p2⟩⟩
    · rw [if_neg h] at p2; exact p2.elim
theorem ce_fs {v1 v2 : Expr} {rest : List Expr} {fs : List (Env → O D)} {pos : Pos} (h : CFS X W κ (v1 :: v2 :: rest) fs) : CE X W κ .sh (.JoinedStr (v1 :: v2 :: rest) pos) (mFS fs Str.empty) := PE.imp (pe_joined h.pj) fun σ H Q q => fs_run fs _ H q
theorem ce_fs1 {e : Expr} {f : Env → O D} {pos : Pos} (h : CE X W κ .sh e f) : CE X W κ .sh (.JoinedStr [e] pos) f := pe_joined1 h

/-! ### tables of the top (text keys) -/
def D.fv : D → V
  | .bl b => .bl b
  | .int i => .int i
  | .str s => .str s
  | _ => .non
def TabOk (K : PySem.W.Frag) (w : World) (x : Str) (kvs : List (Str × D)) : Prop := ∀ z d, kvs.lookup z = some d → d.flat = true ∧ KDct K w (He.ga K x) z d.fv
def dTab (kvs : List (Str × D)) : D → O D
  | .str z => (match kvs.lookup z with
    | some d => .ok d
    | none => .stuck)
  | _ => .stuck
theorem fv_rep {K : PySem.W.Frag} {H : Hp} {d : D} (h : d.flat = true) : Rep K H d d.fv := by
  cases d <;> first | (cases h; done) | constructor
theorem ce_tab {x : Str} {kvs : List (Str × D)} {p pos : Pos} {b : Expr} {g : Env → O D} (TT : TabOk X.K X.w x kvs) (hg : Gl X x) (hm : X.mg x = some (.ref (He.ga X.K x))) (hb : CE X W κ .sh b g) (hd : (x == ("__debug__" : Str)) = false := by decide) (hs : PlainIx b := by exact fun _ _ => rfl) : CE X W κ .sh (.Subscript (.Name x p) b pos) (mUn (dTab kvs) g) :=
  PE.imp (pe_ix ix_kdict (pe_glob (v := .ref (He.ga X.K x)) hg hm rfl hd) hb hs) fun σ H Q q => by
    obtain ⟨S, H0, Hs0, ρ, Hs, F, R, p⟩ := q
    refine step R p fun d v H1 Hs1 _ g1 R1 rd p1 => ?_
    cases rd <;> first | exact p1.elim | skip
    rename_i z _
    have p2 : EPost X.K W .sh σ H1 Hs1 Q (match kvs.lookup z with
      | some d => .ok d
      | none => .stuck) := p1
    cases e : kvs.lookup z with
    | none => rw [e] at p2; exact p2.elim
    | some d =>
      rw [e] at p2
      obtain ⟨h1, h2⟩ := TT z d e
      exact ⟨_, z, d.fv, rfl, rfl, h2, p2 _ _ (.sh (.refl R1.sub) (fv_rep h1))⟩
/-! ### is True, is not True -/
def dIsB : D → D → O D
  | .bl a, .bl b => .ok (.bl (decide (a = b)))
  | _, _ => .stuck
def dNotB : D → D → O D
  | .bl a, .bl b => .ok (.bl (!decide (a = b)))
  | _, _ => .stuck
theorem sem_isB {K : PySem.W.Frag} : BinSem K rIsB .sh dIsB := .flat fun H Hs d e z x y Q sub rx ry hz q => by
  cases rx <;> first | (cases hz; done) | skip
  cases ry <;> first | (cases hz; done) | skip
  cases hz
  exact ⟨_, _, rfl, rfl, q _ (.bl _)⟩
theorem sem_notB {K : PySem.W.Frag} : BinSem K rNotB .sh dNotB := .flat fun H Hs d e z x y Q sub rx ry hz q => by
  cases rx <;> first | (cases hz; done) | skip
  cases ry <;> first | (cases hz; done) | skip
  cases hz
  exact ⟨_, _, rfl, rfl, q _ (.bl _)⟩
/-! ### own ==, len -/
def dEqO (c : Str) (m : List D → O D) : D → D → O D
  | .ins c1 fs, .ins c2 gs => if c1 = c ∧ c2 = c then noX (m [.ins c1 fs, .ins c2 gs]) else .stuck
  | _, _ => .stuck
def rEqO (K : PySem.W.Frag) (C : Addr) (sp : Sp) (dvs : List V) : R2 := fun x y H Q => ∃ a dx vs b dy ws, x = .ref a ∧ y = .ref b ∧ H a = some (.ins C dx vs) ∧ H b = some (.ins C dy ws) ∧ sp ([x, y] ++ dvs) H Q fun _ _ _ => False
theorem op_eqO {c : Str} {k : Nat} {fd : FuncData} {ps : List Str} {sp : Sp} {dvs : List V} {ds : List Value} {f : Addr} (hm : Meth X.K (He.ga X.K c) "__eq__" f) (F : FnOk X.prog X.w X.K X.mg X.base (L2N.CX X.prog X.w) k f fd ps sp) (hb : Binds X.K fd ps ds) (hd : Vals dvs ds) (hr : Room k X.A) : OpR X (compareOp .Eq) (rEqO X.K (He.ga X.K c) sp dvs) := by
  intro pins s σ H x y v u Q I rx ry h
  obtain ⟨a, dx, vs, b, dy, ws, rfl, rfl, ha, hb', q⟩ := h
  cases (show v = Value.ref a from rx)
  cases (show u = Value.ref b from ry)
  obtain ⟨mA, OA, _⟩ := ins_get I.hok ha
  obtain ⟨od, J, _⟩ := OA.look
  obtain ⟨mB, OB, _⟩ := ins_get I.hok hb'
  obtain ⟨od', J', _⟩ := OB.look
  obtain ⟨m, hF⟩ := I.fr
  show wpAny (model X.prog X.w) X.A (richCompare .Eq (.ref a) (.ref b)) (EP X pins σ Q) X.xe s
  refine PySem.W.cmp_K (op := .Eq) (tb := .ref (He.ga X.K c)) hr.units0 hF I.ok.mod.kin J J'.type (by simp [PySem.W.notFirst]) hm.at_ hm.fn ?_
  refine wpAny_mono (run_fn (us := [.ref a, .ref b]) (vs := [.ref a, .ref b]) F hr hb hd no_passes I (.cons rfl (.cons rfl .nil)) q) (fun w s' z => ?_) fun _ _ x => x
  obtain ⟨z', H', I', rz, qz⟩ := z
  exact SlX.cmpback rz ⟨z', H', I', rz, qz⟩
theorem ce_eqO {c : Str} {k : Nat} {m : List D → O D} {rr : Kd} {a b : Expr} {pos : Pos} {f g : Env → O D} (hm : MetOk X.K c "__eq__") (C : CalleeA X.prog X.w X.K X.mg X.base (He.ma X.K (He.ga X.K c) "__eq__") k m rr) (hr : Room k X.A) (ha : CE X W κ .sh a f) (hb : CE X W κ .sh b g) (hmk : behindInMarks .Eq b = false) :
    CE X W κ .sh (.Compare a [.Eq] [b] pos) (mBin (dEqO c m) f g) := by
  obtain ⟨fd, ps, dvs, ds, dd, F, hb', hd, hdd⟩ := C
  refine ce_cmp (o := dEqO c m) (fun H Hs d e z x y Q sub rx ry hz q => ?_) (op_eqO hm.2 F hb' hd hr) ha hb hmk
  cases rx <;> first | (cases hz; done) | skip
  rename_i c1 a1 dx fs vfs h1 r1
  cases ry <;> first | (cases hz; done) | skip
  rename_i c2 a2 dy gs ws h2 r2
  dsimp only [dEqO] at hz
  by_cases hc : c1 = c ∧ c2 = c
  · rw [if_pos hc] at hz
    obtain ⟨rfl, rfl⟩ := hc
    refine ⟨a1, dx, vfs, a2, dy, ws, rfl, rfl, sub _ _ h1, sub _ _ h2, Hs, [_, _], sub, Reps.append (.cons (.ins h1 r1) (.cons (.ins h2 r2) .nil)) (hdd _), ?_⟩
    cases em : m [.ins c2 fs, .ins c2 gs] with
    | stuck => rw [em] at hz; cases hz
    | exc x gs => rw [em] at hz; cases hz
    | ok d => rw [em] at hz; cases hz; exact fun v H' r => q v H' r.share
  · rw [if_neg hc] at hz; cases hz
def dLenO (c : Str) (m : List D → O D) : List D → O D
  | [.ins c1 fs] => if c1 = c then (match m [.ins c1 fs] with
    | .ok (.int n) => if 0 ≤ n ∧ n.toNat < 2 ^ 63 then .ok (.int n) else .stuck
    | _ => .stuck) else .stuck
  | _ => .stuck
def rLenO (C : Addr) (sp : Sp) (dvs : List V) : List V → Hp → VK → Prop := fun xs H Q => ∃ a dx vs, xs = [.ref a] ∧ H a = some (.ins C dx vs) ∧ sp ([.ref a] ++ dvs) H (fun v H' => ∃ n : Int, v = .int n ∧ 0 ≤ n ∧ n < 2 ^ 63 ∧ Q v H') fun _ _ _ => False
theorem call_lenO {c : Str} {k : Nat} {fd : FuncData} {ps : List Str} {sp : Sp} {dvs : List V} {ds : List Value} {f : Addr} (hm : Meth X.K (He.ga X.K c) "__len__" f) (F : FnOk X.prog X.w X.K X.mg X.base (L2N.CX X.prog X.w) k f fd ps sp) (hb : Binds X.K fd ps ds) (hd : Vals dvs ds) (hr : Room (k + 1) X.A) : CallR X (.builtin "len") (rLenO (He.ga X.K c) sp dvs) := by
  intro pins s σ H xs us Q I r h
  obtain ⟨a, dx, vs, rfl, ha, q⟩ := h
  obtain ⟨u, rfl, ru⟩ := r.one
  cases (show u = Value.ref a from ru)
  obtain ⟨mA, OA, _⟩ := ins_get I.hok ha
  obtain ⟨od, J, _⟩ := OA.look
  obtain ⟨m, hF⟩ := I.fr
  refine PySem.W.len_K hF I.ok.mod.kin J hm.at_ hm.fn (wpAny_call ?_)
  have hl : ([Value.ref a] ++ ds).length = ps.length := by
    have e := F.len _ _ _ _ q
    rw [← e, List.length_append, List.length_append, hd.length]; rfl
  refine codeAny_mono (F.run X.A.in1 X.stack s H ⟨[.ref a], []⟩ ([.ref a] ++ ds) ([.ref a] ++ dvs) _ (fun _ _ _ => False) hr.in1 I.env0.in1 (hb _ [.ref a] I.kIn hl) (.cons (show RelV (.ref a) (.ref a) from rfl) hd) q) fun r s' hq => ?_
  cases r with
  | error er => exact False.elim (no_passes (X := X.nox) pins σ H s er s' (I.wish _) hq)
  | ok fl =>
    cases fl with
    | ret z =>
      obtain ⟨v, H', I3, rv, n, e, h0, h1, q3⟩ := I.after hq
      subst e
      obtain ⟨t, et⟩ := (show ∃ t, z = Value.int n t from rv)
      cases et
      exact ⟨⟨h0, h1⟩, .int n, H', I3.tok _, ⟨s'.toks, rfl⟩, q3⟩
    | next => exact False.elim hq
    | brk => exact False.elim hq
    | cont => exact False.elim hq
theorem ce_lenO {c : Str} {k : Nat} {m : List D → O D} {rr : Kd} {p pos : Pos} {e : Expr} {es : List Expr} {f : Env → O (List D)} (hm : MetOk X.K c "__len__") (C : CalleeA X.prog X.w X.K X.mg X.base (He.ma X.K (He.ga X.K c) "__len__") k m rr) (hr : Room (k + 1) X.A) (hg : Gl X "len") (hmg : X.mg "len" = none) (ha : CA X W κ (e :: es) f)
    (he : starEach (e :: es) X.env = (false, eval e X.env) :: starEach es X.env := by rfl) (hpl : (backTo pos (starEach es X.env)).any (·.1) = false := by rfl) : CE X W κ .sh (.Call (.Name "len" p) (e :: es) [] pos) (mCall (dLenO c m) f) := by
  obtain ⟨fd, ps, dvs, ds, dd, F, hb', hd, hdd⟩ := C
  refine ce_callB (o := dLenO c m) (fun H Hs ds' z vs Q sub rs hz q => ?_) (call_lenO hm.2 F hb' hd hr) hg hmg (by decide +kernel) ha (by decide) (by decide) he hpl
  unfold dLenO at hz
  split at hz
  · rename_i c1 fs
    cases rs with | cons r1 r2 =>
      cases r2
      cases r1 with | ins h1 hf =>
        by_cases hc : c1 = c
        · rw [if_pos hc] at hz
          subst hc
          refine ⟨_, _, _, rfl, sub _ _ h1, Hs, [_], sub, Reps.append (.cons (.ins h1 hf) .nil) (hdd _), ?_⟩
          cases em : m [.ins c1 fs] with
          | stuck => rw [em] at hz; cases hz
          | exc x gs => rw [em] at hz; cases hz
          | ok d =>
            rw [em] at hz
            split at hz
            · rename_i n hn
              cases hn
              split at hz
              · rename_i hb
                cases hz
                intro v H' r
                obtain ⟨Hs', g, rv⟩ := r.share.out
                cases rv
                exact ⟨n, rfl, hb.1, by omega, q _ _ r.share⟩
              · cases hz
            · cases hz
        · rw [if_neg hc] at hz; cases hz
  · cases hz
/-! ### keywords -/
def permL {α : Type} (π : List Nat) (xs : List α) : List α := π.filterMap fun i => xs[i]?
def CalleeK (P : Program) (w : World) (K : PySem.W.Frag) (mg : Str → Option Value) (base : Heap) (x : Str) (k : Nat) (ks : List Str) (π : List Nat) (m : List D → O D) (rr : Kd) : Prop :=
  ∃ (f : Addr) (fd : FuncData) (ps : List Str), mg x = some (.ref f) ∧ PySem.W.keepIn K (.ref f) = true ∧ FnOk P w K mg base (L2N.CX P w) k f fd ps (spM K [] m rr) ∧ π.length = ks.length ∧ (∀ i ∈ π, i < ks.length) ∧ ∀ (s : Shared) (ws : List Value), ws.length = ks.length → BindsTo s fd ⟨[], ks.zip ws⟩ (ps.zip (permL π ws))
theorem perm_reps {K : PySem.W.Frag} {Hs : Hp} {ds : List D} {vs : List V} (r : Reps K Hs ds vs) : ∀ (π : List Nat), (∀ i ∈ π, i < ds.length) → Reps K Hs (permL π ds) (permL π vs)
  | [], _ => .nil
  | i :: π, h => by
    have hi := h i List.mem_cons_self
    obtain ⟨v, h1, h2⟩ := r.get (List.getElem?_eq_getElem hi)
    unfold permL
    rw [List.filterMap_cons, List.filterMap_cons, List.getElem?_eq_getElem hi, h1]
    exact .cons h2 (perm_reps r π fun j hj => h j (List.mem_cons_of_mem _ hj))
theorem perm_vals {vs : List V} {us : List Value} (r : Vals vs us) : ∀ (π : List Nat), (∀ i ∈ π, i < vs.length) → Vals (permL π vs) (permL π us)
  | [], _ => .nil
  | i :: π, h => by
    have hi := h i List.mem_cons_self
    obtain ⟨u, h1, h2⟩ := r.get (List.getElem?_eq_getElem hi)
    unfold permL
    rw [List.filterMap_cons, List.filterMap_cons, List.getElem?_eq_getElem hi, h1]
    exact .cons h2 (perm_vals r π fun j hj => h j (List.mem_cons_of_mem _ hj))
abbrev CK (X : Cx) (W : WX) (κ : List Kd) (kws : List Keyword) (f : Env → O (List D)) : Prop := PK X kws (tA X.K W κ f)
theorem ck_nil : CK X W κ [] mNil := ⟨fun pos pins s σ H Q I h => pk_nil.run pos pins s σ H Q I (by
  obtain ⟨S, H0, Hs0, ρ, Hs, F, R, p⟩ := h
  exact p [] H Hs (.refl R.sub) .nil)⟩
theorem ck_cons {nm : Option Str} {e : Expr} {kpos : Pos} {kws : List Keyword} {f : Env → O D} {g : Env → O (List D)} (ha : CE X W κ .sh e f) (hr : CK X W κ kws g) : CK X W κ (⟨nm, e, kpos⟩ :: kws) (mCons f g) := ⟨fun pos pins s σ H Q I h => (pk_cons (nm := nm) (kpos := kpos) ha hr).run pos pins s σ H Q I (by
  obtain ⟨S, H0, Hs0, ρ, Hs, F, R, p⟩ := h
  refine stepAA R p fun x vx H1 Hs1 _ g1 R1 rx p1 => ⟨S, H0, Hs0, ρ, Hs1, F, R1, ?_⟩
  cases e : g ρ with
  | stuck => rw [e] at p1; exact p1
  | exc c fs => rw [e] at p1; exact p1
  | ok ds => rw [e] at p1; exact fun vs H' Hs' g2 rs => p1 _ H' Hs' g2 (.cons (rx.mono g2.exs) rs))⟩
def mPerm (π : List Nat) (m : List D → O D) : List D → O D := fun ds => m (permL π ds)
theorem ce_callK {x : Str} {k : Nat} {ks : List Str} {π : List Nat} {m : List D → O D} {rr : Kd} {p pos : Pos} {kws : List Keyword} {f : Env → O (List D)} (C : CalleeK X.prog X.w X.K X.mg X.base x k ks π m rr) (hr : Room k X.A) (tk : L2N.Takes X W) (hg : Gl X x) (ha : CK X W κ kws f) (hl : kws.length = ks.length := by rfl)
    (hall : (backToKw pos (keywordEach kws X.env)).all (·.1.isSome) = true := by rfl) (hks : (backToKw pos (keywordEach kws X.env)).filterMap (·.1) = ks := by rfl) (hdb : (x == ("__debug__" : Str)) = false := by decide)
    (hpl : ((backTo pos (starEach [] X.env)).any (·.1) || (backToKw pos (keywordEach kws X.env)).any (·.1.isNone)) = false := by rfl) : CE X W κ rr (.Call (.Name x p) [] kws pos) (mApp (fun ds => if ds.length = ks.length then mPerm π m ds else .stuck) f) := by
  obtain ⟨fa, fd, ps, hm, hk, F, hπ, hπ2, hb⟩ := C
  refine ⟨fun pins s σ H Q I h => ?_⟩
  refine wpAny_Call_Name_kw (ld_glob I hg hm (PySem.W.callWith_KW0 (h₀ := X.base) I.ok.mod.kin hk hall (thn (ha.run pos pins s σ H (fun vs H1 => vs.length = ks.length ∧ spM X.K [] m rr (permL π vs) H1 Q (WE W σ)) I ?_) fun ws s2 hh => ?_) hpl) hdb)
  · obtain ⟨S, H0, Hs0, ρ, Hs, F, R, q⟩ := h
    refine stepA R q fun ds vs H1 Hs1 _ g1 R1 rs p1 => ?_
    by_cases e : ds.length = ks.length
    · rw [if_pos e] at p1
      refine ⟨by rw [← rs.length]; exact e, Hs1, permL π ds, R1.sub, by rw [List.append_nil]; exact perm_reps rs π (fun i hi => by rw [e]; exact hπ2 i hi), ?_⟩
      have p2 : EPost X.K W rr σ H1 Hs1 Q (m (permL π ds)) := p1
      cases em : m (permL π ds) with
      | stuck => rw [em] at p2; exact p2
      | ok z => rw [em] at p2; exact p2
      | exc c fs => rw [em] at p2; exact p2
    · rw [if_neg e] at p1; exact p1.elim
  · obtain ⟨zs, H2, I2, rz, l2, q2⟩ := hh
    refine ⟨I2.kIn, ?_⟩
    rw [hks, List.append_nil]
    have lw : ws.length = ks.length := by rw [← rz.length]; exact l2
    refine wpAny_call (codeAny_mono (F.run X.A X.stack s2 H2 ⟨[], ks.zip ws⟩ (permL π ws) (permL π zs) Q (WE W σ) hr I2.env0 (hb s2 ws lw) (perm_vals rz π fun i hi => by rw [l2]; exact hπ2 i hi) q2) fun r s' hq => ?_)
    cases r with
    | error e => exact L2N.passAt tk σ pins H2 s2 e s' I2 hq
    | ok fl =>
      cases fl with
      | ret u => exact I2.after hq
      | next => exact False.elim hq
      | brk => exact False.elim hq
      | cont => exact False.elim hq
end
end T

set_option Elab.async false
set_option linter.all false
set_option maxRecDepth 100000
set_option maxHeartbeats 1000000
/-! TB: the head's Hook: defs at any path, one Bool, the tables' keys; from a mirror of law to the end. -/
namespace T
open PySem L2
structure DefA where
  at_ : PySem.W.Frag → Addr
  name : Str
  qual : Str
  params : Arguments
  body : List Stmt
  scope : Scope
  dfl : List He.Dv := []
def fnA (K : PySem.W.Frag) (a : Addr) : He.FnW := match K.lookup a with
  | some ⟨_, _, .func fd, _⟩ => some (fd.name, fd.qualname, fd.params, fd.body, fd.scope, fd.globals, fd.closure, fd.builtins)
  | _ => none
def DefA.val (d : DefA) : He.FnW := some (d.name, d.qual, d.params, .stmts d.body, d.scope, mainGlobals, [], builtinsNs)
def DefA.dvs (K : PySem.W.Frag) (d : DefA) : List V := d.dfl.map (He.Dv.v K)
def DefA.ok (K : PySem.W.Frag) (d : DefA) : Bool := PySem.W.keepIn K (.ref (d.at_ K)) && (match K.lookup (d.at_ K) with
  | some ⟨_, _, .func fd, _⟩ => PySem.W.codeIn K fd.code d.qual && He.dflB K fd.defaults (d.dvs K)
  | _ => false)
theorem DefA.funD {K : PySem.W.Frag} {d : DefA} (e : fnA K (d.at_ K) = d.val) (c : d.ok K = true) : ∃ fd, FunD K d.name d.qual d.params d.body d.scope (d.dvs K) [] (d.at_ K) fd := by
  obtain ⟨kp, c2⟩ := He.ba c
  unfold fnA at e
  cases q : K.lookup (d.at_ K) with
  | none => rw [q] at c2; cases c2
  | some o =>
    obtain ⟨oc, od, dt, osl⟩ := o
    rw [q] at c2 e
    cases dt with
    | func fd =>
      obtain ⟨n1, n2, n3, n4, n5, n6, n7, n8, n9, n10, n11, n12, n13, n14, n15⟩ := fd
      have e2 : (some (n1, n2, n3, n4, n5, n6, n7, n15) : He.FnW) = some (d.name, d.qual, d.params, .stmts d.body, d.scope, mainGlobals, [], builtinsNs) := e
      simp only [Option.some.injEq, Prod.mk.injEq] at e2
      obtain ⟨h1, h2, h3, h4, h5, h6, h7, h8⟩ := e2
      subst h1 h2 h3 h4 h5 h6 h7 h8
      obtain ⟨k1, k2⟩ := He.ba (show (PySem.W.codeIn K n13 d.qual && He.dflB K n8 (d.dvs K)) = true from c2)
      exact ⟨_, ⟨oc, od, n8, n9, n10, n11, n12, n13, n14, osl, rfl, q, k1, He.dflB_ok k2, .inl rfl⟩, kp⟩
    | _ => cases c2
abbrev AlA : Type := Bool × List He.FnW × List (Option (List (Option (Str × Int))))
def obsA (ex : PySem.W.Frag → Bool) (fn : List DefA) (ts : List (Str × List Str)) (K : PySem.W.Frag) : AlA := (ex K && fn.all fun d => d.ok K, fn.map fun d => fnA K (d.at_ K), ts.map fun p => He.dicW K (He.ga K p.1))
def valA (fn : List DefA) (ts : List (Str × List Str)) (w : World) : AlA := (true, fn.map DefA.val, ts.map fun p => some (He.keysIn w.params p.2))
def obsAG (n : Nat) (ex : PySem.W.Frag → Bool) (fn : List DefA) (ts : List (Str × List Str)) (g : Addr → Option Obj) : AlA := obsA ex fn ts (He.frG g (He.asD g n))
def hookA (n : Nat) (ex : PySem.W.Frag → Bool) (fn : List DefA) (ts : List (Str × List Str)) : PySem.W.Hook where
  α := AlA
  obs := fun s => obsAG n ex fn ts s.heap.get?
  val := fun w => valA fn ts w
  says := fun w h => ∃ K : PySem.W.Frag, K.In h ∧ obsA ex fn ts K = valA fn ts w
  of := fun _ _ e => ⟨_, He.frG_in, e⟩
  keeps := fun _ _ _ ⟨K, hK, c⟩ k => ⟨K, PySem.W.Frag.In.keeps hK k, c⟩
theorem obsAG_eq {n : Nat} {ex : PySem.W.Frag → Bool} {fn : List DefA} {ts : List (Str × List Str)} {g : Addr → Option Obj} {s : Shared} (h : ∀ a, g a = s.heap.get? a) : obsAG n ex fn ts g = (hookA n ex fn ts).obs s := by
  have e : g = s.heap.get? := funext h
  rw [e] <;> rfl
section
variable {ex : PySem.W.Frag → Bool} {fn : List DefA} {ts : List (Str × List Str)} {K : PySem.W.Frag} {w : World}
theorem saysA_ex (c : obsA ex fn ts K = valA fn ts w) : ex K = true := (He.ba (show (ex K && fn.all fun d => d.ok K) = true from congrArg (fun z : AlA => z.1) c)).1
theorem saysA_def (c : obsA ex fn ts K = valA fn ts w) (i : Nat) {d : DefA} (h : fn[i]? = some d := by rfl) : ∃ fd, FunD K d.name d.qual d.params d.body d.scope (d.dvs K) [] (d.at_ K) fd := by
  have c2 := (He.ba (show (ex K && fn.all fun d => d.ok K) = true from congrArg (fun z : AlA => z.1) c)).2
  have e : fn.map (fun d => fnA K (d.at_ K)) = fn.map DefA.val := congrArg (fun z : AlA => z.2.1) c
  have e2 : (fn.map fun d => fnA K (d.at_ K))[i]? = (fn.map DefA.val)[i]? := by rw [e]
  rw [List.getElem?_map, List.getElem?_map, h] at e2
  exact DefA.funD (Option.some.inj e2) (List.all_eq_true.mp c2 d (List.mem_of_getElem? h))
theorem saysA_tab (c : obsA ex fn ts K = valA fn ts w) (i : Nat) {t : Str × List Str} (h : ts[i]? = some t := by rfl) : ∃ es n, KDict K w (He.ga K t.1) es n := by
  have e : ts.map (fun p => He.dicW K (He.ga K p.1)) = ts.map fun p => some (He.keysIn w.params p.2) := congrArg (fun z : AlA => z.2.2) c
  have e2 : (ts.map fun p => He.dicW K (He.ga K p.1))[i]? = (ts.map fun p => some (He.keysIn w.params p.2))[i]? := by rw [e]
  rw [List.getElem?_map, List.getElem?_map, h] at e2
  exact He.dicW_ok (Option.some.inj e2)
end
def tabC (K : PySem.W.Frag) (x : Str) (kvs : List (Str × D)) : Bool := kvs.all fun q => q.2.flat && (match PySem.W.nsIn K (He.ga K x) q.1 with
  | some (some u) => He.relB q.2.fv u
  | _ => false)
theorem lookup_memS {z : Str} {d : D} : ∀ {l : List (Str × D)}, l.lookup z = some d → (z, d) ∈ l
  | [], h => by simp at h
  | (y, e) :: r, h => by
    rw [List.lookup_cons] at h
    cases q : (z == y) with
    | true => rw [q] at h; cases h; rw [beq_iff_eq.mp q]; exact List.mem_cons_self
    | false => rw [q] at h; exact List.mem_cons_of_mem _ (lookup_memS h)
theorem tab_by {K : PySem.W.Frag} {w : World} {x : Str} {kvs : List (Str × D)} (h : tabC K x kvs = true) (t : ∃ es n, KDict K w (He.ga K x) es n) : TabOk K w x kvs := fun z d hz => by
  have h1 := List.all_eq_true.mp h _ (lookup_memS hz)
  dsimp only at h1
  rw [Bool.and_eq_true] at h1
  refine ⟨h1.1, ?_⟩
  obtain ⟨es, n, kd⟩ := t
  have h2 := h1.2
  cases e : PySem.W.nsIn K (He.ga K x) z with
  | none => rw [e] at h2; cases h2
  | some o =>
    rw [e] at h2
    cases o with
    | none => cases h2
    | some u => exact ⟨es, n, u, kd.at_, kd.lit, e, He.relB_ok h2⟩
/-- an error's own __init__ -/
def xinB (K : PySem.W.Frag) (c : Str) : Bool := He.eqO (PySem.W.findIn K (.ref (He.ga K c)) "__init__") (some (some (.ref (He.ma K (He.ga K c) "__init__")))) && decide (PySem.W.typeIn K (.ref (He.ma K (He.ga K c) "__init__")) = some (.type "function"))
theorem xin_by {K : PySem.W.Frag} {c : Str} (h : xinB K c = true) : PySem.W.findIn K (.ref (He.ga K c)) "__init__" = some (some (.ref (He.ma K (He.ga K c) "__init__"))) ∧ PySem.W.typeIn K (.ref (He.ma K (He.ga K c) "__init__")) = some (.type "function") :=
  ⟨He.eqO_ok (He.ba h).1, of_decide_eq_true (He.ba h).2⟩
/-- what law promises -/
theorem law_sp {K : PySem.W.Frag} {m : List D → O D} {H : Hp} {a : Addr} {ns : List Int} (hs : SqL K H a (ns.map V.int)) (hm : m [.scr ns] = .ok (.bl true)) : spM K [] m .sh [.ref a] H (fun v _ => v = .bl true) fun _ _ _ => False := by
  refine ⟨H, [.scr ns], .refl _, .cons (.scr hs) .nil, ?_⟩
  rw [hm]
  intro v H' r
  obtain ⟨Hs', g, rv⟩ := r.out
  cases rv
  rfl
/-- law's errors, whatever the world -/
def CXA (P : Program) : CXT := fun l H s E e s' => ∃ w, L2N.CX P w l H s E e s'
theorem fn_cxA {P : Program} {w : World} {K : PySem.W.Frag} {mg : Str → Option Value} {base : Heap} {k : Nat} {f : Addr} {fd : FuncData} {ps : List Str} {sp : Sp} (F : FnOk P w K mg base (L2N.CX P w) k f fd ps sp) : FnOk P w K mg base (CXA P) k f fd ps sp :=
  ⟨F.len, fun A outer s H args us vs Q E hr e0 hb r h => codeAny_mono (F.run A outer s H args us vs Q E hr e0 hb r h) fun r s' q => by
    cases r with
    | error e => exact ⟨w, q⟩
    | ok fl => cases fl <;> exact q⟩
theorem calleeK_of {P : Program} {w : World} {K : PySem.W.Frag} {mg : Str → Option Value} {base : Heap} {x qual : Str} {params : Arguments} {body : List Stmt} {scope : Scope} {f : Addr} {fd : FuncData} {k : Nat} {m : List D → O D} {rr : Kd} {ps ks : List Str} {π : List Nat} (hm : mg x = some (.ref f))
    (F : FunD K x qual params body scope [] [] f fd) (G : FnOk P w K mg base (L2N.CX P w) k f fd ps (spM K [] m rr)) (hπ : π.length = ks.length) (hπ2 : ∀ i ∈ π, i < ks.length)
    (h : ∀ (kV doc pm : Value) (an : Option Addr) (cdv ct : Value) (ws : List Value), ws.length = ks.length → bindArgs (PySem.W.fnOf x qual params body scope .none kV doc pm an cdv ct) ⟨[], ks.zip ws⟩ = pure (ps.zip (permL π ws))) : CalleeK P w K mg base x k ks π m rr := by
  refine ⟨f, fd, ps, hm, F.kp, G, hπ, hπ2, fun s ws hl => ?_⟩
  obtain ⟨oc, od, dV, kV, doc, pm, an, cdv, ct, osl, rfl, lk, hcd, hD, hK⟩ := F.ex
  rcases hD with ⟨_, rfl⟩ | ⟨e, _⟩
  · exact .of_eq (h kV doc pm an cdv ct ws hl)
  · exact absurd rfl e
theorem no_cx {P : Program} {w : World} {l : List PySem.Env} {H : Hp} {s s' : Shared} {e : Value} (h : L2N.CX P w l H s (fun _ _ _ => False) e s') : False := by
  obtain ⟨_, _, _, _, _, _, _, _, _, _, _, _, z⟩ := h
  exact z
theorem no_cxA {P : Program} {l : List PySem.Env} {H : Hp} {s s' : Shared} {e : Value} (h : CXA P l H s (fun _ _ _ => False) e s') : False := by
  obtain ⟨w, h⟩ := h
  exact no_cx h
end T

set_option Elab.async false
set_option linter.all false
set_option maxRecDepth 100000
set_option maxHeartbeats 1000000
/-! TC: the mirrors' combinators as rewriting rules (plain Lean, no program in sight). -/
namespace T
open PySem L2
section
variable (ρ : Env) (f g h : Env → O D) (b b' : Env → O Bool) (s s' : Env → SO) (a : Env → O (List D))
@[simp] theorem e_mC (d : D) : mC d ρ = .ok d := nd rfl
@[simp] theorem e_mVar (i : Nat) : mVar i ρ = match ρ[i]? with
  | some (some d) => .ok d
  | _ => .stuck := nd rfl
@[simp] theorem e_mBin (o : D → D → O D) : mBin o f g ρ = f ρ >>= fun x => g ρ >>= fun y => match o x y with
  | .ok z => .ok z
  | _ => .stuck := nd rfl
@[simp] theorem e_mUn (o : D → O D) : mUn o f ρ = f ρ >>= o := nd rfl
@[simp] theorem e_mNil : mNil ρ = .ok [] := nd rfl
@[simp] theorem e_mCons : mCons f a ρ = f ρ >>= fun d => a ρ >>= fun ds => .ok (d :: ds) := nd rfl
@[simp] theorem e_mTup : mTup a ρ = a ρ >>= mkT := nd rfl
@[simp] theorem e_mLst : mLst a ρ = a ρ >>= mkL := nd rfl
@[simp] theorem e_mIf : mIf b f g ρ = b ρ >>= fun b => if b = true then f ρ else g ρ := nd rfl
@[simp] theorem e_mTest : mTest f ρ = f ρ >>= asB := nd rfl
@[simp] theorem e_asB (k : Bool) : asB (.bl k) = .ok k := nd rfl
@[simp] theorem e_mNot : mNot b ρ = b ρ >>= fun b => .ok (!b) := nd rfl
@[simp] theorem e_mAnd : mAnd b b' ρ = b ρ >>= fun z => if z = true then b' ρ else .ok false := nd rfl
@[simp] theorem e_mOr : mOr b b' ρ = b ρ >>= fun z => if z = true then .ok true else b' ρ := nd rfl
@[simp] theorem e_mAndV : mAndV f g ρ = f ρ >>= asB >>= fun b => if b = true then g ρ else .ok (.bl false) := nd rfl
@[simp] theorem e_mOrV : mOrV f g ρ = f ρ >>= asB >>= fun b => if b = true then .ok (.bl true) else g ρ := nd rfl
@[simp] theorem e_mNotV : mNotV f ρ = f ρ >>= asB >>= fun b => .ok (.bl (!b)) := nd rfl
@[simp] theorem e_noX (d : D) : noX (.ok d) = .ok d := nd rfl
@[simp] theorem e_noXs : noX .stuck = .stuck := nd rfl
@[simp] theorem e_mCall (o : List D → O D) : mCall o a ρ = a ρ >>= fun ds => noX (o ds) := nd rfl
@[simp] theorem e_mApp (m : List D → O D) : mApp m a ρ = a ρ >>= m := nd rfl
@[simp] theorem e_mSl (o : D → Option Int → Option Int → O D) (l h : Env → O (Option Int)) : mSl o f l h ρ = f ρ >>= fun d => l ρ >>= fun l => h ρ >>= fun h => o d l h := nd rfl
@[simp] theorem e_mB0 : mB0 ρ = .ok none := nd rfl
@[simp] theorem e_mB1 : mB1 f ρ = f ρ >>= asInt >>= fun i => .ok (some i) := nd rfl
@[simp] theorem e_asInt (i : Int) : asInt (.int i) = .ok i := nd rfl
@[simp] theorem e_mIxO (i : Nat) : mIxO i g ρ = match ρ[i]? with
  | some (some d) => g ρ >>= fun e => dIx d e
  | _ => .stuck := nd rfl
@[simp] theorem e_mFlat : mFlat f ρ = match f ρ with
  | .ok d => asFlat d
  | _ => .stuck := nd rfl
@[simp] theorem e_asFlatI (i : Int) : asFlat (.int i) = .ok (.int i) := nd rfl
@[simp] theorem e_asFlatB (i : Bool) : asFlat (.bl i) = .ok (.bl i) := nd rfl
@[simp] theorem e_asFlatS (i : Str) : asFlat (.str i) = .ok (.str i) := nd rfl
@[simp] theorem e_mFlatT : mFlatT b ρ = match b ρ with
  | .ok b => .ok b
  | _ => .stuck := nd rfl
@[simp] theorem e_mProp (c : Str) (m : List D → O D) : mProp c m f ρ = f ρ >>= fun x => match x with
  | .ins c' fs => if c' = c then noX (m [.ins c' fs]) else .stuck
  | _ => .stuck := nd rfl
@[simp] theorem e_mMeth (c n : Str) (m : List D → O D) : mMeth c n m f a ρ = f ρ >>= fun x => match x with
  | .ins c' fs => if c' = c ∧ fs.lookup n = none then a ρ >>= fun ds => m (.ins c' fs :: ds) else .stuck
  | _ => .stuck := nd rfl
@[simp] theorem e_dFld (cs : List Str) (n c : Str) (fs : List (Str × D)) : dFld cs n (.ins c fs) = fldIn cs n c fs := nd rfl
@[simp] theorem e_fldIn (cs : List Str) (n c : Str) (fs : List (Str × D)) : fldIn cs n c fs = if c ∈ cs then (match fs.lookup n with
  | some z => .ok z
  | none => .stuck) else .stuck := nd rfl
@[simp] theorem e_mSelf (cs : List Str) (i : Nat) (n : Str) : mSelf cs i n ρ = match ρ[i]? with
  | some (some (.ins c fs)) => fldIn cs n c fs
  | _ => .stuck := nd rfl
@[simp] theorem e_mXf (errs fns : List Str) (i : Nat) (n : Str) : mXf errs fns i n ρ = match ρ[i]? with
  | some (some (.exc c fs)) => if c ∈ errs ∧ n ∈ fns then (match fs.lookup n with
    | some z => .ok z
    | none => .stuck) else .stuck
  | _ => .stuck := nd rfl
@[simp] theorem e_mXis (base : Str) (errs : List Str) (us : List Ty) (i : Nat) (u : Ty) : mXis base errs us i u ρ = match ρ[i]? with
  | some (some (.exc c _)) => if c ∈ errs ∧ u ∈ us then .ok (.bl (xis base c u)) else .stuck
  | _ => .stuck := nd rfl
@[simp] theorem e_mM0 (o : D → List D → O D) : mM0 o f ρ = f ρ >>= fun x => if isStr x = true then noX (o x []) else .stuck := nd rfl
@[simp] theorem e_mM1 (o : D → List D → O D) : mM1 o f g ρ = f ρ >>= fun x => if isStr x = true then g ρ >>= fun y => noX (o x [y]) else .stuck := nd rfl
@[simp] theorem e_mL1 (o : D → List D → O D) : mL1 o f g ρ = f ρ >>= fun x => if isLst x = true then g ρ >>= fun y => noX (o x [y]) else .stuck := nd rfl
@[simp] theorem e_isStr (x : Str) : isStr (.str x) = true := nd rfl
@[simp] theorem e_isLst (x : List D) : isLst (.lst x) = true := nd rfl
@[simp] theorem e_mTupO (i : Nat) : mTupO i ρ = match ρ[i]? with
  | some (some (.lst ds)) => .ok (.tup ds)
  | _ => .stuck := nd rfl
@[simp] theorem e_asStr (y : Str) : asStr (.str y) = .ok y := nd rfl
@[simp] theorem e_mFS0 (acc : Str) : mFS [] acc ρ = .ok (.str acc) := nd rfl
@[simp] theorem e_mFS1 (fs : List (Env → O D)) (acc : Str) : mFS (f :: fs) acc ρ = f ρ >>= asStr >>= fun y => if (acc ++ y).length ≤ sizeLine then mFS fs (acc ++ y) ρ else .stuck := nd rfl
/-! statements -/
@[simp] theorem e_sNext : sNext ρ = .nx ρ := nd rfl
@[simp] theorem e_sSeq : sSeq s s' ρ = match s ρ with
  | .nx ρ' => s' ρ'
  | o => o := nd rfl
@[simp] theorem e_sAsg (i : Nat) : sAsg i f ρ = match f ρ with
  | .ok d => .nx (ρ.set i (some d))
  | .exc x fs => .exc ρ x fs
  | .stuck => .stuck := nd rfl
@[simp] theorem e_sDrop : sDrop f ρ = match f ρ with
  | .ok _ => .nx ρ
  | .exc x fs => .exc ρ x fs
  | .stuck => .stuck := nd rfl
@[simp] theorem e_sRet : sRet f ρ = match f ρ with
  | .ok d => .rt d
  | .exc x fs => .exc ρ x fs
  | .stuck => .stuck := nd rfl
@[simp] theorem e_sRetN : sRetN ρ = .rt .non := nd rfl
@[simp] theorem e_sIf : sIf b s s' ρ = match b ρ with
  | .ok true => s ρ
  | .ok false => s' ρ
  | .exc x fs => .exc ρ x fs
  | .stuck => .stuck := nd rfl
@[simp] theorem e_sBreak : sBreak ρ = .bk ρ := nd rfl
@[simp] theorem e_sCont : sCont ρ = .ct ρ := nd rfl
@[simp] theorem e_sApp (i : Nat) : sApp i f ρ = match ρ[i]? with
  | some (some (.lst ds)) => (match f ρ with
    | .ok d => if ds.length < sizeLine then .nx (ρ.set i (some (.lst (ds ++ [d])))) else .stuck
    | .exc x fs => .exc ρ x fs
    | .stuck => .stuck)
  | _ => .stuck := nd rfl
@[simp] theorem e_sFor (it : Env → O (List D)) (tg : Tg) : sFor it tg s ρ = match it ρ with
  | .ok ds => forD tg s ds ρ
  | .exc x fs => .exc ρ x fs
  | .stuck => .stuck := nd rfl
@[simp] theorem e_forD0 (tg : Tg) : forD tg s [] ρ = .nx ρ := nd rfl
@[simp] theorem e_sSetA (cs : List Str) (i : Nat) (n : Str) : sSetA cs i n f ρ = match f ρ with
  | .ok d => (match ρ[i]? with
    | some (some (.ins c fs)) => if c ∈ cs ∧ fs.length < 900 then .nx (ρ.set i (some (.ins c (putD n d fs)))) else .stuck
    | _ => .stuck)
  | .exc x fs => .exc ρ x fs
  | .stuck => .stuck := nd rfl
@[simp] theorem e_sRaise (n : Str) (ns : List Str) : sRaise n ns a ρ = match a ρ with
  | .ok ds => if ds.length = ns.length ∧ ds.length ≤ 1000 then .exc ρ n (ns.zip ds).reverse else .stuck
  | .exc x fs => .exc ρ x fs
  | .stuck => .stuck := nd rfl
@[simp] theorem e_sTry (errs : List Str) (i : Nat) : sTry errs i s s' ρ = match s ρ with
  | .exc ρ' c fs => if c ∈ errs then (match s' (ρ'.set i (some (.exc c fs))) with
    | .exc _ _ _ => .stuck
    | o => o.unset i) else .stuck
  | o => o := nd rfl
@[simp] theorem e_unset_nx (i : Nat) : (SO.nx ρ).unset i = .nx (ρ.set i none) := nd rfl
@[simp] theorem e_unset_rt (i : Nat) (d : D) : (SO.rt d).unset i = .rt d := nd rfl
/-! what is walked -/
@[simp] theorem e_mSeq : mSeq f ρ = f ρ >>= dSeq := nd rfl
@[simp] theorem e_mRange1 : mRange1 a ρ = a ρ >>= dRange1 := nd rfl
@[simp] theorem e_mRange2 : mRange2 a ρ = a ρ >>= dRange2 := nd rfl
@[simp] theorem e_mEnum : mEnum a ρ = a ρ >>= dEnum := nd rfl
@[simp] theorem e_mRev : mRev f ρ = f ρ >>= dRev := nd rfl
@[simp] theorem e_mComp (it : Env → O (List D)) (vs : List Nat) (tg : Tg) : mComp it vs tg b f ρ = it ρ >>= fun ds => compD tg b f (wipeD ρ vs) ds [] >>= fun r => .ok (.lst r) := nd rfl
@[simp] theorem e_mYes : mYes ρ = .ok true := nd rfl
@[simp] theorem e_put1 (i : Nat) (d : D) : (Tg.nm i).put d ρ = some (ρ.set i (some d)) := nd rfl
@[simp] theorem e_put2 (i j : Nat) (d e : D) : (Tg.tp [i, j]).put (.tup [d, e]) ρ = some ((ρ.set i (some d)).set j (some e)) := nd rfl
@[simp] theorem e_put3 (i j k : Nat) (d e c : D) : (Tg.tp [i, j, k]).put (.tup [d, e, c]) ρ = some (((ρ.set i (some d)).set j (some e)).set k (some c)) := nd rfl
@[simp] theorem e_wipe0 : wipeD ρ [] = ρ := nd rfl
@[simp] theorem e_wipe1 (v : Nat) (vs : List Nat) : wipeD ρ (v :: vs) = (wipeD ρ vs).set v none := nd rfl
end
@[simp] theorem e_dSeqL (xs : List D) : dSeq (.lst xs) = .ok xs := nd rfl
@[simp] theorem e_dSeqT (xs : List D) : dSeq (.tup xs) = .ok xs := nd rfl
@[simp] theorem e_dSeqR (xs : List Int) : dSeq (.scr xs) = .ok (xs.map .int) := nd rfl
@[simp] theorem e_dSeqS (s : Str) : dSeq (.str s) = .ok (s.cps.toList.map fun c => .str ⟨#[c]⟩) := nd rfl
@[simp] theorem e_dEnumL (xs : List D) : dEnum [.lst xs] = .ok (enumD 0 xs) := nd rfl
@[simp] theorem e_dRevL (xs : List D) : dRev (.lst xs) = .ok xs.reverse := nd rfl
@[simp] theorem e_dRevT (xs : List D) : dRev (.tup xs) = .ok xs.reverse := nd rfl
@[simp] theorem e_dRange1 (j : Int) : dRange1 [.int j] = if okR 0 j = true then .ok (rangeD 0 j) else .stuck := nd rfl
@[simp] theorem e_dRange2 (i j : Int) : dRange2 [.int i, .int j] = if okR i j = true then .ok (rangeD i j) else .stuck := nd rfl
/-! data -/
@[simp] theorem e_addI (i j : Int) : dAdd (.int i) (.int j) = .ok (.int (i + j)) := nd rfl
@[simp] theorem e_addS (i j : Str) : dAdd (.str i) (.str j) = if i.length + j.length ≤ sizeLine then .ok (.str (i ++ j)) else .stuck := nd rfl
@[simp] theorem e_addL (i j : List D) : dAdd (.lst i) (.lst j) = if i.length + j.length ≤ sizeLine then .ok (.lst (i ++ j)) else .stuck := nd rfl
@[simp] theorem e_addT (i j : List D) : dAdd (.tup i) (.tup j) = if i.length + j.length ≤ sizeLine then .ok (.tup (i ++ j)) else .stuck := nd rfl
@[simp] theorem e_subI (i j : Int) : dSub (.int i) (.int j) = .ok (.int (i - j)) := nd rfl
@[simp] theorem e_mulI (i j : Int) : dMul (.int i) (.int j) = if cMul i j = true then .ok (.int (i * j)) else .stuck := nd rfl
@[simp] theorem e_mulL (xs : List D) (k : Int) : dMul (.lst xs) (.int k) = if k.natAbs < 2 ^ 63 ∧ xs.length * k.toNat ≤ sizeLine then .ok (.lst (List.replicate k.toNat xs).flatten) else .stuck := nd rfl
@[simp] theorem e_fdiv (i j : Int) : dFdiv (.int i) (.int j) = if (decide (0 < j) && decide (j.toNat < 1073741824)) = true then .ok (.int (i / j)) else .stuck := nd rfl
@[simp] theorem e_mod (i j : Int) : dMod (.int i) (.int j) = if decide (0 < j) = true then .ok (.int (i % j)) else .stuck := nd rfl
@[simp] theorem e_pow (i j : Int) : dPow (.int i) (.int j) = if (decide (0 ≤ j) && (decide (j.toNat ≤ 1000000) && decide (i.natAbs < 2 ^ 64))) = true then .ok (.int (i ^ j.toNat)) else .stuck := nd rfl
@[simp] theorem e_neg (i : Int) : dNeg (.int i) = .ok (.int (-i)) := nd rfl
@[simp] theorem e_lt (i j : Int) : dLt (.int i) (.int j) = .ok (.bl (decide (i < j))) := nd rfl
@[simp] theorem e_le (i j : Int) : dLe (.int i) (.int j) = .ok (.bl (decide (i ≤ j))) := nd rfl
@[simp] theorem e_gt (i j : Int) : dGt (.int i) (.int j) = .ok (.bl (decide (j < i))) := nd rfl
@[simp] theorem e_ge (i j : Int) : dGe (.int i) (.int j) = .ok (.bl (decide (j ≤ i))) := nd rfl
@[simp] theorem e_eqI (i j : Int) : dEq (.int i) (.int j) = .ok (.bl (decide (i = j))) := nd rfl
@[simp] theorem e_eqS (i j : Str) : dEq (.str i) (.str j) = .ok (.bl (decide (i = j))) := nd rfl
@[simp] theorem e_eqB (i j : Bool) : dEq (.bl i) (.bl j) = .ok (.bl (decide (i = j))) := nd rfl
@[simp] theorem e_neI (i j : Int) : dNe (.int i) (.int j) = .ok (.bl (!decide (i = j))) := nd rfl
@[simp] theorem e_neS (i j : Str) : dNe (.str i) (.str j) = .ok (.bl (!decide (i = j))) := nd rfl
@[simp] theorem e_isN (d : D) : dIsN d .non = .ok (.bl d.isN) := nd rfl
@[simp] theorem e_notN (d : D) : dNotN d .non = .ok (.bl (!d.isN)) := nd rfl
@[simp] theorem e_isN0 : D.isN .non = true := nd rfl
@[simp] theorem e_isNi (i : Int) : D.isN (.int i) = false := nd rfl
@[simp] theorem e_isNt (i : List D) : D.isN (.tup i) = false := nd rfl
@[simp] theorem e_isB (i j : Bool) : dIsB (.bl i) (.bl j) = .ok (.bl (decide (i = j))) := nd rfl
@[simp] theorem e_notB (i j : Bool) : dNotB (.bl i) (.bl j) = .ok (.bl (!decide (i = j))) := nd rfl
@[simp] theorem e_lenL (xs : List D) : dLen [.lst xs] = .ok (.int xs.length) := nd rfl
@[simp] theorem e_lenT (xs : List D) : dLen [.tup xs] = .ok (.int xs.length) := nd rfl
@[simp] theorem e_lenR (xs : List Int) : dLen [.scr xs] = .ok (.int xs.length) := nd rfl
@[simp] theorem e_lenS (s : Str) : dLen [.str s] = if s.length ≤ sizeLine then .ok (.int s.length) else .stuck := nd rfl
@[simp] theorem e_intI (i : Int) : dIntA [.int i] = .ok (.int i) := nd rfl
@[simp] theorem e_intB (k : Bool) : dIntA [.bl k] = .ok (.int (if k then 1 else 0)) := nd rfl
@[simp] theorem e_intS (s : Str) : dIntA [.str s] = (match PySem.intText? s with
  | some n => if s.length ≤ 640 then .ok (.int n) else .stuck
  | none => .stuck) := nd rfl
@[simp] theorem e_strI (i : Int) : dStr [.int i] = if i.natAbs.log2 < 1920 then .ok (.str (toString i)) else .stuck := nd rfl
@[simp] theorem e_fmtS (y : Str) : dFmt (.str y) = if y.length ≤ sizeLine then .ok (.str y) else .stuck := nd rfl
@[simp] theorem e_fmtI (i : Int) : dFmt (.int i) = if i.natAbs.log2 < 1920 then .ok (.str (toString i)) else .stuck := nd rfl
@[simp] theorem e_ixL (xs : List D) (i : Int) : dIx (.lst xs) (.int i) = match atI xs i with
  | some d => .ok d
  | none => .stuck := nd rfl
@[simp] theorem e_ixT (xs : List D) (i : Int) : dIx (.tup xs) (.int i) = match atI xs i with
  | some d => .ok d
  | none => .stuck := nd rfl
@[simp] theorem e_ixR (xs : List Int) (i : Int) : dIx (.scr xs) (.int i) = match atI xs i with
  | some d => .ok (.int d)
  | none => .stuck := nd rfl
@[simp] theorem e_ixS (s : Str) (i : Int) : dIx (.str s) (.int i) = if s.length ≤ sizeLine then (match atI s.cps.toList i with
  | some c => .ok (.str ⟨#[c]⟩)
  | none => .stuck) else .stuck := nd rfl
@[simp] theorem e_slL (xs : List D) (l h : Option Int) : dSl (.lst xs) l h = .ok (.lst (cutD xs l h)) := nd rfl
@[simp] theorem e_slT (xs : List D) (l h : Option Int) : dSl (.tup xs) l h = .ok (.tup (cutD xs l h)) := nd rfl
@[simp] theorem e_slS (s : Str) (l h : Option Int) : dSl (.str s) l h = if s.length ≤ sizeLine then .ok (.str (cutS s l h)) else .stuck := nd rfl
@[simp] theorem e_split (x y : Str) : dSplit (.str x) [.str y] = if (y.length == 0) = false ∧ x.length + 2 ≤ sizeLine then .ok (.lst ((Txt.split x y).map .str)) else .stuck := nd rfl
@[simp] theorem e_joinL (x : Str) (xs : List D) : dJoin (.str x) [.lst xs] = joinS x xs := nd rfl
@[simp] theorem e_joinT (x : Str) (xs : List D) : dJoin (.str x) [.tup xs] = joinS x xs := nd rfl
@[simp] theorem e_joinS (x : Str) (ys : List Str) : joinS x (ys.map .str) = if (ys.map (·.length)).sum + ys.length * x.length ≤ 16777216 then .ok (.str (Txt.join x ys)) else .stuck := by unfold joinS; rw [strsOf_map]
@[simp] theorem e_starts (x y : Str) : dStarts (.str x) [.str y] = .ok (.bl (Txt.startswith x y)) := nd rfl
@[simp] theorem e_upper (x : Str) : dUpper (.str x) [] = if x.length ≤ 5592405 then .ok (.str (Txt.upper x)) else .stuck := nd rfl
@[simp] theorem e_tab (kvs : List (Str × D)) (z : Str) : dTab kvs (.str z) = (match kvs.lookup z with
  | some d => .ok d
  | none => .stuck) := nd rfl
theorem e_mkT {ds : List D} (h : ds.length ≤ sizeLine) : mkT ds = .ok (.tup ds) := if_pos h
theorem e_mkL {ds : List D} (h : ds.length ≤ sizeLine) : mkL ds = .ok (.lst ds) := if_pos h
@[simp] theorem e_mkT1 (x : D) : mkT [x] = .ok (.tup [x]) := nd rfl
@[simp] theorem e_mkT2 (x y : D) : mkT [x, y] = .ok (.tup [x, y]) := nd rfl
@[simp] theorem e_mkT3 (x y z : D) : mkT [x, y, z] = .ok (.tup [x, y, z]) := nd rfl
@[simp] theorem e_mkL0 : mkL [] = .ok (.lst []) := nd rfl
@[simp] theorem e_mkL1 (x : D) : mkL [x] = .ok (.lst [x]) := nd rfl
@[simp] theorem e_mkL2 (x y : D) : mkL [x, y] = .ok (.lst [x, y]) := nd rfl
@[simp] theorem e_mkL3 (x y z : D) : mkL [x, y, z] = .ok (.lst [x, y, z]) := nd rfl
@[simp] theorem e_mkL4 (x y z a : D) : mkL [x, y, z, a] = .ok (.lst [x, y, z, a]) := nd rfl
@[simp] theorem e_mkL5 (x y z a b : D) : mkL [x, y, z, a, b] = .ok (.lst [x, y, z, a, b]) := nd rfl
@[simp] theorem e_mkL6 (x y z a b c : D) : mkL [x, y, z, a, b, c] = .ok (.lst [x, y, z, a, b, c]) := nd rfl
@[simp] theorem e_mkL8 (x y z a b c d e : D) : mkL [x, y, z, a, b, c, d, e] = .ok (.lst [x, y, z, a, b, c, d, e]) := nd rfl
/-! items -/
theorem atI_nat {α : Type} {xs : List α} {n : Nat} : atI xs (n : Int) = xs[n]? := by
  unfold atI ixN
  by_cases h : n < xs.length
  · simp [h]
  · rw [List.getElem?_eq_none (by omega)]
    split <;> rename_i h2 <;> simp_all
    all_goals omega
@[simp] theorem atI_0 {α : Type} {xs : List α} : atI xs 0 = xs[0]? := atI_nat (n := 0)
@[simp] theorem atI_1 {α : Type} {xs : List α} : atI xs 1 = xs[1]? := atI_nat (n := 1)
@[simp] theorem atI_2 {α : Type} {xs : List α} : atI xs 2 = xs[2]? := atI_nat (n := 2)
@[simp] theorem atI_3 {α : Type} {xs : List α} : atI xs 3 = xs[3]? := atI_nat (n := 3)
@[simp] theorem atI_4 {α : Type} {xs : List α} : atI xs 4 = xs[4]? := atI_nat (n := 4)
@[simp] theorem atI_5 {α : Type} {xs : List α} : atI xs 5 = xs[5]? := atI_nat (n := 5)
theorem inS1 (c : Nat) (s : Str) : inB (.str ⟨#[c]⟩) (.str s) = .ok (decide (c ∈ s.cps.toList)) := by
  show O.ok (!(Builtin.Str.occurrences s ⟨#[c]⟩ 0 s.length 1).isEmpty) = _
  rw [StrLaws.found_one]
@[simp] theorem e_in1 (c : Nat) (s : Str) : dIn (.str ⟨#[c]⟩) (.str s) = .ok (.bl (decide (c ∈ s.cps.toList))) := by unfold dIn; rw [inS1]; rfl
@[simp] theorem e_notIn1 (c : Nat) (s : Str) : dNotIn (.str ⟨#[c]⟩) (.str s) = .ok (.bl (!decide (c ∈ s.cps.toList))) := by unfold dNotIn; rw [inS1]; rfl
@[simp] theorem e_def (N n : Nat) (rr : Kd) (g : Env → SO) (ds : List D) : mDef N n rr g ds = if ds.length = n then endD rr (g (startD N ds)) else .stuck := nd rfl
@[simp] theorem e_init (c : Str) (N n : Nat) (g : Env → SO) (ds : List D) : mInit c N n g ds = if ds.length = n then endI c (g (some (.ins c []) :: startD (N - 1) ds)) else .stuck := nd rfl
@[simp] theorem e_start (N : Nat) (ds : List D) : startD N ds = ds.map some ++ List.replicate (N - ds.length) none := nd rfl
@[simp] theorem e_end1 (rr : Kd) (d : D) : endD rr (.rt d) = .ok d := nd rfl
@[simp] theorem e_end2 (rr : Kd) (ρ : Env) (c : Str) (fs : List (Str × D)) : endD rr (.exc ρ c fs) = .exc c fs := nd rfl
@[simp] theorem e_end3 (ρ : Env) : endD .sh (.nx ρ) = .ok .non := nd rfl
@[simp] theorem e_endI1 (c0 : Str) (ρ : Env) : endI c0 (.nx ρ) = (match ρ[0]? with
    | some (some (D.ins c fs)) => if c = c0 then .ok (.ins c fs) else .stuck
    | _ => .stuck) := nd rfl
@[simp] theorem e_endI2 (c0 : Str) (ρ : Env) (c : Str) (fs : List (Str × D)) : endI c0 (.exc ρ c fs) = .exc c fs := nd rfl
theorem forD_cons (tg : Tg) (s : Env → SO) (d : D) (ds : List D) (ρ : Env) : forD tg s (d :: ds) ρ = match tg.put d ρ with
    | none => .stuck
    | some ρ1 => match s ρ1 with
      | .nx ρ' => forD tg s ds ρ'
      | .ct ρ' => forD tg s ds ρ'
      | .bk ρ' => .nx ρ'
      | o => o := nd rfl
theorem compD_nil (tg : Tg) (t : Env → O Bool) (e : Env → O D) (ρ : Env) (acc : List D) : compD tg t e ρ [] acc = .ok acc := nd rfl
theorem compD_cons (tg : Tg) (t : Env → O Bool) (e : Env → O D) (ρ : Env) (d : D) (ds acc : List D) : compD tg t e ρ (d :: ds) acc = match tg.put d ρ with
    | none => .stuck
    | some ρ1 => match t ρ1 with
      | .ok true => (match e ρ1 with
        | .ok z => if acc.length < sizeLine then compD tg t e ρ ds (acc ++ [z]) else .stuck
        | _ => .stuck)
      | .ok false => compD tg t e ρ ds acc
      | _ => .stuck := nd rfl
/-- a comprehension without a test is a map -/
theorem compD_map {tg : Tg} {e : Env → O D} {ρ : Env} {α : Type} {fd fz : α → D} (h : ∀ x, ∃ ρ1, tg.put (fd x) ρ = some ρ1 ∧ e ρ1 = .ok (fz x)) : ∀ (xs : List α) (acc : List D), acc.length + xs.length ≤ sizeLine → compD tg mYes e ρ (xs.map fd) acc = .ok (acc ++ xs.map fz)
  | [], acc, _ => by rw [List.map_nil, compD_nil, List.map_nil, List.append_nil]
  | x :: xs, acc, hl => by
    obtain ⟨ρ1, h1, h2⟩ := h x
    rw [List.map_cons, compD_cons, h1]
    dsimp only
    rw [e_mYes, h2]
    dsimp only
    rw [List.length_cons] at hl
    rw [if_pos (by omega), compD_map h xs _ (by rw [List.length_append, List.length_singleton]; omega), List.map_cons, List.append_assoc]
    rfl
end T

set_option Elab.async false
set_option linter.all false
set_option maxRecDepth 100000
set_option maxHeartbeats 4000000
namespace K69
open PySem L2 T
abbrev fc_top : List Str := ["Row"]
abbrev fc_letters : List Str := ["Row"]
def tb_MORE_LANES : List (Str × D) := [("cross", .int (0)), ("cup", .int (2)), ("cap", .int (-2))]
def tb_FLIPPED : List (Str × D) := [("cross", .str "cross"), ("cup", .str "cap"), ("cap", .str "cup")]
def cl : List Str := ["Row"]
abbrev erb : Str := "RimError"
abbrev ers : List Str := ["BadLanes", "BadLetter", "NoteError"]
abbrev eru : List Ty := [.o "BadLetter", .o "BadLanes", .o "NoteError", .b "ValueError"]
abbrev erf : List Str := ["number", "place", "letter", "line"]
def g_is_count : T.Env → SO := sRet (mAndV (mUn (dIsi cl [.b "int"]) (mVar 0)) (mAndV (mNotV (mUn (dIsi cl [.b "bool"]) (mVar 0))) (mBin dGe (mVar 0) (mC (.int 0)))))
def m_is_count : List D → O D := mDef 1 1 .sh g_is_count
def g_letter_fits : T.Env → SO := sSeq (sIf (mOr (mNot (mTest (mUn (dIsi cl [.b "list", .b "tuple"]) (mVar 0)))) (mOr (mTest (mBin dNe (mCall dLen (mCons (mVar 0) (mNil))) (mC (.int 2)))) (mNot (mTest (mApp m_is_count (mCons (mBin dIx (mVar 0) (mC (.int 1))) (mNil))))))) (sRet (mC (.bl false))) (sNext)) (sSeq (sIf (mTest (mBin dEq (mBin dIx (mVar 0) (mC (.int 0))) (mC (.str "cup")))) (sRet (mBin dLe (mBin dIx (mVar 0) (mC (.int 1))) (mVar 1))) (sNext)) (sRet (mAndV (mBin dIn (mBin dIx (mVar 0) (mC (.int 0))) (mTup (mCons (mC (.str "cross")) (mCons (mC (.str "cap")) (mNil))))) (mBin dLt (mBin dAdd (mBin dIx (mVar 0) (mC (.int 1))) (mC (.int 1))) (mVar 1)))))
def m_letter_fits : List D → O D := mDef 2 2 .sh g_letter_fits
def g_Row___init__ : T.Env → SO := sSeq (sIf (mNot (mTest (mApp m_is_count (mCons (mVar 1) (mNil))))) (sRaise "BadLanes" ["number"] (mCons (mVar 1) (mNil))) (sNext)) (sSeq (sAsg 3 (mVar 1)) (sSeq (sAsg 4 (mC (.lst []))) (sSeq (sFor (mEnum (mCons (mVar 2) (mNil))) (.tp [5, 6]) (sSeq (sIf (mNot (mTest (mApp m_letter_fits (mCons (mVar 6) (mCons (mVar 3) (mNil)))))) (sRaise "BadLetter" ["place", "letter"] (mCons (mVar 5) (mCons (mVar 6) (mNil)))) (sNext)) (sSeq (sAsg 3 (mBin dAdd (mVar 3) (mUn (dTab tb_MORE_LANES) (mBin dIx (mVar 6) (mC (.int 0)))))) (sSeq (sApp 4 (mTup (mCons (mBin dIx (mVar 6) (mC (.int 0))) (mCons (mBin dIx (mVar 6) (mC (.int 1))) (mNil))))) (sNext))))) (sSeq (sSetA fc_top 0 "top" (mVar 1)) (sSeq (sSetA fc_letters 0 "letters" (mTupO 4)) (sNext))))))
def m_Row___init__ : List D → O D := mInit "Row" 7 2 g_Row___init__
def g_Row_lanes : T.Env → SO := sSeq (sAsg 1 (mLst (mCons (mUn (dFld fc_top "top") (mVar 0)) (mNil)))) (sSeq (sFor (mSeq (mUn (dFld fc_letters "letters") (mVar 0))) (.tp [2, 3]) (sSeq (sApp 1 (mBin dAdd (mIxO 1 (mUn dNeg (mC (.int 1)))) (mUn (dTab tb_MORE_LANES) (mVar 2)))) (sNext))) (sRet (mTupO 1)))
def m_Row_lanes : List D → O D := mDef 4 1 .sh g_Row_lanes
def g_Row_bottom : T.Env → SO := sRet (mBin dIx (mProp "Row" m_Row_lanes (mVar 0)) (mUn dNeg (mC (.int 1))))
def m_Row_bottom : List D → O D := mDef 1 1 .sh g_Row_bottom
def g_Row___len__ : T.Env → SO := sRet (mCall dLen (mCons (mUn (dFld fc_letters "letters") (mVar 0)) (mNil)))
def m_Row___len__ : List D → O D := mDef 1 1 .sh g_Row___len__
def g_Row___eq__ : T.Env → SO := sRet (mAndV (mUn (dIsi cl [.o "Row"]) (mVar 1)) (mAndV (mBin dEq (mUn (dFld fc_top "top") (mVar 0)) (mUn (dFld fc_top "top") (mVar 1))) (mBin dEq (mUn (dFld fc_letters "letters") (mVar 0)) (mUn (dFld fc_letters "letters") (mVar 1)))))
def m_Row___eq__ : List D → O D := mDef 2 2 .sh g_Row___eq__
def g_Row_flipped : T.Env → SO := sSeq (sAsg 1 (mComp (mRev (mUn (dFld fc_letters "letters") (mVar 0))) [2, 3] (.tp [2, 3]) (mYes) (mTup (mCons (mUn (dTab tb_FLIPPED) (mVar 2)) (mCons (mVar 3) (mNil)))))) (sRet (mApp m_Row___init__ (mCons (mProp "Row" m_Row_bottom (mVar 0)) (mCons (mVar 1) (mNil)))))
def m_Row_flipped : List D → O D := mDef 4 1 .sh g_Row_flipped
def g_format_row : T.Env → SO := sSeq (sAsg 1 (mLst (mCons (mFS [mC (.str "row "), mUn dFmt (mUn (dFld fc_top "top") (mVar 0))] Str.empty) (mNil)))) (sSeq (sFor (mSeq (mUn (dFld fc_letters "letters") (mVar 0))) (.tp [2, 3]) (sSeq (sApp 1 (mFS [mUn dFmt (mVar 2), mC (.str " "), mUn dFmt (mVar 3)] Str.empty)) (sNext))) (sRet (mM1 dJoin (mC (.str "\n")) (mVar 1))))
def m_format_row : List D → O D := mDef 4 1 .sh g_format_row
def g_written_number : T.Env → SO := sSeq (sAsg 1 (mIf (mTest (mM1 dStarts (mVar 0) (mC (.str "-")))) (mSl dSl (mVar 0) (mB1 (mC (.int 1))) (mB0)) (mVar 0))) (sSeq (sIf (mTest (mBin dEq (mVar 1) (mC (.str "")))) (sRet (mC .non)) (sNext)) (sSeq (sFor (mSeq (mVar 1)) (.nm 2) (sSeq (sIf (mTest (mBin dNotIn (mVar 2) (mC (.str "0123456789")))) (sRet (mC .non)) (sNext)) (sNext))) (sSeq (sIf (mAnd (mTest (mBin dEq (mBin dIx (mVar 1) (mC (.int 0))) (mC (.str "0")))) (mTest (mBin dNe (mVar 0) (mC (.str "0"))))) (sRet (mC .non)) (sNext)) (sRet (mCall dIntA (mCons (mVar 0) (mNil)))))))
def m_written_number : List D → O D := mDef 3 1 .sh g_written_number
def g_parse_line : T.Env → SO := sSeq (sAsg 2 (mM1 dSplit (mVar 0) (mC (.str " ")))) (sSeq (sIf (mOr (mTest (mBin dNe (mCall dLen (mCons (mVar 2) (mNil))) (mC (.int 2)))) (mTest (mBin dNotIn (mBin dIx (mVar 2) (mC (.int 0))) (mVar 1)))) (sRet (mC .non)) (sNext)) (sSeq (sAsg 3 (mApp m_written_number (mCons (mBin dIx (mVar 2) (mC (.int 1))) (mNil)))) (sSeq (sIf (mTest (mBin dIsN (mVar 3) (mC .non))) (sRet (mC .non)) (sNext)) (sRet (mTup (mCons (mBin dIx (mVar 2) (mC (.int 0))) (mCons (mVar 3) (mNil))))))))
def m_parse_line : List D → O D := mDef 4 2 .sh g_parse_line
def g_parse_row : T.Env → SO := sSeq (sAsg 1 (mC (.lst []))) (sSeq (sFor (mEnum (mCons (mM1 dSplit (mVar 0) (mC (.str "\n"))) (mNil))) (.tp [2, 3]) (sSeq (sAsg 4 (mIf (mTest (mBin dEq (mVar 2) (mC (.int 0)))) (mTup (mCons (mC (.str "row")) (mNil))) (mTup (mCons (mC (.str "cross")) (mCons (mC (.str "cup")) (mCons (mC (.str "cap")) (mNil))))))) (sSeq (sAsg 5 (mApp m_parse_line (mCons (mVar 3) (mCons (mVar 4) (mNil))))) (sSeq (sIf (mTest (mBin dIsN (mVar 5) (mC .non))) (sRaise "NoteError" ["line"] (mCons (mBin dAdd (mVar 2) (mC (.int 1))) (mNil))) (sNext)) (sSeq (sApp 1 (mVar 5)) (sNext)))))) (sRet (mApp m_Row___init__ (mCons (mBin dIx (mBin dIx (mVar 1) (mC (.int 0))) (mC (.int 1))) (mCons (mSl dSl (mVar 1) (mB1 (mC (.int 1))) (mB0)) (mNil))))))
def m_parse_row : List D → O D := mDef 6 1 .sh g_parse_row
def g__law_whole : T.Env → SO := sRet (mAndV (mUn (dIsi cl [.b "int"]) (mVar 0)) (mNotV (mUn (dIsi cl [.b "bool"]) (mVar 0))))
def m__law_whole : List D → O D := mDef 1 1 .sh g__law_whole
def g__law_cell : T.Env → SO := sSeq (sIf (mTest (mBin dLt (mVar 1) (mCall dLen (mCons (mVar 0) (mNil))))) (sRet (mBin dIx (mVar 0) (mVar 1))) (sNext)) (sSeq (sAsg 2 (mC (.int 17))) (sSeq (sFor (mSeq (mVar 0)) (.nm 3) (sSeq (sAsg 2 (mBin dMod (mCall dIntA (mCons (mBin dAdd (mBin dMul (mVar 2) (mC (.int 31))) (mBin dMod (mCall dIntA (mCons (mVar 3) (mNil))) (mC (.int 1000003)))) (mNil))) (mC (.int 1000003)))) (sNext))) (sRet (mBin dMod (mCall dIntA (mCons (mBin dMul (mBin dMul (mBin dAdd (mVar 2) (mC (.int 7))) (mBin dAdd (mVar 1) (mC (.int 3)))) (mC (.int 69621))) (mNil))) (mC (.int 2147483647))))))
def m__law_cell : List D → O D := mDef 4 2 .sh g__law_cell
def g__law_digits : T.Env → SO := sSeq (sAsg 2 (mC (.lst []))) (sSeq (sAsg 3 (mCall dIntA (mCons (mVar 0) (mNil)))) (sSeq (sIf (mTest (mBin dGe (mVar 3) (mBin dPow (mC (.int 10)) (mC (.int 18))))) (sSeq (sAsg 3 (mBin dSub (mVar 3) (mBin dPow (mC (.int 10)) (mC (.int 18))))) (sSeq (sFor (mSeq (mVar 1)) (.nm 4) (sSeq (sApp 2 (mBin dMod (mCall dIntA (mCons (mVar 3) (mNil))) (mVar 4))) (sSeq (sAsg 3 (mBin dFdiv (mCall dIntA (mCons (mVar 3) (mNil))) (mVar 4))) (sNext)))) (sRet (mVar 2)))) (sNext)) (sSeq (sAsg 5 (mBin dMod (mCall dIntA (mCons (mVar 3) (mNil))) (mC (.int 2147483629)))) (sSeq (sFor (mRange1 (mCons (mCall dLen (mCons (mVar 1) (mNil))) (mNil))) (.nm 6) (sSeq (sAsg 5 (mBin dMod (mCall dIntA (mCons (mBin dAdd (mBin dAdd (mBin dMul (mVar 5) (mC (.int 48271))) (mBin dMul (mC (.int 974711)) (mVar 6))) (mC (.int 12345))) (mNil))) (mC (.int 2147483647)))) (sSeq (sAsg 7 (mBin dMod (mCall dIntA (mCons (mBin dMul (mVar 5) (mBin dAdd (mBin dFdiv (mVar 5) (mC (.int 65537))) (mC (.int 3)))) (mNil))) (mC (.int 2147483629)))) (sSeq (sApp 2 (mBin dMod (mBin dFdiv (mVar 7) (mC (.int 19))) (mBin dIx (mVar 1) (mVar 6)))) (sNext))))) (sRet (mVar 2))))))
def m__law_digits : List D → O D := mDef 8 2 .sh g__law_digits
def g__law_letters : T.Env → SO := sSeq (sAsg 3 (mC (.lst []))) (sSeq (sAsg 4 (mVar 1)) (sSeq (sFor (mRange1 (mCons (mBin dFdiv (mCall dLen (mCons (mVar 0) (mNil))) (mC (.int 2))) (mNil))) (.nm 5) (sSeq (sAsg 6 (mBin dIx (mLst (mCons (mC (.str "cross")) (mCons (mC (.str "cross")) (mCons (mC (.str "cap")) (mCons (mC (.str "cup")) (mNil)))))) (mBin dFdiv (mBin dIx (mVar 0) (mBin dMul (mC (.int 2)) (mVar 5))) (mC (.int 3))))) (sSeq (sIf (mTest (mBin dLt (mVar 4) (mC (.int 2)))) (sSeq (sAsg 6 (mC (.str "cup"))) (sNext)) (sNext)) (sSeq (sIf (mAnd (mTest (mBin dEq (mVar 6) (mC (.str "cup")))) (mTest (mBin dGt (mBin dAdd (mVar 4) (mC (.int 2))) (mVar 2)))) (sSeq (sAsg 6 (mC (.str "cross"))) (sNext)) (sNext)) (sSeq (sIf (mTest (mBin dEq (mVar 6) (mC (.str "cup")))) (sSeq (sApp 3 (mTup (mCons (mVar 6) (mCons (mBin dMod (mCall dIntA (mCons (mBin dIx (mVar 0) (mBin dAdd (mBin dMul (mC (.int 2)) (mVar 5)) (mC (.int 1)))) (mNil))) (mBin dAdd (mVar 4) (mC (.int 1)))) (mNil))))) (sSeq (sAsg 4 (mBin dAdd (mVar 4) (mC (.int 2)))) (sNext))) (sSeq (sApp 3 (mTup (mCons (mVar 6) (mCons (mBin dMod (mCall dIntA (mCons (mBin dIx (mVar 0) (mBin dAdd (mBin dMul (mC (.int 2)) (mVar 5)) (mC (.int 1)))) (mNil))) (mBin dSub (mVar 4) (mC (.int 1)))) (mNil))))) (sSeq (sAsg 4 (mBin dSub (mVar 4) (mBin dMul (mC (.int 2)) (mCall dIntA (mCons (mBin dEq (mVar 6) (mC (.str "cap"))) (mNil)))))) (sNext)))) (sNext)))))) (sRet (mVar 3))))
def m__law_letters : List D → O D := mDef 7 3 .sh g__law_letters
def g__law_lanes : T.Env → SO := sSeq (sAsg 2 (mLst (mCons (mVar 0) (mNil)))) (sSeq (sFor (mSeq (mVar 1)) (.nm 3) (sSeq (sApp 2 (mBin dSub (mBin dAdd (mIxO 2 (mUn dNeg (mC (.int 1)))) (mBin dMul (mC (.int 2)) (mCall dIntA (mCons (mBin dEq (mBin dIx (mVar 3) (mC (.int 0))) (mC (.str "cup"))) (mNil))))) (mBin dMul (mC (.int 2)) (mCall dIntA (mCons (mBin dEq (mBin dIx (mVar 3) (mC (.int 0))) (mC (.str "cap"))) (mNil)))))) (sNext))) (sRet (mVar 2)))
def m__law_lanes : List D → O D := mDef 4 2 .sh g__law_lanes
def g__law_is_row : T.Env → SO := sSeq (sIf (mOr (mNot (mTest (mUn (dIsi cl [.o "Row"]) (mVar 0)))) (mOr (mNot (mTest (mApp m__law_whole (mCons (mUn (dFld fc_top "top") (mVar 0)) (mNil))))) (mTest (mBin dNe (mUn (dFld fc_top "top") (mVar 0)) (mVar 1))))) (sRet (mC (.bl false))) (sNext)) (sSeq (sIf (mOr (mNot (mTest (mUn (dIsi cl [.b "tuple"]) (mUn (dFld fc_letters "letters") (mVar 0))))) (mOr (mTest (mBin dNe (mCall dLen (mCons (mUn (dFld fc_letters "letters") (mVar 0)) (mNil))) (mCall dLen (mCons (mVar 2) (mNil))))) (mTest (mBin dNe (mCall (dLenO "Row" m_Row___len__) (mCons (mVar 0) (mNil))) (mCall dLen (mCons (mVar 2) (mNil))))))) (sRet (mC (.bl false))) (sNext)) (sSeq (sFor (mRange1 (mCons (mCall dLen (mCons (mVar 2) (mNil))) (mNil))) (.nm 3) (sSeq (sAsg 4 (mBin dIx (mUn (dFld fc_letters "letters") (mVar 0)) (mVar 3))) (sSeq (sIf (mOr (mNot (mTest (mUn (dIsi cl [.b "tuple"]) (mVar 4)))) (mTest (mBin dNe (mCall dLen (mCons (mVar 4) (mNil))) (mC (.int 2))))) (sRet (mC (.bl false))) (sNext)) (sSeq (sIf (mOr (mNot (mTest (mUn (dIsi cl [.b "str"]) (mBin dIx (mVar 4) (mC (.int 0)))))) (mNot (mTest (mApp m__law_whole (mCons (mBin dIx (mVar 4) (mC (.int 1))) (mNil)))))) (sRet (mC (.bl false))) (sNext)) (sSeq (sIf (mOr (mTest (mBin dNe (mBin dIx (mVar 4) (mC (.int 0))) (mBin dIx (mBin dIx (mVar 2) (mVar 3)) (mC (.int 0))))) (mTest (mBin dNe (mBin dIx (mVar 4) (mC (.int 1))) (mBin dIx (mBin dIx (mVar 2) (mVar 3)) (mC (.int 1)))))) (sRet (mC (.bl false))) (sNext)) (sNext)))))) (sRet (mAndV (mApp m__law_whole (mCons (mProp "Row" m_Row_bottom (mVar 0)) (mNil))) (mBin dEq (mProp "Row" m_Row_bottom (mVar 0)) (mBin dIx (mApp m__law_lanes (mCons (mVar 1) (mCons (mVar 2) (mNil)))) (mUn dNeg (mC (.int 1)))))))))
def m__law_is_row : List D → O D := mDef 5 3 .sh g__law_is_row
def g__law_note : T.Env → SO := sRet (mM1 dJoin (mC (.str "\n")) (mBin dAdd (mLst (mCons (mBin dAdd (mC (.str "row ")) (mCall dStr (mCons (mVar 0) (mNil)))) (mNil))) (mComp (mSeq (mVar 1)) [2] (.nm 2) (mYes) (mBin dAdd (mBin dAdd (mBin dIx (mVar 2) (mC (.int 0))) (mC (.str " "))) (mCall dStr (mCons (mBin dIx (mVar 2) (mC (.int 1))) (mNil)))))))
def m__law_note : List D → O D := mDef 3 2 .sh g__law_note
def g__law_spoilt_line : T.Env → SO := sSeq (sAsg 3 (mBin dIx (mM1 dSplit (mVar 0) (mC (.str " "))) (mC (.int 0)))) (sSeq (sAsg 4 (mSl dSl (mVar 0) (mB1 (mBin dAdd (mCall dLen (mCons (mVar 3) (mNil))) (mC (.int 1)))) (mB0))) (sSeq (sAsg 5 (mBin dMod (mCall dIntA (mCons (mVar 2) (mNil))) (mC (.int 5)))) (sSeq (sIf (mTest (mBin dLt (mVar 1) (mC (.int 4)))) (sRet (mBin dIx (mLst (mCons (mC (.str "")) (mCons (mBin dAdd (mBin dAdd (mVar 3) (mC (.str "  "))) (mVar 4)) (mCons (mBin dAdd (mVar 0) (mC (.str " "))) (mCons (mBin dAdd (mC (.str " ")) (mVar 0)) (mNil)))))) (mVar 1))) (sNext)) (sSeq (sIf (mTest (mBin dLt (mVar 1) (mC (.int 8)))) (sRet (mBin dIx (mLst (mCons (mVar 3) (mCons (mBin dAdd (mBin dAdd (mVar 0) (mC (.str " "))) (mVar 4)) (mCons (mBin dAdd (mVar 3) (mVar 4)) (mCons (mBin dAdd (mBin dAdd (mVar 3) (mC (.str " 0"))) (mVar 4)) (mNil)))))) (mBin dSub (mVar 1) (mC (.int 4))))) (sNext)) (sSeq (sIf (mTest (mBin dLt (mVar 1) (mC (.int 12)))) (sRet (mBin dIx (mLst (mCons (mBin dAdd (mVar 3) (mC (.str " -0"))) (mCons (mBin dAdd (mBin dAdd (mVar 3) (mC (.str " +"))) (mVar 4)) (mCons (mBin dAdd (mBin dAdd (mVar 4) (mC (.str " "))) (mVar 3)) (mCons (mBin dAdd (mVar 0) (mC (.str "\t"))) (mNil)))))) (mBin dSub (mVar 1) (mC (.int 8))))) (sNext)) (sSeq (sIf (mTest (mBin dEq (mVar 1) (mC (.int 12)))) (sRet (mBin dAdd (mBin dAdd (mBin dIx (mLst (mCons (mM0 dUpper (mVar 3)) (mCons (mBin dAdd (mM0 dUpper (mSl dSl (mVar 3) (mB0) (mB1 (mC (.int 1))))) (mSl dSl (mVar 3) (mB1 (mC (.int 1))) (mB0))) (mCons (mBin dAdd (mVar 3) (mC (.str "s"))) (mCons (mSl dSl (mVar 3) (mB0) (mB1 (mUn dNeg (mC (.int 1))))) (mCons (mC (.str "twist")) (mNil))))))) (mVar 5)) (mC (.str " "))) (mVar 4))) (sNext)) (sSeq (sIf (mTest (mBin dEq (mVar 1) (mC (.int 13)))) (sRet (mBin dAdd (mBin dIx (mLst (mCons (mC (.str "cross ")) (mCons (mC (.str "row ")) (mNil)))) (mCall dIntA (mCons (mBin dNe (mVar 3) (mC (.str "row"))) (mNil)))) (mVar 4))) (sNext)) (sSeq (sIf (mTest (mBin dEq (mVar 1) (mC (.int 14)))) (sRet (mBin dAdd (mVar 3) (mBin dIx (mLst (mCons (mC (.str " -")) (mCons (mC (.str " --1")) (mCons (mC (.str " 1_0")) (mCons (mC (.str " x")) (mCons (mC (.str " 1.")) (mCons (mC (.str " -07")) (mCons (mC (.str " -00")) (mCons (mC (.str " 1e2")) (mNil)))))))))) (mBin dMod (mCall dIntA (mCons (mVar 2) (mNil))) (mC (.int 8)))))) (sNext)) (sSeq (sIf (mTest (mBin dEq (mVar 1) (mC (.int 15)))) (sRet (mBin dAdd (mBin dAdd (mVar 3) (mC (.str " -"))) (mCall dStr (mCons (mBin dMul (mBin dAdd (mC (.int 1)) (mCall dIntA (mCons (mVar 2) (mNil)))) (mBin dIx (mLst (mCons (mC (.int 1)) (mCons (mBin dPow (mC (.int 10)) (mC (.int 15))) (mNil)))) (mBin dMod (mCall dIntA (mCons (mVar 2) (mNil))) (mC (.int 2))))) (mNil))))) (sNext)) (sSeq (sIf (mTest (mBin dEq (mVar 3) (mC (.str "row")))) (sRet (mBin dAdd (mBin dAdd (mVar 3) (mC (.str " "))) (mCall dStr (mCons (mBin dMod (mCall dIntA (mCons (mVar 2) (mNil))) (mC (.int 8))) (mNil))))) (sNext)) (sRet (mBin dAdd (mBin dAdd (mVar 3) (mC (.str " "))) (mCall dStr (mCons (mBin dMul (mCall dIntA (mCons (mVar 2) (mNil))) (mBin dIx (mLst (mCons (mC (.int 1)) (mCons (mC (.int 1)) (mCons (mC (.int 1)) (mCons (mC (.int 1)) (mCons (mBin dAdd (mBin dPow (mC (.int 10)) (mC (.int 16))) (mC (.int 3))) (mNil))))))) (mVar 5))) (mNil)))))))))))))))
def m__law_spoilt_line : List D → O D := mDef 6 3 .sh g__law_spoilt_line
def g__law_spoilt_note : T.Env → SO := sSeq (sAsg 4 (mM1 dSplit (mVar 0) (mC (.str "\n")))) (sSeq (sAsg 5 (mBin dMod (mCall dIntA (mCons (mVar 2) (mNil))) (mCall dLen (mCons (mVar 4) (mNil))))) (sSeq (sIf (mTest (mBin dLt (mVar 2) (mC (.int 15)))) (sSeq (sAsg 5 (mC (.int 0))) (sNext)) (sNext)) (sSeq (sAsg 6 (mBin dMod (mCall dIntA (mCons (mVar 3) (mNil))) (mCall dLen (mCons (mVar 4) (mNil))))) (sSeq (sIf (mAnd (mTest (mBin dLt (mVar 1) (mC (.int 17)))) (mTest (mBin dIn (mC (.str " ")) (mBin dIx (mVar 4) (mVar 5))))) (sRet (mM1 dJoin (mC (.str "\n")) (mBin dAdd (mBin dAdd (mSl dSl (mVar 4) (mB0) (mB1 (mVar 5))) (mLst (mCons (mApp m__law_spoilt_line (mCons (mBin dIx (mVar 4) (mVar 5)) (mCons (mVar 1) (mCons (mVar 3) (mNil))))) (mNil)))) (mSl dSl (mVar 4) (mB1 (mBin dAdd (mVar 5) (mC (.int 1)))) (mB0))))) (sNext)) (sSeq (sIf (mTest (mBin dEq (mVar 1) (mC (.int 17)))) (sRet (mBin dAdd (mVar 0) (mC (.str "\n")))) (sNext)) (sSeq (sIf (mTest (mBin dEq (mVar 1) (mC (.int 18)))) (sRet (mBin dAdd (mC (.str "\n")) (mVar 0))) (sNext)) (sSeq (sIf (mTest (mBin dEq (mVar 1) (mC (.int 19)))) (sRet (mM1 dJoin (mC (.str "\n")) (mBin dAdd (mSl dSl (mVar 4) (mB0) (mB1 (mVar 5))) (mSl dSl (mVar 4) (mB1 (mBin dAdd (mVar 5) (mC (.int 1)))) (mB0))))) (sNext)) (sSeq (sIf (mTest (mBin dEq (mVar 1) (mC (.int 20)))) (sRet (mM1 dJoin (mC (.str "\n")) (mBin dAdd (mBin dAdd (mSl dSl (mVar 4) (mB0) (mB1 (mVar 5))) (mLst (mCons (mBin dIx (mVar 4) (mVar 5)) (mNil)))) (mSl dSl (mVar 4) (mB1 (mVar 5)) (mB0))))) (sNext)) (sSeq (sIf (mTest (mBin dEq (mVar 1) (mC (.int 21)))) (sRet (mM1 dJoin (mC (.str "\n")) (mComp (mRange1 (mCons (mCall dLen (mCons (mVar 4) (mNil))) (mNil))) [7] (.nm 7) (mYes) (mBin dIx (mLst (mCons (mBin dIx (mVar 4) (mVar 7)) (mCons (mBin dIx (mVar 4) (mVar 6)) (mCons (mBin dIx (mVar 4) (mVar 5)) (mNil))))) (mBin dAdd (mCall dIntA (mCons (mBin dEq (mVar 7) (mVar 5)) (mNil))) (mBin dMul (mC (.int 2)) (mCall dIntA (mCons (mAndV (mBin dEq (mVar 7) (mVar 6)) (mBin dNe (mVar 7) (mVar 5))) (mNil))))))))) (sNext)) (sRet (mC (.str ""))))))))))))
def m__law_spoilt_note : List D → O D := mDef 8 4 .sh g__law_spoilt_note
def g__law_number : T.Env → SO := sSeq (sAsg 1 (mVar 0)) (sSeq (sIf (mTest (mBin dEq (mSl dSl (mVar 0) (mB0) (mB1 (mC (.int 1)))) (mC (.str "-")))) (sSeq (sAsg 1 (mSl dSl (mVar 0) (mB1 (mC (.int 1))) (mB0))) (sNext)) (sNext)) (sSeq (sIf (mOr (mTest (mBin dEq (mVar 1) (mC (.str "")))) (mAnd (mTest (mBin dEq (mBin dIx (mVar 1) (mC (.int 0))) (mC (.str "0")))) (mTest (mBin dNe (mVar 0) (mC (.str "0")))))) (sRet (mC .non)) (sNext)) (sSeq (sFor (mSeq (mVar 1)) (.nm 2) (sSeq (sIf (mTest (mBin dNotIn (mVar 2) (mC (.str "0123456789")))) (sRet (mC .non)) (sNext)) (sNext))) (sRet (mBin dMul (mCall dIntA (mCons (mVar 1) (mNil))) (mBin dSub (mC (.int 1)) (mBin dMul (mC (.int 2)) (mCall dIntA (mCons (mBin dEq (mBin dIx (mVar 0) (mC (.int 0))) (mC (.str "-"))) (mNil))))))))))
def m__law_number : List D → O D := mDef 3 1 .sh g__law_number
def g__law_outcome : T.Env → SO := sSeq (sAsg 1 (mM1 dSplit (mVar 0) (mC (.str "\n")))) (sSeq (sAsg 2 (mC (.lst []))) (sSeq (sFor (mRange1 (mCons (mCall dLen (mCons (mVar 1) (mNil))) (mNil))) (.nm 3) (sSeq (sAsg 4 (mM1 dSplit (mBin dIx (mVar 1) (mVar 3)) (mC (.str " ")))) (sSeq (sAsg 5 (mBin dIx (mLst (mCons (mLst (mCons (mC (.str "row")) (mNil))) (mCons (mLst (mCons (mC (.str "cross")) (mCons (mC (.str "cup")) (mCons (mC (.str "cap")) (mNil))))) (mNil)))) (mCall dIntA (mCons (mBin dGt (mVar 3) (mC (.int 0))) (mNil))))) (sSeq (sIf (mOr (mTest (mBin dNe (mCall dLen (mCons (mVar 4) (mNil))) (mC (.int 2)))) (mOr (mTest (mBin dNotIn (mBin dIx (mVar 4) (mC (.int 0))) (mVar 5))) (mTest (mBin dIsN (mApp m__law_number (mCons (mBin dIx (mVar 4) (mC (.int 1))) (mNil))) (mC .non))))) (sRet (mLst (mCons (mC (.str "note")) (mCons (mBin dAdd (mVar 3) (mC (.int 1))) (mNil))))) (sNext)) (sSeq (sApp 2 (mTup (mCons (mBin dIx (mVar 4) (mC (.int 0))) (mCons (mApp m__law_number (mCons (mBin dIx (mVar 4) (mC (.int 1))) (mNil))) (mNil))))) (sNext)))))) (sSeq (sAsg 6 (mBin dIx (mIxO 2 (mC (.int 0))) (mC (.int 1)))) (sSeq (sIf (mTest (mBin dLt (mVar 6) (mC (.int 0)))) (sRet (mLst (mCons (mC (.str "lanes")) (mCons (mVar 6) (mNil))))) (sNext)) (sSeq (sFor (mRange2 (mCons (mC (.int 1)) (mCons (mFlat (mCall dLen (mCons (mVar 2) (mNil)))) (mNil)))) (.nm 3) (sSeq (sAsg 7 (mBin dIx (mIxO 2 (mVar 3)) (mC (.int 0)))) (sSeq (sIf (mOr (mTest (mBin dLt (mBin dIx (mIxO 2 (mVar 3)) (mC (.int 1))) (mC (.int 0)))) (mTest (mBin dGt (mBin dAdd (mBin dIx (mIxO 2 (mVar 3)) (mC (.int 1))) (mBin dMul (mC (.int 2)) (mCall dIntA (mCons (mBin dNe (mVar 7) (mC (.str "cup"))) (mNil))))) (mVar 6)))) (sRet (mLst (mCons (mC (.str "letter")) (mCons (mBin dSub (mVar 3) (mC (.int 1))) (mCons (mIxO 2 (mVar 3)) (mNil)))))) (sNext)) (sSeq (sAsg 6 (mBin dSub (mBin dAdd (mVar 6) (mBin dMul (mC (.int 2)) (mCall dIntA (mCons (mBin dEq (mVar 7) (mC (.str "cup"))) (mNil))))) (mBin dMul (mC (.int 2)) (mCall dIntA (mCons (mBin dEq (mVar 7) (mC (.str "cap"))) (mNil)))))) (sNext))))) (sRet (mLst (mCons (mC (.str "row")) (mCons (mBin dIx (mBin dIx (mVar 2) (mC (.int 0))) (mC (.int 1))) (mCons (mSl dSl (mVar 2) (mB1 (mC (.int 1))) (mB0)) (mNil)))))))))))
def m__law_outcome : List D → O D := mDef 8 1 .sh g__law_outcome
def g__law_refusal : T.Env → SO := sSeq (sTry ers 1 (sSeq (sDrop (mApp m_parse_row (mCons (mVar 0) (mNil)))) (sNext)) (sSeq (sAsg 2 (mLst (mCons (mXis erb ers eru 1 (.o "NoteError")) (mCons (mXis erb ers eru 1 (.o "BadLanes")) (mCons (mXis erb ers eru 1 (.o "BadLetter")) (mNil)))))) (sSeq (sIf (mOr (mNot (mTest (mXis erb ers eru 1 (.b "ValueError")))) (mTest (mBin dNe (mL1 dCount (mVar 2) (mC (.bl true))) (mC (.int 1))))) (sRet (mC .non)) (sNext)) (sSeq (sIf (mAnd (mTest (mBin dIx (mVar 2) (mC (.int 0)))) (mTest (mApp m__law_whole (mCons (mXf ers erf 1 "line") (mNil))))) (sRet (mLst (mCons (mC (.str "note")) (mCons (mXf ers erf 1 "line") (mNil))))) (sNext)) (sSeq (sIf (mAnd (mTest (mBin dIx (mVar 2) (mC (.int 1)))) (mTest (mApp m__law_whole (mCons (mXf ers erf 1 "number") (mNil))))) (sRet (mLst (mCons (mC (.str "lanes")) (mCons (mXf ers erf 1 "number") (mNil))))) (sNext)) (sSeq (sIf (mAnd (mTest (mBin dIx (mVar 2) (mC (.int 2)))) (mAnd (mTest (mApp m__law_whole (mCons (mXf ers erf 1 "place") (mNil)))) (mAnd (mTest (mUn (dIsi cl [.b "tuple"]) (mXf ers erf 1 "letter"))) (mTest (mBin dEq (mCall dLen (mCons (mXf ers erf 1 "letter") (mNil))) (mC (.int 2))))))) (sSeq (sIf (mTest (mApp m__law_whole (mCons (mBin dIx (mXf ers erf 1 "letter") (mC (.int 1))) (mNil)))) (sRet (mLst (mCons (mC (.str "letter")) (mCons (mXf ers erf 1 "place") (mCons (mXf ers erf 1 "letter") (mNil)))))) (sNext)) (sNext)) (sNext)) (sNext))))))) (sRet (mC .non))
def m__law_refusal : List D → O D := mDef 3 1 .sh g__law_refusal
def g__law_reads : T.Env → SO := sSeq (sAsg 1 (mApp m__law_outcome (mCons (mVar 0) (mNil)))) (sSeq (sIf (mTest (mBin dEq (mBin dIx (mVar 1) (mC (.int 0))) (mC (.str "row")))) (sRet (mApp m__law_is_row (mCons (mApp m_parse_row (mCons (mVar 0) (mNil))) (mCons (mBin dIx (mVar 1) (mC (.int 1))) (mCons (mBin dIx (mVar 1) (mC (.int 2))) (mNil)))))) (sNext)) (sRet (mBin dEq (mApp m__law_refusal (mCons (mVar 0) (mNil))) (mVar 1))))
def m__law_reads : List D → O D := mDef 2 1 .sh g__law_reads
def g_law : T.Env → SO := sSeq (sAsg 1 (mApp m__law_digits (mCons (mApp m__law_cell (mCons (mVar 0) (mCons (mC (.int 0)) (mNil)))) (mCons (mLst (mCons (mC (.int 8)) (mCons (mC (.int 8)) (mCons (mC (.int 13)) (mCons (mC (.int 6)) (mNil)))))) (mNil))))) (sSeq (sAsg 2 (mBin dIx (mVar 1) (mC (.int 1)))) (sSeq (sAsg 3 (mBin dIx (mVar 1) (mC (.int 2)))) (sSeq (sAsg 4 (mC (.int 10))) (sSeq (sIf (mTest (mBin dEq (mBin dIx (mVar 1) (mC (.int 0))) (mC (.int 7)))) (sSeq (sAsg 2 (mBin dAdd (mVar 2) (mC (.int 9)))) (sSeq (sAsg 3 (mBin dMul (mC (.int 3)) (mVar 3))) (sSeq (sAsg 4 (mC (.int 16))) (sNext)))) (sNext)) (sSeq (sAsg 5 (mApp m__law_letters (mCons (mApp m__law_digits (mCons (mApp m__law_cell (mCons (mVar 0) (mCons (mC (.int 1)) (mNil)))) (mCons (mBin dMul (mLst (mCons (mC (.int 12)) (mCons (mC (.int 60)) (mNil)))) (mVar 3)) (mNil)))) (mCons (mVar 2) (mCons (mVar 4) (mNil)))))) (sSeq (sAsg 6 (mApp m__law_note (mCons (mVar 2) (mCons (mVar 5) (mNil))))) (sSeq (sAsg 7 (mApp m_Row___init__ (mCons (mVar 2) (mCons (mVar 5) (mNil))))) (sSeq (sAsg 8 (mApp m_format_row (mCons (mVar 7) (mNil)))) (sSeq (sIf (mOr (mNot (mTest (mUn (dIsi cl [.b "str"]) (mVar 8)))) (mOr (mTest (mBin dNe (mVar 8) (mVar 6))) (mNot (mTest (mApp m__law_reads (mCons (mVar 6) (mNil))))))) (sRet (mC (.bl false))) (sNext)) (sSeq (sIf (mTest (mBin dNotB (mBin (dEqO "Row" m_Row___eq__) (mApp m_parse_row (mCons (mVar 8) (mNil))) (mVar 7)) (mC (.bl true)))) (sRet (mC (.bl false))) (sNext)) (sSeq (sFor (mRange1 (mCons (mC (.int 6)) (mNil))) (.nm 9) (sSeq (sAsg 10 (mApp m__law_digits (mCons (mApp m__law_cell (mCons (mVar 0) (mCons (mBin dAdd (mC (.int 2)) (mVar 9)) (mNil)))) (mCons (mLst (mCons (mC (.int 23)) (mCons (mC (.int 61)) (mCons (mC (.int 60)) (mCons (mC (.int 23)) (mCons (mC (.int 61)) (mCons (mC (.int 60)) (mNil)))))))) (mNil))))) (sSeq (sAsg 11 (mApp m__law_spoilt_note (mCons (mVar 6) (mCons (mBin dIx (mVar 10) (mC (.int 0))) (mCons (mBin dIx (mVar 10) (mC (.int 1))) (mCons (mBin dIx (mVar 10) (mC (.int 2))) (mNil))))))) (sSeq (sIf (mOr (mNot (mTest (mApp m__law_reads (mCons (mVar 11) (mNil))))) (mNot (mTest (mApp m__law_reads (mCons (mApp m__law_spoilt_note (mCons (mVar 11) (mCons (mBin dIx (mVar 10) (mC (.int 3))) (mCons (mBin dIx (mVar 10) (mC (.int 4))) (mCons (mBin dIx (mVar 10) (mC (.int 5))) (mNil)))))) (mNil)))))) (sRet (mC (.bl false))) (sNext)) (sNext))))) (sSeq (sAsg 12 (mM1 dSplit (mVar 6) (mC (.str "\n")))) (sSeq (sAsg 13 (mBin dIx (mLst (mCons (mLst (mCons (mC (.str "cups 0")) (mNil))) (mCons (mLst (mCons (mC (.str "cap")) (mNil))) (mCons (mLst (mCons (mC (.str "row 1")) (mNil))) (mCons (mLst (mCons (mC (.str "")) (mNil))) (mCons (mLst (mCons (mC (.str "cross 0 0")) (mNil))) (mCons (mLst (mNil)) (mNil)))))))) (mBin dIx (mVar 1) (mC (.int 3))))) (sSeq (sFor (mSeq (mLst (mCons (mBin dAdd (mBin dAdd (mLst (mCons (mBin dAdd (mC (.str "row -")) (mCall dStr (mCons (mBin dAdd (mC (.int 1)) (mBin dIx (mVar 1) (mC (.int 2)))) (mNil)))) (mNil))) (mSl dSl (mVar 12) (mB1 (mC (.int 1))) (mB0))) (mVar 13)) (mCons (mBin dAdd (mBin dAdd (mVar 12) (mLst (mCons (mC (.str "cap 1000003")) (mCons (mC (.str "cup 0")) (mNil))))) (mVar 13)) (mNil))))) (.nm 11) (sSeq (sIf (mNot (mTest (mApp m__law_reads (mCons (mM1 dJoin (mC (.str "\n")) (mVar 11)) (mNil))))) (sRet (mC (.bl false))) (sNext)) (sNext))) (sSeq (sAsg 14 (mApp m_format_row (mCons (mMeth "Row" "flipped" m_Row_flipped (mVar 7) mNil) (mNil)))) (sSeq (sAsg 15 (mLst (mCons (mC (.str "cross")) (mCons (mC (.str "cap")) (mCons (mC (.str "cup")) (mNil)))))) (sSeq (sAsg 16 (mLst (mCons (mC (.str "cross")) (mCons (mC (.str "cup")) (mCons (mC (.str "cap")) (mNil)))))) (sSeq (sAsg 17 (mComp (mRev (mVar 5)) [18] (.nm 18) (mYes) (mTup (mCons (mBin dIx (mVar 16) (mL1 dIndex (mVar 15) (mBin dIx (mVar 18) (mC (.int 0))))) (mCons (mBin dIx (mVar 18) (mC (.int 1))) (mNil)))))) (sSeq (sIf (mOr (mTest (mBin dNe (mVar 14) (mApp m__law_note (mCons (mBin dIx (mApp m__law_lanes (mCons (mVar 2) (mCons (mVar 5) (mNil)))) (mUn dNeg (mC (.int 1)))) (mCons (mVar 17) (mNil)))))) (mNot (mTest (mApp m__law_reads (mCons (mVar 14) (mNil)))))) (sRet (mC (.bl false))) (sNext)) (sRet (mAndV (mBin dEq (mApp (fun ds => if ds.length = 1 then mPerm [0] m_format_row ds else .stuck) (mCons (mVar 7) (mNil))) (mVar 6)) (mApp m__law_is_row (mCons (mApp (fun ds => if ds.length = 1 then mPerm [0] m_parse_row ds else .stuck) (mCons (mVar 6) (mNil))) (mCons (mVar 2) (mCons (mVar 5) (mNil))))))))))))))))))))))))))
def m_law : List D → O D := mDef 19 1 .sh g_law
end K69

set_option Elab.async false
set_option linter.all false
set_option maxRecDepth 100000
set_option maxHeartbeats 1000000
namespace K69
open PySem L2 T TL
@[simp] theorem whole_int (i : Int) : m__law_whole [.int i] = .ok (.bl true) := rfl
@[simp] theorem count_int (i : Int) : m_is_count [.int i] = .ok (.bl (decide (0 ≤ i))) := rfl
/-! ### numbers -/
def isDig (c : Nat) : Bool := decide (48 ≤ c) && decide (c ≤ 57)
theorem isDig_ok {c : Nat} (h : isDig c = true) : 48 ≤ c ∧ c ≤ 57 := by
  unfold isDig at h
  simpa using h
theorem digs_mem (c : Nat) : decide (c ∈ (("0123456789" : Str)).cps.toList) = isDig c := by
  have e : (("0123456789" : Str)).cps.toList = [48, 49, 50, 51, 52, 53, 54, 55, 56, 57] := by decide +kernel
  rw [e, Bool.eq_iff_iff]
  unfold isDig
  simp
  omega
theorem digLoop (w d : Str) : ∀ (cs : List Nat) (o : Option D), ∃ o', forD (.nm 2) (sSeq (sIf (mTest (mBin dNotIn (mVar 2) (mC (.str "0123456789")))) (sRet (mC .non)) (sNext)) (sNext)) (cs.map fun c => .str ⟨#[c]⟩) [some (.str w), some (.str d), o] =
    if cs.all isDig = true then .nx [some (.str w), some (.str d), o'] else .rt .non
  | [], o => ⟨o, rfl⟩
  | c :: cs, o => by
    obtain ⟨o', ih⟩ := digLoop w d cs (some (.str ⟨#[c]⟩))
    refine ⟨o', ?_⟩
    rw [List.map_cons, forD_cons]
    simp only [e_put1, List.set_cons_succ, List.set_cons_zero, e_sSeq, e_sIf, e_mTest, e_mBin, e_mVar, e_mC, bind_ok, List.getElem?_cons_succ, List.getElem?_cons_zero, e_notIn1, e_asB, digs_mem, e_sNext, e_sRet]
    rw [List.all_cons]
    cases h : isDig c with
    | true =>
      simp only [Bool.not_true, Bool.true_and]
      exact ih
    | false => simp
theorem tl_str (s : String) : tl (Str.ofString s) = s.toList.map Char.toNat := tl_ofString s
theorem tl_minus : tl ("-" : Str) = [45] := by decide +kernel
theorem tl_zero : tl ("0" : Str) = [48] := by decide +kernel
theorem tl_empty : tl ("" : Str) = [] := by decide +kernel
theorem str_eq {x y : Str} : x = y ↔ tl x = tl y := ⟨fun h => by rw [h], ext_tl⟩
theorem starts_minus (w : Str) : Txt.startswith w "-" = decide ((tl w).head? = some 45) := by
  rw [Bool.eq_iff_iff, decide_eq_true_iff]
  have h := at_iff (x := w) (y := "-") (by rw [tl_minus]; simp) 0
  rw [List.drop_zero, tl_minus] at h
  have h2 : Txt.startswith w "-" = true ↔ StrLaws.At w "-" w.length 0 := by
    unfold Txt.startswith StrLaws.At
    simp
  rw [h2, h]
  unfold pre
  cases tl w with
  | nil => simp
  | cons c cs => simp
theorem tl_cut1 (w : Str) : tl (cutS w (some 1) none) = (tl w).drop 1 := by
  unfold cutS
  rw [tl_mk, show HT.sIx w.length 0 (some 1) = min 1 w.length from HT.sIx_nat _ _ 1, HT.sIx_none, len_tl]
  cases h : tl w with
  | nil => simp [tl] at h ⊢; try simp [h]
  | cons c cs =>
    have e : w.cps.toList = c :: cs := h
    rw [e]
    simp
theorem tl_cut01 (w : Str) : tl (cutS w none (some 1)) = (tl w).take 1 := by
  unfold cutS
  rw [tl_mk, HT.sIx_none, show HT.sIx w.length w.length (some 1) = min 1 w.length from HT.sIx_nat _ _ 1, len_tl]
  cases h : tl w with
  | nil => simp [tl] at h ⊢; try simp [h]
  | cons c cs =>
    have e : w.cps.toList = c :: cs := h
    rw [e]
    simp
/-- a word without its sign -/
def bodyL (w : Str) : List Nat := if (tl w).head? = some 45 then (tl w).drop 1 else tl w
/-- a written number -/
def numV (w : Str) : Option Int := if bodyL w ≠ [] ∧ (bodyL w).all isDig = true ∧ ¬ ((bodyL w).head? = some 48 ∧ tl w ≠ [48]) then some (if (tl w).head? = some 45 then -(NumText.digitsVal (bodyL w) : Int) else (NumText.digitsVal (bodyL w) : Int)) else none
def optD : Option Int → D
  | some i => .int i
  | none => .non
theorem all_digits {cs : List Nat} (h : cs.all isDig = true) : NumText.AllDigits cs := fun c hc => isDig_ok (List.all_eq_true.mp h c hc)
theorem len_le_tl {w : Str} {n : Nat} (h : w.length ≤ n) : (tl w).length ≤ n := by rw [← len_tl]; exact h
theorem size16 : sizeLine = 16777216 := rfl
theorem le_size {n : Nat} (h : n ≤ 640) : n ≤ sizeLine := Nat.le_trans h (by decide)
theorem one_char (c : Nat) (s : Str) (x : Nat) (hs : tl s = [x]) : ((⟨#[c]⟩ : Str) = s) ↔ c = x := by
  rw [str_eq, hs]
  show [c] = [x] ↔ _
  simp
theorem intText_body {w : Str} (hl : w.length ≤ 640) (h1 : bodyL w ≠ []) (h2 : (bodyL w).all isDig = true) : intText? w = some (if (tl w).head? = some 45 then -(NumText.digitsVal (bodyL w) : Int) else (NumText.digitsVal (bodyL w) : Int)) := by
  have hl2 : w.length ≤ 4300 := Nat.le_trans hl (by decide)
  unfold bodyL at h1 h2 ⊢
  by_cases h : (tl w).head? = some 45
  · rw [if_pos h] at h1 h2 ⊢
    rw [if_pos h]
    cases e : tl w with
    | nil => rw [e] at h; cases h
    | cons c cs =>
      rw [e] at h h1 h2
      have ec : c = 45 := by simpa using h
      subst ec
      exact intText_neg (cs := cs) e (all_digits h2) h1 hl2
  · rw [if_neg h] at h1 h2 ⊢
    rw [if_neg h]
    exact intText_digits (all_digits h2) h1 hl2
theorem wn_tail (w d : Str) (hl : w.length ≤ 640) (hd : tl d = bodyL w) (o : Option D) :
    endD .sh (sSeq (sIf (mTest (mBin dEq (mVar 1) (mC (.str "")))) (sRet (mC .non)) sNext) (sSeq (sFor (mSeq (mVar 1)) (.nm 2) (sSeq (sIf (mTest (mBin dNotIn (mVar 2) (mC (.str "0123456789")))) (sRet (mC .non)) (sNext)) (sNext))) (sSeq (sIf (mAnd (mTest (mBin dEq (mBin dIx (mVar 1) (mC (.int 0))) (mC (.str "0")))) (mTest (mBin dNe (mVar 0) (mC (.str "0"))))) (sRet (mC .non)) (sNext)) (sRet (mCall dIntA (mCons (mVar 0) (mNil)))))) [some (.str w), some (.str d), o]) = .ok (optD (numV w)) := by
  obtain ⟨o', hloop⟩ := digLoop w d (tl d) o
  have hdl : d.length ≤ 640 := by
    rw [len_tl, hd]
    unfold bodyL
    split
    · rw [List.length_drop]; rw [len_tl] at hl; omega
    · rw [len_tl] at hl; exact hl
  have hE : (d = ("" : Str)) ↔ bodyL w = [] := by rw [str_eq, tl_empty, hd]
  unfold numV
  rw [← hd] at hE ⊢
  by_cases h1 : tl d = []
  · have h1' : d = ("" : Str) := hE.mpr h1
    simp [h1', tl_empty, optD]
  · have h1' : ¬ d = ("" : Str) := fun z => h1 (hE.mp z)
    simp only [e_sSeq, e_sIf, e_mTest, e_mBin, e_mVar, e_mC, bind_ok, List.getElem?_cons_succ, List.getElem?_cons_zero, e_eqS, e_asB, h1', decide_false, e_sNext, e_sFor, e_mSeq, e_dSeqS]
    rw [hloop]
    by_cases h2 : (tl d).all isDig = true
    · rw [if_pos h2]
      cases ed : tl d with
      | nil => exact absurd ed h1
      | cons c cs =>
        have ed' : d.cps.toList = c :: cs := ed
        have h0 : ((⟨#[c]⟩ : Str) = ("0" : Str)) ↔ c = 48 := one_char c _ 48 tl_zero
        have hw0 : (w = ("0" : Str)) ↔ tl w = [48] := by rw [str_eq, tl_zero]
        have hb : bodyL w = c :: cs := by rw [← hd, ed]
        have hi := intText_body hl (by rw [hb]; simp) (by rw [hb, ← ed]; exact h2)
        rw [hb] at hi
        rw [ed] at h2
        simp only [e_sSeq, e_sIf, e_mAnd, e_mTest, e_mBin, e_mVar, e_mC, bind_ok, List.getElem?_cons_succ, List.getElem?_cons_zero, e_ixS, le_size hdl, if_true, atI_0, ed', e_eqS, e_asB, e_neS, h0, hw0, h2]
        by_cases hc : c = 48
        · by_cases hz : tl w = [48]
          · simp [hc, hz, hi, hl, optD]
          · simp [hc, hz, optD]
        · simp [hc, hi, hl, optD]
    · rw [if_neg h2]
      simp [h2, optD]
theorem written_number_eq (w : Str) (hl : w.length ≤ 640) : m_written_number [.str w] = .ok (optD (numV w)) := by
  unfold m_written_number g_written_number
  by_cases h : (tl w).head? = some 45
  · rw [← wn_tail w (cutS w (some 1) none) hl (by rw [tl_cut1]; unfold bodyL; rw [if_pos h]) none]
    simp [starts_minus, h, le_size hl]
  · rw [← wn_tail w w hl (by unfold bodyL; rw [if_neg h]) none]
    simp [starts_minus, h]
end K69

set_option Elab.async false
set_option linter.all false
set_option maxRecDepth 100000
set_option maxHeartbeats 1000000
namespace K69
open PySem L2 T TL
theorem cm1 (k : Int) : cMul k (-1) = true := by unfold cMul; simp
theorem cm2 (k : Int) : cMul k 1 = true := by unfold cMul; simp
theorem cm3 : cMul 2 1 = true := by decide
theorem cm4 : cMul 2 0 = true := by decide
def lnR : T.Env → SO := sRet (mBin dMul (mCall dIntA (mCons (mVar 1) (mNil))) (mBin dSub (mC (.int 1)) (mBin dMul (mC (.int 2)) (mCall dIntA (mCons (mBin dEq (mBin dIx (mVar 0) (mC (.int 0))) (mC (.str "-"))) (mNil))))))
theorem bodyL_len {w : Str} (hl : w.length ≤ 640) : (bodyL w).length ≤ 640 := by
  rw [len_tl] at hl
  unfold bodyL
  split
  · rw [List.length_drop]; omega
  · exact hl
def lnF : T.Env → O D := mBin dSub (mC (.int 1)) (mBin dMul (mC (.int 2)) (mCall dIntA (mCons (mBin dEq (mBin dIx (mVar 0) (mC (.int 0))) (mC (.str "-"))) (mNil))))
theorem dm1 : dMul (.int 2) (.int 1) = .ok (.int 2) := by rw [e_mulI, cm3]; rfl
theorem dm0 : dMul (.int 2) (.int 0) = .ok (.int 0) := by rw [e_mulI, cm4]; rfl
theorem dmn (k : Int) : dMul (.int k) (.int (-1)) = .ok (.int (-k)) := by rw [e_mulI, cm1, if_pos rfl, Int.mul_neg_one]
theorem dmp (k : Int) : dMul (.int k) (.int 1) = .ok (.int k) := by rw [e_mulI, cm2, if_pos rfl, Int.mul_one]
theorem ln_fac (w d : Str) (hl : w.length ≤ 640) (a : Nat) (r : List Nat) (ew : tl w = a :: r) (o : Option D) : lnF [some (.str w), some (.str d), o] = .ok (.int (if a = 45 then -1 else 1)) := by
  have ew' : w.cps.toList = a :: r := ew
  have hmin : decide ((⟨#[a]⟩ : Str) = ("-" : Str)) = decide (a = 45) := by
    have := one_char a ("-" : Str) 45 tl_minus
    by_cases h : a = 45
    · rw [decide_eq_true h, decide_eq_true (this.mpr h)]
    · rw [decide_eq_false h, decide_eq_false (fun z => h (this.mp z))]
  unfold lnF
  simp only [e_mBin, e_mCall, e_mCons, e_mNil, e_mVar, e_mC, bind_ok, List.getElem?_cons_zero, e_noX, e_ixS, if_pos (le_size hl), atI_0, ew', e_eqS, e_intB, hmin]
  by_cases ha : a = 45
  · rw [if_pos (by rw [decide_eq_true ha]), if_pos ha, dm1]
    rfl
  · rw [if_neg (by rw [decide_eq_false ha]; simp), if_neg ha, dm0]
    rfl
theorem t_hi (w d : Str) (hl : w.length ≤ 640) (hd : tl d = bodyL w) (h1 : bodyL w ≠ []) (h2 : (bodyL w).all isDig = true) : intText? d = some (NumText.digitsVal (bodyL w) : Int) := by
  have hdl : d.length ≤ 640 := by rw [len_tl, hd]; exact bodyL_len hl
  have := intText_digits (x := d) (by rw [show d.cps.toList = bodyL w from hd]; exact all_digits h2) (by rw [show d.cps.toList = bodyL w from hd]; exact h1) (Nat.le_trans hdl (by decide))
  rw [show d.cps.toList = bodyL w from hd] at this
  exact this
theorem t_hI (w d : Str) (hdl : d.length ≤ 640) (k : Int) (hi : intText? d = some k) (o : Option D) : mCall dIntA (mCons (mVar 1) (mNil)) [some (.str w), some (.str d), o] = .ok (.int k) := by
  simp only [e_mCall, e_mCons, e_mNil, e_mVar, bind_ok, List.getElem?_cons_succ, List.getElem?_cons_zero, e_intS, hi, if_pos hdl, e_noX]
theorem t_r (w d : Str) (k : Int) (a : Nat) (r : List Nat) (o : Option D) (hI : mCall dIntA (mCons (mVar 1) (mNil)) [some (.str w), some (.str d), o] = .ok (.int k)) (hF : lnF [some (.str w), some (.str d), o] = .ok (.int (if a = 45 then -1 else 1))) : lnR [some (.str w), some (.str d), o] = .rt (.int (if (a :: r).head? = some 45 then -k else k)) := by
    have e : lnR = sRet (mBin dMul (mCall dIntA (mCons (mVar 1) (mNil))) lnF) := rfl
    rw [e, e_sRet, e_mBin, hI, hF]
    simp only [bind_ok]
    by_cases ha : a = 45
    · rw [if_pos ha, dmn, if_pos (by rw [ha]; rfl)]
    · rw [if_neg ha, dmp, if_neg (by simpa using ha)]
theorem body_ne {w : Str} (h1 : bodyL w ≠ []) : ∃ a r, tl w = a :: r := by
  cases ew : tl w with
  | nil =>
    refine absurd ?_ h1
    unfold bodyL
    rw [ew]
    rfl
  | cons a r => exact ⟨a, r, rfl⟩
theorem ln_ret (w d : Str) (hl : w.length ≤ 640) (hd : tl d = bodyL w) (h1 : bodyL w ≠ []) (h2 : (bodyL w).all isDig = true) (o : Option D) :
    lnR [some (.str w), some (.str d), o] = .rt (.int (if (tl w).head? = some 45 then -(NumText.digitsVal (bodyL w) : Int) else (NumText.digitsVal (bodyL w) : Int))) := by
  obtain ⟨a, r, ew⟩ := body_ne h1
  have hdl : d.length ≤ 640 := by rw [len_tl, hd]; exact bodyL_len hl
  rw [t_r w d _ a r o (t_hI w d hdl _ (t_hi w d hl hd h1 h2) o) (ln_fac w d hl a r ew o), ew]
theorem ln_key (w d : Str) (hl : w.length ≤ 640) (hd : tl d = bodyL w) : endD .sh (sSeq (sIf (mOr (mTest (mBin dEq (mVar 1) (mC (.str "")))) (mAnd (mTest (mBin dEq (mBin dIx (mVar 1) (mC (.int 0))) (mC (.str "0")))) (mTest (mBin dNe (mVar 0) (mC (.str "0")))))) (sRet (mC .non)) (sNext)) (sSeq (sFor (mSeq (mVar 1)) (.nm 2) (sSeq (sIf (mTest (mBin dNotIn (mVar 2) (mC (.str "0123456789")))) (sRet (mC .non)) (sNext)) (sNext))) lnR) [some (.str w), some (.str d), none]) = .ok (optD (numV w)) := by
  obtain ⟨o', hloop⟩ := digLoop w d (tl d) none
  have hdl : d.length ≤ 640 := by rw [len_tl, hd]; exact bodyL_len hl
  have hE : (d = ("" : Str)) ↔ bodyL w = [] := by rw [str_eq, tl_empty, hd]
  unfold numV
  by_cases h1 : bodyL w = []
  · have h1' : d = ("" : Str) := hE.mpr h1
    simp only [e_sSeq, e_sIf, e_mOr, e_mTest, e_mBin, e_mVar, e_mC, bind_ok, List.getElem?_cons_succ, List.getElem?_cons_zero, e_eqS, e_asB, h1', decide_true, if_true, e_sRet, e_end1, h1]
    rw [if_neg (by simp)]
    rfl
  · have h1' : ¬ d = ("" : Str) := fun z => h1 (hE.mp z)
    cases ed : bodyL w with
    | nil => exact absurd ed h1
    | cons c cs =>
      have ed' : d.cps.toList = c :: cs := by rw [show d.cps.toList = bodyL w from hd, ed]
      have h0 : ((⟨#[c]⟩ : Str) = ("0" : Str)) ↔ c = 48 := one_char c _ 48 tl_zero
      have hw0 : (w = ("0" : Str)) ↔ tl w = [48] := by rw [str_eq, tl_zero]
      simp only [e_sSeq, e_sIf, e_mOr, e_mAnd, e_mTest, e_mBin, e_mVar, e_mC, bind_ok, List.getElem?_cons_succ, List.getElem?_cons_zero, e_eqS, e_asB, h1', decide_false, e_ixS, if_pos (le_size hdl), atI_0, ed', e_neS, h0, hw0, e_sRet, e_sNext, Bool.false_eq_true, if_false]
      by_cases hz : c = 48 ∧ ¬ tl w = [48]
      · rw [hz.1, if_pos (by simp)]
        rw [show (!decide (tl w = [48])) = true by simp [hz.2]]
        dsimp only
        rw [e_end1, if_neg (by simp [hz.2])]
        rfl
      · have hz2 : (if decide (c = 48) = true then O.ok (!decide (tl w = [48])) else O.ok false) = O.ok false := by
          by_cases hc : c = 48
          · have : tl w = [48] := by
              cases Decidable.em (tl w = [48]) with
              | inl h => exact h
              | inr h => exact absurd ⟨hc, h⟩ hz
            rw [if_pos (by simp [hc]), this]; rfl
          · rw [if_neg (by simp [hc])]
        rw [hz2]
        dsimp only
        rw [e_sFor, e_mSeq, e_mVar]
        simp only [List.getElem?_cons_succ, List.getElem?_cons_zero, bind_ok, e_dSeqS]
        rw [hloop, hd, ed]
        by_cases h2 : (c :: cs).all isDig = true
        · rw [if_pos h2]
          dsimp only
          rw [ln_ret w d hl hd h1 (by rw [ed]; exact h2), e_end1, ed]
          have hz3 : ¬ ((c :: cs).head? = some 48 ∧ tl w ≠ [48]) := by simpa using hz
          have e3 : (c :: cs ≠ [] ∧ (c :: cs).all isDig = true ∧ ¬ ((c :: cs).head? = some 48 ∧ tl w ≠ [48])) = True := eq_true ⟨by simp, h2, hz3⟩
          simp only [e3, if_true]
          rfl
        · rw [if_neg h2]
          dsimp only
          rw [e_end1, if_neg (fun z => h2 z.2.1)]
          rfl
theorem law_number_eq (w : Str) (hl : w.length ≤ 640) : m__law_number [.str w] = .ok (optD (numV w)) := by
  unfold m__law_number g__law_number
  by_cases h : (tl w).head? = some 45
  · rw [← ln_key w (cutS w (some 1) none) hl (by rw [tl_cut1]; unfold bodyL; rw [if_pos h])]
    have e : cutS w none (some 1) = ("-" : Str) := by
      rw [str_eq, tl_cut01, tl_minus]
      cases ew : tl w with
      | nil => rw [ew] at h; cases h
      | cons a r => rw [ew] at h; simpa using h
    unfold lnR
    simp [le_size hl, e]
  · rw [← ln_key w w hl (by unfold bodyL; rw [if_neg h])]
    have e : ¬ cutS w none (some 1) = ("-" : Str) := by
      rw [str_eq, tl_cut01, tl_minus]
      cases ew : tl w with
      | nil => simp
      | cons a r => rw [ew] at h; simpa using h
    unfold lnR
    simp [le_size hl, e]
end K69

set_option Elab.async false
set_option linter.all false
set_option maxRecDepth 100000
set_option maxHeartbeats 1000000
namespace K69
open PySem L2 T TL
/-! ### pieces of a text -/
theorem joinL_len (S : List Nat) : ∀ (ps : List (List Nat)) (p : List Nat), p ∈ ps → p.length ≤ (joinL S ps).length
  | [], _, h => nomatch h
  | [q], p, h => by
    rw [List.mem_singleton.mp h]
    exact Nat.le_refl _
  | q :: r :: t, p, h => by
    show p.length ≤ (q ++ (S ++ joinL S (r :: t))).length
    rw [List.length_append, List.length_append]
    rcases List.mem_cons.mp h with e | h
    · rw [e]; omega
    · have := joinL_len S (r :: t) p h
      omega
theorem piece_len {x y p : Str} (h : p ∈ Txt.split x y) : p.length ≤ x.length := by
  have e := StrLaws.join_split x y
  rw [len_tl p, len_tl x, ← e, tl_join]
  exact joinL_len _ _ _ (List.mem_map.mpr ⟨p, h, rfl⟩)
theorem any_str (a : Str) : ∀ ws : List Str, ((ws.map D.str).any fun y => match y, D.str a with
    | .non, .non => true
    | .bl a, .bl b => a == b
    | .bl a, .int b => (if a then 1 else 0) == b
    | .int a, .bl b => a == (if b then 1 else 0)
    | .int a, .int b => a == b
    | .str a, .str b => a == b
    | _, _ => false) = decide (a ∈ ws)
  | [] => by simp
  | w :: ws => by
    rw [List.map_cons, List.any_cons, any_str a ws]
    by_cases h : w = a
    · simp [h]
    · have h2 : ¬ a = w := fun z => h z.symm
      simp [h, h2]
theorem all_flat (ws : List Str) : (ws.map D.str).all D.flat = true := by
  rw [List.all_eq_true]
  intro d hd
  obtain ⟨w, _, rfl⟩ := List.mem_map.mp hd
  rfl
theorem inFlat_str (a : Str) (ws : List Str) : inFlat (.str a) (ws.map .str) = .ok (decide (a ∈ ws)) := by
  unfold inFlat
  rw [if_pos ⟨rfl, all_flat ws⟩, ← any_str a ws]
  try rfl
theorem notInT (a : Str) (ws : List Str) : dNotIn (.str a) (.tup (ws.map .str)) = .ok (.bl (!decide (a ∈ ws))) := by
  show (inFlat (.str a) (ws.map .str) >>= fun b => O.ok (D.bl (!b))) = _
  rw [inFlat_str]; rfl
theorem inT (a : Str) (ws : List Str) : dIn (.str a) (.tup (ws.map .str)) = .ok (.bl (decide (a ∈ ws))) := by
  show (inFlat (.str a) (ws.map .str) >>= fun b => O.ok (D.bl b)) = _
  rw [inFlat_str]; rfl
theorem notInL (a : Str) (ws : List Str) : dNotIn (.str a) (.lst (ws.map .str)) = .ok (.bl (!decide (a ∈ ws))) := by
  show ((if (D.str a).flat = true ∧ (ws.map D.str).all D.flat = true then inFlat (.str a) (ws.map .str) else _) >>= fun b => O.ok (D.bl (!b))) = _
  rw [if_pos ⟨rfl, all_flat ws⟩, inFlat_str]; rfl
/-- one line of a note: its word and its number -/
def lineV (ws : List Str) (l : Str) : Option (Str × Int) := match Txt.split l " " with
  | [a, b] => if a ∈ ws then (numV b).map fun n => (a, n) else none
  | _ => none
def entD (e : Str × Int) : D := .tup [.str e.1, .int e.2]
def optE : Option (Str × Int) → D
  | some e => entD e
  | none => .non
theorem sp1 : ((" " : Str).length == 0) = false := by decide +kernel
theorem nl1 : (("\n" : Str).length == 0) = false := by decide +kernel
theorem le_size2 {n : Nat} (h : n ≤ 640) : n + 2 ≤ sizeLine := Nat.le_trans (Nat.add_le_add_right h 2) (by decide)
theorem splitL (l s : Str) (hs : (s.length == 0) = false) (hl : l.length + 2 ≤ sizeLine) : dSplit (.str l) [.str s] = .ok (.lst ((Txt.split l s).map .str)) := by rw [e_split, if_pos ⟨hs, hl⟩]
theorem isN_opt (o : Option Int) : (optD o).isN = o.isNone := by cases o <;> rfl
theorem parse_line_eq (l : Str) (ws : List Str) (hl : l.length ≤ 640) : m_parse_line [.str l, .tup (ws.map .str)] = .ok (optE (lineV ws l)) := by
  unfold m_parse_line g_parse_line lineV
  have hp : ∀ p ∈ Txt.split l " ", p.length ≤ 640 := fun p hp => Nat.le_trans (piece_len hp) hl
  simp only [e_def, List.length_cons, List.length_nil, if_true, e_start, List.map_cons, List.map_nil, List.cons_append, List.nil_append, List.replicate, e_sSeq, e_sAsg, e_mM1, e_mVar, List.getElem?_cons_zero, List.getElem?_cons_succ, bind_ok, e_isStr, e_mC, splitL l " " sp1 (le_size2 hl), e_noX, List.set_cons_zero, List.set_cons_succ]
  rcases e : Txt.split l " " with _ | ⟨a, _ | ⟨b, _ | ⟨c, r⟩⟩⟩
  · simp [optE]
  · simp [optE]
  · rw [e] at hp
    have hb := written_number_eq b (hp b (by simp))
    by_cases h : a ∈ ws
    · cases hn : numV b with
      | none => simp [notInT, h, hb, hn, optD, optE]
      | some n => simp [notInT, h, hb, hn, optD, optE, entD]
    · simp [notInT, h, optE]
  · have hne : ¬ ((r.length : Int) + 1 + 1 + 1 = 2) := by omega
    simp [optE, hne]
end K69

set_option Elab.async false
set_option linter.all false
set_option maxRecDepth 100000
set_option maxHeartbeats 1000000
namespace K69
open PySem L2 T TL
/-! ### the lines of a note -/
def firstW (k : Nat) : List Str := if k = 0 then ["row"] else ["cross", "cup", "cap"]
def scanV : Nat → List Str → Except Nat (List (Str × Int))
  | _, [] => .ok []
  | k, l :: ls => match lineV (firstW k) l with
    | none => .error (k + 1)
    | some e => match scanV (k + 1) ls with
      | .ok es => .ok (e :: es)
      | .error n => .error n
theorem scan_len : ∀ {ls : List Str} {k : Nat} {es : List (Str × Int)}, scanV k ls = .ok es → es.length = ls.length
  | [], _, _, h => by cases h; rfl
  | l :: ls, k, es, h => by
    unfold scanV at h
    cases e1 : lineV (firstW k) l with
    | none => rw [e1] at h; cases h
    | some e =>
      rw [e1] at h
      cases e2 : scanV (k + 1) ls with
      | error n => rw [e2] at h; cases h
      | ok r =>
        rw [e2] at h
        cases h
        rw [List.length_cons, List.length_cons, scan_len e2]
def prB : T.Env → SO := sSeq (sAsg 4 (mIf (mTest (mBin dEq (mVar 2) (mC (.int 0)))) (mTup (mCons (mC (.str "row")) (mNil))) (mTup (mCons (mC (.str "cross")) (mCons (mC (.str "cup")) (mCons (mC (.str "cap")) (mNil))))))) (sSeq (sAsg 5 (mApp m_parse_line (mCons (mVar 3) (mCons (mVar 4) (mNil))))) (sSeq (sIf (mTest (mBin dIsN (mVar 5) (mC .non))) (sRaise "NoteError" ["line"] (mCons (mBin dAdd (mVar 2) (mC (.int 1))) (mNil))) (sNext)) (sSeq (sApp 1 (mVar 5)) (sNext))))
theorem isN_ent (o : Option (Str × Int)) : (optE o).isN = o.isNone := by cases o <;> rfl
theorem firstD (k : Nat) : (if (k : Int) = 0 then D.tup [.str "row"] else D.tup [.str "cross", .str "cup", .str "cap"]) = .tup ((firstW k).map .str) := by
  unfold firstW
  by_cases h : k = 0
  · simp [h]
  · rw [if_neg (by omega), if_neg h]; rfl
theorem prB_run (t : D) (acc : List (Str × Int)) (k : Nat) (l : Str) (hl : l.length ≤ 640) (ha : acc.length < sizeLine) (o2 o3 o4 o5 : Option D) :
    prB [some t, some (.lst (acc.map entD)), some (.int k), some (.str l), o4, o5] = match lineV (firstW k) l with
      | none => .exc [some t, some (.lst (acc.map entD)), some (.int k), some (.str l), some (.tup ((firstW k).map .str)), some .non] "NoteError" [("line", .int (k + 1 : Nat))]
      | some e => .nx [some t, some (.lst ((acc ++ [e]).map entD)), some (.int k), some (.str l), some (.tup ((firstW k).map .str)), some (entD e)] := by
  have hw : mIf (mTest (mBin dEq (mVar 2) (mC (.int 0)))) (mTup (mCons (mC (.str "row")) (mNil))) (mTup (mCons (mC (.str "cross")) (mCons (mC (.str "cup")) (mCons (mC (.str "cap")) (mNil))))) [some t, some (.lst (acc.map entD)), some (.int k), some (.str l), o4, o5] = .ok (.tup ((firstW k).map .str)) := by
    rw [← firstD]
    by_cases h : k = 0
    · simp [h]
    · have h2 : ¬ ((k : Int) = 0) := by omega
      simp [h, h2]
  have hl2 := parse_line_eq l (firstW k) hl
  unfold prB
  rw [e_sSeq, e_sAsg, hw]
  simp only [List.set_cons_succ, List.set_cons_zero, e_sSeq, e_sAsg, e_mApp, e_mCons, e_mVar, e_mNil, bind_ok, List.getElem?_cons_succ, List.getElem?_cons_zero, hl2]
  cases h : lineV (firstW k) l with
  | none => simp [optE]
  | some e =>
    have ha' : (acc.map entD).length < sizeLine := by rw [List.length_map]; exact ha
    simp only [optE, e_sIf, e_mTest, e_mBin, e_mVar, e_mC, List.getElem?_cons_succ, List.getElem?_cons_zero, bind_ok, e_isN, e_asB, entD, e_isNt, e_sNext, e_sSeq, e_sApp, if_pos ha', List.set_cons_succ, List.set_cons_zero, List.map_append, List.map_cons, List.map_nil]
theorem pr_loop (t : D) : ∀ (ls : List Str) (k : Nat) (acc : List (Str × Int)) (o2 o3 o4 o5 : Option D), (∀ l ∈ ls, l.length ≤ 640) → acc.length + ls.length ≤ sizeLine →
    match scanV k ls with
    | .ok es => ∃ p2 p3 p4 p5, forD (.tp [2, 3]) prB (enumD k (ls.map .str)) [some t, some (.lst (acc.map entD)), o2, o3, o4, o5] = .nx [some t, some (.lst ((acc ++ es).map entD)), p2, p3, p4, p5]
    | .error n => ∃ ρ', forD (.tp [2, 3]) prB (enumD k (ls.map .str)) [some t, some (.lst (acc.map entD)), o2, o3, o4, o5] = .exc ρ' "NoteError" [("line", .int n)]
  | [], k, acc, o2, o3, o4, o5, _, _ => ⟨o2, o3, o4, o5, by rw [List.append_nil]; rfl⟩
  | l :: ls, k, acc, o2, o3, o4, o5, hl, hz => by
    rw [List.length_cons] at hz
    have h1 := prB_run t acc k l (hl l List.mem_cons_self) (by omega) o2 o3 o4 o5
    unfold scanV
    rw [List.map_cons, enumD, forD_cons]
    simp only [e_put2, List.set_cons_succ, List.set_cons_zero]
    rw [h1]
    cases e1 : lineV (firstW k) l with
    | none => exact ⟨_, rfl⟩
    | some e =>
      have ih := pr_loop t ls (k + 1) (acc ++ [e]) (some (.int k)) (some (.str l)) (some (.tup ((firstW k).map .str))) (some (entD e)) (fun x hx => hl x (List.mem_cons_of_mem _ hx)) (by rw [List.length_append, List.length_singleton]; omega)
      dsimp only
      cases e2 : scanV (k + 1) ls with
      | ok es =>
        rw [e2] at ih
        obtain ⟨p2, p3, p4, p5, ih⟩ := ih
        refine ⟨p2, p3, p4, p5, ?_⟩
        rw [ih, List.append_assoc]
        rfl
      | error n =>
        rw [e2] at ih
        exact ih
/-! ### the letters -/
def fitsV (w : Str) (n L : Int) : Bool := decide (0 ≤ n) && (if w = "cup" then decide (n ≤ L) else decide (n + 1 < L))
def moreV (w : Str) : Int := if w = "cup" then 2 else if w = "cap" then -2 else 0
def words3 : List Str := ["cross", "cup", "cap"]
/-- the first letter that cannot stand -/
def goV : Int → Nat → List (Str × Int) → Option (Nat × (Str × Int))
  | _, _, [] => none
  | L, p, e :: es => if fitsV e.1 e.2 L = true then goV (L + moreV e.1) (p + 1) es else some (p, e)
theorem mem3 {w : Str} (h : w ∈ words3) : w = "cross" ∨ w = "cup" ∨ w = "cap" := by simpa [words3] using h
theorem ne_tl : ¬ ("top" : Str) = "letters" := by decide +kernel
theorem ne_cc : ¬ ("cross" : Str) = "cup" := by decide +kernel
theorem ne_ca : ¬ ("cross" : Str) = "cap" := by decide +kernel
theorem ne_uc : ¬ ("cup" : Str) = "cross" := by decide +kernel
theorem ne_ua : ¬ ("cup" : Str) = "cap" := by decide +kernel
theorem ne_ac : ¬ ("cap" : Str) = "cross" := by decide +kernel
theorem ne_au : ¬ ("cap" : Str) = "cup" := by decide +kernel
theorem tab_more (w : Str) (h : w ∈ words3) : dTab tb_MORE_LANES (.str w) = .ok (.int (moreV w)) := by
  rcases mem3 h with e | e | e <;> subst e <;> kernel_rfl
theorem fits_eq (w : Str) (n L : Int) (h : w ∈ words3) : m_letter_fits [entD (w, n), .int L] = .ok (.bl (fitsV w n L)) := by
  have hin : dIn (.str w) (.tup [.str "cross", .str "cap"]) = .ok (.bl (decide (w ∈ (["cross", "cap"] : List Str)))) := inT w ["cross", "cap"]
  have hisi : dIsi cl [.b "list", .b "tuple"] (.tup [.str w, .int n]) = .ok (.bl true) := rfl
  unfold m_letter_fits g_letter_fits fitsV entD
  by_cases hn : 0 ≤ n
  · rcases mem3 h with e | e | e
    · subst e; simp [hisi, hn, ne_cc, hin]
    · subst e; simp [hisi, hn]
    · subst e; simp [hisi, hn, ne_au, hin]
  · simp [hisi, hn]
/-! ### Row -/
def rowD (top : Int) (es : List (Str × Int)) : D := .ins "Row" [("top", .int top), ("letters", .tup (es.map entD))]
def riB : T.Env → SO := sSeq (sIf (mNot (mTest (mApp m_letter_fits (mCons (mVar 6) (mCons (mVar 3) (mNil)))))) (sRaise "BadLetter" ["place", "letter"] (mCons (mVar 5) (mCons (mVar 6) (mNil)))) (sNext)) (sSeq (sAsg 3 (mBin dAdd (mVar 3) (mUn (dTab tb_MORE_LANES) (mBin dIx (mVar 6) (mC (.int 0)))))) (sSeq (sApp 4 (mTup (mCons (mBin dIx (mVar 6) (mC (.int 0))) (mCons (mBin dIx (mVar 6) (mC (.int 1))) (mNil))))) (sNext)))
theorem riB_run (s t l : Option D) (L : Int) (acc : List (Str × Int)) (p : Nat) (e : Str × Int) (he : e.1 ∈ words3) (ha : acc.length < sizeLine) :
    riB [s, t, l, some (.int L), some (.lst (acc.map entD)), some (.int p), some (entD e)] = if fitsV e.1 e.2 L = true then .nx [s, t, l, some (.int (L + moreV e.1)), some (.lst ((acc ++ [e]).map entD)), some (.int p), some (entD e)]
      else .exc [s, t, l, some (.int L), some (.lst (acc.map entD)), some (.int p), some (entD e)] "BadLetter" [("letter", entD e), ("place", .int p)] := by
  obtain ⟨w, n⟩ := e
  have hf := fits_eq w n L he
  have ht := tab_more w he
  have ha' : (acc.map entD).length < sizeLine := by rw [List.length_map]; exact ha
  unfold riB
  simp only [e_sSeq, e_sIf, e_mNot, e_mTest, e_mApp, e_mCons, e_mVar, e_mNil, bind_ok, List.getElem?_cons_succ, List.getElem?_cons_zero, hf, e_asB]
  cases h : fitsV w n L with
  | false => simp
  | true =>
    simp only [Bool.not_true, e_sNext, e_sSeq, e_sAsg, e_mBin, e_mVar, e_mUn, e_mC, bind_ok, List.getElem?_cons_succ, List.getElem?_cons_zero, entD, e_ixT, atI_0, atI_1, ht, e_addI, List.set_cons_succ, List.set_cons_zero, e_sApp, if_pos ha', e_mTup, e_mCons, e_mNil, e_mkT2, if_true, List.map_append, List.map_cons, List.map_nil]
theorem ri_loop (s t l : Option D) : ∀ (es : List (Str × Int)) (L : Int) (p : Nat) (acc : List (Str × Int)) (o5 o6 : Option D), (∀ e ∈ es, e.1 ∈ words3) → acc.length + es.length ≤ sizeLine →
    match goV L p es with
    | none => ∃ L' p5 p6, forD (.tp [5, 6]) riB (enumD p (es.map entD)) [s, t, l, some (.int L), some (.lst (acc.map entD)), o5, o6] = .nx [s, t, l, some (.int L'), some (.lst ((acc ++ es).map entD)), p5, p6]
    | some (q, e) => ∃ ρ', forD (.tp [5, 6]) riB (enumD p (es.map entD)) [s, t, l, some (.int L), some (.lst (acc.map entD)), o5, o6] = .exc ρ' "BadLetter" [("letter", entD e), ("place", .int q)]
  | [], L, p, acc, o5, o6, _, _ => ⟨L, o5, o6, by rw [List.append_nil]; rfl⟩
  | e :: es, L, p, acc, o5, o6, hw, hz => by
    rw [List.length_cons] at hz
    have h1 := riB_run s t l L acc p e (hw e List.mem_cons_self) (by omega)
    unfold goV
    rw [List.map_cons, enumD, forD_cons]
    simp only [e_put2, List.set_cons_succ, List.set_cons_zero]
    rw [h1]
    by_cases hf : fitsV e.1 e.2 L = true
    · rw [if_pos hf, if_pos hf]
      have ih := ri_loop s t l es (L + moreV e.1) (p + 1) (acc ++ [e]) (some (.int p)) (some (entD e)) (fun x hx => hw x (List.mem_cons_of_mem _ hx)) (by rw [List.length_append, List.length_singleton]; omega)
      dsimp only
      cases e2 : goV (L + moreV e.1) (p + 1) es with
      | none =>
        rw [e2] at ih
        obtain ⟨L', p5, p6, ih⟩ := ih
        refine ⟨L', p5, p6, ?_⟩
        rw [ih, List.append_assoc]
        rfl
      | some r =>
        rw [e2] at ih
        exact ih
    · rw [if_neg hf, if_neg hf]
      exact ⟨_, rfl⟩
/-- what Row(top, es) comes to -/
def makeV (top : Int) (es : List (Str × Int)) : O D := if 0 ≤ top then (match goV top 0 es with
  | none => .ok (rowD top es)
  | some (q, e) => .exc "BadLetter" [("letter", entD e), ("place", .int q)]) else .exc "BadLanes" [("number", .int top)]
theorem row_init (top : Int) (es : List (Str × Int)) (hw : ∀ e ∈ es, e.1 ∈ words3) (hz : es.length ≤ sizeLine) : m_Row___init__ [.int top, .lst (es.map entD)] = makeV top es := by
  unfold m_Row___init__ makeV
  have eg : g_Row___init__ = sSeq (sIf (mNot (mTest (mApp m_is_count (mCons (mVar 1) (mNil))))) (sRaise "BadLanes" ["number"] (mCons (mVar 1) (mNil))) (sNext)) (sSeq (sAsg 3 (mVar 1)) (sSeq (sAsg 4 (mC (.lst []))) (sSeq (sFor (mEnum (mCons (mVar 2) (mNil))) (.tp [5, 6]) riB) (sSeq (sSetA fc_top 0 "top" (mVar 1)) (sSeq (sSetA fc_letters 0 "letters" (mTupO 4)) (sNext)))))) := rfl
  rw [eg]
  by_cases ht : 0 ≤ top
  · rw [if_pos ht]
    have hl := ri_loop (some (.ins "Row" [])) (some (.int top)) (some (.lst (es.map entD))) es top 0 [] none none hw (by simpa using hz)
    rw [List.map_nil] at hl
    cases e : goV top 0 es with
    | none =>
      rw [e] at hl
      obtain ⟨L', p5, p6, hl⟩ := hl
      simp [ht, hl, putD, rowD, ne_tl]
    | some r =>
      obtain ⟨q, e'⟩ := r
      rw [e] at hl
      obtain ⟨ρ', hl⟩ := hl
      simp [ht, hl]
  · rw [if_neg ht]
    simp [ht]
end K69

set_option Elab.async false
set_option linter.all false
set_option maxRecDepth 100000
set_option maxHeartbeats 1000000
namespace K69
open PySem L2 T TL
theorem spl_ne (S : List Nat) : ∀ (l : List Nat) (k : Nat) (acc : List Nat), spl S k acc l ≠ []
  | [], k, acc => by rw [spl_nil]; simp
  | c :: r, 0, acc => by
    cases h : pre S (c :: r) with
    | true => rw [spl_hit h]; simp
    | false => rw [spl_miss h]; exact spl_ne S r 0 _
  | c :: r, k + 1, acc => by
    rw [spl_pass]
    generalize e : (c :: r).drop (k + 1) = l
    have hl : l.length < (c :: r).length := by rw [← e, List.length_drop, List.length_cons]; omega
    exact spl_ne S l 0 _
termination_by l _ _ => l.length
theorem nl_tl : tl ("\n" : Str) = [10] := by decide +kernel
theorem sp_tl : tl (" " : Str) = [32] := by decide +kernel
theorem nl_small : ("\n" : Str).cps.all (· < 256) = true := by decide +kernel
theorem sp_small : (" " : Str).cps.all (· < 256) = true := by decide +kernel
theorem split_nl_ne (x : Str) : Txt.split x "\n" ≠ [] := fun h => by
  have e := split_spl x "\n" (by rw [nl_tl]; simp) (kind_ok nl_small)
  rw [h] at e
  exact spl_ne _ _ _ _ e.symm
theorem split_sp_ne (x : Str) : Txt.split x " " ≠ [] := fun h => by
  have e := split_spl x " " (by rw [sp_tl]; simp) (kind_ok sp_small)
  rw [h] at e
  exact spl_ne _ _ _ _ e.symm
theorem cutD_from1 (xs : List D) : cutD xs (some 1) none = xs.drop 1 := by
  unfold cutD
  rw [show HT.sIx xs.length 0 (some 1) = min 1 xs.length from HT.sIx_nat _ _ 1, HT.sIx_none]
  cases xs with
  | nil => rfl
  | cons x r =>
    rw [List.length_cons, show min 1 (r.length + 1) = 1 by omega]
    simp
theorem line_word {ws : List Str} {l : Str} {e : Str × Int} (h : lineV ws l = some e) : e.1 ∈ ws := by
  unfold lineV at h
  split at h
  · split at h
    · rename_i a b _ hm
      cases hn : numV b with
      | none => rw [hn] at h; cases h
      | some n => rw [hn] at h; cases h; exact hm
    · cases h
  · cases h
theorem scan_words : ∀ {ls : List Str} {k : Nat} {es : List (Str × Int)}, scanV (k + 1) ls = .ok es → ∀ e ∈ es, e.1 ∈ words3
  | [], _, _, h, e, he => by cases h; cases he
  | l :: ls, k, es, h, e, he => by
    unfold scanV at h
    cases e1 : lineV (firstW (k + 1)) l with
    | none => rw [e1] at h; cases h
    | some f =>
      rw [e1] at h
      cases e2 : scanV (k + 1 + 1) ls with
      | error n => rw [e2] at h; cases h
      | ok r =>
        rw [e2] at h
        cases h
        rcases List.mem_cons.mp he with z | z
        · rw [z]; exact line_word e1
        · exact scan_words e2 e z
theorem scan_cons {l : Str} {ls : List Str} {es : List (Str × Int)} (h : scanV 0 (l :: ls) = .ok es) : ∃ f r, es = f :: r ∧ scanV 1 ls = .ok r := by
  unfold scanV at h
  cases e1 : lineV (firstW 0) l with
  | none => rw [e1] at h; cases h
  | some f =>
    rw [e1] at h
    cases e2 : scanV (0 + 1) ls with
    | error n => rw [e2] at h; cases h
    | ok r => rw [e2] at h; cases h; exact ⟨f, r, rfl, rfl⟩
/-- the text's reading -/
def parseV (t : Str) : O D := match scanV 0 (Txt.split t "\n") with
  | .error n => .exc "NoteError" [("line", .int n)]
  | .ok [] => .stuck
  | .ok (f :: es) => makeV f.2 es
/-- a text whose lines are short -/
def Short (t : Str) : Prop := t.length + 2 ≤ 100000 ∧ ∀ l ∈ Txt.split t "\n", l.length ≤ 640
theorem big {n : Nat} (h : n ≤ 100000) : n ≤ sizeLine := Nat.le_trans h (by decide)
theorem spl_len (S : List Nat) : ∀ (l : List Nat) (k : Nat) (acc : List Nat), (spl S k acc l).length ≤ l.length + 1
  | [], k, acc => by rw [spl_nil]; simp
  | c :: r, 0, acc => by
    cases h : pre S (c :: r) with
    | true =>
      rw [spl_hit h, List.length_cons]
      have := spl_len S r (S.length - 1) []
      rw [List.length_cons]; omega
    | false =>
      rw [spl_miss h]
      have := spl_len S r 0 (acc ++ [c])
      rw [List.length_cons]; omega
  | c :: r, k + 1, acc => by
    rw [spl_pass]
    generalize e : (c :: r).drop (k + 1) = l
    have hl : l.length < (c :: r).length := by rw [← e, List.length_drop, List.length_cons]; omega
    have := spl_len S l 0 acc
    omega
termination_by l _ _ => l.length
theorem split_nl_len (x : Str) : (Txt.split x "\n").length ≤ x.length + 1 := by
  have e := congrArg List.length (split_spl x "\n" (by rw [nl_tl]; simp) (kind_ok nl_small))
  rw [List.length_map] at e
  rw [e, len_tl]
  exact spl_len _ _ _ _
theorem parse_row_eq (t : Str) (h : Short t) : m_parse_row [.str t] = parseV t := by
  unfold m_parse_row parseV
  have eg : g_parse_row = sSeq (sAsg 1 (mC (.lst []))) (sSeq (sFor (mEnum (mCons (mM1 dSplit (mVar 0) (mC (.str "\n"))) (mNil))) (.tp [2, 3]) prB) (sRet (mApp m_Row___init__ (mCons (mBin dIx (mBin dIx (mVar 1) (mC (.int 0))) (mC (.int 1))) (mCons (mSl dSl (mVar 1) (mB1 (mC (.int 1))) (mB0)) (mNil)))))) := rfl
  rw [eg]
  have hlen := split_nl_len t
  have hs : (Txt.split t "\n").length ≤ sizeLine := big (by have := h.1; omega)
  have hsp := splitL t "\n" nl1 (big h.1)
  have hl := pr_loop (.str t) (Txt.split t "\n") 0 [] none none none none h.2 (by simpa using hs)
  rw [List.map_nil] at hl
  cases e : scanV 0 (Txt.split t "\n") with
  | error n =>
    rw [e] at hl
    obtain ⟨ρ', hl⟩ := hl
    simp [hsp, hl]
  | ok es =>
    rw [e] at hl
    obtain ⟨p2, p3, p4, p5, hl⟩ := hl
    cases el : Txt.split t "\n" with
    | nil => exact absurd el (split_nl_ne t)
    | cons l ls =>
      rw [el] at e
      obtain ⟨f, r, rfl, hr⟩ := scan_cons e
      have hw := scan_words hr
      have hlr : r.length ≤ sizeLine := by
        have := scan_len hr
        rw [el, List.length_cons] at hs
        omega
      show _ = makeV f.2 r
      rw [← row_init f.2 r hw hlr]
      rw [List.nil_append] at hl
      simp [hsp, hl, entD, cutD_from1]
      cases m_Row___init__ [D.int f.snd, D.lst (List.map entD r)] <;> rfl
end K69

set_option Elab.async false
set_option linter.all false
set_option maxRecDepth 100000
set_option maxHeartbeats 1000000
namespace K69
open PySem L2 T TL
def loB : T.Env → SO := sSeq (sAsg 4 (mM1 dSplit (mBin dIx (mVar 1) (mVar 3)) (mC (.str " ")))) (sSeq (sAsg 5 (mBin dIx (mLst (mCons (mLst (mCons (mC (.str "row")) (mNil))) (mCons (mLst (mCons (mC (.str "cross")) (mCons (mC (.str "cup")) (mCons (mC (.str "cap")) (mNil))))) (mNil)))) (mCall dIntA (mCons (mBin dGt (mVar 3) (mC (.int 0))) (mNil))))) (sSeq (sIf (mOr (mTest (mBin dNe (mCall dLen (mCons (mVar 4) (mNil))) (mC (.int 2)))) (mOr (mTest (mBin dNotIn (mBin dIx (mVar 4) (mC (.int 0))) (mVar 5))) (mTest (mBin dIsN (mApp m__law_number (mCons (mBin dIx (mVar 4) (mC (.int 1))) (mNil))) (mC .non))))) (sRet (mLst (mCons (mC (.str "note")) (mCons (mBin dAdd (mVar 3) (mC (.int 1))) (mNil))))) (sNext)) (sSeq (sApp 2 (mTup (mCons (mBin dIx (mVar 4) (mC (.int 0))) (mCons (mApp m__law_number (mCons (mBin dIx (mVar 4) (mC (.int 1))) (mNil))) (mNil))))) (sNext))))
theorem firstL (k : Nat) : mBin dIx (mLst (mCons (mLst (mCons (mC (.str "row")) (mNil))) (mCons (mLst (mCons (mC (.str "cross")) (mCons (mC (.str "cup")) (mCons (mC (.str "cap")) (mNil))))) (mNil)))) (mCall dIntA (mCons (mBin dGt (mVar 3) (mC (.int 0))) (mNil))) = mBin dIx (mLst (mCons (mLst (mCons (mC (.str "row")) (mNil))) (mCons (mLst (mCons (mC (.str "cross")) (mCons (mC (.str "cup")) (mCons (mC (.str "cap")) (mNil))))) (mNil)))) (mCall dIntA (mCons (mBin dGt (mVar 3) (mC (.int 0))) (mNil))) := rfl
theorem loB_run (t : D) (lines : List Str) (acc : List (Str × Int)) (k : Nat) (l : Str) (hk : lines[k]? = some l) (hl : l.length ≤ 640) (ha : acc.length < sizeLine) (o4 o5 o6 o7 : Option D) :
    ∃ ws as, loB [some t, some (.lst (lines.map .str)), some (.lst (acc.map entD)), some (.int k), o4, o5, o6, o7] = match lineV (firstW k) l with
      | none => .rt (.lst [.str "note", .int (k + 1 : Nat)])
      | some e => .nx [some t, some (.lst (lines.map .str)), some (.lst ((acc ++ [e]).map entD)), some (.int k), some ws, some as, o6, o7] := by
  have hx : atI (lines.map D.str) (k : Int) = some (.str l) := by rw [T.atI_nat, List.getElem?_map, hk]; rfl
  have hal : dIx (.lst [.lst [.str "row"], .lst [.str "cross", .str "cup", .str "cap"]]) (.int (if decide ((0 : Int) < k) = true then 1 else 0)) = .ok (.lst ((firstW k).map .str)) := by
    unfold firstW
    by_cases h : k = 0
    · subst h; simp
    · have h2 : (0 : Int) < k := by omega
      have h3 : 0 < k := by omega
      simp [h, h2, h3]
  have hp : ∀ p ∈ Txt.split l " ", p.length ≤ 640 := fun p hp => Nat.le_trans (piece_len hp) hl
  have hs := splitL l " " sp1 (le_size2 hl)
  refine ⟨.lst ((Txt.split l " ").map .str), .lst ((firstW k).map .str), ?_⟩
  unfold loB
  have ha' : (acc.map entD).length < sizeLine := by rw [List.length_map]; exact ha
  simp only [e_sSeq, e_sAsg, e_mM1, e_mBin, e_mVar, e_mC, bind_ok, List.getElem?_cons_succ, List.getElem?_cons_zero, e_ixL, hx, e_isStr, if_true, hs, e_noX, List.set_cons_succ, List.set_cons_zero, e_mLst, e_mCons, e_mNil, e_mkL1, e_mkL2, e_mkL3, e_mCall, e_gt, e_intB]
  have hal' : atI [D.lst [.str "row"], .lst [.str "cross", .str "cup", .str "cap"]] (if decide ((0 : Int) < k) = true then 1 else 0) = some (.lst ((firstW k).map .str)) := by
    rw [e_ixL] at hal
    cases h : atI [D.lst [.str "row"], .lst [.str "cross", .str "cup", .str "cap"]] (if decide ((0 : Int) < k) = true then 1 else 0) with
    | none => rw [h] at hal; cases hal
    | some d => rw [h] at hal; cases hal; rfl
  rw [hal']
  simp only [List.set_cons_succ, List.set_cons_zero]
  unfold lineV
  rcases e : Txt.split l " " with _ | ⟨a, _ | ⟨b, _ | ⟨c, r⟩⟩⟩
  · simp
  · simp
  · rw [e] at hp
    have hb := law_number_eq b (hp b (by simp))
    by_cases h : a ∈ firstW k
    · cases hn : numV b with
      | none => simp [notInL, h, hb, hn, optD]
      | some n => simp [notInL, h, hb, hn, optD, ha, entD]
    · simp [notInL, h]
  · have hne : ¬ ((r.length : Int) + 1 + 1 + 1 = 2) := by omega
    simp [hne]
theorem lo_loop (t : D) (lines : List Str) : ∀ (ls : List Str) (k : Nat) (acc : List (Str × Int)) (o3 o4 o5 o6 o7 : Option D), lines.drop k = ls → (∀ l ∈ ls, l.length ≤ 640) → acc.length + ls.length ≤ sizeLine →
    match scanV k ls with
    | .ok es => ∃ p3 p4 p5, forD (.nm 3) loB ((List.range' k ls.length).map fun (i : Nat) => .int i) [some t, some (.lst (lines.map .str)), some (.lst (acc.map entD)), o3, o4, o5, o6, o7] = .nx [some t, some (.lst (lines.map .str)), some (.lst ((acc ++ es).map entD)), p3, p4, p5, o6, o7]
    | .error n => forD (.nm 3) loB ((List.range' k ls.length).map fun (i : Nat) => .int i) [some t, some (.lst (lines.map .str)), some (.lst (acc.map entD)), o3, o4, o5, o6, o7] = .rt (.lst [.str "note", .int n])
  | [], k, acc, o3, o4, o5, o6, o7, _, _, _ => ⟨o3, o4, o5, by rw [List.append_nil]; rfl⟩
  | l :: ls, k, acc, o3, o4, o5, o6, o7, hd, hl, hz => by
    rw [List.length_cons] at hz
    have hk : lines[k]? = some l := by
      have := congrArg (fun z : List Str => z[0]?) hd
      simpa [List.getElem?_drop] using this
    have hd2 : lines.drop (k + 1) = ls := by
      have := congrArg (List.drop 1) hd
      rw [List.drop_drop] at this
      simpa using this
    obtain ⟨ws, as, h1⟩ := loB_run t lines acc k l hk (hl l List.mem_cons_self) (by omega) o4 o5 o6 o7
    unfold scanV
    rw [List.length_cons, List.range'_succ, List.map_cons, forD_cons]
    simp only [e_put1, List.set_cons_succ, List.set_cons_zero]
    rw [h1]
    cases e1 : lineV (firstW k) l with
    | none => rfl
    | some e =>
      have ih := lo_loop t lines ls (k + 1) (acc ++ [e]) (some (.int k)) (some ws) (some as) o6 o7 hd2 (fun x hx => hl x (List.mem_cons_of_mem _ hx)) (by rw [List.length_append, List.length_singleton]; omega)
      dsimp only
      cases e2 : scanV (k + 1) ls with
      | ok es =>
        rw [e2] at ih
        obtain ⟨p3, p4, p5, ih⟩ := ih
        refine ⟨p3, p4, p5, ?_⟩
        rw [ih, List.append_assoc]
        rfl
      | error n =>
        rw [e2] at ih
        exact ih
/-! the letters of the text, as the law asks them -/
def ltB : T.Env → SO := sSeq (sAsg 7 (mBin dIx (mIxO 2 (mVar 3)) (mC (.int 0)))) (sSeq (sIf (mOr (mTest (mBin dLt (mBin dIx (mIxO 2 (mVar 3)) (mC (.int 1))) (mC (.int 0)))) (mTest (mBin dGt (mBin dAdd (mBin dIx (mIxO 2 (mVar 3)) (mC (.int 1))) (mBin dMul (mC (.int 2)) (mCall dIntA (mCons (mBin dNe (mVar 7) (mC (.str "cup"))) (mNil))))) (mVar 6)))) (sRet (mLst (mCons (mC (.str "letter")) (mCons (mBin dSub (mVar 3) (mC (.int 1))) (mCons (mIxO 2 (mVar 3)) (mNil)))))) (sNext)) (sSeq (sAsg 6 (mBin dSub (mBin dAdd (mVar 6) (mBin dMul (mC (.int 2)) (mCall dIntA (mCons (mBin dEq (mVar 7) (mC (.str "cup"))) (mNil))))) (mBin dMul (mC (.int 2)) (mCall dIntA (mCons (mBin dEq (mVar 7) (mC (.str "cap"))) (mNil)))))) (sNext)))
theorem twice (b : Bool) : dMul (.int 2) (.int (if b = true then 1 else 0)) = .ok (.int (if b = true then 2 else 0)) := by
  cases b
  · exact dm0
  · exact dm1
theorem ltB_run (t ls : Option D) (es : List (Str × Int)) (k : Nat) (w : Str) (n : Int) (hk : es[k + 1]? = some (w, n)) (hw : w ∈ words3) (L : Int) (o4 o5 o7 : Option D) :
    ltB [t, ls, some (.lst (es.map entD)), some (.int (k + 1 : Nat)), o4, o5, some (.int L), o7] = if fitsV w n L = true then .nx [t, ls, some (.lst (es.map entD)), some (.int (k + 1 : Nat)), o4, o5, some (.int (L + moreV w)), some (.str w)]
      else .rt (.lst [.str "letter", .int k, entD (w, n)]) := by
  have hx : atI (es.map entD) ((k + 1 : Nat) : Int) = some (entD (w, n)) := by rw [T.atI_nat, List.getElem?_map, hk]; rfl
  unfold ltB
  simp only [e_sSeq, e_sAsg, e_mBin, e_mIxO, e_mVar, e_mC, bind_ok, List.getElem?_cons_succ, List.getElem?_cons_zero, e_ixL, hx, entD, e_ixT, atI_0, List.set_cons_succ, List.set_cons_zero, e_sIf, e_mOr, e_mTest, atI_1, e_lt, e_asB, e_mCall, e_mCons, e_mNil, e_neS, e_intB, e_noX, twice, e_addI, e_gt, e_eqS, e_subI, e_sNext, e_sRet, e_mLst, e_mkL3]
  unfold fitsV moreV
  by_cases hn : n < 0
  · have hn' : ¬ 0 ≤ n := by omega
    simp [hn, hn']
    try omega
  · have hn' : 0 ≤ n := by omega
    rcases mem3 hw with e | e | e
    · subst e
      by_cases hf : L < n + 2
      · have hf' : ¬ n + 1 < L := by omega
        simp [hn, hn', ne_cc, ne_ca, hf, hf', cm3, cm4]
        try omega
      · have hf' : n + 1 < L := by omega
        simp [hn, hn', ne_cc, ne_ca, hf, hf', cm3, cm4]
    · subst e
      by_cases hf : L < n
      · have hf' : ¬ n ≤ L := by omega
        simp [hn, hn', ne_ua, hf, hf', cm3, cm4]
        try omega
      · have hf' : n ≤ L := by omega
        simp [hn, hn', ne_ua, hf, hf', cm3, cm4]
    · subst e
      by_cases hf : L < n + 2
      · have hf' : ¬ n + 1 < L := by omega
        simp [hn, hn', ne_au, hf, hf', cm3, cm4]
        try omega
      · have hf' : n + 1 < L := by omega
        simp [hn, hn', ne_au, hf, hf', cm3, cm4]
        try omega
theorem lt_loop (t ls : Option D) (all : List (Str × Int)) : ∀ (es : List (Str × Int)) (k : Nat) (L : Int) (o3 o4 o5 o7 : Option D), all.drop (k + 1) = es → (∀ e ∈ es, e.1 ∈ words3) →
    match goV L k es with
    | none => ∃ p3 p6 p7, forD (.nm 3) ltB ((List.range' (k + 1) es.length).map fun (i : Nat) => .int i) [t, ls, some (.lst (all.map entD)), o3, o4, o5, some (.int L), o7] = .nx [t, ls, some (.lst (all.map entD)), p3, o4, o5, p6, p7]
    | some (q, e) => forD (.nm 3) ltB ((List.range' (k + 1) es.length).map fun (i : Nat) => .int i) [t, ls, some (.lst (all.map entD)), o3, o4, o5, some (.int L), o7] = .rt (.lst [.str "letter", .int q, entD e])
  | [], k, L, o3, o4, o5, o7, _, _ => ⟨o3, some (.int L), o7, rfl⟩
  | (w, n) :: es, k, L, o3, o4, o5, o7, hd, hw => by
    have hk : all[k + 1]? = some (w, n) := by
      have := congrArg (fun z : List (Str × Int) => z[0]?) hd
      simpa [List.getElem?_drop] using this
    have hd2 : all.drop (k + 1 + 1) = es := by
      have := congrArg (List.drop 1) hd
      rw [List.drop_drop] at this
      simpa using this
    have h1 := ltB_run t ls all k w n hk (hw _ List.mem_cons_self) L o4 o5 o7
    unfold goV
    rw [List.length_cons, List.range'_succ, List.map_cons, forD_cons]
    simp only [e_put1, List.set_cons_succ, List.set_cons_zero]
    rw [h1]
    by_cases hf : fitsV w n L = true
    · rw [if_pos hf, if_pos hf]
      have ih := lt_loop t ls all es (k + 1) (L + moreV w) (some (.int (k + 1 : Nat))) o4 o5 (some (.str w)) hd2 (fun x hx => hw x (List.mem_cons_of_mem _ hx))
      exact ih
    · rw [if_neg hf, if_neg hf]
end K69

set_option Elab.async false
set_option linter.all false
set_option maxRecDepth 100000
set_option maxHeartbeats 1000000
namespace K69
open PySem L2 T TL
theorem rangeD_nat (a b : Nat) : rangeD (a : Int) (b : Int) = (List.range' a (b - a)).map fun (i : Nat) => D.int i := by
  unfold rangeD
  rw [List.range'_eq_map_range, List.map_map, show ((b : Int) - (a : Int)).toNat = b - a by omega]
  apply List.map_congr_left
  intro i _
  show D.int ((a : Int) + i) = D.int ((a + i : Nat) : Int)
  rw [Int.natCast_add]
theorem range0 (n : Nat) : rangeD 0 (n : Int) = (List.range' 0 n).map fun (i : Nat) => D.int i := rangeD_nat 0 n
theorem range1 (n : Nat) : rangeD 1 ((n + 1 : Nat) : Int) = (List.range' 1 n).map fun (i : Nat) => D.int i := by
  have := rangeD_nat 1 (n + 1)
  rw [Nat.add_sub_cancel] at this
  exact this
theorem okR_nat {a b : Nat} (h1 : a ≤ 100002) (h2 : b ≤ 100002) : okR (a : Int) (b : Int) = true := by
  unfold okR
  simp only [Bool.and_eq_true, decide_eq_true_eq]
  omega
/-- what the law expects of a text -/
def outcomeV (t : Str) : O D := match scanV 0 (Txt.split t "\n") with
  | .error n => .ok (.lst [.str "note", .int n])
  | .ok [] => .stuck
  | .ok (f :: es) => if f.2 < 0 then .ok (.lst [.str "lanes", .int f.2]) else match goV f.2 0 es with
    | none => .ok (.lst [.str "row", .int f.2, .lst (es.map entD)])
    | some (q, e) => .ok (.lst [.str "letter", .int q, entD e])
def loT : T.Env → SO := sSeq (sAsg 6 (mBin dIx (mIxO 2 (mC (.int 0))) (mC (.int 1)))) (sSeq (sIf (mTest (mBin dLt (mVar 6) (mC (.int 0)))) (sRet (mLst (mCons (mC (.str "lanes")) (mCons (mVar 6) (mNil))))) (sNext)) (sSeq (sFor (mRange2 (mCons (mC (.int 1)) (mCons (mFlat (mCall dLen (mCons (mVar 2) (mNil)))) (mNil)))) (.nm 3) ltB) (sRet (mLst (mCons (mC (.str "row")) (mCons (mBin dIx (mBin dIx (mVar 2) (mC (.int 0))) (mC (.int 1))) (mCons (mSl dSl (mVar 2) (mB1 (mC (.int 1))) (mB0)) (mNil))))))))
def endO (f : Str × Int) (es : List (Str × Int)) : D := if f.2 < 0 then .lst [.str "lanes", .int f.2] else match goV f.2 0 es with
    | none => .lst [.str "row", .int f.2, .lst (es.map entD)]
    | some (q, e) => .lst [.str "letter", .int q, entD e]
theorem loT_run (t ls p3 p4 p5 p7 : Option D) (w : Str) (n : Int) (r : List (Str × Int)) (hw : ∀ e ∈ r, e.1 ∈ words3) (hok : okR 1 ((r.length : Int) + 1) = true) : loT [t, ls, some (.lst (((w, n) :: r).map entD)), p3, p4, p5, none, p7] = .rt (endO (w, n) r) := by
  have hlt := lt_loop t ls ((w, n) :: r) r 0 n p3 p4 p5 p7 rfl hw
  have hr1 := range1 r.length
  rw [Int.natCast_succ] at hr1
  rw [Nat.zero_add] at hlt
  rw [← hr1] at hlt
  have hc : (((w, n) :: r).map entD) = .tup [.str w, .int n] :: r.map entD := rfl
  rw [hc] at hlt
  unfold loT endO
  rw [hc]
  by_cases hn : n < 0
  · simp [hn]
  · rw [if_neg hn]
    dsimp only
    cases eg : goV n 0 r with
    | none =>
      rw [eg] at hlt
      obtain ⟨q3, q6, q7, hlt⟩ := hlt
      simp [hn, hok, hlt, cutD_from1]
    | some qe =>
      obtain ⟨q, e'⟩ := qe
      rw [eg] at hlt
      simp [hn, hok, hlt]
def loH : T.Env → SO := sFor (mRange1 (mCons (mCall dLen (mCons (mVar 1) (mNil))) (mNil))) (.nm 3) loB
theorem loH_run (t : D) (lines : List Str) (hl : ∀ l ∈ lines, l.length ≤ 640) (hs : lines.length ≤ sizeLine) (hok : okR 0 (lines.length : Int) = true) :
    match scanV 0 lines with
    | .ok es => ∃ p3 p4 p5, loH [some t, some (.lst (lines.map .str)), some (.lst []), none, none, none, none, none] = .nx [some t, some (.lst (lines.map .str)), some (.lst (es.map entD)), p3, p4, p5, none, none]
    | .error n => loH [some t, some (.lst (lines.map .str)), some (.lst []), none, none, none, none, none] = .rt (.lst [.str "note", .int n]) := by
  have hh := lo_loop t lines lines 0 [] none none none none none rfl hl (by simpa using hs)
  rw [List.map_nil, ← range0] at hh
  have e : loH [some t, some (.lst (lines.map .str)), some (.lst []), none, none, none, none, none] = forD (.nm 3) loB (rangeD 0 (lines.length : Int)) [some t, some (.lst (lines.map .str)), some (.lst []), none, none, none, none, none] := by
    unfold loH
    simp [hok]
  rw [e]
  exact hh
theorem outcome_eq (t : Str) (h : Short t) : m__law_outcome [.str t] = outcomeV t := by
  have eg : g__law_outcome = sSeq (sAsg 1 (mM1 dSplit (mVar 0) (mC (.str "\n")))) (sSeq (sAsg 2 (mC (.lst []))) (sSeq loH loT)) := rfl
  have hlen := split_nl_len t
  have h1 := h.1
  have hs : (Txt.split t "\n").length ≤ sizeLine := big (by omega)
  have hsp := splitL t "\n" nl1 (big h.1)
  have hok : okR 0 ((Txt.split t "\n").length : Int) = true := okR_nat (a := 0) (b := (Txt.split t "\n").length) (by omega) (by omega)
  have hh := loH_run (.str t) (Txt.split t "\n") h.2 hs hok
  have e0 : m__law_outcome [.str t] = endD .sh (match loH [some (.str t), some (.lst ((Txt.split t "\n").map .str)), some (.lst []), none, none, none, none, none] with
    | .nx ρ' => loT ρ'
    | o => o) := by
    unfold m__law_outcome
    rw [eg]
    simp [hsp]
    try (cases loH [some (.str t), some (.lst ((Txt.split t "\n").map .str)), some (.lst []), none, none, none, none, none] <;> rfl)
  rw [e0]
  unfold outcomeV
  cases e : scanV 0 (Txt.split t "\n") with
  | error n =>
    rw [e] at hh
    rw [hh]
    rfl
  | ok es =>
    rw [e] at hh
    obtain ⟨p3, p4, p5, hh⟩ := hh
    rw [hh]
    have hne := split_nl_ne t
    have hle := scan_len e
    cases es with
    | nil =>
      rw [List.length_nil] at hle
      exact absurd (List.length_eq_zero_iff.mp hle.symm) hne
    | cons f r =>
      obtain ⟨w, n⟩ := f
      have hw : ∀ e ∈ r, e.1 ∈ words3 := by
        revert e
        cases Txt.split t "\n" with
        | nil => exact fun z => by cases z
        | cons l ls =>
          intro e
          obtain ⟨f, r', er, hr⟩ := scan_cons e
          cases er
          exact scan_words hr
      have hok1 : okR 1 ((r.length : Int) + 1) = true := by
        have z := okR_nat (a := 1) (b := r.length + 1) (by omega) (by rw [List.length_cons] at hle; omega)
        exact z
      dsimp only
      rw [loT_run _ _ p3 p4 p5 none w n r hw hok1]
      unfold endO
      by_cases hn : n < 0
      · rw [if_pos hn, if_pos hn]; rfl
      · rw [if_neg hn, if_neg hn]
        cases goV n 0 r with
        | none => rfl
        | some qe => rfl
end K69

set_option Elab.async false
set_option linter.all false
set_option maxRecDepth 100000
set_option maxHeartbeats 1000000
namespace K69
open PySem L2 T TL
theorem atI_last {α : Type} (xs : List α) (x : α) : atI (xs ++ [x]) (-1) = some x := by
  unfold atI ixN
  rw [List.length_append, List.length_singleton]
  simp only [show ¬ (0 : Int) ≤ -1 by omega, if_false, Int.natCast_add]
  have e : (-1 + ((xs.length : Int) + ((1 : Nat) : Int))).toNat = xs.length := by omega
  have h1 : (0 : Int) ≤ -1 + ((xs.length : Int) + ((1 : Nat) : Int)) := by omega
  simp [e]
  rw [if_pos (by omega)]
  simp
  have e2 : (-1 + ((xs.length : Int) + 1)).toNat = xs.length := by omega
  rw [e2]
  simp
/-- the lanes under each letter -/
def lanesL : Int → List (Str × Int) → List Int
  | _, [] => []
  | L, e :: es => (L + moreV e.1) :: lanesL (L + moreV e.1) es
def botV : Int → List (Str × Int) → Int
  | L, [] => L
  | L, e :: es => botV (L + moreV e.1) es
theorem lanes_last : ∀ (es : List (Str × Int)) (L : Int) (pre : List Int), ∃ p, pre ++ L :: lanesL L es = p ++ [botV L es]
  | [], L, pre => ⟨pre, rfl⟩
  | e :: es, L, pre => by
    obtain ⟨p, hp⟩ := lanes_last es (L + moreV e.1) (pre ++ [L])
    refine ⟨p, ?_⟩
    show _ = p ++ [botV (L + moreV e.1) es]
    rw [← hp, List.append_assoc]
    rfl
def llB : T.Env → SO := sSeq (sApp 2 (mBin dSub (mBin dAdd (mIxO 2 (mUn dNeg (mC (.int 1)))) (mBin dMul (mC (.int 2)) (mCall dIntA (mCons (mBin dEq (mBin dIx (mVar 3) (mC (.int 0))) (mC (.str "cup"))) (mNil))))) (mBin dMul (mC (.int 2)) (mCall dIntA (mCons (mBin dEq (mBin dIx (mVar 3) (mC (.int 0))) (mC (.str "cap"))) (mNil)))))) (sNext)
theorem more_sum (w : Str) (L : Int) : L + (if decide (w = "cup") = true then 2 else 0) - (if decide (w = "cap") = true then 2 else 0) = L + moreV w := by
  unfold moreV
  simp only [decide_eq_true_eq]
  by_cases h1 : w = "cup"
  · rw [if_pos h1, if_pos h1, if_neg (by rw [h1]; exact ne_ua)]; omega
  · rw [if_neg h1, if_neg h1]
    by_cases h2 : w = "cap"
    · rw [if_pos h2, if_pos h2]; omega
    · rw [if_neg h2, if_neg h2]; omega
theorem llB_run0 (t l : Option D) (ds : List D) (L : Int) (e : Str × Int) (hl : atI ds (-1) = some (.int L)) (hz : ds.length < sizeLine) :
    llB [t, l, some (.lst ds), some (entD e)] = .nx [t, l, some (.lst (ds ++ [.int (L + moreV e.1)])), some (entD e)] := by
  unfold llB
  simp only [e_sSeq, e_sApp, List.getElem?_cons_succ, List.getElem?_cons_zero, e_mBin, e_mIxO, e_mUn, e_mC, e_neg, bind_ok, e_ixL, hl, e_mVar, entD, e_ixT, atI_0, e_eqS, e_mCall, e_mCons, e_mNil, e_intB, e_noX, twice, e_addI, e_subI, if_pos hz, List.set_cons_succ, List.set_cons_zero, e_sNext, more_sum]
theorem app_ints (pre : List Int) (L M : Int) : (pre ++ [L]).map D.int ++ [.int M] = (pre ++ [L] ++ [M]).map .int := by rw [List.map_append (l₁ := pre ++ [L])]; rfl
theorem llB_run (t l : Option D) (pre : List Int) (L : Int) (e : Str × Int) (hz : pre.length + 1 < sizeLine) :
    llB [t, l, some (.lst ((pre ++ [L]).map .int)), some (entD e)] = .nx [t, l, some (.lst ((pre ++ [L] ++ [L + moreV e.1]).map .int)), some (entD e)] := by
  rw [llB_run0 t l _ L e (by rw [List.map_append]; exact atI_last _ _) (by rw [List.length_map, List.length_append, List.length_singleton]; exact hz), app_ints]
theorem ll_loop (t l : Option D) : ∀ (es : List (Str × Int)) (L : Int) (pre : List Int) (o : Option D), pre.length + 1 + es.length ≤ sizeLine →
    ∃ o', forD (.nm 3) llB (es.map entD) [t, l, some (.lst ((pre ++ [L]).map .int)), o] = .nx [t, l, some (.lst ((pre ++ L :: lanesL L es).map .int)), o']
  | [], L, pre, o, _ => ⟨o, rfl⟩
  | e :: es, L, pre, o, hz => by
    rw [List.length_cons] at hz
    obtain ⟨o', h⟩ := ll_loop t l es (L + moreV e.1) (pre ++ [L]) (some (entD e)) (by rw [List.length_append, List.length_singleton]; omega)
    refine ⟨o', ?_⟩
    rw [List.map_cons, forD_cons]
    simp only [e_put1, List.set_cons_succ, List.set_cons_zero]
    rw [llB_run t l pre L e (by omega)]
    dsimp only
    rw [h, List.append_assoc]
    rfl
theorem law_lanes_eq (L : Int) (es : List (Str × Int)) (hz : es.length + 1 ≤ sizeLine) : m__law_lanes [.int L, .lst (es.map entD)] = .ok (.lst ((L :: lanesL L es).map .int)) := by
  obtain ⟨o', h⟩ := ll_loop (some (.int L)) (some (.lst (es.map entD))) es L [] none (by simpa [Nat.add_comm] using hz)
  have eg : g__law_lanes = sSeq (sAsg 2 (mLst (mCons (mVar 0) (mNil)))) (sSeq (sFor (mSeq (mVar 1)) (.nm 3) llB) (sRet (mVar 2))) := rfl
  unfold m__law_lanes
  rw [eg]
  rw [List.nil_append, List.nil_append] at h
  simp [show forD (.nm 3) llB (es.map entD) [some (.int L), some (.lst (es.map entD)), some (.lst [.int L]), none] = _ from h]
def rlB : T.Env → SO := sSeq (sApp 1 (mBin dAdd (mIxO 1 (mUn dNeg (mC (.int 1)))) (mUn (dTab tb_MORE_LANES) (mVar 2)))) (sNext)
theorem rlB_run0 (t : Option D) (ds : List D) (L : Int) (e : Str × Int) (he : e.1 ∈ words3) (hl : atI ds (-1) = some (.int L)) (hz : ds.length < sizeLine) :
    rlB [t, some (.lst ds), some (.str e.1), some (.int e.2)] = .nx [t, some (.lst (ds ++ [.int (L + moreV e.1)])), some (.str e.1), some (.int e.2)] := by
  unfold rlB
  simp only [e_sSeq, e_sApp, List.getElem?_cons_succ, List.getElem?_cons_zero, e_mBin, e_mIxO, e_mUn, e_mC, e_neg, bind_ok, e_ixL, hl, e_mVar, tab_more e.1 he, e_addI, if_pos hz, List.set_cons_succ, List.set_cons_zero, e_sNext]
theorem rlB_run (t : Option D) (pre : List Int) (L : Int) (e : Str × Int) (he : e.1 ∈ words3) (hz : pre.length + 1 < sizeLine) :
    rlB [t, some (.lst ((pre ++ [L]).map .int)), some (.str e.1), some (.int e.2)] = .nx [t, some (.lst ((pre ++ [L] ++ [L + moreV e.1]).map .int)), some (.str e.1), some (.int e.2)] := by
  rw [rlB_run0 t _ L e he (by rw [List.map_append]; exact atI_last _ _) (by rw [List.length_map, List.length_append, List.length_singleton]; exact hz), app_ints]
theorem rl_loop (t : Option D) : ∀ (es : List (Str × Int)) (L : Int) (pre : List Int) (o2 o3 : Option D), (∀ e ∈ es, e.1 ∈ words3) → pre.length + 1 + es.length ≤ sizeLine →
    ∃ p2 p3, forD (.tp [2, 3]) rlB (es.map entD) [t, some (.lst ((pre ++ [L]).map .int)), o2, o3] = .nx [t, some (.lst ((pre ++ L :: lanesL L es).map .int)), p2, p3]
  | [], L, pre, o2, o3, _, _ => ⟨o2, o3, rfl⟩
  | e :: es, L, pre, o2, o3, hw, hz => by
    rw [List.length_cons] at hz
    obtain ⟨p2, p3, h⟩ := rl_loop t es (L + moreV e.1) (pre ++ [L]) (some (.str e.1)) (some (.int e.2)) (fun x hx => hw x (List.mem_cons_of_mem _ hx)) (by rw [List.length_append, List.length_singleton]; omega)
    refine ⟨p2, p3, ?_⟩
    rw [List.map_cons, forD_cons, entD]
    simp only [e_put2, List.set_cons_succ, List.set_cons_zero]
    rw [rlB_run t pre L e (hw e List.mem_cons_self) (by omega)]
    dsimp only
    rw [h, List.append_assoc]
    rfl
theorem fld_top (top : Int) (es : List (Str × Int)) : dFld fc_top "top" (rowD top es) = .ok (.int top) := by
  unfold rowD
  rw [e_dFld, e_fldIn, if_pos (by decide +kernel)]
  rfl
theorem fld_letters (top : Int) (es : List (Str × Int)) : dFld fc_letters "letters" (rowD top es) = .ok (.tup (es.map entD)) := by
  unfold rowD
  rw [e_dFld, e_fldIn, if_pos (by decide +kernel)]
  have h1 : (("letters" : Str) == ("top" : Str)) = false := by decide +kernel
  have h2 : (("letters" : Str) == ("letters" : Str)) = true := by decide +kernel
  rw [List.lookup_cons, h1, List.lookup_cons, h2]
theorem row_lanes_eq (L : Int) (es : List (Str × Int)) (hw : ∀ e ∈ es, e.1 ∈ words3) (hz : es.length + 1 ≤ sizeLine) : m_Row_lanes [rowD L es] = .ok (.tup ((L :: lanesL L es).map .int)) := by
  obtain ⟨p2, p3, h⟩ := rl_loop (some (rowD L es)) es L [] none none hw (by simpa [Nat.add_comm] using hz)
  have eg : g_Row_lanes = sSeq (sAsg 1 (mLst (mCons (mUn (dFld fc_top "top") (mVar 0)) (mNil)))) (sSeq (sFor (mSeq (mUn (dFld fc_letters "letters") (mVar 0))) (.tp [2, 3]) rlB) (sRet (mTupO 1))) := rfl
  unfold m_Row_lanes
  rw [eg]
  rw [List.nil_append, List.nil_append] at h
  simp only [e_def, e_start, List.length_cons, List.length_nil, if_true, List.map_cons, List.map_nil, List.cons_append, List.nil_append, e_sSeq, e_sAsg, e_mLst, e_mCons, e_mUn, e_mVar, List.getElem?_cons_zero, bind_ok, fld_top, e_mNil, e_mkL1, List.set_cons_succ, List.set_cons_zero, List.replicate, e_sFor, e_mSeq, fld_letters, e_dSeqT]
  rw [show forD (.tp [2, 3]) rlB (es.map entD) [some (rowD L es), some (.lst [.int L]), none, none] = _ from h]
  simp
theorem row_bottom_eq (L : Int) (es : List (Str × Int)) (hw : ∀ e ∈ es, e.1 ∈ words3) (hz : es.length + 1 ≤ sizeLine) : m_Row_bottom [rowD L es] = .ok (.int (botV L es)) := by
  obtain ⟨p, hp⟩ := lanes_last es L []
  rw [List.nil_append] at hp
  have hl : atI ((L :: lanesL L es).map D.int) (-1) = some (.int (botV L es)) := by rw [hp, List.map_append]; exact atI_last _ _
  have hr := row_lanes_eq L es hw hz
  unfold m_Row_bottom g_Row_bottom
  simp only [e_def, e_start, List.length_cons, List.length_nil, if_true, List.map_cons, List.map_nil, List.cons_append, List.nil_append, e_sRet, e_mBin, e_mProp, e_mVar, List.getElem?_cons_zero, bind_ok, List.replicate, Nat.sub_self]
  have hr' : m_Row_lanes [.ins "Row" [("top", .int L), ("letters", .tup (es.map entD))]] = .ok (.tup ((L :: lanesL L es).map .int)) := hr
  simp only [rowD, if_true, hr', e_noX, bind_ok, e_mUn, e_mC, e_neg, e_ixT, hl, e_end1]
end K69

set_option Elab.async false
set_option linter.all false
set_option maxRecDepth 100000
set_option maxHeartbeats 1000000
namespace K69
open PySem L2 T TL
/-! ### is_row -/
def irB : T.Env → SO := sSeq (sAsg 4 (mBin dIx (mUn (dFld fc_letters "letters") (mVar 0)) (mVar 3))) (sSeq (sIf (mOr (mNot (mTest (mUn (dIsi cl [.b "tuple"]) (mVar 4)))) (mTest (mBin dNe (mCall dLen (mCons (mVar 4) (mNil))) (mC (.int 2))))) (sRet (mC (.bl false))) (sNext)) (sSeq (sIf (mOr (mNot (mTest (mUn (dIsi cl [.b "str"]) (mBin dIx (mVar 4) (mC (.int 0)))))) (mNot (mTest (mApp m__law_whole (mCons (mBin dIx (mVar 4) (mC (.int 1))) (mNil)))))) (sRet (mC (.bl false))) (sNext)) (sSeq (sIf (mOr (mTest (mBin dNe (mBin dIx (mVar 4) (mC (.int 0))) (mBin dIx (mBin dIx (mVar 2) (mVar 3)) (mC (.int 0))))) (mTest (mBin dNe (mBin dIx (mVar 4) (mC (.int 1))) (mBin dIx (mBin dIx (mVar 2) (mVar 3)) (mC (.int 1)))))) (sRet (mC (.bl false))) (sNext)) (sNext))))
theorem isi_tup (ds : List D) : dIsi cl [.b "tuple"] (.tup ds) = .ok (.bl true) := rfl
theorem isi_str (s : Str) : dIsi cl [.b "str"] (.str s) = .ok (.bl true) := rfl
theorem isi_row (fs : List (Str × D)) : dIsi cl [.o "Row"] (.ins "Row" fs) = .ok (.bl true) := by
  have h : ("Row" : Str) ∈ cl := by decide +kernel
  unfold dIsi
  have e : (D.ins "Row" fs).ty = some (.o "Row") := rfl
  rw [e]
  dsimp only
  rw [if_pos h]
  have e2 : isiAny cl (.o "Row") [.o "Row"] = some true := by decide +kernel
  rw [e2]
theorem len2 (a b : D) : dLen [.tup [a, b]] = .ok (.int 2) := rfl
theorem irB_run (top : Int) (t : Option D) (es : List (Str × Int)) (k : Nat) (e : Str × Int) (hk : es[k]? = some e) (o : Option D) :
    irB [some (rowD top es), t, some (.lst (es.map entD)), some (.int k), o] = .nx [some (rowD top es), t, some (.lst (es.map entD)), some (.int k), some (entD e)] := by
  have hx : atI (es.map entD) (k : Int) = some (entD e) := by rw [T.atI_nat, List.getElem?_map, hk]; rfl
  unfold irB
  simp only [e_sSeq, e_sAsg, e_mBin, e_mUn, e_mVar, e_mC, bind_ok, List.getElem?_cons_succ, List.getElem?_cons_zero, fld_letters, e_ixT, e_ixL, hx, List.set_cons_succ, List.set_cons_zero, e_sIf, e_mOr, e_mNot, e_mTest, entD, isi_tup, e_asB, e_mCall, e_mCons, e_mNil, len2, e_noX, e_neI, List.length_cons, List.length_nil, atI_0, atI_1, isi_str, e_mApp, whole_int, e_neS, e_sNext, e_sRet, decide_true, Bool.not_true, Bool.not_false, Bool.false_eq_true, if_false, if_true]
theorem ir_loop (top : Int) (t : Option D) (all : List (Str × Int)) : ∀ (es : List (Str × Int)) (k : Nat) (o3 o4 : Option D), all.drop k = es →
    ∃ p3 p4, forD (.nm 3) irB ((List.range' k es.length).map fun (i : Nat) => .int i) [some (rowD top all), t, some (.lst (all.map entD)), o3, o4] = .nx [some (rowD top all), t, some (.lst (all.map entD)), p3, p4]
  | [], k, o3, o4, _ => ⟨o3, o4, rfl⟩
  | e :: es, k, o3, o4, hd => by
    have hk : all[k]? = some e := by
      have := congrArg (fun z : List (Str × Int) => z[0]?) hd
      simpa [List.getElem?_drop] using this
    have hd2 : all.drop (k + 1) = es := by
      have := congrArg (List.drop 1) hd
      rw [List.drop_drop] at this
      simpa using this
    obtain ⟨p3, p4, ih⟩ := ir_loop top t all es (k + 1) (some (.int k)) (some (entD e)) hd2
    refine ⟨p3, p4, ?_⟩
    rw [List.length_cons, List.range'_succ, List.map_cons, forD_cons]
    simp only [e_put1, List.set_cons_succ, List.set_cons_zero]
    rw [irB_run top t all k e hk o4]
    exact ih
def irT : T.Env → SO := sRet (mAndV (mApp m__law_whole (mCons (mProp "Row" m_Row_bottom (mVar 0)) (mNil))) (mBin dEq (mProp "Row" m_Row_bottom (mVar 0)) (mBin dIx (mApp m__law_lanes (mCons (mVar 1) (mCons (mVar 2) (mNil)))) (mUn dNeg (mC (.int 1))))))
theorem irT_run (top : Int) (es : List (Str × Int)) (hw : ∀ e ∈ es, e.1 ∈ words3) (hz : es.length + 1 ≤ sizeLine) (p3 p4 : Option D) :
    irT [some (rowD top es), some (.int top), some (.lst (es.map entD)), p3, p4] = .rt (.bl true) := by
  have hb := row_bottom_eq top es hw hz
  have hl := law_lanes_eq top es hz
  obtain ⟨p, hp⟩ := lanes_last es top []
  rw [List.nil_append] at hp
  have hx : atI ((top :: lanesL top es).map D.int) (-1) = some (.int (botV top es)) := by rw [hp, List.map_append]; exact atI_last _ _
  have hP : mProp "Row" m_Row_bottom (mVar 0) [some (rowD top es), some (.int top), some (.lst (es.map entD)), p3, p4] = .ok (.int (botV top es)) := by
    rw [e_mProp, e_mVar]
    have hb' : m_Row_bottom [.ins "Row" [("top", .int top), ("letters", .tup (es.map entD))]] = .ok (.int (botV top es)) := hb
    simp only [List.getElem?_cons_zero, bind_ok, rowD, if_true, hb', e_noX]
  unfold irT
  simp only [e_sRet, e_mAndV, e_mApp, e_mCons, e_mNil, hP, bind_ok, whole_int, e_asB, if_true, e_mBin, e_mVar, List.getElem?_cons_succ, List.getElem?_cons_zero, hl, e_mUn, e_mC, e_neg, e_ixL, hx, e_eqI, decide_true]
theorem row_len (top : Int) (es : List (Str × Int)) : m_Row___len__ [rowD top es] = .ok (.int es.length) := by
  unfold m_Row___len__ g_Row___len__
  simp only [e_def, e_start, List.length_cons, List.length_nil, if_true, List.map_cons, List.map_nil, List.cons_append, List.nil_append, e_sRet, e_mCall, e_mCons, e_mUn, e_mVar, List.getElem?_cons_zero, bind_ok, fld_letters, e_mNil, e_lenT, List.length_map, e_noX, e_end1]
theorem lenO_row (top : Int) (es : List (Str × Int)) (hz : es.length + 1 ≤ sizeLine) : dLenO "Row" m_Row___len__ [rowD top es] = .ok (.int es.length) := by
  have h := row_len top es
  unfold dLenO
  have h' : m_Row___len__ [.ins "Row" [("top", .int top), ("letters", .tup (es.map entD))]] = .ok (.int es.length) := h
  simp only [rowD, if_true, h']
  rw [size16] at hz
  rw [if_pos (by constructor <;> omega)]
theorem is_row_eq (top : Int) (es : List (Str × Int)) (hw : ∀ e ∈ es, e.1 ∈ words3) (hz : es.length ≤ 100000) : m__law_is_row [rowD top es, .int top, .lst (es.map entD)] = .ok (.bl true) := by
  have hz' : es.length + 1 ≤ sizeLine := by rw [size16]; omega
  have eg : g__law_is_row = sSeq (sIf (mOr (mNot (mTest (mUn (dIsi cl [.o "Row"]) (mVar 0)))) (mOr (mNot (mTest (mApp m__law_whole (mCons (mUn (dFld fc_top "top") (mVar 0)) (mNil))))) (mTest (mBin dNe (mUn (dFld fc_top "top") (mVar 0)) (mVar 1))))) (sRet (mC (.bl false))) (sNext)) (sSeq (sIf (mOr (mNot (mTest (mUn (dIsi cl [.b "tuple"]) (mUn (dFld fc_letters "letters") (mVar 0))))) (mOr (mTest (mBin dNe (mCall dLen (mCons (mUn (dFld fc_letters "letters") (mVar 0)) (mNil))) (mCall dLen (mCons (mVar 2) (mNil))))) (mTest (mBin dNe (mCall (dLenO "Row" m_Row___len__) (mCons (mVar 0) (mNil))) (mCall dLen (mCons (mVar 2) (mNil))))))) (sRet (mC (.bl false))) (sNext)) (sSeq (sFor (mRange1 (mCons (mCall dLen (mCons (mVar 2) (mNil))) (mNil))) (.nm 3) irB) irT)) := rfl
  obtain ⟨p3, p4, hl⟩ := ir_loop top (some (.int top)) es es 0 none none rfl
  have hT := irT_run top es hw hz' p3 p4
  have hi : dIsi cl [.o "Row"] (rowD top es) = .ok (.bl true) := isi_row _
  have hok : okR 0 (es.length : Int) = true := okR_nat (a := 0) (by omega) (by omega)
  rw [← range0] at hl
  unfold m__law_is_row
  rw [eg]
  simp only [e_def, e_start, List.length_cons, List.length_nil, if_true, List.map_cons, List.map_nil, List.cons_append, List.nil_append, List.replicate, e_sSeq, e_sIf, e_mOr, e_mNot, e_mTest, e_mUn, e_mVar, List.getElem?_cons_zero, List.getElem?_cons_succ, bind_ok, hi, e_asB, e_mApp, e_mCons, e_mNil, fld_top, whole_int, e_mBin, e_neI, decide_true, Bool.not_true, e_sNext, fld_letters, isi_tup, e_mCall, e_lenT, e_lenL, List.length_map, e_noX, lenO_row top es hz', e_sFor, e_mRange1, e_dRange1, hok, hl, hT, e_end1, Bool.false_eq_true, if_false]
end K69

set_option Elab.async false
set_option linter.all false
set_option maxRecDepth 100000
set_option maxHeartbeats 1000000
namespace K69
open PySem L2 T TL
/-! ### refusals -/
def rfT : T.Env → SO := sSeq (sAsg 2 (mLst (mCons (mXis erb ers eru 1 (.o "NoteError")) (mCons (mXis erb ers eru 1 (.o "BadLanes")) (mCons (mXis erb ers eru 1 (.o "BadLetter")) (mNil)))))) (sSeq (sIf (mOr (mNot (mTest (mXis erb ers eru 1 (.b "ValueError")))) (mTest (mBin dNe (mL1 dCount (mVar 2) (mC (.bl true))) (mC (.int 1))))) (sRet (mC .non)) (sNext)) (sSeq (sIf (mAnd (mTest (mBin dIx (mVar 2) (mC (.int 0)))) (mTest (mApp m__law_whole (mCons (mXf ers erf 1 "line") (mNil))))) (sRet (mLst (mCons (mC (.str "note")) (mCons (mXf ers erf 1 "line") (mNil))))) (sNext)) (sSeq (sIf (mAnd (mTest (mBin dIx (mVar 2) (mC (.int 1)))) (mTest (mApp m__law_whole (mCons (mXf ers erf 1 "number") (mNil))))) (sRet (mLst (mCons (mC (.str "lanes")) (mCons (mXf ers erf 1 "number") (mNil))))) (sNext)) (sSeq (sIf (mAnd (mTest (mBin dIx (mVar 2) (mC (.int 2)))) (mAnd (mTest (mApp m__law_whole (mCons (mXf ers erf 1 "place") (mNil)))) (mAnd (mTest (mUn (dIsi cl [.b "tuple"]) (mXf ers erf 1 "letter"))) (mTest (mBin dEq (mCall dLen (mCons (mXf ers erf 1 "letter") (mNil))) (mC (.int 2))))))) (sSeq (sIf (mTest (mApp m__law_whole (mCons (mBin dIx (mXf ers erf 1 "letter") (mC (.int 1))) (mNil)))) (sRet (mLst (mCons (mC (.str "letter")) (mCons (mXf ers erf 1 "place") (mCons (mXf ers erf 1 "letter") (mNil)))))) (sNext)) (sNext)) (sNext)) (sNext)))))
theorem cnt3 (a b c : Bool) : dCount (.lst [.bl a, .bl b, .bl c]) [.bl true] = .ok (.int (((if a then 1 else 0) + (if b then 1 else 0) + (if c then 1 else 0) : Nat) : Int)) := by
  cases a <;> cases b <;> cases c <;> rfl
theorem xisE (t : D) (c : Str) (fs : List (Str × D)) (o : Option D) (u : Ty) (hc : c ∈ ers) (hu : u ∈ eru) : mXis erb ers eru 1 u [some t, some (.exc c fs), o] = .ok (.bl (xis erb c u)) := by
  rw [e_mXis]
  simp only [List.getElem?_cons_succ, List.getElem?_cons_zero]
  rw [if_pos ⟨hc, hu⟩]
theorem xfE (t : D) (c : Str) (fs : List (Str × D)) (o : Option D) (n : Str) (z : D) (hc : c ∈ ers) (hu : n ∈ erf) (hl : fs.lookup n = some z) : mXf ers erf 1 n [some t, some (.exc c fs), o] = .ok z := by
  rw [e_mXf]
  simp only [List.getElem?_cons_succ, List.getElem?_cons_zero]
  rw [if_pos ⟨hc, hu⟩, hl]
theorem m1 : ("NoteError" : Str) ∈ ers := by decide +kernel
theorem m2 : ("BadLanes" : Str) ∈ ers := by decide +kernel
theorem m3 : ("BadLetter" : Str) ∈ ers := by decide +kernel
theorem u1 : Ty.o "NoteError" ∈ eru := by decide +kernel
theorem u2 : Ty.o "BadLanes" ∈ eru := by decide +kernel
theorem u3 : Ty.o "BadLetter" ∈ eru := by decide +kernel
theorem u4 : Ty.b "ValueError" ∈ eru := by decide +kernel
theorem x11 : xis erb "NoteError" (.o "NoteError") = true := by decide +kernel
theorem x12 : xis erb "NoteError" (.o "BadLanes") = false := by decide +kernel
theorem x13 : xis erb "NoteError" (.o "BadLetter") = false := by decide +kernel
theorem x21 : xis erb "BadLanes" (.o "NoteError") = false := by decide +kernel
theorem x22 : xis erb "BadLanes" (.o "BadLanes") = true := by decide +kernel
theorem x23 : xis erb "BadLanes" (.o "BadLetter") = false := by decide +kernel
theorem x31 : xis erb "BadLetter" (.o "NoteError") = false := by decide +kernel
theorem x32 : xis erb "BadLetter" (.o "BadLanes") = false := by decide +kernel
theorem x33 : xis erb "BadLetter" (.o "BadLetter") = true := by decide +kernel
theorem x4 (c : Str) : xis erb c (.b "ValueError") = true := rfl
theorem f1 : ("line" : Str) ∈ erf := by decide +kernel
theorem f2 : ("number" : Str) ∈ erf := by decide +kernel
theorem f3 : ("place" : Str) ∈ erf := by decide +kernel
theorem f4 : ("letter" : Str) ∈ erf := by decide +kernel
theorem lk1 (n : Str) (z : D) : ([(n, z)] : List (Str × D)).lookup n = some z := by rw [List.lookup_cons, beq_self_eq_true]
theorem lkP (a b : D) : List.lookup ("place" : Str) ([("letter", a), ("place", b)] : List (Str × D)) = some b := by
  have h1 : (("place" : Str) == ("letter" : Str)) = false := by decide +kernel
  rw [List.lookup_cons, h1]
  exact lk1 _ _
theorem lkL (a b : D) : List.lookup ("letter" : Str) ([("letter", a), ("place", b)] : List (Str × D)) = some a := by
  rw [List.lookup_cons, beq_self_eq_true]
theorem rfT1 (t : D) (n : Int) (o : Option D) : rfT [some t, some (.exc "NoteError" [("line", .int n)]), o] = .rt (.lst [.str "note", .int n]) := by
  have a1 := fun o => xisE t "NoteError" [("line", .int n)] o _ m1 u1
  have a2 := fun o => xisE t "NoteError" [("line", .int n)] o _ m1 u2
  have a3 := fun o => xisE t "NoteError" [("line", .int n)] o _ m1 u3
  have a4 := fun o => xisE t "NoteError" [("line", .int n)] o _ m1 u4
  have b1 := fun o => xfE t "NoteError" [("line", .int n)] o _ _ m1 f1 (lk1 _ _)
  unfold rfT
  simp only [e_sSeq, e_sAsg, e_mLst, e_mCons, e_mNil, a1, a2, a3, a4, x11, x12, x13, x4, bind_ok, e_mkL3, List.set_cons_succ, List.set_cons_zero, e_sIf, e_mOr, e_mNot, e_mTest, e_asB, Bool.not_true, e_mBin, e_mL1, e_mVar, e_mC, List.getElem?_cons_succ, List.getElem?_cons_zero, e_isLst, if_true, cnt3, e_noX, e_neI, Bool.false_eq_true, if_false, e_sRet, e_sNext, e_mAnd, e_ixL, atI_0, e_mApp, b1, whole_int, e_mkL2, show decide ((((1 + 0 + 0 : Nat) : Nat) : Int) = 1) = true from rfl]
theorem rfT2 (t : D) (n : Int) (o : Option D) : rfT [some t, some (.exc "BadLanes" [("number", .int n)]), o] = .rt (.lst [.str "lanes", .int n]) := by
  have a1 := fun o => xisE t "BadLanes" [("number", .int n)] o _ m2 u1
  have a2 := fun o => xisE t "BadLanes" [("number", .int n)] o _ m2 u2
  have a3 := fun o => xisE t "BadLanes" [("number", .int n)] o _ m2 u3
  have a4 := fun o => xisE t "BadLanes" [("number", .int n)] o _ m2 u4
  have b1 := fun o => xfE t "BadLanes" [("number", .int n)] o _ _ m2 f2 (lk1 _ _)
  unfold rfT
  simp only [e_sSeq, e_sAsg, e_mLst, e_mCons, e_mNil, a1, a2, a3, a4, x21, x22, x23, x4, bind_ok, e_mkL3, List.set_cons_succ, List.set_cons_zero, e_sIf, e_mOr, e_mNot, e_mTest, e_asB, Bool.not_true, e_mBin, e_mL1, e_mVar, e_mC, List.getElem?_cons_succ, List.getElem?_cons_zero, e_isLst, if_true, cnt3, e_noX, e_neI, Bool.false_eq_true, if_false, e_sRet, e_sNext, e_mAnd, e_ixL, atI_0, atI_1, e_mApp, b1, whole_int, e_mkL2, show decide ((((0 + 1 + 0 : Nat) : Nat) : Int) = 1) = true from rfl]
theorem rfT3 (t : D) (q : Int) (e : Str × Int) (o : Option D) : rfT [some t, some (.exc "BadLetter" [("letter", entD e), ("place", .int q)]), o] = .rt (.lst [.str "letter", .int q, entD e]) := by
  have a1 := fun o => xisE t "BadLetter" [("letter", entD e), ("place", .int q)] o _ m3 u1
  have a2 := fun o => xisE t "BadLetter" [("letter", entD e), ("place", .int q)] o _ m3 u2
  have a3 := fun o => xisE t "BadLetter" [("letter", entD e), ("place", .int q)] o _ m3 u3
  have a4 := fun o => xisE t "BadLetter" [("letter", entD e), ("place", .int q)] o _ m3 u4
  have b1 := fun o => xfE t "BadLetter" [("letter", entD e), ("place", .int q)] o _ _ m3 f3 (lkP _ _)
  have b2 := fun o => xfE t "BadLetter" [("letter", entD e), ("place", .int q)] o _ _ m3 f4 (lkL _ _)
  unfold entD at *
  unfold rfT
  simp only [e_sSeq, e_sAsg, e_mLst, e_mCons, e_mNil, a1, a2, a3, a4, x31, x32, x33, x4, bind_ok, e_mkL3, List.set_cons_succ, List.set_cons_zero, e_sIf, e_mOr, e_mNot, e_mTest, e_asB, Bool.not_true, e_mBin, e_mL1, e_mVar, e_mC, List.getElem?_cons_succ, List.getElem?_cons_zero, e_isLst, if_true, cnt3, e_noX, e_neI, Bool.false_eq_true, if_false, e_sRet, e_sNext, e_mAnd, e_ixL, e_ixT, atI_0, atI_1, atI_2, e_mApp, b1, b2, whole_int, e_mkL2, show decide ((((0 + 0 + 1 : Nat) : Nat) : Int) = 1) = true from rfl, e_mUn, isi_tup, e_mCall, len2, e_eqI, decide_true]
theorem refusal_eq (t : D) (c : Str) (fs : List (Str × D)) (z : D) (hc : c ∈ ers) (hp : m_parse_row [t] = .exc c fs) (hz : ∀ o, rfT [some t, some (.exc c fs), o] = .rt z) : m__law_refusal [t] = .ok z := by
  have eg : g__law_refusal = sSeq (sTry ers 1 (sSeq (sDrop (mApp m_parse_row (mCons (mVar 0) (mNil)))) (sNext)) rfT) (sRet (mC .non)) := rfl
  unfold m__law_refusal
  rw [eg]
  simp only [e_def, e_start, List.length_cons, List.length_nil, if_true, List.map_cons, List.map_nil, List.cons_append, List.nil_append, List.replicate, e_sSeq, e_sTry, e_sDrop, e_mApp, e_mCons, e_mNil, e_mVar, List.getElem?_cons_zero, bind_ok, hp, if_pos hc, List.set_cons_succ, List.set_cons_zero, hz, e_unset_rt, e_end1]
/-! ### what the law reads -/
theorem pds_ent : ∀ es : List (Str × Int), D.pds (es.map entD) = some (es.map fun e => PyData.tuple [.str e.1, .int e.2])
  | [] => rfl
  | e :: es => by
    rw [List.map_cons, D.pds, pds_ent es]
    rfl
theorem goV_mem : ∀ (es : List (Str × Int)) (L : Int) (p q : Nat) (e : Str × Int), goV L p es = some (q, e) → e ∈ es
  | [], L, p, q, e, h => by cases h
  | a :: es, L, p, q, e, h => by
    unfold goV at h
    by_cases hf : fitsV a.1 a.2 L = true
    · rw [if_pos hf] at h
      exact List.mem_cons_of_mem _ (goV_mem es _ _ _ _ h)
    · rw [if_neg hf] at h
      cases h
      exact List.mem_cons_self
theorem ok3 {w : Str} (h : w ∈ words3) : PyData.strOk w = true := by
  rcases mem3 h with e | e | e <;> subst e <;> decide +kernel
theorem eqD {d : D} {p : PyData} (he : eqB d d = eqData d d) (h1 : d.pd = some p) (hs : SeqAt.shaped p = true) (hq : PyData.eqv p p = true) : dEq d d = .ok (.bl true) := by
  unfold dEq
  rw [he]
  unfold eqData
  rw [h1]
  dsimp only
  rw [if_pos ⟨hs, hs⟩, hq]
  rfl
theorem eq_note (n : Int) (w : Str) (hw : PyData.strOk w = true) : dEq (.lst [.str w, .int n]) (.lst [.str w, .int n]) = .ok (.bl true) :=
  eqD (p := .list [.str w, .int n]) (by unfold eqB; rfl) rfl (by simp [SeqAt.shaped, PyData.canLay0, PyData.canLayAll0, hw, PyData.depth, PyData.depthAll]) (by simp [PyData.eqv, PyData.eqvAll])
theorem eq_letter (n : Int) (w : Str) (e : Str × Int) (hw : PyData.strOk w = true) (he : PyData.strOk e.1 = true) : dEq (.lst [.str w, .int n, entD e]) (.lst [.str w, .int n, entD e]) = .ok (.bl true) :=
  eqD (p := .list [.str w, .int n, .tuple [.str e.1, .int e.2]]) (by unfold eqB; rfl) rfl (by simp [SeqAt.shaped, PyData.canLay0, PyData.canLayAll0, hw, he, PyData.depth, PyData.depthAll]) (by simp [PyData.eqv, PyData.eqvAll])
theorem nr1 : ¬ ("note" : Str) = "row" := by decide +kernel
theorem nr2 : ¬ ("lanes" : Str) = "row" := by decide +kernel
theorem nr3 : ¬ ("letter" : Str) = "row" := by decide +kernel
theorem reads_no (t : D) (w : Str) (xs : List D) (hw : ¬ w = "row") (ho : m__law_outcome [t] = .ok (.lst (.str w :: xs))) (hr : m__law_refusal [t] = .ok (.lst (.str w :: xs))) (he : dEq (.lst (.str w :: xs)) (.lst (.str w :: xs)) = .ok (.bl true)) : m__law_reads [t] = .ok (.bl true) := by
  unfold m__law_reads g__law_reads
  simp only [e_def, e_start, List.length_cons, List.length_nil, if_true, List.map_cons, List.map_nil, List.cons_append, List.nil_append, List.replicate, e_sSeq, e_sAsg, e_mApp, e_mCons, e_mNil, e_mVar, List.getElem?_cons_zero, bind_ok, ho, List.set_cons_succ, List.set_cons_zero, e_sIf, e_mTest, e_mBin, List.getElem?_cons_succ, e_mC, e_ixL, atI_0, e_eqS, decide_eq_false hw, e_asB, e_sNext, e_sRet, hr, he, e_end1]
theorem reads_yes (t : D) (top : Int) (es : List (Str × Int)) (hw : ∀ e ∈ es, e.1 ∈ words3) (hz : es.length ≤ 100000) (ho : m__law_outcome [t] = .ok (.lst [.str "row", .int top, .lst (es.map entD)])) (hp : m_parse_row [t] = .ok (rowD top es)) : m__law_reads [t] = .ok (.bl true) := by
  have hr := is_row_eq top es hw hz
  unfold m__law_reads g__law_reads
  simp only [e_def, e_start, List.length_cons, List.length_nil, if_true, List.map_cons, List.map_nil, List.cons_append, List.nil_append, List.replicate, e_sSeq, e_sAsg, e_mApp, e_mCons, e_mNil, e_mVar, List.getElem?_cons_zero, bind_ok, ho, List.set_cons_succ, List.set_cons_zero, e_sIf, e_mTest, e_mBin, List.getElem?_cons_succ, e_mC, e_ixL, atI_0, atI_1, atI_2, e_eqS, decide_true, e_asB, e_sNext, e_sRet, hp, hr, e_end1]
theorem reads_eq (t : Str) (h : Short t) : m__law_reads [.str t] = .ok (.bl true) := by
  have ho := outcome_eq t h
  have hp := parse_row_eq t h
  unfold outcomeV at ho
  unfold parseV at hp
  have hlen := split_nl_len t
  have h1 := h.1
  cases e : scanV 0 (Txt.split t "\n") with
  | error n =>
    rw [e] at ho hp
    exact reads_no _ _ _ nr1 ho (refusal_eq _ _ _ _ m1 hp fun o => rfT1 _ _ _) (eq_note _ _ (by decide +kernel))
  | ok es =>
    rw [e] at ho hp
    cases es with
    | nil =>
      have hle := scan_len e
      rw [List.length_nil] at hle
      exact absurd (List.length_eq_zero_iff.mp hle.symm) (split_nl_ne t)
    | cons f r =>
      obtain ⟨w, n⟩ := f
      have hle := scan_len e
      rw [List.length_cons] at hle
      have hw : ∀ e ∈ r, e.1 ∈ words3 := by
        cases es : Txt.split t "\n" with
        | nil => rw [es] at e; cases e
        | cons l ls =>
          rw [es] at e
          obtain ⟨f, r', er, hr⟩ := scan_cons e
          cases er
          exact scan_words hr
      dsimp only at ho hp
      unfold makeV at hp
      by_cases hn : n < 0
      · rw [if_pos hn] at ho
        rw [if_neg (by omega)] at hp
        exact reads_no _ _ _ nr2 ho (refusal_eq _ _ _ _ m2 hp fun o => rfT2 _ _ _) (eq_note _ _ (by decide +kernel))
      · rw [if_neg hn] at ho
        rw [if_pos (by omega)] at hp
        cases eg : goV n 0 r with
        | none =>
          rw [eg] at ho hp
          exact reads_yes _ n r hw (by omega) ho hp
        | some qe =>
          obtain ⟨q, e'⟩ := qe
          rw [eg] at ho hp
          exact reads_no _ _ _ nr3 ho (refusal_eq _ _ _ _ m3 hp fun o => rfT3 _ _ _ _) (eq_letter _ _ _ (by decide +kernel) (ok3 (hw _ (goV_mem _ _ _ _ _ eg))))
end K69

set_option Elab.async false
set_option linter.all false
set_option maxRecDepth 100000
set_option maxHeartbeats 1000000
namespace K69
open PySem L2 T TL
/-! ### the written form -/
def strI (i : Int) : Str := toString i
theorem tl_strI (n : Nat) : tl (strI (n : Int)) = numL n := tl_num n
def lineS (e : Str × Int) : Str := e.1 ++ " " ++ strI e.2
theorem numL_head {n : Nat} (h : 1 ≤ n) : (numL n).head? ≠ some 48 := by
  induction n using Nat.strongRecOn with
  | _ n ih =>
    by_cases h10 : n < 10
    · rw [numL_lt h10]
      intro z
      simp at z
      omega
    · rw [numL_step (by omega)]
      have := ih (n / 10) (by omega) (by omega)
      cases e : numL (n / 10) with
      | nil => exact absurd e (numL_ne _)
      | cons a r => rw [e] at this; exact this
theorem numV_strI (n : Nat) : numV (strI (n : Int)) = some (n : Int) := by
  have hd : ∀ c ∈ numL n, 48 ≤ c ∧ c ≤ 57 := numL_digits n
  have hne := numL_ne n
  have h45 : (numL n).head? ≠ some 45 := by
    cases e : numL n with
    | nil => exact absurd e hne
    | cons a r =>
      intro z
      have z' : a = 45 := by simpa using z
      have := hd a (by rw [e]; exact List.mem_cons_self)
      omega
  have hb : bodyL (strI (n : Int)) = numL n := by
    unfold bodyL
    rw [tl_strI, if_neg h45]
  unfold numV
  rw [hb, tl_strI, if_neg h45, if_pos, numL_val]
  refine ⟨hne, ?_, ?_⟩
  · rw [List.all_eq_true]
    intro c hc
    have := hd c hc
    unfold isDig
    simp only [Bool.and_eq_true, decide_eq_true_eq]
    exact this
  · intro ⟨h1, h2⟩
    by_cases hn : 1 ≤ n
    · exact numL_head hn h1
    · have : n = 0 := by omega
      subst this
      exact h2 (by decide)
theorem tl_line (w : Str) (n : Nat) : tl (lineS (w, (n : Int))) = tl w ++ 32 :: numL n := by
  unfold lineS
  rw [tl_append, tl_append, tl_strI, sp_tl, List.append_assoc]
  rfl
theorem split_line (w : Str) (n : Nat) (h : 32 ∉ tl w) : Txt.split (lineS (w, (n : Int))) " " = [w, strI (n : Int)] := by
  have e : lineS (w, (n : Int)) = Str.join " " [w, strI (n : Int)] := by
    apply ext_tl
    rw [tl_line, tl_join, sp_tl, List.map_cons, List.map_cons, List.map_nil, tl_strI]
    rfl
  rw [e, ← join_eq]
  refine split_join sp_tl sp_small (by simp) ?_
  intro p hp
  rcases List.mem_cons.mp hp with rfl | hp
  · exact h
  · rw [List.mem_singleton] at hp
    rw [hp, tl_strI]
    exact numL_free (by omega)
theorem line_back (ws : List Str) (w : Str) (n : Nat) (hw : w ∈ ws) (h : 32 ∉ tl w) : lineV ws (lineS (w, (n : Int))) = some (w, (n : Int)) := by
  unfold lineV
  rw [split_line w n h]
  dsimp only
  rw [if_pos hw, numV_strI]
  rfl
end K69

set_option Elab.async false
set_option linter.all false
set_option maxRecDepth 100000
set_option maxHeartbeats 1000000
namespace K69
open PySem L2 T TL
/-- a line: short, no line break, plain signs -/
def Ln (n : Nat) (l : Str) : Prop := l.length ≤ n ∧ ∀ c ∈ tl l, c ≠ 10 ∧ c < 128
theorem Ln.lit {n : Nat} {l : Str} (h : (decide (l.length ≤ n) && (tl l).all fun c => decide (c ≠ 10) && decide (c < 128)) = true) : Ln n l := by
  rw [Bool.and_eq_true, List.all_eq_true] at h
  refine ⟨of_decide_eq_true h.1, fun c hc => ?_⟩
  have := h.2 c hc
  rw [Bool.and_eq_true] at this
  exact ⟨of_decide_eq_true this.1, of_decide_eq_true this.2⟩
theorem Ln.mono {n m : Nat} {l : Str} (h : Ln n l) (hn : n ≤ m) : Ln m l := ⟨Nat.le_trans h.1 hn, h.2⟩
theorem app_len (a b : Str) : (a ++ b).length = a.length + b.length := by rw [len_tl, tl_append, List.length_append, ← len_tl, ← len_tl]
theorem Ln.app {n m : Nat} {a b : Str} (h : Ln n a) (h2 : Ln m b) : Ln (n + m) (a ++ b) := by
  refine ⟨by rw [app_len]; exact Nat.add_le_add h.1 h2.1, fun c hc => ?_⟩
  rw [tl_append, List.mem_append] at hc
  exact hc.elim (h.2 c) (h2.2 c)
theorem Ln.num {k : Nat} {i : Int} (hk : 0 < k) (h0 : 0 ≤ i) (h : i < 10 ^ k) : Ln k (strI i) := by
  obtain ⟨n, rfl⟩ : ∃ n : Nat, i = n := ⟨i.toNat, by omega⟩
  have hn : n < 10 ^ k := by
    have : ((10 ^ k : Nat) : Int) = (10 : Int) ^ k := by rw [Int.natCast_pow]; rfl
    omega
  refine ⟨by rw [len_tl, tl_strI]; exact numL_len hk hn, fun c hc => ?_⟩
  rw [tl_strI] at hc
  have := numL_digits n c hc
  omega
theorem Ln.sub {n : Nat} {l l' : Str} (h : Ln n l) (hs : (tl l').Sublist (tl l)) : Ln n l' := by
  refine ⟨?_, fun c hc => h.2 c (hs.subset hc)⟩
  rw [len_tl]
  refine Nat.le_trans hs.length_le ?_
  rw [← len_tl]
  exact h.1
/-- a letter as the notes have it -/
def Ent (e : Str × Int) : Prop := e.1 ∈ words3 ∧ 0 ≤ e.2 ∧ e.2 < 10 ^ 9
theorem ln_line {w : Str} {i : Int} (hw : Ln 5 w) (h0 : 0 ≤ i) (h : i < 10 ^ 9) : Ln 15 (lineS (w, i)) :=
  (hw.app (.lit (n := 1) (by decide +kernel))).app (.num (k := 9) (by decide) h0 h)
theorem ln_w3 {w : Str} (h : w ∈ words3) : Ln 5 w := by
  rcases mem3 h with e | e | e <;> subst e <;> exact .lit (by decide +kernel)
theorem ln_row : Ln 5 "row" := .lit (by decide +kernel)
theorem sp_w3 {w : Str} (h : w ∈ words3) : 32 ∉ tl w := by
  rcases mem3 h with e | e | e <;> subst e <;> decide +kernel
theorem sp_row : 32 ∉ tl ("row" : Str) := by decide +kernel
def noteLs (top : Int) (es : List (Str × Int)) : List Str := lineS ("row", top) :: es.map lineS
def noteT (top : Int) (es : List (Str × Int)) : Str := Txt.join "\n" (noteLs top es)
theorem noteLs_ln {top : Int} {es : List (Str × Int)} (h0 : 0 ≤ top) (h : top < 10 ^ 9) (he : ∀ e ∈ es, Ent e) : ∀ l ∈ noteLs top es, Ln 15 l := by
  intro l hl
  rcases List.mem_cons.mp hl with rfl | hl
  · exact ln_line ln_row h0 h
  · obtain ⟨e, hm, rfl⟩ := List.mem_map.mp hl
    obtain ⟨a, b, c⟩ := he e hm
    exact ln_line (ln_w3 a) b c
/-- a text of lines -/
def Nt (n m : Nat) (t : Str) : Prop := ∃ ls : List Str, ls ≠ [] ∧ ls.length ≤ m ∧ (∀ l ∈ ls, Ln n l) ∧ t = Txt.join "\n" ls
theorem split_lines {n : Nat} {ls : List Str} (h : ls ≠ []) (hl : ∀ l ∈ ls, Ln n l) : Txt.split (Txt.join "\n" ls) "\n" = ls :=
  split_join nl_tl nl_small h fun p hp hm => ((hl p hp).2 10 hm).1 rfl
theorem joinL_le (n : Nat) : ∀ ps : List (List Nat), (∀ p ∈ ps, p.length ≤ n) → (joinL [10] ps).length ≤ ps.length * (n + 1)
  | [], _ => Nat.zero_le _
  | [p], h => by
    have := h p List.mem_cons_self
    show p.length ≤ 1 * (n + 1)
    omega
  | p :: q :: r, h => by
    have h1 := h p List.mem_cons_self
    have h2 := joinL_le n (q :: r) fun z hz => h z (List.mem_cons_of_mem _ hz)
    show (p ++ ([10] ++ joinL [10] (q :: r))).length ≤ _
    rw [List.length_append, List.length_append, List.length_cons (a := p), Nat.add_mul]
    have : ([10] : List Nat).length = 1 := rfl
    omega
theorem join_len {n : Nat} {ls : List Str} (hl : ∀ l ∈ ls, Ln n l) : (Txt.join "\n" ls).length ≤ ls.length * (n + 1) := by
  rw [len_tl, join_eq, tl_join, nl_tl]
  have := joinL_le n (ls.map tl) (by
    intro p hp
    obtain ⟨l, hm, rfl⟩ := List.mem_map.mp hp
    rw [← len_tl]
    exact (hl l hm).1)
  rw [List.length_map] at this
  exact this
theorem lines_short {n m : Nat} {ls : List Str} (h : ls ≠ []) (hm : ls.length ≤ m) (hl : ∀ l ∈ ls, Ln n l) (hn : n ≤ 640) (hb : m * (n + 1) + 2 ≤ 100000) : Short (Txt.join "\n" ls) := by
  have h1 := join_len hl
  have h2 : ls.length * (n + 1) ≤ m * (n + 1) := Nat.mul_le_mul_right _ hm
  refine ⟨by omega, fun l hm => ?_⟩
  rw [split_lines h hl] at hm
  exact Nat.le_trans (hl l hm).1 hn
theorem Nt.short {n m : Nat} {t : Str} (h : Nt n m t) (hn : n ≤ 640) (hb : m * (n + 1) + 2 ≤ 100000) : Short t := by
  obtain ⟨ls, h1, h2, h3, rfl⟩ := h
  exact lines_short h1 h2 h3 hn hb
/-! ### reading a written row back -/
theorem scan_back : ∀ (es : List (Str × Int)) (k : Nat), (∀ e ∈ es, Ent e) → scanV (k + 1) (es.map lineS) = .ok es
  | [], _, _ => rfl
  | e :: es, k, h => by
    obtain ⟨w, i⟩ := e
    obtain ⟨a, b, c⟩ := h _ List.mem_cons_self
    obtain ⟨n, rfl⟩ : ∃ n : Nat, i = n := ⟨i.toNat, by omega⟩
    rw [List.map_cons]
    unfold scanV
    have hf : firstW (k + 1) = words3 := rfl
    rw [hf, line_back words3 w n a (sp_w3 a)]
    dsimp only
    rw [scan_back es (k + 1) fun z hz => h z (List.mem_cons_of_mem _ hz)]
theorem scan_note {top : Int} {es : List (Str × Int)} (h0 : 0 ≤ top) (he : ∀ e ∈ es, Ent e) : scanV 0 (noteLs top es) = .ok (("row", top) :: es) := by
  obtain ⟨n, rfl⟩ : ∃ n : Nat, top = n := ⟨top.toNat, by omega⟩
  unfold noteLs scanV
  have hf : firstW 0 = [("row" : Str)] := rfl
  rw [hf, line_back [("row" : Str)] "row" n (List.mem_singleton.mpr rfl) sp_row]
  dsimp only
  rw [scan_back es 0 he]
end K69

set_option Elab.async false
set_option linter.all false
set_option maxRecDepth 100000
set_option maxHeartbeats 1000000
namespace K69
open PySem L2 T TL
theorem strI_len {i : Int} (h0 : 0 ≤ i) (h : i < 10 ^ 9) : (strI i).length ≤ 9 := (Ln.num (k := 9) (by decide) h0 h).1
theorem log_small {i : Int} (h0 : 0 ≤ i) (h : i < 10 ^ 18) : i.natAbs.log2 < 1920 := by
  have h1 : i.natAbs < 2 ^ 64 := by omega
  by_cases hz : i.natAbs = 0
  · rw [hz]; decide
  · have := (Nat.log2_lt hz).mpr h1
    omega
theorem strD {i : Int} (h0 : 0 ≤ i) (h : i < 10 ^ 18) : dStr [.int i] = .ok (.str (strI i)) := by
  rw [e_strI, if_pos (log_small h0 h)]
  rfl
theorem fmtD {i : Int} (h0 : 0 ≤ i) (h : i < 10 ^ 18) : dFmt (.int i) = .ok (.str (strI i)) := by
  rw [e_fmtI, if_pos (log_small h0 h)]
  rfl
theorem compD_mem {tg : Tg} {e : T.Env → O D} {ρ : T.Env} {α : Type} {fd fz : α → D} : ∀ (xs : List α) (acc : List D), (∀ x ∈ xs, ∃ ρ1, tg.put (fd x) ρ = some ρ1 ∧ e ρ1 = .ok (fz x)) → acc.length + xs.length ≤ sizeLine → compD tg mYes e ρ (xs.map fd) acc = .ok (acc ++ xs.map fz)
  | [], acc, _, _ => by rw [List.map_nil, compD_nil, List.map_nil, List.append_nil]
  | x :: xs, acc, h, hl => by
    obtain ⟨ρ1, h1, h2⟩ := h x List.mem_cons_self
    rw [List.map_cons, compD_cons, h1]
    dsimp only
    rw [e_mYes, h2]
    dsimp only
    rw [List.length_cons] at hl
    rw [if_pos (by omega), compD_mem xs _ (fun z hz => h z (List.mem_cons_of_mem _ hz)) (by rw [List.length_append, List.length_singleton]; omega), List.map_cons, List.append_assoc]
    rfl
theorem w3_len {w : Str} (h : w ∈ words3) : w.length ≤ 5 := (ln_w3 h).1
theorem le16 {n : Nat} (h : n ≤ 100000) : n ≤ sizeLine := big h
theorem sp_len : (" " : Str).length = 1 := by decide +kernel
theorem row_len4 : ("row " : Str).length = 4 := by decide +kernel
theorem nl_len : ("\n" : Str).length = 1 := by decide +kernel
theorem row_line (top : Int) : ("row " : Str) ++ strI top = lineS ("row", top) := by
  apply ext_tl
  unfold lineS
  rw [tl_append, tl_append, tl_append]
  have : tl ("row " : Str) = tl ("row" : Str) ++ tl (" " : Str) := by decide +kernel
  rw [this]
/-- what joining lines asks for -/
theorem sum_le (n : Nat) : ∀ ls : List Str, (∀ l ∈ ls, l.length ≤ n) → (ls.map (·.length)).sum ≤ ls.length * n
  | [], _ => Nat.zero_le _
  | l :: ls, h => by
    have h1 := h l List.mem_cons_self
    have h2 := sum_le n ls fun z hz => h z (List.mem_cons_of_mem _ hz)
    rw [List.map_cons, List.sum_cons, List.length_cons, Nat.add_mul]
    omega
theorem joinD {n m : Nat} {ls : List Str} (hm : ls.length ≤ m) (hl : ∀ l ∈ ls, l.length ≤ n) (hb : m * (n + 1) ≤ 100000) : dJoin (.str "\n") [.lst (ls.map .str)] = .ok (.str (Txt.join "\n" ls)) := by
  have h1 := sum_le n ls hl
  have h2 : ls.length * (n + 1) ≤ m * (n + 1) := Nat.mul_le_mul_right _ hm
  rw [Nat.mul_add] at h2
  rw [e_joinL, e_joinS, nl_len, if_pos (by omega)]
/-! ### the law's note -/
def lnE : T.Env → O D := mBin dAdd (mBin dAdd (mBin dIx (mVar 2) (mC (.int 0))) (mC (.str " "))) (mCall dStr (mCons (mBin dIx (mVar 2) (mC (.int 1))) (mNil)))
theorem lnE_run (t l : Option D) (e : Str × Int) (he : Ent e) : lnE [t, l, some (entD e)] = .ok (.str (lineS e)) := by
  obtain ⟨a, b, c⟩ := he
  have h1 := w3_len a
  have h2 := strI_len b c
  have h3 := strD (i := e.2) b (by omega)
  have p1 : e.1.length + (" " : Str).length ≤ sizeLine := by rw [sp_len]; exact le16 (by omega)
  have p2 : (e.1 ++ " ").length + (strI e.2).length ≤ sizeLine := by rw [app_len, sp_len]; exact le16 (by omega)
  unfold lnE
  simp only [e_mBin, e_mVar, List.getElem?_cons_succ, List.getElem?_cons_zero, e_mC, bind_ok, entD, e_ixT, atI_0, atI_1, e_addS, if_pos p1, e_mCall, e_mCons, e_mNil, h3, e_noX, if_pos p2]
  rfl
theorem law_note_eq {top : Int} {es : List (Str × Int)} (h0 : 0 ≤ top) (h : top < 10 ^ 9) (he : ∀ e ∈ es, Ent e) (hz : es.length ≤ 1000) : m__law_note [.int top, .lst (es.map entD)] = .ok (.str (noteT top es)) := by
  have eg : g__law_note = sRet (mM1 dJoin (mC (.str "\n")) (mBin dAdd (mLst (mCons (mBin dAdd (mC (.str "row ")) (mCall dStr (mCons (mVar 0) (mNil)))) (mNil))) (mComp (mSeq (mVar 1)) [2] (.nm 2) (mYes) lnE))) := rfl
  have h2 := strI_len h0 h
  have h3 := strD (i := top) h0 (by omega)
  have p1 : ("row " : Str).length + (strI top).length ≤ sizeLine := by rw [row_len4]; exact le16 (by omega)
  have hc := compD_mem (tg := .nm 2) (e := lnE) (ρ := [some (.int top), some (.lst (es.map entD)), none]) (fd := entD) (fz := fun e => .str (lineS e)) es [] (fun x hx => ⟨[some (.int top), some (.lst (es.map entD)), some (entD x)], rfl, lnE_run _ _ x (he x hx)⟩) (by rw [List.length_nil, Nat.zero_add]; exact le16 (by omega))
  have hj := joinD (n := 15) (m := 1001) (ls := noteLs top es) (by unfold noteLs; rw [List.length_cons, List.length_map]; omega) (fun l hl => (noteLs_ln h0 h he l hl).1) (by omega)
  have hl : (noteLs top es).map D.str = [.str (("row " : Str) ++ strI top)] ++ es.map fun e => .str (lineS e) := by
    unfold noteLs
    rw [List.map_cons, List.map_map, row_line]
    rfl
  rw [hl] at hj
  have p2 : 0 + 1 + (es.map fun e => D.str (lineS e)).length ≤ sizeLine := by rw [List.length_map]; exact le16 (by omega)
  rw [List.nil_append] at hc
  unfold m__law_note
  rw [eg]
  simp only [e_def, e_start, List.length_cons, List.length_nil, if_true, List.map_cons, List.map_nil, List.cons_append, List.nil_append, List.replicate, e_sRet, e_mM1, e_mC, bind_ok, e_isStr, e_mBin, e_mLst, e_mCons, e_mCall, e_mVar, List.getElem?_cons_zero, e_mNil, h3, e_noX, e_addS, if_pos p1, e_mkL1, e_mComp, e_mSeq, List.getElem?_cons_succ, e_dSeqL, e_wipe1, e_wipe0, List.set_cons_succ, List.set_cons_zero, hc, e_addL, if_pos p2]
  rw [List.cons_append, List.nil_append] at hj
  simp only [bind_ok, hj, e_noX, e_end1]
  rfl
/-! ### format_row -/
def frB : T.Env → SO := sSeq (sApp 1 (mFS [mUn dFmt (mVar 2), mC (.str " "), mUn dFmt (mVar 3)] Str.empty)) (sNext)
theorem empty_app (x : Str) : Str.empty ++ x = x := by
  apply ext_tl
  rw [tl_append]
  rfl
theorem frB_run (r : Option D) (ds : List D) (e : Str × Int) (he : Ent e) (hz : ds.length < sizeLine) :
    frB [r, some (.lst ds), some (.str e.1), some (.int e.2)] = .nx [r, some (.lst (ds ++ [.str (lineS e)])), some (.str e.1), some (.int e.2)] := by
  obtain ⟨a, b, c⟩ := he
  have h1 := w3_len a
  have h2 := strI_len b c
  have h3 := fmtD (i := e.2) b (by omega)
  have p0 : e.1.length ≤ sizeLine := le16 (by omega)
  have p1 : (e.1 ++ " ").length ≤ sizeLine := by rw [app_len, sp_len]; exact le16 (by omega)
  have p2 : (e.1 ++ " " ++ strI e.2).length ≤ sizeLine := by rw [app_len, app_len, sp_len]; exact le16 (by omega)
  unfold frB
  simp only [e_sSeq, e_sApp, List.getElem?_cons_succ, List.getElem?_cons_zero, e_mFS1, e_mFS0, e_mUn, e_mVar, e_mC, bind_ok, e_fmtS, e_asStr, h3, empty_app, if_pos p0, if_pos p1, if_pos p2, if_pos hz, List.set_cons_succ, List.set_cons_zero, e_sNext]
  rfl
theorem fr_loop (r : Option D) : ∀ (es : List (Str × Int)) (ds : List D) (o2 o3 : Option D), (∀ e ∈ es, Ent e) → ds.length + es.length ≤ sizeLine →
    ∃ p2 p3, forD (.tp [2, 3]) frB (es.map entD) [r, some (.lst ds), o2, o3] = .nx [r, some (.lst (ds ++ es.map fun e => .str (lineS e))), p2, p3]
  | [], ds, o2, o3, _, _ => ⟨o2, o3, by rw [List.map_nil, List.map_nil, List.append_nil]; rfl⟩
  | e :: es, ds, o2, o3, hw, hz => by
    rw [List.length_cons] at hz
    obtain ⟨p2, p3, h⟩ := fr_loop r es (ds ++ [.str (lineS e)]) (some (.str e.1)) (some (.int e.2)) (fun x hx => hw x (List.mem_cons_of_mem _ hx)) (by rw [List.length_append, List.length_singleton]; omega)
    refine ⟨p2, p3, ?_⟩
    rw [List.map_cons, forD_cons, entD]
    simp only [e_put2, List.set_cons_succ, List.set_cons_zero]
    rw [frB_run r ds e (hw e List.mem_cons_self) (by omega)]
    dsimp only
    rw [h, List.append_assoc]
    rfl
theorem format_row_eq {top : Int} {es : List (Str × Int)} (h0 : 0 ≤ top) (h : top < 10 ^ 9) (he : ∀ e ∈ es, Ent e) (hz : es.length ≤ 1000) : m_format_row [rowD top es] = .ok (.str (noteT top es)) := by
  have eg : g_format_row = sSeq (sAsg 1 (mLst (mCons (mFS [mC (.str "row "), mUn dFmt (mUn (dFld fc_top "top") (mVar 0))] Str.empty) (mNil)))) (sSeq (sFor (mSeq (mUn (dFld fc_letters "letters") (mVar 0))) (.tp [2, 3]) frB) (sRet (mM1 dJoin (mC (.str "\n")) (mVar 1)))) := rfl
  have h2 := strI_len h0 h
  have h3 := fmtD (i := top) h0 (by omega)
  have p0 : ("row " : Str).length ≤ sizeLine := by rw [row_len4]; decide
  have p1 : (("row " : Str) ++ strI top).length ≤ sizeLine := by rw [app_len, row_len4]; exact le16 (by omega)
  obtain ⟨p2, p3, hl⟩ := fr_loop (some (rowD top es)) es [.str (("row " : Str) ++ strI top)] none none he (by rw [List.length_singleton]; exact le16 (by omega))
  have hj := joinD (n := 15) (m := 1001) (ls := noteLs top es) (by unfold noteLs; rw [List.length_cons, List.length_map]; omega) (fun l hl => (noteLs_ln h0 h he l hl).1) (by omega)
  have hls : (noteLs top es).map D.str = [.str (("row " : Str) ++ strI top)] ++ es.map fun e => .str (lineS e) := by
    unfold noteLs
    rw [List.map_cons, List.map_map, row_line]
    rfl
  rw [hls] at hj
  unfold m_format_row
  rw [eg]
  simp only [e_def, e_start, List.length_cons, List.length_nil, if_true, List.map_cons, List.map_nil, List.cons_append, List.nil_append, List.replicate, e_sSeq, e_sAsg, e_mLst, e_mCons, e_mFS1, e_mFS0, e_mC, bind_ok, e_asStr, empty_app, if_pos p0, e_mUn, e_mVar, List.getElem?_cons_zero, fld_top, h3, if_pos p1, e_mNil, e_mkL1, List.set_cons_succ, List.set_cons_zero, e_sFor, e_mSeq, fld_letters, e_dSeqT]
  rw [hl]
  simp only [e_sRet, e_mM1, e_mC, bind_ok, e_isStr, if_true, e_mVar, List.getElem?_cons_succ, List.getElem?_cons_zero, hj, e_noX, e_end1]
  rfl
end K69

set_option Elab.async false
set_option linter.all false
set_option maxRecDepth 100000
set_option maxHeartbeats 1000000
namespace K69
open PySem L2 T TL
theorem note_ne (top : Int) (es : List (Str × Int)) : noteLs top es ≠ [] := by unfold noteLs; simp
theorem note_short {top : Int} {es : List (Str × Int)} (h0 : 0 ≤ top) (h : top < 10 ^ 9) (he : ∀ e ∈ es, Ent e) (hz : es.length ≤ 1000) : Short (noteT top es) :=
  lines_short (m := 1001) (note_ne _ _) (by unfold noteLs; rw [List.length_cons, List.length_map]; omega) (noteLs_ln h0 h he) (by omega) (by omega)
theorem split_note {top : Int} {es : List (Str × Int)} (h0 : 0 ≤ top) (h : top < 10 ^ 9) (he : ∀ e ∈ es, Ent e) : Txt.split (noteT top es) "\n" = noteLs top es :=
  split_lines (note_ne _ _) (noteLs_ln h0 h he)
theorem parse_note {top : Int} {es : List (Str × Int)} (h0 : 0 ≤ top) (h : top < 10 ^ 9) (he : ∀ e ∈ es, Ent e) (hz : es.length ≤ 1000) (hg : goV top 0 es = none) : m_parse_row [.str (noteT top es)] = .ok (rowD top es) := by
  rw [parse_row_eq _ (note_short h0 h he hz)]
  unfold parseV
  rw [split_note h0 h he, scan_note h0 he]
  dsimp only
  unfold makeV
  rw [if_pos h0, hg]
/-! ### rows are equal -/
def entP (e : Str × Int) : PyData := .tuple [.str e.1, .int e.2]
theorem pds_ents : ∀ es : List (Str × Int), D.pds (es.map entD) = some (es.map entP)
  | [] => rfl
  | e :: es => by
    rw [List.map_cons, D.pds, pds_ents es]
    rfl
theorem can_ents : ∀ es : List (Str × Int), (∀ e ∈ es, e.1 ∈ words3) → PyData.canLayAll0 (es.map entP) = true
  | [], _ => by rw [List.map_nil, PyData.canLayAll0]
  | e :: es, h => by
    have h1 := ok3 (h e List.mem_cons_self)
    have h2 := can_ents es fun z hz => h z (List.mem_cons_of_mem _ hz)
    simp only [List.map_cons, PyData.canLayAll0, entP, PyData.canLay0, h1, h2, Bool.and_self]
theorem dep_ents : ∀ es : List (Str × Int), PyData.depthAll (es.map entP) ≤ 1
  | [] => by rw [List.map_nil, PyData.depthAll]; omega
  | e :: es => by
    have h2 := dep_ents es
    simp only [List.map_cons, PyData.depthAll, entP, PyData.depth]
    omega
theorem eqv_ents : ∀ es : List (Str × Int), PyData.eqvAll (es.map entP) (es.map entP) = true
  | [] => by rw [List.map_nil, PyData.eqvAll]
  | e :: es => by
    have h2 := eqv_ents es
    simp only [List.map_cons, PyData.eqvAll, entP, PyData.eqv, h2, beq_self_eq_true, Bool.and_self]
theorem eq_letters {es : List (Str × Int)} (h : ∀ e ∈ es, e.1 ∈ words3) : dEq (.tup (es.map entD)) (.tup (es.map entD)) = .ok (.bl true) :=
  eqD (p := .tuple (es.map entP)) (by unfold eqB; rfl) (by rw [D.pd, pds_ents]; rfl)
    (by
      have := dep_ents es
      unfold SeqAt.shaped
      rw [Bool.and_eq_true]
      refine ⟨by rw [PyData.canLay0]; exact can_ents es h, decide_eq_true ?_⟩
      rw [PyData.depth]
      omega)
    (by simp only [PyData.eqv, eqv_ents])
theorem row_eq_true (top : Int) (es : List (Str × Int)) (h : ∀ e ∈ es, e.1 ∈ words3) : m_Row___eq__ [rowD top es, rowD top es] = .ok (.bl true) := by
  have hi : dIsi cl [.o "Row"] (rowD top es) = .ok (.bl true) := isi_row _
  unfold m_Row___eq__ g_Row___eq__
  simp only [e_def, e_start, List.length_cons, List.length_nil, if_true, List.map_cons, List.map_nil, List.cons_append, List.nil_append, e_sRet, e_mAndV, e_mUn, e_mVar, List.getElem?_cons_succ, List.getElem?_cons_zero, bind_ok, hi, e_asB, e_mBin, fld_top, e_eqI, decide_true, fld_letters, eq_letters h, e_end1]
theorem eqO_row (top : Int) (es : List (Str × Int)) (h : ∀ e ∈ es, e.1 ∈ words3) : dEqO "Row" m_Row___eq__ (rowD top es) (rowD top es) = .ok (.bl true) := by
  have h1 : m_Row___eq__ [.ins "Row" [("top", .int top), ("letters", .tup (es.map entD))], .ins "Row" [("top", .int top), ("letters", .tup (es.map entD))]] = .ok (.bl true) := row_eq_true top es h
  unfold dEqO rowD
  simp only [and_self, if_true, h1, e_noX]
end K69

set_option Elab.async false
set_option linter.all false
set_option maxRecDepth 100000
set_option maxHeartbeats 1000000
namespace K69
open PySem L2 T TL
/-! ### cells of the script -/
theorem cmS {i j : Int} (h : i.natAbs < 2 ^ 64) : cMul i j = true := by
  unfold cMul
  rw [decide_eq_true h, Bool.true_or]
theorem cmT {i j : Int} (h : j.natAbs < 2 ^ 64) : cMul i j = true := by
  unfold cMul
  rw [decide_eq_true h, Bool.or_true]
theorem mulL {i j : Int} (h : i.natAbs < 2 ^ 64) : dMul (.int i) (.int j) = .ok (.int (i * j)) := by rw [e_mulI, if_pos (cmS h)]
theorem mulR {i j : Int} (h : j.natAbs < 2 ^ 64) : dMul (.int i) (.int j) = .ok (.int (i * j)) := by rw [e_mulI, if_pos (cmT h)]
theorem modP {i j : Int} (h : 0 < j) : dMod (.int i) (.int j) = .ok (.int (i % j)) := by rw [e_mod, if_pos (decide_eq_true h)]
theorem divP {i j : Int} (h : 0 < j) (h2 : j < 1073741824) : dFdiv (.int i) (.int j) = .ok (.int (i / j)) := by
  rw [e_fdiv, if_pos]
  rw [Bool.and_eq_true]
  exact ⟨decide_eq_true h, decide_eq_true (by omega)⟩
def ceB : T.Env → SO := sSeq (sAsg 2 (mBin dMod (mCall dIntA (mCons (mBin dAdd (mBin dMul (mVar 2) (mC (.int 31))) (mBin dMod (mCall dIntA (mCons (mVar 3) (mNil))) (mC (.int 1000003)))) (mNil))) (mC (.int 1000003)))) (sNext)
theorem ceB_run (a b : Option D) (s n : Int) : ceB [a, b, some (.int s), some (.int n)] = .nx [a, b, some (.int ((s * 31 + n % 1000003) % 1000003)), some (.int n)] := by
  have m1 : dMul (.int s) (.int 31) = .ok (.int (s * 31)) := mulR (by decide)
  have m2 : ∀ i : Int, dMod (.int i) (.int 1000003) = .ok (.int (i % 1000003)) := fun i => modP (by decide)
  unfold ceB
  simp only [e_sSeq, e_sAsg, e_mBin, e_mCall, e_mCons, e_mNil, e_mVar, e_mC, bind_ok, List.getElem?_cons_succ, List.getElem?_cons_zero, m1, m2, e_intI, e_noX, e_addI, List.set_cons_succ, List.set_cons_zero, e_sNext]
theorem ce_loop (a b : Option D) : ∀ (ns : List Int) (s : Int) (o : Option D), ∃ s' o', forD (.nm 3) ceB (ns.map .int) [a, b, some (.int s), o] = .nx [a, b, some (.int s'), o']
  | [], s, o => ⟨s, o, rfl⟩
  | n :: ns, s, o => by
    obtain ⟨s', o', h⟩ := ce_loop a b ns ((s * 31 + n % 1000003) % 1000003) (some (.int n))
    refine ⟨s', o', ?_⟩
    rw [List.map_cons, forD_cons]
    simp only [e_put1, List.set_cons_succ, List.set_cons_zero]
    rw [ceB_run]
    exact h
theorem cell_eq (ns : List Int) (k : Nat) (hk : k ≤ 100) : ∃ c : Int, m__law_cell [.scr ns, .int k] = .ok (.int c) := by
  have eg : g__law_cell = sSeq (sIf (mTest (mBin dLt (mVar 1) (mCall dLen (mCons (mVar 0) (mNil))))) (sRet (mBin dIx (mVar 0) (mVar 1))) (sNext)) (sSeq (sAsg 2 (mC (.int 17))) (sSeq (sFor (mSeq (mVar 0)) (.nm 3) ceB) (sRet (mBin dMod (mCall dIntA (mCons (mBin dMul (mBin dMul (mBin dAdd (mVar 2) (mC (.int 7))) (mBin dAdd (mVar 1) (mC (.int 3)))) (mC (.int 69621))) (mNil))) (mC (.int 2147483647)))))) := rfl
  unfold m__law_cell
  rw [eg]
  by_cases h : k < ns.length
  · refine ⟨ns[k], ?_⟩
    have hx : atI ns (k : Int) = some ns[k] := by rw [T.atI_nat]; exact List.getElem?_eq_getElem h
    have hd : decide ((k : Int) < (ns.length : Int)) = true := decide_eq_true (by omega)
    simp only [e_def, e_start, List.length_cons, List.length_nil, if_true, List.map_cons, List.map_nil, List.cons_append, List.nil_append, List.replicate, e_sSeq, e_sIf, e_mTest, e_mBin, e_mVar, List.getElem?_cons_succ, List.getElem?_cons_zero, bind_ok, e_mCall, e_mCons, e_mNil, e_lenR, e_noX, e_lt, hd, e_asB, e_sRet, e_ixR, hx, e_end1]
  · have hd : decide ((k : Int) < (ns.length : Int)) = false := decide_eq_false (by omega)
    obtain ⟨s', o', hl⟩ := ce_loop (some (.scr ns)) (some (.int k)) ns 17 none
    refine ⟨((s' + 7) * ((k : Int) + 3) * 69621) % 2147483647, ?_⟩
    have m1 : dMul (.int (s' + 7)) (.int ((k : Int) + 3)) = .ok (.int ((s' + 7) * ((k : Int) + 3))) := mulR (by omega)
    have m2 : ∀ i : Int, dMul (.int i) (.int 69621) = .ok (.int (i * 69621)) := fun i => mulR (by decide)
    have m3 : ∀ i : Int, dMod (.int i) (.int 2147483647) = .ok (.int (i % 2147483647)) := fun i => modP (by decide)
    simp only [e_def, e_start, List.length_cons, List.length_nil, if_true, List.map_cons, List.map_nil, List.cons_append, List.nil_append, List.replicate, e_sSeq, e_sIf, e_mTest, e_mBin, e_mVar, List.getElem?_cons_succ, List.getElem?_cons_zero, bind_ok, e_mCall, e_mCons, e_mNil, e_lenR, e_noX, e_lt, hd, e_asB, e_sNext, e_sAsg, e_mC, List.set_cons_succ, List.set_cons_zero, e_sFor, e_mSeq, e_dSeqR, hl, e_sRet, e_addI, m1, m2, m3, e_intI, e_end1]
/-! ### digits -/
def Dg : List Int → List Int → Prop
  | [], [] => True
  | s :: ss, d :: ds => (0 ≤ d ∧ d < s) ∧ Dg ss ds
  | _, _ => False
theorem Dg.len : ∀ {ss ds : List Int}, Dg ss ds → ds.length = ss.length
  | [], [], _ => rfl
  | _ :: _, _ :: _, h => by rw [List.length_cons, List.length_cons, Dg.len h.2]
  | [], _ :: _, h => h.elim
  | _ :: _, [], h => h.elim
def daB : T.Env → SO := sSeq (sApp 2 (mBin dMod (mCall dIntA (mCons (mVar 3) (mNil))) (mVar 4))) (sSeq (sAsg 3 (mBin dFdiv (mCall dIntA (mCons (mVar 3) (mNil))) (mVar 4))) (sNext))
def dbB : T.Env → SO := sSeq (sAsg 5 (mBin dMod (mCall dIntA (mCons (mBin dAdd (mBin dAdd (mBin dMul (mVar 5) (mC (.int 48271))) (mBin dMul (mC (.int 974711)) (mVar 6))) (mC (.int 12345))) (mNil))) (mC (.int 2147483647)))) (sSeq (sAsg 7 (mBin dMod (mCall dIntA (mCons (mBin dMul (mVar 5) (mBin dAdd (mBin dFdiv (mVar 5) (mC (.int 65537))) (mC (.int 3)))) (mNil))) (mC (.int 2147483629)))) (sSeq (sApp 2 (mBin dMod (mBin dFdiv (mVar 7) (mC (.int 19))) (mBin dIx (mVar 1) (mVar 6)))) (sNext)))
def Szs (ss : List Int) : Prop := ∀ s ∈ ss, 0 < s ∧ s < 1000000
theorem daB_run (a b o5 o6 o7 : Option D) (ds : List D) (r s : Int) (h1 : 0 < s) (h2 : s < 1000000) (hz : ds.length < sizeLine) :
    daB [a, b, some (.lst ds), some (.int r), some (.int s), o5, o6, o7] = .nx [a, b, some (.lst (ds ++ [.int (r % s)])), some (.int (r / s)), some (.int s), o5, o6, o7] := by
  unfold daB
  simp only [e_sSeq, e_sApp, e_sAsg, e_mBin, e_mCall, e_mCons, e_mNil, e_mVar, bind_ok, List.getElem?_cons_succ, List.getElem?_cons_zero, e_intI, e_noX, modP h1, divP h1 (show s < 1073741824 by omega), if_pos hz, List.set_cons_succ, List.set_cons_zero, e_sNext]
theorem da_loop (a b o5 o6 o7 : Option D) : ∀ (ss : List Int) (ds : List D) (r : Int) (o : Option D), Szs ss → ds.length + ss.length ≤ sizeLine →
    ∃ es r' o', Dg ss es ∧ forD (.nm 4) daB (ss.map .int) [a, b, some (.lst ds), some (.int r), o, o5, o6, o7] = .nx [a, b, some (.lst (ds ++ es.map .int)), some (.int r'), o', o5, o6, o7]
  | [], ds, r, o, _, _ => ⟨[], r, o, trivial, by rw [List.map_nil, List.append_nil]; rfl⟩
  | s :: ss, ds, r, o, hs, hz => by
    rw [List.length_cons] at hz
    obtain ⟨p1, p2⟩ := hs s List.mem_cons_self
    obtain ⟨es, r', o', hd, h⟩ := da_loop a b o5 o6 o7 ss (ds ++ [.int (r % s)]) (r / s) (some (.int s)) (fun z hz => hs z (List.mem_cons_of_mem _ hz)) (by rw [List.length_append, List.length_singleton]; omega)
    refine ⟨(r % s) :: es, r', o', ⟨⟨Int.emod_nonneg _ (by omega), Int.emod_lt_of_pos _ p1⟩, hd⟩, ?_⟩
    rw [List.map_cons, forD_cons]
    simp only [e_put1, List.set_cons_succ, List.set_cons_zero]
    rw [daB_run a b o5 o6 o7 ds r s p1 p2 (by omega)]
    dsimp only
    rw [h, List.append_assoc]
    rfl
theorem dbB_run (a o3 o4 o7 : Option D) (ds : List D) (all : List Int) (k : Nat) (s x : Int) (hx : all[k]? = some s) (h1 : 0 < s) (x0 : 0 ≤ x) (x1 : x < 2147483648) (hz : ds.length < sizeLine) :
    ∃ x' d o7', 0 ≤ x' ∧ x' < 2147483648 ∧ 0 ≤ d ∧ d < s ∧ dbB [a, some (.lst (all.map .int)), some (.lst ds), o3, o4, some (.int x), some (.int k), o7] = .nx [a, some (.lst (all.map .int)), some (.lst (ds ++ [.int d])), o3, o4, some (.int x'), some (.int k), o7'] := by
  have hi : atI (all.map D.int) (k : Int) = some (.int s) := by rw [T.atI_nat, List.getElem?_map, hx]; rfl
  have m1 : ∀ i : Int, dMul (.int i) (.int 48271) = .ok (.int (i * 48271)) := fun i => mulR (by decide)
  have m2 : ∀ i : Int, dMul (.int 974711) (.int i) = .ok (.int (974711 * i)) := fun i => mulL (by decide)
  have m3 : ∀ i : Int, dMod (.int i) (.int 2147483647) = .ok (.int (i % 2147483647)) := fun i => modP (by decide)
  have m4 : ∀ i : Int, dMod (.int i) (.int 2147483629) = .ok (.int (i % 2147483629)) := fun i => modP (by decide)
  have m5 : ∀ i : Int, dFdiv (.int i) (.int 65537) = .ok (.int (i / 65537)) := fun i => divP (by decide) (by decide)
  have m6 : ∀ i : Int, dFdiv (.int i) (.int 19) = .ok (.int (i / 19)) := fun i => divP (by decide) (by decide)
  obtain ⟨y, hy⟩ : ∃ y : Int, y = (x * 48271 + 974711 * (k : Int) + 12345) % 2147483647 := ⟨_, rfl⟩
  have y0 : 0 ≤ y := by rw [hy]; exact Int.emod_nonneg _ (by decide)
  have y1 : y < 2147483647 := by rw [hy]; exact Int.emod_lt_of_pos _ (by decide)
  have m7 : dMul (.int y) (.int (y / 65537 + 3)) = .ok (.int (y * (y / 65537 + 3))) := mulL (by omega)
  refine ⟨y, (y * (y / 65537 + 3)) % 2147483629 / 19 % s, some (.int ((y * (y / 65537 + 3)) % 2147483629)), y0, by omega, Int.emod_nonneg _ (by omega), Int.emod_lt_of_pos _ h1, ?_⟩
  unfold dbB
  simp only [e_sSeq, e_sApp, e_sAsg, e_mBin, e_mCall, e_mCons, e_mNil, e_mVar, e_mC, bind_ok, List.getElem?_cons_succ, List.getElem?_cons_zero, e_intI, e_noX, m1, m2, m3, e_addI, ← hy, List.set_cons_succ, List.set_cons_zero, m5, m7, m4, m6, e_ixL, hi, modP h1, if_pos hz, e_sNext]
theorem db_loop (a o3 o4 : Option D) (all : List Int) (ha : Szs all) : ∀ (ss : List Int) (k : Nat) (ds : List D) (x : Int) (o6 o7 : Option D), all.drop k = ss → 0 ≤ x → x < 2147483648 → ds.length + ss.length ≤ sizeLine →
    ∃ es x' p6 p7, Dg ss es ∧ forD (.nm 6) dbB ((List.range' k ss.length).map fun (i : Nat) => .int i) [a, some (.lst (all.map .int)), some (.lst ds), o3, o4, some (.int x), o6, o7] = .nx [a, some (.lst (all.map .int)), some (.lst (ds ++ es.map .int)), o3, o4, some (.int x'), p6, p7]
  | [], k, ds, x, o6, o7, _, _, _, _ => ⟨[], x, o6, o7, trivial, by rw [List.map_nil, List.append_nil]; rfl⟩
  | s :: ss, k, ds, x, o6, o7, hd, x0, x1, hz => by
    rw [List.length_cons] at hz
    have hk : all[k]? = some s := by
      have := congrArg (fun z : List Int => z[0]?) hd
      simpa [List.getElem?_drop] using this
    have hd2 : all.drop (k + 1) = ss := by
      have := congrArg (List.drop 1) hd
      rw [List.drop_drop] at this
      simpa using this
    have hm : s ∈ all := List.mem_of_getElem? hk
    obtain ⟨x', d, o7', a1, a2, a3, a4, hr⟩ := dbB_run a o3 o4 o7 ds all k s x hk (ha s hm).1 x0 x1 (by omega)
    obtain ⟨es, x2, p6, p7, hg, ih⟩ := db_loop a o3 o4 all ha ss (k + 1) (ds ++ [.int d]) x' (some (.int k)) o7' hd2 a1 a2 (by rw [List.length_append, List.length_singleton]; omega)
    refine ⟨d :: es, x2, p6, p7, ⟨⟨a3, a4⟩, hg⟩, ?_⟩
    rw [List.length_cons, List.range'_succ, List.map_cons, forD_cons]
    simp only [e_put1, List.set_cons_succ, List.set_cons_zero]
    rw [hr]
    dsimp only
    rw [ih, List.append_assoc]
    rfl
theorem digits_eq (c : Int) (ss : List Int) (hs : Szs ss) (hz : ss.length ≤ 1000) : ∃ ds, Dg ss ds ∧ m__law_digits [.int c, .lst (ss.map .int)] = .ok (.lst (ds.map .int)) := by
  have eg : g__law_digits = sSeq (sAsg 2 (mC (.lst []))) (sSeq (sAsg 3 (mCall dIntA (mCons (mVar 0) (mNil)))) (sSeq (sIf (mTest (mBin dGe (mVar 3) (mBin dPow (mC (.int 10)) (mC (.int 18))))) (sSeq (sAsg 3 (mBin dSub (mVar 3) (mBin dPow (mC (.int 10)) (mC (.int 18))))) (sSeq (sFor (mSeq (mVar 1)) (.nm 4) daB) (sRet (mVar 2)))) (sNext)) (sSeq (sAsg 5 (mBin dMod (mCall dIntA (mCons (mVar 3) (mNil))) (mC (.int 2147483629)))) (sSeq (sFor (mRange1 (mCons (mCall dLen (mCons (mVar 1) (mNil))) (mNil))) (.nm 6) dbB) (sRet (mVar 2)))))) := rfl
  have hp : dPow (.int 10) (.int 18) = .ok (.int 1000000000000000000) := rfl
  have m4 : ∀ i : Int, dMod (.int i) (.int 2147483629) = .ok (.int (i % 2147483629)) := fun i => modP (by decide)
  have hok : okR 0 (ss.length : Int) = true := okR_nat (a := 0) (by omega) (by omega)
  have hz' : ss.length ≤ sizeLine := big (by omega)
  unfold m__law_digits
  rw [eg]
  by_cases h : (1000000000000000000 : Int) ≤ c
  · obtain ⟨es, r', o', hd, hl⟩ := da_loop (some (.int c)) (some (.lst (ss.map .int))) none none none ss [] (c - 1000000000000000000) none hs (by simpa using hz')
    refine ⟨es, hd, ?_⟩
    rw [List.nil_append] at hl
    simp only [e_def, e_start, List.length_cons, List.length_nil, if_true, List.map_cons, List.map_nil, List.cons_append, List.nil_append, List.replicate, e_sSeq, e_sAsg, e_mC, List.set_cons_succ, List.set_cons_zero, e_mCall, e_mCons, e_mNil, e_mVar, List.getElem?_cons_succ, List.getElem?_cons_zero, bind_ok, e_intI, e_noX, e_sIf, e_mTest, e_mBin, hp, e_ge, decide_eq_true h, e_asB, e_subI, e_sFor, e_mSeq, e_dSeqL, hl, e_sRet, e_end1]
  · obtain ⟨es, x', p6, p7, hd, hl⟩ := db_loop (some (.int c)) (some (.int c)) none ss hs ss 0 [] (c % 2147483629) none none rfl (Int.emod_nonneg _ (by decide)) (by have := Int.emod_lt_of_pos c (b := 2147483629) (by decide); omega) (by simpa using hz')
    refine ⟨es, hd, ?_⟩
    rw [List.nil_append, ← range0] at hl
    simp only [e_def, e_start, List.length_cons, List.length_nil, if_true, List.map_cons, List.map_nil, List.cons_append, List.nil_append, List.replicate, e_sSeq, e_sAsg, e_mC, List.set_cons_succ, List.set_cons_zero, e_mCall, e_mCons, e_mNil, e_mVar, List.getElem?_cons_succ, List.getElem?_cons_zero, bind_ok, e_intI, e_noX, e_sIf, e_mTest, e_mBin, hp, e_ge, decide_eq_false h, e_asB, e_sNext, m4, e_sFor, e_mRange1, e_lenL, List.length_map, e_dRange1, hok, hl, e_sRet, e_end1]
end K69

set_option Elab.async false
set_option linter.all false
set_option maxRecDepth 100000
set_option maxHeartbeats 1000000
namespace K69
open PySem L2 T TL
/-! ### rows that stand, and turned rows -/
def Fits : Int → List (Str × Int) → Prop
  | _, [] => True
  | L, e :: es => fitsV e.1 e.2 L = true ∧ Fits (L + moreV e.1) es
theorem fits_go : ∀ {es : List (Str × Int)} {L : Int} {p : Nat}, Fits L es → goV L p es = none
  | [], _, _, _ => rfl
  | e :: es, L, p, h => by
    unfold goV
    rw [if_pos h.1]
    exact fits_go h.2
theorem fits_app : ∀ {a b : List (Str × Int)} {L : Int}, Fits L a → Fits (botV L a) b → Fits L (a ++ b)
  | [], _, _, _, h => h
  | e :: a, b, L, h1, h2 => ⟨h1.1, fits_app h1.2 h2⟩
theorem bot_app : ∀ (a b : List (Str × Int)) (L : Int), botV L (a ++ b) = botV (botV L a) b
  | [], _, _ => rfl
  | e :: a, b, L => bot_app a b (L + moreV e.1)
def flipW (w : Str) : Str := if w = "cup" then "cap" else if w = "cap" then "cup" else w
def flipE (e : Str × Int) : Str × Int := (flipW e.1, e.2)
theorem flip_w3 {w : Str} (h : w ∈ words3) : flipW w ∈ words3 := by
  rcases mem3 h with e | e | e <;> subst e <;> decide +kernel
theorem flip_more {w : Str} (h : w ∈ words3) : moreV (flipW w) = - moreV w := by
  rcases mem3 h with e | e | e <;> subst e <;> decide +kernel
theorem flip_fits {w : Str} {n L : Int} (h : w ∈ words3) (hf : fitsV w n L = true) : fitsV (flipW w) n (L + moreV w) = true := by
  unfold fitsV at *
  rcases mem3 h with e | e | e
  · subst e
    have e1 : flipW "cross" = "cross" := by decide +kernel
    have e2 : moreV "cross" = 0 := by decide +kernel
    rw [e1, e2, Int.add_zero]
    exact hf
  · subst e
    have e1 : flipW "cup" = "cap" := by decide +kernel
    have e2 : moreV "cup" = 2 := by decide +kernel
    rw [e1, e2, if_neg ne_au]
    rw [if_pos rfl] at hf
    simp only [Bool.and_eq_true, decide_eq_true_eq] at *
    omega
  · subst e
    have e1 : flipW "cap" = "cup" := by decide +kernel
    have e2 : moreV "cap" = -2 := by decide +kernel
    rw [e1, e2, if_pos rfl]
    rw [if_neg ne_au] at hf
    simp only [Bool.and_eq_true, decide_eq_true_eq] at *
    omega
def flipL (es : List (Str × Int)) : List (Str × Int) := es.reverse.map flipE
theorem flipL_cons (e : Str × Int) (es : List (Str × Int)) : flipL (e :: es) = flipL es ++ [flipE e] := by
  unfold flipL
  rw [List.reverse_cons, List.map_append]
  rfl
theorem flip_bot : ∀ (es : List (Str × Int)) (L : Int), (∀ e ∈ es, e.1 ∈ words3) → botV (botV L es) (flipL es) = L
  | [], _, _ => rfl
  | e :: es, L, h => by
    rw [flipL_cons, bot_app]
    have ih := flip_bot es (L + moreV e.1) fun z hz => h z (List.mem_cons_of_mem _ hz)
    show botV (botV (botV (L + moreV e.1) es) (flipL es)) [flipE e] = L
    rw [ih]
    show L + moreV e.1 + moreV (flipW e.1) = L
    rw [flip_more (h e List.mem_cons_self)]
    omega
theorem flip_row : ∀ (es : List (Str × Int)) (L : Int), (∀ e ∈ es, e.1 ∈ words3) → Fits L es → Fits (botV L es) (flipL es)
  | [], _, _, _ => trivial
  | e :: es, L, h, hf => by
    rw [flipL_cons]
    have h2 : ∀ e ∈ es, e.1 ∈ words3 := fun z hz => h z (List.mem_cons_of_mem _ hz)
    have ih := flip_row es (L + moreV e.1) h2 hf.2
    refine fits_app ih ?_
    show Fits (botV (botV (L + moreV e.1) es) (flipL es)) [flipE e]
    rw [flip_bot es _ h2]
    exact ⟨flip_fits (h e List.mem_cons_self) hf.1, trivial⟩
theorem fits_bot : ∀ (es : List (Str × Int)) (L : Int), (∀ e ∈ es, e.1 ∈ words3) → 0 ≤ L → Fits L es → 0 ≤ botV L es
  | [], _, _, h, _ => h
  | e :: es, L, h, h0, hf => by
    have h2 : ∀ e ∈ es, e.1 ∈ words3 := fun z hz => h z (List.mem_cons_of_mem _ hz)
    refine fits_bot es _ h2 ?_ hf.2
    have h3 := hf.1
    unfold fitsV at h3
    unfold moreV
    rcases mem3 (h e List.mem_cons_self) with q | q | q
    · rw [q, if_neg ne_cc, if_neg ne_ca]; omega
    · rw [q, if_pos rfl]; omega
    · rw [q, if_neg ne_au] at h3
      rw [q, if_neg ne_au, if_pos rfl]
      simp only [Bool.and_eq_true, decide_eq_true_eq] at h3
      omega
theorem bot_le : ∀ (es : List (Str × Int)) (L : Int), botV L es ≤ L + 2 * es.length
  | [], L => by show L ≤ _; simp
  | e :: es, L => by
    have := bot_le es (L + moreV e.1)
    have h2 : moreV e.1 ≤ 2 := by
      unfold moreV
      split
      · omega
      · split <;> omega
    show botV (L + moreV e.1) es ≤ _
    rw [List.length_cons]
    omega
end K69

set_option Elab.async false
set_option linter.all false
set_option maxRecDepth 100000
set_option maxHeartbeats 1000000
namespace K69
open PySem L2 T TL
/-! ### the law's letters -/
def leB : T.Env → SO := sSeq (sAsg 6 (mBin dIx (mLst (mCons (mC (.str "cross")) (mCons (mC (.str "cross")) (mCons (mC (.str "cap")) (mCons (mC (.str "cup")) (mNil)))))) (mBin dFdiv (mBin dIx (mVar 0) (mBin dMul (mC (.int 2)) (mVar 5))) (mC (.int 3))))) (sSeq (sIf (mTest (mBin dLt (mVar 4) (mC (.int 2)))) (sSeq (sAsg 6 (mC (.str "cup"))) (sNext)) (sNext)) (sSeq (sIf (mAnd (mTest (mBin dEq (mVar 6) (mC (.str "cup")))) (mTest (mBin dGt (mBin dAdd (mVar 4) (mC (.int 2))) (mVar 2)))) (sSeq (sAsg 6 (mC (.str "cross"))) (sNext)) (sNext)) (sSeq (sIf (mTest (mBin dEq (mVar 6) (mC (.str "cup")))) (sSeq (sApp 3 (mTup (mCons (mVar 6) (mCons (mBin dMod (mCall dIntA (mCons (mBin dIx (mVar 0) (mBin dAdd (mBin dMul (mC (.int 2)) (mVar 5)) (mC (.int 1)))) (mNil))) (mBin dAdd (mVar 4) (mC (.int 1)))) (mNil))))) (sSeq (sAsg 4 (mBin dAdd (mVar 4) (mC (.int 2)))) (sNext))) (sSeq (sApp 3 (mTup (mCons (mVar 6) (mCons (mBin dMod (mCall dIntA (mCons (mBin dIx (mVar 0) (mBin dAdd (mBin dMul (mC (.int 2)) (mVar 5)) (mC (.int 1)))) (mNil))) (mBin dSub (mVar 4) (mC (.int 1)))) (mNil))))) (sSeq (sAsg 4 (mBin dSub (mVar 4) (mBin dMul (mC (.int 2)) (mCall dIntA (mCons (mBin dEq (mVar 6) (mC (.str "cap"))) (mNil)))))) (sNext)))) (sNext))))
def pickW (d : Int) : Str := if d < 6 then "cross" else if d < 9 then "cap" else "cup"
def wordV (d L U : Int) : Str := if L < 2 then "cup" else if pickW d = "cup" ∧ U < L + 2 then "cross" else pickW d
def letV (d n L U : Int) : Str × Int := (wordV d L U, if wordV d L U = "cup" then n % (L + 1) else n % (L - 1))
theorem pick_run (d : Int) (h0 : 0 ≤ d) (h1 : d < 12) : atI [D.str "cross", .str "cross", .str "cap", .str "cup"] (d / 3) = some (.str (pickW d)) := by
  unfold pickW
  have hc : d / 3 = 0 ∨ d / 3 = 1 ∨ d / 3 = 2 ∨ d / 3 = 3 := by omega
  rcases hc with q | q | q | q
  · rw [q, if_pos (by omega)]; rfl
  · rw [q, if_pos (by omega)]; rfl
  · rw [q, if_neg (by omega), if_pos (by omega)]; rfl
  · rw [q, if_neg (by omega), if_neg (by omega)]; rfl
theorem pick3 (d : Int) : pickW d ∈ words3 := by
  unfold pickW
  split
  · decide +kernel
  · split <;> decide +kernel
theorem word3 (d L U : Int) : wordV d L U ∈ words3 := by
  unfold wordV
  split
  · decide +kernel
  · split
    · decide +kernel
    · exact pick3 d
theorem letV_fits (d n L U : Int) (hL : 0 ≤ L) (hn : 0 ≤ n) : fitsV (letV d n L U).1 (letV d n L U).2 L = true := by
  unfold letV fitsV
  dsimp only
  by_cases h : wordV d L U = "cup"
  · rw [if_pos h, if_pos h]
    have h1 := Int.emod_nonneg n (b := L + 1) (by omega)
    have h2 := Int.emod_lt_of_pos n (b := L + 1) (by omega)
    simp only [Bool.and_eq_true, decide_eq_true_eq]
    omega
  · rw [if_neg h, if_neg h]
    have hL2 : 2 ≤ L := by
      have : ¬ L < 2 := fun z => h (by unfold wordV; rw [if_pos z])
      omega
    have h1 := Int.emod_nonneg n (b := L - 1) (by omega)
    have h2 := Int.emod_lt_of_pos n (b := L - 1) (by omega)
    simp only [Bool.and_eq_true, decide_eq_true_eq]
    omega
theorem letV_more (d n L U : Int) (hL : 0 ≤ L) (hU : 4 ≤ U) (hLM : L ≤ 16) (hUM : U ≤ 16) : 0 ≤ L + moreV (letV d n L U).1 ∧ L + moreV (letV d n L U).1 ≤ 16 := by
  unfold letV
  dsimp only
  by_cases h2 : L < 2
  · have e : wordV d L U = "cup" := by unfold wordV; rw [if_pos h2]
    rw [e]
    unfold moreV
    rw [if_pos rfl]
    omega
  · rcases mem3 (word3 d L U) with q | q | q
    · rw [q]; unfold moreV; rw [if_neg ne_cc, if_neg ne_ca]; omega
    · have : ¬ U < L + 2 := by
        intro z
        unfold wordV at q
        rw [if_neg h2] at q
        by_cases hp : pickW d = "cup"
        · rw [if_pos ⟨hp, z⟩] at q; exact ne_cc q
        · rw [if_neg (fun w => hp w.1)] at q; exact hp q
      rw [q]; unfold moreV; rw [if_pos rfl]; omega
    · rw [q]; unfold moreV; rw [if_neg ne_au, if_pos rfl]; omega
theorem mul2 (k : Int) : dMul (.int 2) (.int k) = .ok (.int (2 * k)) := mulL (by decide)
def leT : T.Env → SO := sSeq (sIf (mTest (mBin dEq (mVar 6) (mC (.str "cup")))) (sSeq (sApp 3 (mTup (mCons (mVar 6) (mCons (mBin dMod (mCall dIntA (mCons (mBin dIx (mVar 0) (mBin dAdd (mBin dMul (mC (.int 2)) (mVar 5)) (mC (.int 1)))) (mNil))) (mBin dAdd (mVar 4) (mC (.int 1)))) (mNil))))) (sSeq (sAsg 4 (mBin dAdd (mVar 4) (mC (.int 2)))) (sNext))) (sSeq (sApp 3 (mTup (mCons (mVar 6) (mCons (mBin dMod (mCall dIntA (mCons (mBin dIx (mVar 0) (mBin dAdd (mBin dMul (mC (.int 2)) (mVar 5)) (mC (.int 1)))) (mNil))) (mBin dSub (mVar 4) (mC (.int 1)))) (mNil))))) (sSeq (sAsg 4 (mBin dSub (mVar 4) (mBin dMul (mC (.int 2)) (mCall dIntA (mCons (mBin dEq (mVar 6) (mC (.str "cap"))) (mNil)))))) (sNext)))) (sNext)
theorem leT_run (t u : Option D) (all : List Int) (acc : List D) (L n : Int) (k : Nat) (w : Str) (hn : all[2 * k + 1]? = some n) (hw : w ∈ words3) (hL : 0 ≤ L) (h2 : w ≠ "cup" → 2 ≤ L) (hz : acc.length < sizeLine) :
    leT [some (.lst (all.map .int)), t, u, some (.lst acc), some (.int L), some (.int k), some (.str w)] =
      .nx [some (.lst (all.map .int)), t, u, some (.lst (acc ++ [entD (w, if w = "cup" then n % (L + 1) else n % (L - 1))])), some (.int (L + moreV w)), some (.int k), some (.str w)] := by
  have hi : atI (all.map D.int) (2 * (k : Int) + 1) = some (.int n) := by
    have : (2 * (k : Int) + 1) = ((2 * k + 1 : Nat) : Int) := by omega
    rw [this, T.atI_nat, List.getElem?_map, hn]
    rfl
  unfold leT
  by_cases h : w = "cup"
  · have hd : decide (w = "cup") = true := decide_eq_true h
    have m1 : dMod (.int n) (.int (L + 1)) = .ok (.int (n % (L + 1))) := modP (by omega)
    have hm : moreV w = 2 := by unfold moreV; rw [if_pos h]
    simp only [e_sSeq, e_sIf, e_mTest, e_mBin, e_mVar, e_mC, List.getElem?_cons_succ, List.getElem?_cons_zero, bind_ok, e_eqS, hd, e_asB, e_sApp, e_mTup, e_mCons, e_mNil, e_mCall, mul2, e_addI, e_ixL, hi, e_intI, e_noX, m1, e_mkT2, if_pos hz, List.set_cons_succ, List.set_cons_zero, e_sAsg, e_sNext, hm, if_pos h, entD]
  · have hd : decide (w = "cup") = false := decide_eq_false h
    have m1 : dMod (.int n) (.int (L - 1)) = .ok (.int (n % (L - 1))) := modP (by have := h2 h; omega)
    have hm : L - 2 * (if decide (w = "cap") = true then 1 else 0) = L + moreV w := by
      unfold moreV
      rw [if_neg h]
      by_cases hc : w = "cap"
      · rw [if_pos hc, if_pos (decide_eq_true hc)]; omega
      · rw [if_neg hc, if_neg (by simpa using hc)]; omega
    simp only [e_sSeq, e_sIf, e_mTest, e_mBin, e_mVar, e_mC, List.getElem?_cons_succ, List.getElem?_cons_zero, bind_ok, e_eqS, hd, e_asB, e_sApp, e_mTup, e_mCons, e_mNil, e_mCall, mul2, e_addI, e_subI, e_ixL, hi, e_intI, e_intB, e_noX, m1, e_mkT2, if_pos hz, List.set_cons_succ, List.set_cons_zero, e_sAsg, e_sNext, hm, if_neg h, entD]
def leW : T.Env → SO := sSeq (sAsg 6 (mBin dIx (mLst (mCons (mC (.str "cross")) (mCons (mC (.str "cross")) (mCons (mC (.str "cap")) (mCons (mC (.str "cup")) (mNil)))))) (mBin dFdiv (mBin dIx (mVar 0) (mBin dMul (mC (.int 2)) (mVar 5))) (mC (.int 3))))) (sSeq (sIf (mTest (mBin dLt (mVar 4) (mC (.int 2)))) (sSeq (sAsg 6 (mC (.str "cup"))) (sNext)) (sNext)) (sIf (mAnd (mTest (mBin dEq (mVar 6) (mC (.str "cup")))) (mTest (mBin dGt (mBin dAdd (mVar 4) (mC (.int 2))) (mVar 2)))) (sSeq (sAsg 6 (mC (.str "cross"))) (sNext)) (sNext)))
theorem leW_run (t : Option D) (all : List Int) (acc o : Option D) (L U d : Int) (k : Nat) (hd : all[2 * k]? = some d) (d0 : 0 ≤ d) (d1 : d < 12) (hU : 4 ≤ U) :
    leW [some (.lst (all.map .int)), t, some (.int U), acc, some (.int L), some (.int k), o] =
      .nx [some (.lst (all.map .int)), t, some (.int U), acc, some (.int L), some (.int k), some (.str (wordV d L U))] := by
  have hi : atI (all.map D.int) (2 * (k : Int)) = some (.int d) := by
    have : (2 * (k : Int)) = ((2 * k : Nat) : Int) := by omega
    rw [this, T.atI_nat, List.getElem?_map, hd]
    rfl
  have hp := pick_run d d0 d1
  have m1 : dFdiv (.int d) (.int 3) = .ok (.int (d / 3)) := divP (by decide) (by decide)
  unfold leW wordV
  simp only [e_sSeq, e_sAsg, e_mBin, e_mLst, e_mCons, e_mNil, e_mC, bind_ok, e_mkL4, e_mVar, List.getElem?_cons_succ, List.getElem?_cons_zero, mul2, e_ixL, hi, m1, hp, List.set_cons_succ, List.set_cons_zero, e_sIf, e_mTest, e_lt, e_asB]
  by_cases h2 : L < 2
  · have hg : decide (U < L + 2) = false := decide_eq_false (by omega)
    simp only [decide_eq_true h2, if_pos h2, e_sSeq, e_sAsg, e_mC, e_sNext, List.set_cons_succ, List.set_cons_zero, e_mAnd, e_mTest, e_mBin, e_mVar, List.getElem?_cons_succ, List.getElem?_cons_zero, bind_ok, e_eqS, decide_true, e_asB, if_true, e_addI, e_gt, hg]
  · by_cases hc : pickW d = "cup"
    · by_cases hg : U < L + 2
      · simp only [decide_eq_false h2, if_neg h2, e_sSeq, e_sAsg, e_mC, e_sNext, List.set_cons_succ, List.set_cons_zero, e_mAnd, e_mTest, e_mBin, e_mVar, List.getElem?_cons_succ, List.getElem?_cons_zero, bind_ok, e_eqS, decide_eq_true hc, e_asB, if_true, e_addI, e_gt, decide_eq_true hg, if_pos (And.intro hc hg)]
      · simp only [decide_eq_false h2, if_neg h2, e_sSeq, e_sAsg, e_mC, e_sNext, List.set_cons_succ, List.set_cons_zero, e_mAnd, e_mTest, e_mBin, e_mVar, List.getElem?_cons_succ, List.getElem?_cons_zero, bind_ok, e_eqS, decide_eq_true hc, e_asB, if_true, e_addI, e_gt, decide_eq_false hg, if_neg (fun z : _ ∧ _ => hg z.2)]
    · simp only [decide_eq_false h2, if_neg h2, e_sSeq, e_sAsg, e_mC, e_sNext, List.set_cons_succ, List.set_cons_zero, e_mAnd, e_mTest, e_mBin, e_mVar, List.getElem?_cons_succ, List.getElem?_cons_zero, bind_ok, e_eqS, decide_eq_false hc, e_asB, if_true, Bool.false_eq_true, if_false, if_neg (fun z : _ ∧ _ => hc z.1)]
end K69

set_option Elab.async false
set_option linter.all false
set_option maxRecDepth 100000
set_option maxHeartbeats 1000000
namespace K69
open PySem L2 T TL
theorem leB_eq (ρ ρ' : T.Env) (h : leW ρ = .nx ρ') : leB ρ = leT ρ' := by
  have seq : ∀ (a b : T.Env → SO) (ρ : T.Env), sSeq a b ρ = match a ρ with | .nx ρ' => b ρ' | o => o := fun a b ρ => e_sSeq ρ a b
  unfold leW at h
  unfold leB leT
  rw [seq] at h ⊢
  generalize sAsg 6 _ ρ = x at h ⊢
  cases x with
  | nx r =>
    dsimp only at h ⊢
    rw [seq] at h ⊢
    generalize sIf _ _ _ r = y at h ⊢
    cases y with
    | nx r2 =>
      dsimp only at h ⊢
      rw [seq]
      rw [h]
    | _ => cases h
  | _ => cases h
def Pairs (all : List Int) (m : Nat) : Prop := ∀ j, j < m → ∃ d n, all[2 * j]? = some d ∧ all[2 * j + 1]? = some n ∧ 0 ≤ d ∧ d < 12 ∧ 0 ≤ n ∧ n < 60
theorem le_loop (t : Option D) (all : List Int) (U : Int) (M : Nat) (hP : Pairs all M) (hU : 4 ≤ U) (hUM : U ≤ 16) : ∀ (m k : Nat) (L : Int) (acc : List D) (o5 o6 : Option D), k + m ≤ M → 0 ≤ L → L ≤ 16 → acc.length + m ≤ sizeLine →
    ∃ es L' p5 p6, es.length = m ∧ (∀ e ∈ es, Ent e) ∧ Fits L es ∧ forD (.nm 5) leB ((List.range' k m).map fun (i : Nat) => .int i) [some (.lst (all.map .int)), t, some (.int U), some (.lst acc), some (.int L), o5, o6] = .nx [some (.lst (all.map .int)), t, some (.int U), some (.lst (acc ++ es.map entD)), some (.int L'), p5, p6]
  | 0, k, L, acc, o5, o6, _, _, _, _ => ⟨[], L, o5, o6, rfl, (fun e h => by cases h), trivial, by rw [List.map_nil, List.append_nil]; rfl⟩
  | m + 1, k, L, acc, o5, o6, hk, h0, h1, hz => by
    obtain ⟨d, n, e1, e2, d0, d1, n0, n1⟩ := hP k (by omega)
    have hw := leW_run t all (some (.lst acc)) o6 L U d k e1 d0 d1 hU
    have h2 : wordV d L U ≠ "cup" → 2 ≤ L := fun h => by
      have : ¬ L < 2 := fun z => h (by unfold wordV; rw [if_pos z])
      omega
    have hT := leT_run t (some (.int U)) all acc L n k (wordV d L U) e2 (word3 d L U) h0 h2 (by omega)
    have hm := letV_more d n L U h0 hU h1 hUM
    have hf := letV_fits d n L U h0 n0
    have he : Ent (letV d n L U) := by
      refine ⟨word3 d L U, ?_⟩
      unfold fitsV at hf
      rw [Bool.and_eq_true] at hf
      refine ⟨of_decide_eq_true hf.1, ?_⟩
      unfold letV
      dsimp only
      split
      · have := Int.emod_lt_of_pos n (b := L + 1) (by omega)
        omega
      · rename_i hc
        have := h2 hc
        have := Int.emod_lt_of_pos n (b := L - 1) (by omega)
        omega
    obtain ⟨es, L', p5, p6, hl, hE, hF, ih⟩ := le_loop t all U M hP hU hUM m (k + 1) (L + moreV (letV d n L U).1) (acc ++ [entD (letV d n L U)]) (some (.int k)) (some (.str (wordV d L U))) (by omega) hm.1 hm.2 (by rw [List.length_append, List.length_singleton]; omega)
    refine ⟨letV d n L U :: es, L', p5, p6, by rw [List.length_cons, hl], ?_, ⟨hf, hF⟩, ?_⟩
    · intro e hm
      rcases List.mem_cons.mp hm with rfl | hm
      · exact he
      · exact hE e hm
    · rw [List.range'_succ, List.map_cons, forD_cons]
      simp only [e_put1, List.set_cons_succ, List.set_cons_zero]
      rw [leB_eq _ _ hw, hT]
      dsimp only
      have ih' := ih
      rw [List.append_assoc] at ih'
      exact ih'
end K69

set_option Elab.async false
set_option linter.all false
set_option maxRecDepth 100000
set_option maxHeartbeats 1000000
namespace K69
open PySem L2 T TL
def sz2 (m : Nat) : List Int := (List.replicate m [(12 : Int), 60]).flatten
theorem sz2_len (m : Nat) : (sz2 m).length = 2 * m := by
  unfold sz2
  simp [Nat.mul_comm]
theorem sz2_ok (m : Nat) : Szs (sz2 m) := by
  intro s hs
  unfold sz2 at hs
  rw [List.mem_flatten] at hs
  obtain ⟨l, hl, h⟩ := hs
  rw [List.mem_replicate] at hl
  rw [hl.2] at h
  rcases List.mem_cons.mp h with rfl | h
  · decide
  · rw [List.mem_singleton] at h; subst h; decide
theorem sz2_succ (m : Nat) : sz2 (m + 1) = 12 :: 60 :: sz2 m := by
  unfold sz2
  rw [List.replicate_succ, List.flatten_cons]
  rfl
theorem sz2_map : ∀ m : Nat, (List.replicate m [D.int 12, D.int 60]).flatten = (sz2 m).map .int
  | 0 => rfl
  | m + 1 => by
    rw [sz2_succ, List.replicate_succ, List.flatten_cons, sz2_map m]
    rfl
theorem dg_pairs : ∀ (m : Nat) (ds : List Int), Dg (sz2 m) ds → Pairs ds m
  | 0, _, _ => fun j hj => by omega
  | m + 1, ds, h => by
    rw [sz2_succ] at h
    match ds, h with
    | d :: n :: r, h =>
      intro j hj
      obtain ⟨a, b, c⟩ := h
      cases j with
      | zero => exact ⟨d, n, rfl, rfl, a.1, a.2, b.1, b.2⟩
      | succ j =>
        obtain ⟨d', n', e1, e2, q⟩ := dg_pairs m r c j (by omega)
        refine ⟨d', n', ?_, ?_, q⟩
        · rw [show 2 * (j + 1) = 2 * j + 1 + 1 by omega, List.getElem?_cons_succ, List.getElem?_cons_succ]; exact e1
        · rw [show 2 * (j + 1) + 1 = 2 * j + 1 + 1 + 1 by omega, List.getElem?_cons_succ, List.getElem?_cons_succ]; exact e2
    | [_], h => exact h.2.elim
    | [], h => exact h.elim
theorem letters_eq (ds : List Int) (m : Nat) (top U : Int) (hd : Dg (sz2 m) ds) (hm : m ≤ 100) (h0 : 0 ≤ top) (h1 : top ≤ 16) (hU : 4 ≤ U) (hUM : U ≤ 16) :
    ∃ es, es.length = m ∧ (∀ e ∈ es, Ent e) ∧ Fits top es ∧ m__law_letters [.lst (ds.map .int), .int top, .int U] = .ok (.lst (es.map entD)) := by
  have eg : g__law_letters = sSeq (sAsg 3 (mC (.lst []))) (sSeq (sAsg 4 (mVar 1)) (sSeq (sFor (mRange1 (mCons (mBin dFdiv (mCall dLen (mCons (mVar 0) (mNil))) (mC (.int 2))) (mNil))) (.nm 5) leB) (sRet (mVar 3)))) := rfl
  have hl : ds.length = 2 * m := by rw [hd.len, sz2_len]
  have e2 : dFdiv (.int (ds.length : Int)) (.int 2) = .ok (.int (m : Int)) := by
    rw [divP (by decide) (by decide), hl]
    congr 2
    omega
  have hok : okR 0 (m : Int) = true := okR_nat (a := 0) (by omega) (by omega)
  obtain ⟨es, L', p5, p6, a1, a2, a3, a4⟩ := le_loop (some (.int top)) ds U m (dg_pairs m ds hd) hU hUM m 0 top [] none none (by omega) h0 h1 (by rw [List.length_nil]; exact le16 (by omega))
  refine ⟨es, a1, a2, a3, ?_⟩
  rw [List.nil_append, ← range0] at a4
  unfold m__law_letters
  rw [eg]
  simp only [e_def, e_start, List.length_cons, List.length_nil, if_true, List.map_cons, List.map_nil, List.cons_append, List.nil_append, List.replicate, e_sSeq, e_sAsg, e_mC, List.set_cons_succ, List.set_cons_zero, e_mVar, List.getElem?_cons_succ, List.getElem?_cons_zero, e_sFor, e_mRange1, e_mCons, e_mBin, e_mCall, bind_ok, e_mNil, e_lenL, List.length_map, e_noX, e2, e_dRange1, hok, a4, e_sRet, e_end1]
end K69

set_option Elab.async false
set_option linter.all false
set_option maxRecDepth 100000
set_option maxHeartbeats 1000000
namespace K69
open PySem L2 T TL
theorem tab_flip (w : Str) (h : w ∈ words3) : dTab tb_FLIPPED (.str w) = .ok (.str (flipW w)) := by
  rcases mem3 h with e | e | e <;> subst e <;> rfl
theorem flipL_map (es : List (Str × Int)) : es.reverse.map (fun e => entD (flipE e)) = (flipL es).map entD := by
  unfold flipL
  rw [List.map_map]
  rfl
theorem flipL_len (es : List (Str × Int)) : (flipL es).length = es.length := by unfold flipL; rw [List.length_map, List.length_reverse]
theorem flipL_w3 {es : List (Str × Int)} (h : ∀ e ∈ es, e.1 ∈ words3) : ∀ e ∈ flipL es, e.1 ∈ words3 := by
  intro e he
  unfold flipL at he
  obtain ⟨x, hx, rfl⟩ := List.mem_map.mp he
  exact flip_w3 (h x (List.mem_reverse.mp hx))
theorem flipL_ent {es : List (Str × Int)} (h : ∀ e ∈ es, Ent e) : ∀ e ∈ flipL es, Ent e := by
  intro e he
  unfold flipL at he
  obtain ⟨x, hx, rfl⟩ := List.mem_map.mp he
  obtain ⟨a, b⟩ := h x (List.mem_reverse.mp hx)
  exact ⟨flip_w3 a, b⟩
def fpE : T.Env → O D := mTup (mCons (mUn (dTab tb_FLIPPED) (mVar 2)) (mCons (mVar 3) (mNil)))
theorem flipped_eq (top : Int) (es : List (Str × Int)) (hw : ∀ e ∈ es, e.1 ∈ words3) (hz : es.length ≤ 1000) (h0 : 0 ≤ top) (hf : Fits top es) : m_Row_flipped [rowD top es] = .ok (rowD (botV top es) (flipL es)) := by
  have eg : g_Row_flipped = sSeq (sAsg 1 (mComp (mRev (mUn (dFld fc_letters "letters") (mVar 0))) [2, 3] (.tp [2, 3]) (mYes) fpE)) (sRet (mApp m_Row___init__ (mCons (mProp "Row" m_Row_bottom (mVar 0)) (mCons (mVar 1) (mNil))))) := rfl
  have hz' : es.length + 1 ≤ sizeLine := le16 (by omega)
  have hc := compD_mem (tg := .tp [2, 3]) (e := fpE) (ρ := [some (rowD top es), none, none, none]) (fd := entD) (fz := fun e => entD (flipE e)) es.reverse [] (fun x hx => by
    refine ⟨[some (rowD top es), none, some (.str x.1), some (.int x.2)], rfl, ?_⟩
    unfold fpE
    simp only [e_mTup, e_mCons, e_mUn, e_mVar, List.getElem?_cons_succ, List.getElem?_cons_zero, bind_ok, tab_flip x.1 (hw x (List.mem_reverse.mp hx)), e_mNil, e_mkT2]
    rfl) (by rw [List.length_nil, Nat.zero_add, List.length_reverse]; omega)
  rw [flipL_map, List.nil_append] at hc
  have hb := row_bottom_eq top es hw hz'
  have hb' : m_Row_bottom [.ins "Row" [("top", .int top), ("letters", .tup (es.map entD))]] = .ok (.int (botV top es)) := hb
  have hP : mProp "Row" m_Row_bottom (mVar 0) [some (rowD top es), some (.lst ((flipL es).map entD)), none, none] = .ok (.int (botV top es)) := by
    rw [e_mProp, e_mVar]
    simp only [List.getElem?_cons_zero, bind_ok, rowD, if_true, hb', e_noX]
  have hi := row_init (botV top es) (flipL es) (flipL_w3 hw) (by rw [flipL_len]; omega)
  unfold makeV at hi
  rw [if_pos (fits_bot es top hw h0 hf), fits_go (flip_row es top hw hf)] at hi
  unfold m_Row_flipped
  rw [eg]
  simp only [e_def, e_start, List.length_cons, List.length_nil, if_true, List.map_cons, List.map_nil, List.cons_append, List.nil_append, List.replicate, e_sSeq, e_sAsg, e_mComp, e_mRev, e_mUn, e_mVar, List.getElem?_cons_zero, List.getElem?_cons_succ, bind_ok, fld_letters, e_dRevT, ← List.map_reverse, e_wipe1, e_wipe0, List.set_cons_succ, List.set_cons_zero, hc, e_sRet, e_mApp, e_mCons, hP, e_mNil, hi, e_end1]
end K69

set_option Elab.async false
set_option linter.all false
set_option maxRecDepth 100000
set_option maxHeartbeats 1000000
namespace K69
open PySem L2 T TL
/-! ### texts that stay plain lines -/
def EvS (n : Nat) (o : O D) : Prop := ∃ s, o = .ok (.str s) ∧ Ln n s
def EvI (lo hi : Int) (o : O D) : Prop := ∃ i, o = .ok (.int i) ∧ lo ≤ i ∧ i ≤ hi
def EvL (n k : Nat) (o : O (List D)) : Prop := ∃ ss : List Str, o = .ok (ss.map .str) ∧ ss.length = k ∧ ∀ s ∈ ss, Ln n s
section
variable {ρ : T.Env} {f g : T.Env → O D} {a : T.Env → O (List D)} {n m k : Nat}
theorem EvS.mono {o : O D} (h : EvS n o) (hn : n ≤ m) : EvS m o := by
  obtain ⟨s, e, l⟩ := h
  exact ⟨s, e, l.mono hn⟩
theorem evC {s : Str} (h : Ln n s) : EvS n (mC (.str s) ρ) := ⟨s, e_mC _ _, h⟩
theorem evV {i : Nat} {s : Str} (e : ρ[i]? = some (some (.str s))) (h : Ln n s) : EvS n (mVar i ρ) := ⟨s, by rw [e_mVar, e], h⟩
theorem evAdd (h1 : EvS n (f ρ)) (h2 : EvS m (g ρ)) (hz : n + m ≤ 100000) : EvS (n + m) (mBin dAdd f g ρ) := by
  obtain ⟨s, e1, l1⟩ := h1
  obtain ⟨t, e2, l2⟩ := h2
  refine ⟨s ++ t, ?_, l1.app l2⟩
  have p : s.length + t.length ≤ sizeLine := le16 (by have := l1.1; have := l2.1; omega)
  rw [e_mBin, e1, e2, bind_ok, bind_ok, e_addS, if_pos p]
theorem evL0 : EvL n 0 (mNil ρ) := ⟨[], e_mNil _, rfl, fun _ h => by cases h⟩
theorem evLc (h1 : EvS n (f ρ)) (h2 : EvL n k (a ρ)) : EvL n (k + 1) (mCons f a ρ) := by
  obtain ⟨s, e1, l1⟩ := h1
  obtain ⟨ss, e2, l2, l3⟩ := h2
  refine ⟨s :: ss, ?_, by rw [List.length_cons, l2], fun x hx => ?_⟩
  · rw [e_mCons, e1, e2, bind_ok, bind_ok]; rfl
  · rcases List.mem_cons.mp hx with rfl | hx
    · exact l1
    · exact l3 x hx
theorem evIx {hi : Int} (h1 : EvL n k (a ρ)) (h2 : EvI 0 hi (g ρ)) (hk : hi < k) (hz : k ≤ 100000) : EvS n (mBin dIx (mLst a) g ρ) := by
  obtain ⟨ss, e1, l1, l2⟩ := h1
  obtain ⟨i, e2, i0, i1⟩ := h2
  obtain ⟨j, rfl⟩ : ∃ j : Nat, i = j := ⟨i.toNat, by omega⟩
  have hj : j < ss.length := by omega
  have hx : atI (ss.map D.str) (j : Int) = some (.str ss[j]) := by rw [T.atI_nat, List.getElem?_map, List.getElem?_eq_getElem hj]; rfl
  refine ⟨ss[j], ?_, l2 _ (List.getElem_mem hj)⟩
  rw [e_mBin, e_mLst, e1, e2, bind_ok, e_mkL (by rw [List.length_map, l1]; exact le16 hz), bind_ok, bind_ok, e_ixL, hx]
theorem evUp (h : EvS n (f ρ)) (hz : n ≤ 100000) : EvS n (mM0 dUpper f ρ) := by
  obtain ⟨s, e, l⟩ := h
  have hu := PyProof.Rows.upper_ascii (x := s) fun c hc => (l.2 c hc).2
  have ht : tl (Txt.upper s) = (tl s).map PyProof.Rows.up1 := by rw [hu]; show (s.cps.map PyProof.Rows.up1).toList = _; rw [Array.toList_map]
  refine ⟨Txt.upper s, ?_, ?_, fun c hc => ?_⟩
  · have p : s.length ≤ 5592405 := by have := l.1; omega
    rw [e_mM0, e, bind_ok, e_isStr, if_pos rfl, e_upper, if_pos p, e_noX]
  · rw [len_tl, ht, List.length_map, ← len_tl]; exact l.1
  · rw [ht] at hc
    obtain ⟨d, hd, rfl⟩ := List.mem_map.mp hc
    have := l.2 d hd
    unfold PyProof.Rows.up1
    split <;> omega
theorem cut_sub (s : Str) (lo hi : Option Int) : (tl (cutS s lo hi)).Sublist (tl s) := by
  unfold cutS
  rw [tl_mk]
  exact (List.take_sublist _ _).trans (List.drop_sublist _ _)
theorem evSl {l h : T.Env → O (Option Int)} {x y : Option Int} (h1 : EvS n (f ρ)) (hl : l ρ = .ok x) (hh : h ρ = .ok y) (hz : n ≤ 100000) : EvS n (mSl dSl f l h ρ) := by
  obtain ⟨s, e, q⟩ := h1
  refine ⟨cutS s x y, ?_, q.sub (cut_sub _ _ _)⟩
  have p : s.length ≤ sizeLine := le16 (by have := q.1; omega)
  rw [e_mSl, e, hl, hh, bind_ok, bind_ok, bind_ok, e_slS, if_pos p]
theorem evStr {lo hi : Int} (h : EvI lo hi (f ρ)) (h0 : 0 ≤ lo) (h1 : hi < 10 ^ 18) : EvS 18 (mCall dStr (mCons f mNil) ρ) := by
  obtain ⟨i, e, i0, i1⟩ := h
  refine ⟨strI i, ?_, .num (by decide) (by omega) (by omega)⟩
  rw [e_mCall, e_mCons, e, bind_ok, e_mNil, bind_ok, bind_ok, strD (by omega) (by omega), e_noX]
theorem evRet (h : EvS n (f ρ)) : ∃ s, sRet f ρ = .rt (.str s) ∧ Ln n s := by
  obtain ⟨s, e, l⟩ := h
  exact ⟨s, by rw [e_sRet, e], l⟩
end
end K69

set_option Elab.async false
set_option linter.all false
set_option maxRecDepth 100000
set_option maxHeartbeats 1000000
namespace K69
open PySem L2 T TL
section
variable {ρ : T.Env} {f g : T.Env → O D} {c : T.Env → O Bool} {rest : T.Env → SO} {n m k : Nat}
theorem seqIf1 (h : c ρ = .ok true) (hn : n ≤ m) (e : EvS n (f ρ)) : ∃ z, sSeq (sIf c (sRet f) sNext) rest ρ = .rt (.str z) ∧ Ln m z := by
  obtain ⟨z, e1, l⟩ := evRet e
  exact ⟨z, by rw [e_sSeq, e_sIf, h]; dsimp only; rw [e1], l.mono hn⟩
theorem evRetM (hn : n ≤ m) (h : EvS n (f ρ)) : ∃ z, sRet f ρ = .rt (.str z) ∧ Ln m z := by
  obtain ⟨z, e1, q⟩ := evRet h
  exact ⟨z, e1, q.mono hn⟩
theorem seqIf0 (h : c ρ = .ok false) (e : ∃ z, rest ρ = .rt (.str z) ∧ Ln m z) : ∃ z, sSeq (sIf c (sRet f) sNext) rest ρ = .rt (.str z) ∧ Ln m z := by
  obtain ⟨z, e1, l⟩ := e
  exact ⟨z, by rw [e_sSeq, e_sIf, h]; dsimp only; rw [e_sNext]; exact e1, l⟩
theorem tlt {i : Nat} {a b : Int} (h : ρ[i]? = some (some (.int a))) : mTest (mBin dLt (mVar i) (mC (.int b))) ρ = .ok (decide (a < b)) := by
  rw [e_mTest, e_mBin, e_mVar, h, e_mC]; rfl
theorem teq {i : Nat} {a b : Int} (h : ρ[i]? = some (some (.int a))) : mTest (mBin dEq (mVar i) (mC (.int b))) ρ = .ok (decide (a = b)) := by
  rw [e_mTest, e_mBin, e_mVar, h, e_mC]; rfl
theorem teqS {i : Nat} {a b : Str} (h : ρ[i]? = some (some (.str a))) : mTest (mBin dEq (mVar i) (mC (.str b))) ρ = .ok (decide (a = b)) := by
  rw [e_mTest, e_mBin, e_mVar, h, e_mC]; rfl
theorem okT {p : Prop} [Decidable p] {x : O Bool} (h : x = .ok (decide p)) (hp : p) : x = .ok true := by rw [h, decide_eq_true hp]
theorem joinL_sub (S : List Nat) : ∀ (ps : List (List Nat)) (p : List Nat), p ∈ ps → p.Sublist (joinL S ps)
  | [], _, h => nomatch h
  | [q], p, h => by
    rw [List.mem_singleton.mp h]
    exact List.Sublist.refl _
  | q :: r :: t, p, h => by
    show p.Sublist (q ++ (S ++ joinL S (r :: t)))
    rcases List.mem_cons.mp h with e | h
    · rw [e]; exact List.sublist_append_left _ _
    · exact ((joinL_sub S (r :: t) p h).trans (List.sublist_append_right _ _)).trans (List.sublist_append_right _ _)
theorem okF {p : Prop} [Decidable p] {x : O Bool} (h : x = .ok (decide p)) (hp : ¬ p) : x = .ok false := by rw [h, decide_eq_false hp]
end

def slT : T.Env → SO := sSeq (sIf (mTest (mBin dLt (mVar 1) (mC (.int 4)))) (sRet (mBin dIx (mLst (mCons (mC (.str "")) (mCons (mBin dAdd (mBin dAdd (mVar 3) (mC (.str "  "))) (mVar 4)) (mCons (mBin dAdd (mVar 0) (mC (.str " "))) (mCons (mBin dAdd (mC (.str " ")) (mVar 0)) (mNil)))))) (mVar 1))) (sNext)) (sSeq (sIf (mTest (mBin dLt (mVar 1) (mC (.int 8)))) (sRet (mBin dIx (mLst (mCons (mVar 3) (mCons (mBin dAdd (mBin dAdd (mVar 0) (mC (.str " "))) (mVar 4)) (mCons (mBin dAdd (mVar 3) (mVar 4)) (mCons (mBin dAdd (mBin dAdd (mVar 3) (mC (.str " 0"))) (mVar 4)) (mNil)))))) (mBin dSub (mVar 1) (mC (.int 4))))) (sNext)) (sSeq (sIf (mTest (mBin dLt (mVar 1) (mC (.int 12)))) (sRet (mBin dIx (mLst (mCons (mBin dAdd (mVar 3) (mC (.str " -0"))) (mCons (mBin dAdd (mBin dAdd (mVar 3) (mC (.str " +"))) (mVar 4)) (mCons (mBin dAdd (mBin dAdd (mVar 4) (mC (.str " "))) (mVar 3)) (mCons (mBin dAdd (mVar 0) (mC (.str "\t"))) (mNil)))))) (mBin dSub (mVar 1) (mC (.int 8))))) (sNext)) (sSeq (sIf (mTest (mBin dEq (mVar 1) (mC (.int 12)))) (sRet (mBin dAdd (mBin dAdd (mBin dIx (mLst (mCons (mM0 dUpper (mVar 3)) (mCons (mBin dAdd (mM0 dUpper (mSl dSl (mVar 3) (mB0) (mB1 (mC (.int 1))))) (mSl dSl (mVar 3) (mB1 (mC (.int 1))) (mB0))) (mCons (mBin dAdd (mVar 3) (mC (.str "s"))) (mCons (mSl dSl (mVar 3) (mB0) (mB1 (mUn dNeg (mC (.int 1))))) (mCons (mC (.str "twist")) (mNil))))))) (mVar 5)) (mC (.str " "))) (mVar 4))) (sNext)) (sSeq (sIf (mTest (mBin dEq (mVar 1) (mC (.int 13)))) (sRet (mBin dAdd (mBin dIx (mLst (mCons (mC (.str "cross ")) (mCons (mC (.str "row ")) (mNil)))) (mCall dIntA (mCons (mBin dNe (mVar 3) (mC (.str "row"))) (mNil)))) (mVar 4))) (sNext)) (sSeq (sIf (mTest (mBin dEq (mVar 1) (mC (.int 14)))) (sRet (mBin dAdd (mVar 3) (mBin dIx (mLst (mCons (mC (.str " -")) (mCons (mC (.str " --1")) (mCons (mC (.str " 1_0")) (mCons (mC (.str " x")) (mCons (mC (.str " 1.")) (mCons (mC (.str " -07")) (mCons (mC (.str " -00")) (mCons (mC (.str " 1e2")) (mNil)))))))))) (mBin dMod (mCall dIntA (mCons (mVar 2) (mNil))) (mC (.int 8)))))) (sNext)) (sSeq (sIf (mTest (mBin dEq (mVar 1) (mC (.int 15)))) (sRet (mBin dAdd (mBin dAdd (mVar 3) (mC (.str " -"))) (mCall dStr (mCons (mBin dMul (mBin dAdd (mC (.int 1)) (mCall dIntA (mCons (mVar 2) (mNil)))) (mBin dIx (mLst (mCons (mC (.int 1)) (mCons (mBin dPow (mC (.int 10)) (mC (.int 15))) (mNil)))) (mBin dMod (mCall dIntA (mCons (mVar 2) (mNil))) (mC (.int 2))))) (mNil))))) (sNext)) (sSeq (sIf (mTest (mBin dEq (mVar 3) (mC (.str "row")))) (sRet (mBin dAdd (mBin dAdd (mVar 3) (mC (.str " "))) (mCall dStr (mCons (mBin dMod (mCall dIntA (mCons (mVar 2) (mNil))) (mC (.int 8))) (mNil))))) (sNext)) (sRet (mBin dAdd (mBin dAdd (mVar 3) (mC (.str " "))) (mCall dStr (mCons (mBin dMul (mCall dIntA (mCons (mVar 2) (mNil))) (mBin dIx (mLst (mCons (mC (.int 1)) (mCons (mC (.int 1)) (mCons (mC (.int 1)) (mCons (mC (.int 1)) (mCons (mBin dAdd (mBin dPow (mC (.int 10)) (mC (.int 16))) (mC (.int 3))) (mNil))))))) (mVar 5))) (mNil))))))))))))
theorem spoilt_tail (n : Nat) (l w nh : Str) (k s : Int) (h0 : Ln n l) (h3 : Ln n w) (h4 : Ln n nh) (hn : n ≤ 1000) (k0 : 0 ≤ k) (s0 : 0 ≤ s) (s1 : s < 60) :
    ∃ z, slT [some (.str l), some (.int k), some (.int s), some (.str w), some (.str nh), some (.int (s % 5))] = .rt (.str z) ∧ Ln (3 * n + 40) z := by
  unfold slT
  generalize hρ : [some (D.str l), some (.int k), some (.int s), some (.str w), some (.str nh), some (.int (s % 5))] = ρ
  have v0 : ρ[0]? = some (some (.str l)) := by rw [← hρ]; rfl
  have v1 : ρ[1]? = some (some (.int k)) := by rw [← hρ]; rfl
  have v2 : ρ[2]? = some (some (.int s)) := by rw [← hρ]; rfl
  have v3 : ρ[3]? = some (some (.str w)) := by rw [← hρ]; rfl
  have v4 : ρ[4]? = some (some (.str nh)) := by rw [← hρ]; rfl
  have v5 : ρ[5]? = some (some (.int (s % 5))) := by rw [← hρ]; rfl
  clear hρ
  have hb0 : mB0 ρ = .ok none := e_mB0 _
  have hb1 : mB1 (mC (.int 1)) ρ = .ok (some 1) := by rw [e_mB1, e_mC]; rfl
  have hbm : mB1 (mUn dNeg (mC (.int 1))) ρ = .ok (some (-1)) := by rw [e_mB1, e_mUn, e_mC]; rfl
  have i5 : EvI 0 4 (mVar 5 ρ) := ⟨s % 5, by rw [e_mVar, v5], by omega, by omega⟩
  have iM (j : Int) (hj : 0 < j) : mBin dMod (mCall dIntA (mCons (mVar 2) (mNil))) (mC (.int j)) ρ = .ok (.int (s % j)) := by
    rw [e_mBin, e_mCall, e_mCons, e_mVar, v2, e_mNil, e_mC]
    show (noX (dIntA [.int s]) >>= fun x => _) = _
    rw [e_intI, e_noX, bind_ok, bind_ok, modP hj]
  have i8 : EvI 0 7 (mBin dMod (mCall dIntA (mCons (mVar 2) (mNil))) (mC (.int 8)) ρ) := ⟨s % 8, iM 8 (by decide), by omega, by omega⟩
  have i7 : EvI 0 1 (mCall dIntA (mCons (mBin dNe (mVar 3) (mC (.str "row"))) (mNil)) ρ) := by
    refine ⟨if (!decide (w = "row")) = true then 1 else 0, ?_, by split <;> omega, by split <;> omega⟩
    rw [e_mCall, e_mCons, e_mBin, e_mVar, v3, e_mC, e_mNil]
    show (noX (dIntA [.bl (!decide (w = "row"))])) = _
    rw [e_intB, e_noX]
  have i9 : EvI 0 100000000000000000 (mBin dMul (mBin dAdd (mC (.int 1)) (mCall dIntA (mCons (mVar 2) (mNil)))) (mBin dIx (mLst (mCons (mC (.int 1)) (mCons (mBin dPow (mC (.int 10)) (mC (.int 15))) (mNil)))) (mBin dMod (mCall dIntA (mCons (mVar 2) (mNil))) (mC (.int 2)))) ρ) := by
    have hp : dPow (.int 10) (.int 15) = .ok (.int 1000000000000000) := by rw [e_pow, if_pos (by decide)]; rfl
    have hL : mLst (mCons (mC (.int 1)) (mCons (mBin dPow (mC (.int 10)) (mC (.int 15))) (mNil))) ρ = .ok (.lst [.int 1, .int 1000000000000000]) := by
      simp only [e_mLst, e_mCons, e_mC, e_mBin, e_mNil, bind_ok, hp, e_mkL2]
    have hA : mBin dAdd (mC (.int 1)) (mCall dIntA (mCons (mVar 2) (mNil))) ρ = .ok (.int (1 + s)) := by
      simp only [e_mBin, e_mC, e_mCall, e_mCons, e_mVar, v2, e_mNil, bind_ok, e_intI, e_noX, e_addI]
    have hI : ∃ x : Int, 0 ≤ x ∧ x ≤ 1000000000000000 ∧ mBin dIx (mLst (mCons (mC (.int 1)) (mCons (mBin dPow (mC (.int 10)) (mC (.int 15))) (mNil)))) (mBin dMod (mCall dIntA (mCons (mVar 2) (mNil))) (mC (.int 2))) ρ = .ok (.int x) := by
      rcases (show s % 2 = 0 ∨ s % 2 = 1 by omega) with q | q
      · exact ⟨1, by omega, by omega, by rw [e_mBin, hL, iM 2 (by decide), q]; simp only [bind_ok, e_ixL, atI_0, List.getElem?_cons_zero]⟩
      · exact ⟨1000000000000000, by omega, by omega, by rw [e_mBin, hL, iM 2 (by decide), q]; simp only [bind_ok, e_ixL, atI_1, List.getElem?_cons_zero, List.getElem?_cons_succ]⟩
    obtain ⟨x, x0, x1, hx⟩ := hI
    refine ⟨(1 + s) * x, by rw [e_mBin, hA, hx, bind_ok, bind_ok, mulL (by omega)], Int.mul_nonneg (by omega) x0, ?_⟩
    have := Int.mul_le_mul (show 1 + s ≤ 100 by omega) x1 x0 (by decide)
    omega
  have i10 : EvI 0 900000000000000000 (mBin dMul (mCall dIntA (mCons (mVar 2) mNil)) (mBin dIx (mLst (mCons (mC (.int 1)) (mCons (mC (.int 1)) (mCons (mC (.int 1)) (mCons (mC (.int 1)) (mCons (mBin dAdd (mBin dPow (mC (.int 10)) (mC (.int 16))) (mC (.int 3))) mNil)))))) (mVar 5)) ρ) := by
    have hp : dPow (.int 10) (.int 16) = .ok (.int 10000000000000000) := by rw [e_pow, if_pos (by decide)]; rfl
    have hL : mLst (mCons (mC (.int 1)) (mCons (mC (.int 1)) (mCons (mC (.int 1)) (mCons (mC (.int 1)) (mCons (mBin dAdd (mBin dPow (mC (.int 10)) (mC (.int 16))) (mC (.int 3))) mNil))))) ρ = .ok (.lst [.int 1, .int 1, .int 1, .int 1, .int 10000000000000003]) := by
      simp only [e_mLst, e_mCons, e_mC, e_mBin, e_mNil, bind_ok, hp, e_addI, e_mkL5]
      rfl
    have hA : mCall dIntA (mCons (mVar 2) (mNil)) ρ = .ok (.int s) := by
      simp only [e_mBin, e_mC, e_mCall, e_mCons, e_mVar, v2, e_mNil, bind_ok, e_intI, e_noX, e_addI]
    have hI : ∃ x : Int, 0 ≤ x ∧ x ≤ 10000000000000003 ∧ mBin dIx (mLst (mCons (mC (.int 1)) (mCons (mC (.int 1)) (mCons (mC (.int 1)) (mCons (mC (.int 1)) (mCons (mBin dAdd (mBin dPow (mC (.int 10)) (mC (.int 16))) (mC (.int 3))) mNil)))))) (mVar 5) ρ = .ok (.int x) := by
      rw [e_mBin, hL, e_mVar, v5]
      rcases (show s % 5 = 0 ∨ s % 5 = 1 ∨ s % 5 = 2 ∨ s % 5 = 3 ∨ s % 5 = 4 by omega) with q | q | q | q | q <;> rw [q]
      · exact ⟨1, by omega, by omega, by simp only [bind_ok, e_ixL, atI_0, List.getElem?_cons_zero, List.getElem?_cons_succ]⟩
      · exact ⟨1, by omega, by omega, by simp only [bind_ok, e_ixL, atI_1, List.getElem?_cons_zero, List.getElem?_cons_succ]⟩
      · exact ⟨1, by omega, by omega, by simp only [bind_ok, e_ixL, atI_2, List.getElem?_cons_zero, List.getElem?_cons_succ]⟩
      · exact ⟨1, by omega, by omega, by simp only [bind_ok, e_ixL, atI_3, List.getElem?_cons_zero, List.getElem?_cons_succ]⟩
      · exact ⟨10000000000000003, by omega, by omega, by simp only [bind_ok, e_ixL, atI_4, List.getElem?_cons_zero, List.getElem?_cons_succ]⟩
    obtain ⟨x, x0, x1, hx⟩ := hI
    refine ⟨s * x, by rw [e_mBin, hA, hx, bind_ok, bind_ok, mulL (by omega)], Int.mul_nonneg (by omega) x0, ?_⟩
    have := Int.mul_le_mul (show s ≤ 60 by omega) x1 x0 (by decide)
    omega
  by_cases c0 : k < 4
  · have hi0 : EvI 0 3 (mVar 1 ρ) := ⟨k, by rw [e_mVar, v1], k0, by omega⟩
    exact seqIf1 (okT (tlt v1) c0) (by omega) (evIx (k := 4) (evLc (EvS.mono (evC (Ln.lit (n := 0) (by decide +kernel))) (m := 2 * n + 12) (by omega)) (evLc (EvS.mono (evAdd (evAdd (evV v3 h3) (evC (Ln.lit (n := 2) (by decide +kernel))) (by omega)) (evV v4 h4) (by omega)) (m := 2 * n + 12) (by omega)) (evLc (EvS.mono (evAdd (evV v0 h0) (evC (Ln.lit (n := 1) (by decide +kernel))) (by omega)) (m := 2 * n + 12) (by omega)) (evLc (EvS.mono (evAdd (evC (Ln.lit (n := 1) (by decide +kernel))) (evV v0 h0) (by omega)) (m := 2 * n + 12) (by omega)) (evL0))))) hi0 (by omega) (by omega))
  refine seqIf0 (okF (tlt v1) c0) ?_
  by_cases c1 : k < 8
  · have hi1 : EvI 0 3 (mBin dSub (mVar 1) (mC (.int 4)) ρ) := ⟨k - 4, by simp only [e_mBin, e_mVar, v1, e_mC, bind_ok, e_subI], by omega, by omega⟩
    exact seqIf1 (okT (tlt v1) c1) (by omega) (evIx (k := 4) (evLc (EvS.mono (evV v3 h3) (m := 2 * n + 12) (by omega)) (evLc (EvS.mono (evAdd (evAdd (evV v0 h0) (evC (Ln.lit (n := 1) (by decide +kernel))) (by omega)) (evV v4 h4) (by omega)) (m := 2 * n + 12) (by omega)) (evLc (EvS.mono (evAdd (evV v3 h3) (evV v4 h4) (by omega)) (m := 2 * n + 12) (by omega)) (evLc (EvS.mono (evAdd (evAdd (evV v3 h3) (evC (Ln.lit (n := 2) (by decide +kernel))) (by omega)) (evV v4 h4) (by omega)) (m := 2 * n + 12) (by omega)) (evL0))))) hi1 (by omega) (by omega))
  refine seqIf0 (okF (tlt v1) c1) ?_
  by_cases c2 : k < 12
  · have hi2 : EvI 0 3 (mBin dSub (mVar 1) (mC (.int 8)) ρ) := ⟨k - 8, by simp only [e_mBin, e_mVar, v1, e_mC, bind_ok, e_subI], by omega, by omega⟩
    exact seqIf1 (okT (tlt v1) c2) (by omega) (evIx (k := 4) (evLc (EvS.mono (evAdd (evV v3 h3) (evC (Ln.lit (n := 3) (by decide +kernel))) (by omega)) (m := 2 * n + 12) (by omega)) (evLc (EvS.mono (evAdd (evAdd (evV v3 h3) (evC (Ln.lit (n := 2) (by decide +kernel))) (by omega)) (evV v4 h4) (by omega)) (m := 2 * n + 12) (by omega)) (evLc (EvS.mono (evAdd (evAdd (evV v4 h4) (evC (Ln.lit (n := 1) (by decide +kernel))) (by omega)) (evV v3 h3) (by omega)) (m := 2 * n + 12) (by omega)) (evLc (EvS.mono (evAdd (evV v0 h0) (evC (Ln.lit (n := 1) (by decide +kernel))) (by omega)) (m := 2 * n + 12) (by omega)) (evL0))))) hi2 (by omega) (by omega))
  refine seqIf0 (okF (tlt v1) c2) ?_
  by_cases c3 : k = 12
  · exact seqIf1 (okT (teq v1) c3) (by omega) (evAdd (evAdd (evIx (k := 5) (evLc (EvS.mono (evUp (evV v3 h3) (by omega)) (m := 2 * n + 12) (by omega)) (evLc (EvS.mono (evAdd (evUp (evSl (evV v3 h3) hb0 hb1 (by omega)) (by omega)) (evSl (evV v3 h3) hb1 hb0 (by omega)) (by omega)) (m := 2 * n + 12) (by omega)) (evLc (EvS.mono (evAdd (evV v3 h3) (evC (Ln.lit (n := 1) (by decide +kernel))) (by omega)) (m := 2 * n + 12) (by omega)) (evLc (EvS.mono (evSl (evV v3 h3) hb0 hbm (by omega)) (m := 2 * n + 12) (by omega)) (evLc (EvS.mono (evC (Ln.lit (n := 5) (by decide +kernel))) (m := 2 * n + 12) (by omega)) (evL0)))))) i5 (by omega) (by omega)) (evC (Ln.lit (n := 1) (by decide +kernel))) (by omega)) (evV v4 h4) (by omega))
  refine seqIf0 (okF (teq v1) c3) ?_
  by_cases c4 : k = 13
  · exact seqIf1 (okT (teq v1) c4) (by omega) (evAdd (evIx (k := 2) (evLc (EvS.mono (evC (Ln.lit (n := 6) (by decide +kernel))) (m := 2 * n + 12) (by omega)) (evLc (EvS.mono (evC (Ln.lit (n := 4) (by decide +kernel))) (m := 2 * n + 12) (by omega)) (evL0))) i7 (by omega) (by omega)) (evV v4 h4) (by omega))
  refine seqIf0 (okF (teq v1) c4) ?_
  by_cases c5 : k = 14
  · exact seqIf1 (okT (teq v1) c5) (by omega) (evAdd (evV v3 h3) (evIx (k := 8) (evLc (EvS.mono (evC (Ln.lit (n := 2) (by decide +kernel))) (m := 2 * n + 12) (by omega)) (evLc (EvS.mono (evC (Ln.lit (n := 4) (by decide +kernel))) (m := 2 * n + 12) (by omega)) (evLc (EvS.mono (evC (Ln.lit (n := 4) (by decide +kernel))) (m := 2 * n + 12) (by omega)) (evLc (EvS.mono (evC (Ln.lit (n := 2) (by decide +kernel))) (m := 2 * n + 12) (by omega)) (evLc (EvS.mono (evC (Ln.lit (n := 3) (by decide +kernel))) (m := 2 * n + 12) (by omega)) (evLc (EvS.mono (evC (Ln.lit (n := 4) (by decide +kernel))) (m := 2 * n + 12) (by omega)) (evLc (EvS.mono (evC (Ln.lit (n := 4) (by decide +kernel))) (m := 2 * n + 12) (by omega)) (evLc (EvS.mono (evC (Ln.lit (n := 4) (by decide +kernel))) (m := 2 * n + 12) (by omega)) (evL0))))))))) i8 (by omega) (by omega)) (by omega))
  refine seqIf0 (okF (teq v1) c5) ?_
  by_cases c6 : k = 15
  · exact seqIf1 (okT (teq v1) c6) (by omega) (evAdd (evAdd (evV v3 h3) (evC (Ln.lit (n := 2) (by decide +kernel))) (by omega)) (evStr (lo := 0) i9 (by omega) (by omega)) (by omega))
  refine seqIf0 (okF (teq v1) c6) ?_
  by_cases c7 : w = "row"
  · exact seqIf1 (okT (teqS v3) c7) (by omega) (evAdd (evAdd (evV v3 h3) (evC (Ln.lit (n := 1) (by decide +kernel))) (by omega)) (evStr (lo := 0) i8 (by omega) (by omega)) (by omega))
  refine seqIf0 (okF (teqS v3) c7) ?_
  exact evRetM (by omega) (evAdd (evAdd (evV v3 h3) (evC (Ln.lit (n := 1) (by decide +kernel))) (by omega)) (evStr (lo := 0) i10 (by omega) (by omega)) (by omega))
theorem spoilt_line (n : Nat) (l : Str) (k s : Int) (h0 : Ln n l) (hn : n ≤ 1000) (k0 : 0 ≤ k) (s0 : 0 ≤ s) (s1 : s < 60) :
    ∃ z, m__law_spoilt_line [.str l, .int k, .int s] = .ok (.str z) ∧ Ln (3 * n + 40) z := by
  have eg : g__law_spoilt_line = sSeq (sAsg 3 (mBin dIx (mM1 dSplit (mVar 0) (mC (.str " "))) (mC (.int 0)))) (sSeq (sAsg 4 (mSl dSl (mVar 0) (mB1 (mBin dAdd (mCall dLen (mCons (mVar 3) (mNil))) (mC (.int 1)))) (mB0))) (sSeq (sAsg 5 (mBin dMod (mCall dIntA (mCons (mVar 2) (mNil))) (mC (.int 5)))) slT)) := rfl
  have piece_sub : ∀ p, p ∈ Txt.split l " " → (tl p).Sublist (tl l) := fun p hp => by
    have e := StrLaws.join_split l " "
    rw [← e, tl_join]
    exact joinL_sub _ _ _ (List.mem_map.mpr ⟨p, hp, rfl⟩)
  cases e : Txt.split l " " with
  | nil => exact absurd e (split_sp_ne l)
  | cons w r =>
    have hw : Ln n w := h0.sub (piece_sub w (by rw [e]; exact List.mem_cons_self))
    have hnh : Ln n (cutS l (some ((w.length : Int) + 1)) none) := h0.sub (cut_sub _ _ _)
    obtain ⟨z, hz, q⟩ := spoilt_tail n l w (cutS l (some ((w.length : Int) + 1)) none) k s h0 hw hnh hn k0 s0 s1
    refine ⟨z, ?_, q⟩
    have p1 : l.length + 2 ≤ sizeLine := le16 (by have := h0.1; omega)
    have p2 : l.length ≤ sizeLine := le16 (by have := h0.1; omega)
    have p3 : w.length ≤ sizeLine := le16 (by have := hw.1; omega)
    unfold m__law_spoilt_line
    rw [eg]
    simp only [e_def, e_start, List.length_cons, List.length_nil, if_true, List.map_cons, List.map_nil, List.cons_append, List.nil_append, List.replicate, e_sSeq, e_sAsg, e_mBin, e_mM1, e_mVar, e_mC, List.getElem?_cons_zero, List.getElem?_cons_succ, bind_ok, e_isStr, splitL l " " sp1 p1, e, e_noX, e_ixL, atI_0, List.set_cons_zero, List.set_cons_succ, e_mSl, e_mB1, e_mCall, e_mCons, e_mNil, e_lenS, if_pos p3, e_addI, e_asInt, e_mB0, e_slS, if_pos p2, e_intI, modP (show (0 : Int) < 5 by decide), hz, e_end1]
end K69

set_option Elab.async false
set_option linter.all false
set_option maxRecDepth 100000
set_option maxHeartbeats 1000000
namespace K69
open PySem L2 T TL
theorem cutD_take (xs : List D) (a : Nat) (h : a ≤ xs.length) : cutD xs none (some (a : Int)) = xs.take a := by
  unfold cutD
  rw [HT.sIx_none, HT.sIx_nat, Nat.min_eq_left h, List.drop_zero, Nat.sub_zero]
theorem cutD_drop (xs : List D) (a : Nat) (h : a ≤ xs.length) : cutD xs (some (a : Int)) none = xs.drop a := by
  unfold cutD
  rw [HT.sIx_none, HT.sIx_nat, Nat.min_eq_left h]
  exact List.take_of_length_le (by rw [List.length_drop]; exact Nat.le_refl _)
theorem joinL_snoc (S q : List Nat) : ∀ ps : List (List Nat), ps ≠ [] → joinL S (ps ++ [q]) = joinL S ps ++ (S ++ q)
  | [], h => absurd rfl h
  | [p], _ => rfl
  | p :: r :: t, _ => by
    show p ++ (S ++ joinL S ((r :: t) ++ [q])) = (p ++ (S ++ joinL S (r :: t))) ++ (S ++ q)
    rw [joinL_snoc S q (r :: t) (by simp), List.append_assoc, List.append_assoc]
theorem nt_of {n m : Nat} {ls : List Str} (hl : ∀ l ∈ ls, Ln n l) (hm : ls.length ≤ m) (h1 : 1 ≤ m) : Nt n m (Txt.join "\n" ls) := by
  cases ls with
  | nil => exact ⟨[""], by simp, h1, fun l h => by rw [List.mem_singleton.mp h]; exact (Ln.lit (n := 0) (by decide +kernel)).mono (Nat.zero_le _), by rw [join_eq, join_eq]; apply ext_tl; rw [tl_join, tl_join]; decide +kernel⟩
  | cons a r => exact ⟨a :: r, by simp, hm, hl, rfl⟩
theorem tl_nl_join (ls : List Str) : tl (Txt.join "\n" ls) = joinL [10] (ls.map tl) := by rw [join_eq, tl_join, nl_tl]
theorem join_back (ls : List Str) (h : ls ≠ []) : Txt.join "\n" ls ++ "\n" = Txt.join "\n" (ls ++ [("" : Str)]) := by
  apply ext_tl
  rw [tl_append, tl_nl_join, tl_nl_join, List.map_append, List.map_singleton, joinL_snoc _ _ _ (by simpa using h), nl_tl]
  congr 1
theorem join_fore (ls : List Str) (h : ls ≠ []) : ("\n" : Str) ++ Txt.join "\n" ls = Txt.join "\n" ("" :: ls) := by
  apply ext_tl
  rw [tl_append, tl_nl_join, tl_nl_join, nl_tl]
  cases ls with
  | nil => exact absurd rfl h
  | cons a r => rw [List.map_cons, List.map_cons]; show [10] ++ _ = tl "" ++ ([10] ++ _); rw [show tl ("" : Str) = [] from by decide +kernel, List.nil_append]
section
variable {ρ : T.Env} {f g : T.Env → O D} {c : T.Env → O Bool} {rest : T.Env → SO} {n m k : Nat} {P : Str → Prop}
theorem seqP1 (h : c ρ = .ok true) (e : ∃ z, f ρ = .ok (.str z) ∧ P z) : ∃ z, sSeq (sIf c (sRet f) sNext) rest ρ = .rt (.str z) ∧ P z := by
  obtain ⟨z, e1, l⟩ := e
  exact ⟨z, by rw [e_sSeq, e_sIf, h]; dsimp only; rw [e_sRet, e1], l⟩
theorem seqP0 (h : c ρ = .ok false) (e : ∃ z, rest ρ = .rt (.str z) ∧ P z) : ∃ z, sSeq (sIf c (sRet f) sNext) rest ρ = .rt (.str z) ∧ P z := by
  obtain ⟨z, e1, l⟩ := e
  exact ⟨z, by rw [e_sSeq, e_sIf, h]; dsimp only; rw [e_sNext]; exact e1, l⟩
theorem evJoin {ls : List Str} (h : f ρ = .ok (.lst (ls.map .str))) (hl : ∀ l ∈ ls, Ln n l) (hm : ls.length ≤ m) (h1 : 1 ≤ m) (hb : m * (n + 1) ≤ 100000) : ∃ z, mM1 dJoin (mC (.str "\n")) f ρ = .ok (.str z) ∧ Nt n m z :=
  ⟨_, by rw [e_mM1, e_mC, bind_ok, e_isStr, if_pos rfl, h, bind_ok, joinD hm (fun l hl' => (hl l hl').1) hb, e_noX], nt_of hl hm h1⟩
theorem evCat {a b : List Str} (h1 : f ρ = .ok (.lst (a.map .str))) (h2 : g ρ = .ok (.lst (b.map .str))) (hz : a.length + b.length ≤ 100000) : mBin dAdd f g ρ = .ok (.lst ((a ++ b).map .str)) := by
  rw [e_mBin, h1, h2, bind_ok, bind_ok, e_addL, List.length_map, List.length_map, if_pos (le16 hz), List.map_append]
theorem evTake {ls : List Str} {a : Nat} (h1 : f ρ = .ok (.lst (ls.map .str))) (h2 : g ρ = .ok (.int (a : Int))) (ha : a ≤ ls.length) : mSl dSl f mB0 (mB1 g) ρ = .ok (.lst ((ls.take a).map .str)) := by
  simp only [e_mSl, h1, h2, bind_ok, e_mB0, e_mB1, e_asInt, e_slL, cutD_take (ls.map D.str) a (by rw [List.length_map]; exact ha), List.map_take]
theorem evDrop {ls : List Str} {a : Nat} (h1 : f ρ = .ok (.lst (ls.map .str))) (h2 : g ρ = .ok (.int (a : Int))) (ha : a ≤ ls.length) : mSl dSl f (mB1 g) mB0 ρ = .ok (.lst ((ls.drop a).map .str)) := by
  simp only [e_mSl, h1, h2, bind_ok, e_mB0, e_mB1, e_asInt, e_slL, cutD_drop (ls.map D.str) a (by rw [List.length_map]; exact ha), List.map_drop]
theorem evAt {ls : List Str} {a : Nat} {l : Str} (h1 : f ρ = .ok (.lst (ls.map .str))) (h2 : g ρ = .ok (.int (a : Int))) (ha : ls[a]? = some l) : mBin dIx f g ρ = .ok (.str l) := by
  have hx : atI (ls.map D.str) (a : Int) = some (.str l) := by rw [T.atI_nat, List.getElem?_map, ha]; rfl
  rw [e_mBin, h1, h2, bind_ok, bind_ok, e_ixL, hx]
theorem evOne {l : Str} (h : f ρ = .ok (.str l)) : mLst (mCons f mNil) ρ = .ok (.lst ([l].map .str)) := by
  rw [e_mLst, e_mCons, h, e_mNil, bind_ok, bind_ok, bind_ok, e_mkL1]; rfl
end

def snT : T.Env → SO := sSeq (sIf (mAnd (mTest (mBin dLt (mVar 1) (mC (.int 17)))) (mTest (mBin dIn (mC (.str " ")) (mBin dIx (mVar 4) (mVar 5))))) (sRet (mM1 dJoin (mC (.str "\n")) (mBin dAdd (mBin dAdd (mSl dSl (mVar 4) (mB0) (mB1 (mVar 5))) (mLst (mCons (mApp m__law_spoilt_line (mCons (mBin dIx (mVar 4) (mVar 5)) (mCons (mVar 1) (mCons (mVar 3) (mNil))))) (mNil)))) (mSl dSl (mVar 4) (mB1 (mBin dAdd (mVar 5) (mC (.int 1)))) (mB0))))) (sNext)) (sSeq (sIf (mTest (mBin dEq (mVar 1) (mC (.int 17)))) (sRet (mBin dAdd (mVar 0) (mC (.str "\n")))) (sNext)) (sSeq (sIf (mTest (mBin dEq (mVar 1) (mC (.int 18)))) (sRet (mBin dAdd (mC (.str "\n")) (mVar 0))) (sNext)) (sSeq (sIf (mTest (mBin dEq (mVar 1) (mC (.int 19)))) (sRet (mM1 dJoin (mC (.str "\n")) (mBin dAdd (mSl dSl (mVar 4) (mB0) (mB1 (mVar 5))) (mSl dSl (mVar 4) (mB1 (mBin dAdd (mVar 5) (mC (.int 1)))) (mB0))))) (sNext)) (sSeq (sIf (mTest (mBin dEq (mVar 1) (mC (.int 20)))) (sRet (mM1 dJoin (mC (.str "\n")) (mBin dAdd (mBin dAdd (mSl dSl (mVar 4) (mB0) (mB1 (mVar 5))) (mLst (mCons (mBin dIx (mVar 4) (mVar 5)) (mNil)))) (mSl dSl (mVar 4) (mB1 (mVar 5)) (mB0))))) (sNext)) (sSeq (sIf (mTest (mBin dEq (mVar 1) (mC (.int 21)))) (sRet (mM1 dJoin (mC (.str "\n")) (mComp (mRange1 (mCons (mCall dLen (mCons (mVar 4) (mNil))) (mNil))) [7] (.nm 7) (mYes) (mBin dIx (mLst (mCons (mBin dIx (mVar 4) (mVar 7)) (mCons (mBin dIx (mVar 4) (mVar 6)) (mCons (mBin dIx (mVar 4) (mVar 5)) (mNil))))) (mBin dAdd (mCall dIntA (mCons (mBin dEq (mVar 7) (mVar 5)) (mNil))) (mBin dMul (mC (.int 2)) (mCall dIntA (mCons (mAndV (mBin dEq (mVar 7) (mVar 6)) (mBin dNe (mVar 7) (mVar 5))) (mNil))))))))) (sNext)) (sRet (mC (.str ""))))))))
def piE : T.Env → O D := mBin dIx (mLst (mCons (mBin dIx (mVar 4) (mVar 7)) (mCons (mBin dIx (mVar 4) (mVar 6)) (mCons (mBin dIx (mVar 4) (mVar 5)) (mNil))))) (mBin dAdd (mCall dIntA (mCons (mBin dEq (mVar 7) (mVar 5)) (mNil))) (mBin dMul (mC (.int 2)) (mCall dIntA (mCons (mAndV (mBin dEq (mVar 7) (mVar 6)) (mBin dNe (mVar 7) (mVar 5))) (mNil)))))
def pickL (ls : List Str) (a b k : Nat) : Str := if k = a then ls.getD b "" else if k = b then ls.getD a "" else ls.getD k ""
theorem getD_some {ls : List Str} {k : Nat} (h : k < ls.length) : ls[k]? = some (ls.getD k "") := by
  rw [List.getD_eq_getElem?_getD, List.getElem?_eq_getElem h]; rfl
theorem piE_run (v0 v1 v2 v3 : Option D) (ls : List Str) (a b k : Nat) (ha : a < ls.length) (hb : b < ls.length) (hk : k < ls.length) :
    piE [v0, v1, v2, v3, some (.lst (ls.map .str)), some (.int (a : Int)), some (.int (b : Int)), some (.int (k : Int))] = .ok (.str (pickL ls a b k)) := by
  have h1 := evAt (ρ := [v0, v1, v2, v3, some (.lst (ls.map .str)), some (.int (a : Int)), some (.int (b : Int)), some (.int (k : Int))]) (f := mVar 4) (g := mVar 7) (ls := ls) (e_mVar _ 4) (e_mVar _ 7) (getD_some hk)
  have h2 := evAt (ρ := [v0, v1, v2, v3, some (.lst (ls.map .str)), some (.int (a : Int)), some (.int (b : Int)), some (.int (k : Int))]) (f := mVar 4) (g := mVar 6) (ls := ls) (e_mVar _ 4) (e_mVar _ 6) (getD_some hb)
  have h3 := evAt (ρ := [v0, v1, v2, v3, some (.lst (ls.map .str)), some (.int (a : Int)), some (.int (b : Int)), some (.int (k : Int))]) (f := mVar 4) (g := mVar 5) (ls := ls) (e_mVar _ 4) (e_mVar _ 5) (getD_some ha)
  unfold piE
  rw [e_mBin, e_mLst, e_mCons, h1, e_mCons, h2, e_mCons, h3, e_mNil]
  simp only [bind_ok, e_mkL3, e_mBin, e_mCall, e_mCons, e_mNil, e_mVar, e_mC, List.getElem?_cons_succ, List.getElem?_cons_zero, e_eqI, e_neI, e_mAndV, e_asB, e_noX]
  have q1 : (k = a) ↔ ((k : Int) = (a : Int)) := by omega
  have q2 : (k = b) ↔ ((k : Int) = (b : Int)) := by omega
  have m0 := dm0
  have m1 := dm1
  unfold pickL
  simp only [q1, q2]
  by_cases p1 : (k : Int) = (a : Int)
  · simp only [decide_eq_true p1, if_pos p1, Bool.not_true, bind_ok, e_intB, e_noX, ite_self, if_true, Bool.false_eq_true, if_false, m0, e_addI]
    simp only [Int.add_zero, Int.zero_add, e_ixL, atI_1, List.getElem?_cons_succ, List.getElem?_cons_zero]
  · by_cases p2 : (k : Int) = (b : Int)
    · simp only [decide_eq_true p2, decide_eq_false p1, if_neg p1, if_pos p2, Bool.not_false, bind_ok, e_intB, e_noX, if_true, Bool.false_eq_true, if_false, m1, e_addI]
      simp only [Int.add_zero, Int.zero_add, e_ixL, atI_2, List.getElem?_cons_succ, List.getElem?_cons_zero]
    · simp only [decide_eq_false p2, decide_eq_false p1, if_neg p1, if_neg p2, Bool.not_false, bind_ok, e_intB, e_noX, if_true, Bool.false_eq_true, if_false, m0, e_addI]
      simp only [Int.add_zero, Int.zero_add, e_ixL, atI_0, List.getElem?_cons_succ, List.getElem?_cons_zero]

end K69

set_option Elab.async false
set_option linter.all false
set_option maxRecDepth 100000
set_option maxHeartbeats 1000000
namespace K69
open PySem L2 T TL
theorem pick_mem (ls : List Str) (a b k : Nat) (ha : a < ls.length) (hb : b < ls.length) (hk : k < ls.length) : pickL ls a b k ∈ ls := by
  have g : ∀ j, j < ls.length → ls.getD j "" ∈ ls := fun j hj => List.mem_of_getElem? (getD_some hj)
  unfold pickL
  split
  · exact g b hb
  · split
    · exact g a ha
    · exact g k hk
theorem sp_in (l : Str) : ∃ q : Bool, dIn (.str " ") (.str l) = .ok (.bl q) := by
  have e : (" " : Str) = ⟨#[32]⟩ := ((one_char 32 " " 32 sp_tl).mpr rfl).symm
  rw [e, e_in1]
  exact ⟨_, rfl⟩
theorem spoilt_tail2 (n m : Nat) (ls : List Str) (a b : Nat) (k p s : Int) (hn0 : ls ≠ []) (hl : ∀ l ∈ ls, Ln n l) (hm : ls.length ≤ m) (ha : a < ls.length) (hb : b < ls.length) (hn : n ≤ 200) (hm1 : m ≤ 100) (k0 : 0 ≤ k) (s0 : 0 ≤ s) (s1 : s < 60) :
    ∃ z, snT [some (.str (Txt.join "\n" ls)), some (.int k), some (.int p), some (.int s), some (.lst (ls.map .str)), some (.int (a : Int)), some (.int (b : Int)), none] = .rt (.str z) ∧ Nt (3 * n + 40) (m + 1) z := by
  unfold snT
  generalize hρ : [some (D.str (Txt.join "\n" ls)), some (.int k), some (.int p), some (.int s), some (.lst (ls.map .str)), some (.int (a : Int)), some (.int (b : Int)), none] = ρ
  have v0 : ρ[0]? = some (some (.str (Txt.join "\n" ls))) := by rw [← hρ]; rfl
  have v1 : ρ[1]? = some (some (.int k)) := by rw [← hρ]; rfl
  have v3 : ρ[3]? = some (some (.int s)) := by rw [← hρ]; rfl
  have e4 : mVar 4 ρ = .ok (.lst (ls.map .str)) := by rw [e_mVar, ← hρ]; rfl
  have e5 : mVar 5 ρ = .ok (.int (a : Int)) := by rw [e_mVar, ← hρ]; rfl
  have e51 : mBin dAdd (mVar 5) (mC (.int 1)) ρ = .ok (.int ((a + 1 : Nat) : Int)) := by rw [e_mBin, e5, e_mC, bind_ok, bind_ok, e_addI]; rfl
  obtain ⟨l, hla⟩ : ∃ l, ls[a]? = some l := ⟨_, List.getElem?_eq_getElem ha⟩
  have hlm : l ∈ ls := List.mem_of_getElem? hla
  have eAt := evAt e4 e5 hla
  have eT := evTake e4 e5 (by omega)
  have eD := evDrop e4 e51 (by omega)
  have eD0 := evDrop e4 e5 (by omega)
  have b1 : (m + 1) * (3 * n + 40 + 1) ≤ 100000 := Nat.le_trans (Nat.mul_le_mul (show m + 1 ≤ 101 by omega) (show 3 * n + 40 + 1 ≤ 641 by omega)) (by decide)
  have wide : ∀ l ∈ ls, Ln (3 * n + 40) l := fun l h => (hl l h).mono (by omega)
  have lT : (ls.take a).length = a := by rw [List.length_take]; omega
  have lD : (ls.drop (a + 1)).length = ls.length - (a + 1) := List.length_drop
  have lD0 : (ls.drop a).length = ls.length - a := List.length_drop
  obtain ⟨q, hq⟩ := sp_in l
  have hlen : dLen [.lst (ls.map .str)] = .ok (.int (ls.length : Int)) := by rw [e_lenL, List.length_map]
  have rest : ∃ z, sSeq (sIf (mTest (mBin dEq (mVar 1) (mC (.int 17)))) (sRet (mBin dAdd (mVar 0) (mC (.str "\n")))) (sNext)) (sSeq (sIf (mTest (mBin dEq (mVar 1) (mC (.int 18)))) (sRet (mBin dAdd (mC (.str "\n")) (mVar 0))) (sNext)) (sSeq (sIf (mTest (mBin dEq (mVar 1) (mC (.int 19)))) (sRet (mM1 dJoin (mC (.str "\n")) (mBin dAdd (mSl dSl (mVar 4) (mB0) (mB1 (mVar 5))) (mSl dSl (mVar 4) (mB1 (mBin dAdd (mVar 5) (mC (.int 1)))) (mB0))))) (sNext)) (sSeq (sIf (mTest (mBin dEq (mVar 1) (mC (.int 20)))) (sRet (mM1 dJoin (mC (.str "\n")) (mBin dAdd (mBin dAdd (mSl dSl (mVar 4) (mB0) (mB1 (mVar 5))) (mLst (mCons (mBin dIx (mVar 4) (mVar 5)) (mNil)))) (mSl dSl (mVar 4) (mB1 (mVar 5)) (mB0))))) (sNext)) (sSeq (sIf (mTest (mBin dEq (mVar 1) (mC (.int 21)))) (sRet (mM1 dJoin (mC (.str "\n")) (mComp (mRange1 (mCons (mCall dLen (mCons (mVar 4) (mNil))) (mNil))) [7] (.nm 7) (mYes) piE))) (sNext)) (sRet (mC (.str ""))))))) ρ = .rt (.str z) ∧ Nt (3 * n + 40) (m + 1) z := by
    have hj : (Txt.join "\n" ls).length + 1 ≤ sizeLine := by
      have h1 := join_len hl
      have h2 : ls.length * (n + 1) ≤ 100 * 201 := Nat.mul_le_mul (by omega) (by omega)
      exact le16 (by omega)
    by_cases c1 : k = 17
    · refine seqP1 (okT (teq v1) c1) ⟨_, ?_, ls ++ [("" : Str)], by simp, by rw [List.length_append, List.length_singleton]; omega, ?_, rfl⟩
      · rw [← join_back ls hn0, e_mBin, e_mVar, v0, e_mC]
        simp only [bind_ok, e_addS, nl_len, if_pos hj]
      · intro x hx
        rcases List.mem_append.mp hx with h | h
        · exact wide x h
        · rw [List.mem_singleton.mp h]; exact (Ln.lit (n := 0) (by decide +kernel)).mono (Nat.zero_le _)
    refine seqP0 (okF (teq v1) c1) ?_
    by_cases c2 : k = 18
    · refine seqP1 (okT (teq v1) c2) ⟨_, ?_, "" :: ls, by simp, by rw [List.length_cons]; omega, ?_, rfl⟩
      · rw [← join_fore ls hn0, e_mBin, e_mVar, v0, e_mC]
        simp only [bind_ok, e_addS, nl_len, if_pos (show 1 + (Txt.join "\n" ls).length ≤ sizeLine by omega)]
      · intro x hx
        rcases List.mem_cons.mp hx with h | h
        · rw [h]; exact (Ln.lit (n := 0) (by decide +kernel)).mono (Nat.zero_le _)
        · exact wide x h
    refine seqP0 (okF (teq v1) c2) ?_
    by_cases c3 : k = 19
    · exact seqP1 (okT (teq v1) c3) (evJoin (evCat eT eD (by omega)) (fun x hx => (List.mem_append.mp hx).elim (fun h => wide x (List.mem_of_mem_take h)) fun h => wide x (List.mem_of_mem_drop h)) (by rw [List.length_append]; omega) (by omega) b1)
    refine seqP0 (okF (teq v1) c3) ?_
    by_cases c4 : k = 20
    · exact seqP1 (okT (teq v1) c4) (evJoin (evCat (evCat eT (evOne eAt) (by rw [List.length_singleton]; omega)) eD0 (by rw [List.length_append, List.length_singleton]; omega)) (fun x hx => (List.mem_append.mp hx).elim (fun h => (List.mem_append.mp h).elim (fun h => wide x (List.mem_of_mem_take h)) (fun h => by rw [List.mem_singleton.mp h]; exact wide _ hlm)) fun h => wide x (List.mem_of_mem_drop h)) (by rw [List.length_append, List.length_append, List.length_singleton]; omega) (by omega) b1)
    refine seqP0 (okF (teq v1) c4) ?_
    by_cases c5 : k = 21
    · have hc := compD_mem (tg := .nm 7) (e := piE) (ρ := wipeD ρ [7]) (fd := fun (i : Nat) => D.int i) (fz := fun i => .str (pickL ls a b i)) (List.range' 0 ls.length) [] (fun x hx => by
        have hx' : x < ls.length := by
          have := List.mem_range'.mp hx
          obtain ⟨i, h1, h2⟩ := this
          omega
        refine ⟨_, by rw [← hρ]; rfl, piE_run _ _ _ _ ls a b x ha hb hx'⟩) (by rw [List.length_nil, Nat.zero_add, List.length_range']; exact le16 (by omega))
      rw [List.nil_append, ← range0] at hc
      have hok : okR 0 (ls.length : Int) = true := okR_nat (a := 0) (by omega) (by omega)
      have eC : mComp (mRange1 (mCons (mCall dLen (mCons (mVar 4) (mNil))) (mNil))) [7] (.nm 7) (mYes) piE ρ = .ok (.lst (((List.range' 0 ls.length).map fun i => pickL ls a b i).map .str)) := by
        rw [e_mComp, e_mRange1, e_mCons, e_mCall, e_mCons, e4, e_mNil]
        simp only [bind_ok, hlen, e_noX, e_dRange1, hok, if_true, hc, List.map_map]
        rfl
      refine seqP1 (okT (teq v1) c5) (evJoin eC (fun x hx => ?_) (by rw [List.length_map, List.length_range']; omega) (by omega) b1)
      obtain ⟨i, hi, rfl⟩ := List.mem_map.mp hx
      obtain ⟨j, h1, h2⟩ := List.mem_range'.mp hi
      exact wide _ (pick_mem ls a b i ha hb (by omega))
    refine seqP0 (okF (teq v1) c5) ⟨"", by rw [e_sRet, e_mC], [""], by simp, by simp, ?_, ?_⟩
    · intro x h
      rw [List.mem_singleton.mp h]; exact (Ln.lit (n := 0) (by decide +kernel)).mono (Nat.zero_le _)
    · decide +kernel
  by_cases c0 : k < 17
  · cases q with
    | true =>
      obtain ⟨z, hz, lz⟩ := spoilt_line n l k s (hl l hlm) (by omega) k0 s0 s1
      have eL : mApp m__law_spoilt_line (mCons (mBin dIx (mVar 4) (mVar 5)) (mCons (mVar 1) (mCons (mVar 3) (mNil)))) ρ = .ok (.str z) := by
        rw [e_mApp, e_mCons, eAt, e_mCons, e_mVar, v1, e_mCons, e_mVar, v3, e_mNil]
        exact hz
      refine seqP1 ?_ (evJoin (evCat (evCat eT (evOne eL) (by rw [List.length_singleton]; omega)) eD (by rw [List.length_append, List.length_singleton]; omega)) (fun x hx => (List.mem_append.mp hx).elim (fun h => (List.mem_append.mp h).elim (fun h => wide x (List.mem_of_mem_take h)) (fun h => by rw [List.mem_singleton.mp h]; exact lz)) fun h => wide x (List.mem_of_mem_drop h)) (by rw [List.length_append, List.length_append, List.length_singleton]; omega) (by omega) b1)
      rw [e_mAnd, okT (tlt v1) c0, bind_ok, if_pos rfl, e_mTest, e_mBin, e_mC, eAt, bind_ok, bind_ok, hq]
      rfl
    | false =>
      refine seqP0 ?_ rest
      rw [e_mAnd, okT (tlt v1) c0, bind_ok, if_pos rfl, e_mTest, e_mBin, e_mC, eAt, bind_ok, bind_ok, hq]
      rfl
  · refine seqP0 ?_ rest
    rw [e_mAnd, okF (tlt v1) c0, bind_ok]
    rfl
theorem spoilt_note (n m : Nat) (t : Str) (k p s : Int) (h : Nt n m t) (hn : n ≤ 200) (hm1 : m ≤ 100) (k0 : 0 ≤ k) (p0 : 0 ≤ p) (s0 : 0 ≤ s) (s1 : s < 60) :
    ∃ z, m__law_spoilt_note [.str t, .int k, .int p, .int s] = .ok (.str z) ∧ Nt (3 * n + 40) (m + 1) z := by
  obtain ⟨ls, hn0, hm, hl, rfl⟩ := h
  have hj : (Txt.join "\n" ls).length + 2 ≤ sizeLine := by
    have h1 := join_len hl
    have h2 : ls.length * (n + 1) ≤ 100 * 201 := Nat.mul_le_mul (by omega) (by omega)
    exact le16 (by omega)
  have hL : 0 < ls.length := List.length_pos_iff.mpr hn0
  have hLi : (0 : Int) < (ls.length : Int) := by omega
  obtain ⟨b, hb, eb⟩ : ∃ b : Nat, b < ls.length ∧ s % (ls.length : Int) = b := ⟨(s % (ls.length : Int)).toNat, by have := Int.emod_lt_of_pos s hLi; have := Int.emod_nonneg s (show (ls.length : Int) ≠ 0 by omega); omega, by have := Int.emod_nonneg s (show (ls.length : Int) ≠ 0 by omega); omega⟩
  obtain ⟨a1, ha1, ea1⟩ : ∃ b : Nat, b < ls.length ∧ p % (ls.length : Int) = b := ⟨(p % (ls.length : Int)).toNat, by have := Int.emod_lt_of_pos p hLi; have := Int.emod_nonneg p (show (ls.length : Int) ≠ 0 by omega); omega, by have := Int.emod_nonneg p (show (ls.length : Int) ≠ 0 by omega); omega⟩
  have eg : g__law_spoilt_note = sSeq (sAsg 4 (mM1 dSplit (mVar 0) (mC (.str "\n")))) (sSeq (sAsg 5 (mBin dMod (mCall dIntA (mCons (mVar 2) (mNil))) (mCall dLen (mCons (mVar 4) (mNil))))) (sSeq (sIf (mTest (mBin dLt (mVar 2) (mC (.int 15)))) (sSeq (sAsg 5 (mC (.int 0))) (sNext)) (sNext)) (sSeq (sAsg 6 (mBin dMod (mCall dIntA (mCons (mVar 3) (mNil))) (mCall dLen (mCons (mVar 4) (mNil))))) snT))) := rfl
  have key : ∀ a : Nat, a < ls.length → (∀ k : Nat, True) → ∃ z, snT [some (.str (Txt.join "\n" ls)), some (.int k), some (.int p), some (.int s), some (.lst (ls.map .str)), some (.int (a : Int)), some (.int (b : Int)), none] = .rt (.str z) ∧ Nt (3 * n + 40) (m + 1) z := fun a ha _ => spoilt_tail2 n m ls a b k p s hn0 hl hm ha hb hn hm1 k0 s0 s1
  have hs := split_lines hn0 hl
  have sp := splitL (Txt.join "\n" ls) "\n" nl1 hj
  rw [hs] at sp
  by_cases c : p < 15
  · obtain ⟨z, hz, q⟩ := key 0 hL fun _ => trivial
    refine ⟨z, ?_, q⟩
    unfold m__law_spoilt_note
    rw [eg]
    simp only [e_def, e_start, List.length_cons, List.length_nil, if_true, List.map_cons, List.map_nil, List.cons_append, List.nil_append, List.replicate, e_sSeq, e_sAsg, e_mBin, e_mM1, e_mVar, e_mC, List.getElem?_cons_zero, List.getElem?_cons_succ, bind_ok, e_isStr, sp, e_noX, List.set_cons_zero, List.set_cons_succ, e_mCall, e_mCons, e_mNil, e_intI, e_lenL, List.length_map, modP hLi, e_sIf, e_mTest, e_lt, e_asB, decide_eq_true c, e_sNext, eb]
    rw [show (0 : Int) = ((0 : Nat) : Int) from rfl, hz, e_end1]
  · obtain ⟨z, hz, q⟩ := key a1 ha1 fun _ => trivial
    refine ⟨z, ?_, q⟩
    unfold m__law_spoilt_note
    rw [eg]
    simp only [e_def, e_start, List.length_cons, List.length_nil, if_true, List.map_cons, List.map_nil, List.cons_append, List.nil_append, List.replicate, e_sSeq, e_sAsg, e_mBin, e_mM1, e_mVar, e_mC, List.getElem?_cons_zero, List.getElem?_cons_succ, bind_ok, e_isStr, sp, e_noX, List.set_cons_zero, List.set_cons_succ, e_mCall, e_mCons, e_mNil, e_intI, e_lenL, List.length_map, modP hLi, e_sIf, e_mTest, e_lt, e_asB, decide_eq_false c, e_sNext, eb, ea1, hz, e_end1]
end K69

set_option Elab.async false
set_option linter.all false
set_option maxRecDepth 100000
set_option maxHeartbeats 1000000
namespace K69
open PySem L2 T TL
def lw0 : T.Env → SO := sAsg 1 (mApp m__law_digits (mCons (mApp m__law_cell (mCons (mVar 0) (mCons (mC (.int 0)) (mNil)))) (mCons (mLst (mCons (mC (.int 8)) (mCons (mC (.int 8)) (mCons (mC (.int 13)) (mCons (mC (.int 6)) (mNil)))))) (mNil))))
def lw1 : T.Env → SO := sAsg 2 (mBin dIx (mVar 1) (mC (.int 1)))
def lw2 : T.Env → SO := sAsg 3 (mBin dIx (mVar 1) (mC (.int 2)))
def lw3 : T.Env → SO := sAsg 4 (mC (.int 10))
def lw4 : T.Env → SO := sIf (mTest (mBin dEq (mBin dIx (mVar 1) (mC (.int 0))) (mC (.int 7)))) (sSeq (sAsg 2 (mBin dAdd (mVar 2) (mC (.int 9)))) (sSeq (sAsg 3 (mBin dMul (mC (.int 3)) (mVar 3))) (sSeq (sAsg 4 (mC (.int 16))) (sNext)))) (sNext)
def lw5 : T.Env → SO := sAsg 5 (mApp m__law_letters (mCons (mApp m__law_digits (mCons (mApp m__law_cell (mCons (mVar 0) (mCons (mC (.int 1)) (mNil)))) (mCons (mBin dMul (mLst (mCons (mC (.int 12)) (mCons (mC (.int 60)) (mNil)))) (mVar 3)) (mNil)))) (mCons (mVar 2) (mCons (mVar 4) (mNil)))))
def lw6 : T.Env → SO := sAsg 6 (mApp m__law_note (mCons (mVar 2) (mCons (mVar 5) (mNil))))
def lw7 : T.Env → SO := sAsg 7 (mApp m_Row___init__ (mCons (mVar 2) (mCons (mVar 5) (mNil))))
def lw8 : T.Env → SO := sAsg 8 (mApp m_format_row (mCons (mVar 7) (mNil)))
def lw9 : T.Env → SO := sIf (mOr (mNot (mTest (mUn (dIsi cl [.b "str"]) (mVar 8)))) (mOr (mTest (mBin dNe (mVar 8) (mVar 6))) (mNot (mTest (mApp m__law_reads (mCons (mVar 6) (mNil))))))) (sRet (mC (.bl false))) (sNext)
def lw10 : T.Env → SO := sIf (mTest (mBin dNotB (mBin (dEqO "Row" m_Row___eq__) (mApp m_parse_row (mCons (mVar 8) (mNil))) (mVar 7)) (mC (.bl true)))) (sRet (mC (.bl false))) (sNext)
def lb11 : T.Env → SO := sSeq (sAsg 10 (mApp m__law_digits (mCons (mApp m__law_cell (mCons (mVar 0) (mCons (mBin dAdd (mC (.int 2)) (mVar 9)) (mNil)))) (mCons (mLst (mCons (mC (.int 23)) (mCons (mC (.int 61)) (mCons (mC (.int 60)) (mCons (mC (.int 23)) (mCons (mC (.int 61)) (mCons (mC (.int 60)) (mNil)))))))) (mNil))))) (sSeq (sAsg 11 (mApp m__law_spoilt_note (mCons (mVar 6) (mCons (mBin dIx (mVar 10) (mC (.int 0))) (mCons (mBin dIx (mVar 10) (mC (.int 1))) (mCons (mBin dIx (mVar 10) (mC (.int 2))) (mNil))))))) (sSeq (sIf (mOr (mNot (mTest (mApp m__law_reads (mCons (mVar 11) (mNil))))) (mNot (mTest (mApp m__law_reads (mCons (mApp m__law_spoilt_note (mCons (mVar 11) (mCons (mBin dIx (mVar 10) (mC (.int 3))) (mCons (mBin dIx (mVar 10) (mC (.int 4))) (mCons (mBin dIx (mVar 10) (mC (.int 5))) (mNil)))))) (mNil)))))) (sRet (mC (.bl false))) (sNext)) (sNext)))
def lw11 : T.Env → SO := sFor (mRange1 (mCons (mC (.int 6)) (mNil))) (.nm 9) lb11
def lw12 : T.Env → SO := sAsg 12 (mM1 dSplit (mVar 6) (mC (.str "\n")))
def lw13 : T.Env → SO := sAsg 13 (mBin dIx (mLst (mCons (mLst (mCons (mC (.str "cups 0")) (mNil))) (mCons (mLst (mCons (mC (.str "cap")) (mNil))) (mCons (mLst (mCons (mC (.str "row 1")) (mNil))) (mCons (mLst (mCons (mC (.str "")) (mNil))) (mCons (mLst (mCons (mC (.str "cross 0 0")) (mNil))) (mCons (mLst (mNil)) (mNil)))))))) (mBin dIx (mVar 1) (mC (.int 3))))
def lb14 : T.Env → SO := sSeq (sIf (mNot (mTest (mApp m__law_reads (mCons (mM1 dJoin (mC (.str "\n")) (mVar 11)) (mNil))))) (sRet (mC (.bl false))) (sNext)) (sNext)
def lw14 : T.Env → SO := sFor (mSeq (mLst (mCons (mBin dAdd (mBin dAdd (mLst (mCons (mBin dAdd (mC (.str "row -")) (mCall dStr (mCons (mBin dAdd (mC (.int 1)) (mBin dIx (mVar 1) (mC (.int 2)))) (mNil)))) (mNil))) (mSl dSl (mVar 12) (mB1 (mC (.int 1))) (mB0))) (mVar 13)) (mCons (mBin dAdd (mBin dAdd (mVar 12) (mLst (mCons (mC (.str "cap 1000003")) (mCons (mC (.str "cup 0")) (mNil))))) (mVar 13)) (mNil))))) (.nm 11) lb14
def lw15 : T.Env → SO := sAsg 14 (mApp m_format_row (mCons (mMeth "Row" "flipped" m_Row_flipped (mVar 7) mNil) (mNil)))
def lw16 : T.Env → SO := sAsg 15 (mLst (mCons (mC (.str "cross")) (mCons (mC (.str "cap")) (mCons (mC (.str "cup")) (mNil)))))
def lw17 : T.Env → SO := sAsg 16 (mLst (mCons (mC (.str "cross")) (mCons (mC (.str "cup")) (mCons (mC (.str "cap")) (mNil)))))
def lw18 : T.Env → SO := sAsg 17 (mComp (mRev (mVar 5)) [18] (.nm 18) (mYes) (mTup (mCons (mBin dIx (mVar 16) (mL1 dIndex (mVar 15) (mBin dIx (mVar 18) (mC (.int 0))))) (mCons (mBin dIx (mVar 18) (mC (.int 1))) (mNil)))))
def lw19 : T.Env → SO := sIf (mOr (mTest (mBin dNe (mVar 14) (mApp m__law_note (mCons (mBin dIx (mApp m__law_lanes (mCons (mVar 2) (mCons (mVar 5) (mNil)))) (mUn dNeg (mC (.int 1)))) (mCons (mVar 17) (mNil)))))) (mNot (mTest (mApp m__law_reads (mCons (mVar 14) (mNil)))))) (sRet (mC (.bl false))) (sNext)
def lw20 : T.Env → SO := sRet (mAndV (mBin dEq (mApp (fun ds => if ds.length = 1 then mPerm [0] m_format_row ds else .stuck) (mCons (mVar 7) (mNil))) (mVar 6)) (mApp m__law_is_row (mCons (mApp (fun ds => if ds.length = 1 then mPerm [0] m_parse_row ds else .stuck) (mCons (mVar 6) (mNil))) (mCons (mVar 2) (mCons (mVar 5) (mNil))))))
theorem law_shape : g_law = sSeq lw0 (sSeq lw1 (sSeq lw2 (sSeq lw3 (sSeq lw4 (sSeq lw5 (sSeq lw6 (sSeq lw7 (sSeq lw8 (sSeq lw9 (sSeq lw10 (sSeq lw11 (sSeq lw12 (sSeq lw13 (sSeq lw14 (sSeq lw15 (sSeq lw16 (sSeq lw17 (sSeq lw18 (sSeq lw19 (lw20)))))))))))))))))))) := rfl
theorem seq_nx {s s' : T.Env → SO} {ρ ρ' : T.Env} (h : s ρ = .nx ρ') : sSeq s s' ρ = s' ρ' := by rw [e_sSeq, h]
theorem forD_nx {tg : Tg} {s : T.Env → SO} {d : D} {ds : List D} {ρ ρ1 ρ2 : T.Env} (h1 : tg.put d ρ = some ρ1) (h2 : s ρ1 = .nx ρ2) : forD tg s (d :: ds) ρ = forD tg s ds ρ2 := by
  rw [forD_cons, h1]
  dsimp only
  rw [h2]
theorem g4 {ds : List Int} {a b c d : Int} (h : Dg [a, b, c, d] ds) : ∃ w x y z, ds = [w, x, y, z] ∧ (0 ≤ w ∧ w < a) ∧ (0 ≤ x ∧ x < b) ∧ (0 ≤ y ∧ y < c) ∧ (0 ≤ z ∧ z < d) := by
  match ds, h with
  | [w, x, y, z], ⟨h1, h2, h3, h4, _⟩ => exact ⟨w, x, y, z, rfl, h1, h2, h3, h4⟩
theorem g6 {ds : List Int} {a b c d e f : Int} (h : Dg [a, b, c, d, e, f] ds) : ∃ w x y z u v, ds = [w, x, y, z, u, v] ∧ (0 ≤ w ∧ w < a) ∧ (0 ≤ x ∧ x < b) ∧ (0 ≤ y ∧ y < c) ∧ (0 ≤ z ∧ z < d) ∧ (0 ≤ u ∧ u < e) ∧ (0 ≤ v ∧ v < f) := by
  match ds, h with
  | [w, x, y, z, u, v], ⟨h1, h2, h3, h4, h5, h6, _⟩ => exact ⟨w, x, y, z, u, v, rfl, h1, h2, h3, h4, h5, h6⟩
/-- the drawn sizes -/
theorem lw_sizes (ns : List Int) (r : List (Option D)) : ∃ a b c d : Int, (0 ≤ a ∧ a < 8) ∧ (0 ≤ b ∧ b < 8) ∧ (0 ≤ c ∧ c < 13) ∧ (0 ≤ d ∧ d < 6) ∧
    ∀ o1, lw0 (some (.scr ns) :: o1 :: r) = .nx (some (.scr ns) :: some (.lst [.int a, .int b, .int c, .int d]) :: r) := by
  obtain ⟨c0, hc⟩ := cell_eq ns 0 (by decide)
  have hc' : m__law_cell [.scr ns, .int 0] = .ok (.int c0) := hc
  obtain ⟨ds, hd, he⟩ := digits_eq c0 [8, 8, 13, 6] (by unfold Szs; decide) (by decide)
  obtain ⟨a, b, c, d, rfl, ha, hb, hc2, hd2⟩ := g4 hd
  refine ⟨a, b, c, d, ha, hb, hc2, hd2, fun o1 => ?_⟩
  have he' : m__law_digits [.int c0, .lst [.int 8, .int 8, .int 13, .int 6]] = .ok (.lst [.int a, .int b, .int c, .int d]) := he
  unfold lw0
  simp only [e_sAsg, e_mApp, e_mCons, e_mVar, List.getElem?_cons_zero, bind_ok, e_mC, e_mNil, hc', e_mLst, e_mkL4, he', List.set_cons_succ, List.set_cons_zero]
theorem lw_sizes2 (ns : List Int) (a b c d : Int) (ha : 0 ≤ a ∧ a < 8) (hb : 0 ≤ b ∧ b < 8) (hc : 0 ≤ c ∧ c < 13) (r : List (Option D)) : ∃ (top U : Int) (m : Nat), (0 ≤ top ∧ top ≤ 16) ∧ (4 ≤ U ∧ U ≤ 16) ∧ m ≤ 36 ∧
    ∀ (rest : T.Env → SO) o2 o3 o4, sSeq lw1 (sSeq lw2 (sSeq lw3 (sSeq lw4 rest))) (some (.scr ns) :: some (.lst [.int a, .int b, .int c, .int d]) :: o2 :: o3 :: o4 :: r) = rest (some (.scr ns) :: some (.lst [.int a, .int b, .int c, .int d]) :: some (.int top) :: some (.int m) :: some (.int U) :: r) := by
  have h3 : dMul (.int 3) (.int c) = .ok (.int (3 * c)) := mulL (by decide)
  by_cases h7 : a = 7
  · refine ⟨b + 9, 16, (3 * c).toNat, by omega, by omega, by omega, fun rest o2 o3 o4 => ?_⟩
    have e : ((3 * c).toNat : Int) = 3 * c := by omega
    rw [e]
    unfold lw1 lw2 lw3 lw4
    simp only [e_sSeq, e_sAsg, e_mBin, e_mVar, List.getElem?_cons_zero, List.getElem?_cons_succ, bind_ok, e_mC, e_ixL, atI_0, atI_1, atI_2, List.set_cons_succ, List.set_cons_zero, e_sIf, e_mTest, e_eqI, e_asB, decide_eq_true h7, e_addI, h3, e_sNext]
  · refine ⟨b, 10, c.toNat, by omega, by omega, by omega, fun rest o2 o3 o4 => ?_⟩
    have e : (c.toNat : Int) = c := by omega
    rw [e]
    unfold lw1 lw2 lw3 lw4
    simp only [e_sSeq, e_sAsg, e_mBin, e_mVar, List.getElem?_cons_zero, List.getElem?_cons_succ, bind_ok, e_mC, e_ixL, atI_0, atI_1, atI_2, List.set_cons_succ, List.set_cons_zero, e_sIf, e_mTest, e_eqI, e_asB, decide_eq_false h7, e_addI, h3, e_sNext]
theorem lw_letters (ns : List Int) (s : Option D) (top U : Int) (m : Nat) (h0 : 0 ≤ top ∧ top ≤ 16) (hU : 4 ≤ U ∧ U ≤ 16) (hm : m ≤ 36) (r : List (Option D)) : ∃ es, es.length = m ∧ (∀ e ∈ es, Ent e) ∧ Fits top es ∧
    ∀ o5, lw5 (some (.scr ns) :: s :: some (.int top) :: some (.int m) :: some (.int U) :: o5 :: r) = .nx (some (.scr ns) :: s :: some (.int top) :: some (.int m) :: some (.int U) :: some (.lst (es.map entD)) :: r) := by
  obtain ⟨c0, hc⟩ := cell_eq ns 1 (by decide)
  have hc' : m__law_cell [.scr ns, .int 1] = .ok (.int c0) := hc
  obtain ⟨ds, hd, he⟩ := digits_eq c0 (sz2 m) (sz2_ok m) (by rw [sz2_len]; omega)
  obtain ⟨es, a1, a2, a3, a4⟩ := letters_eq ds m top U hd (by omega) h0.1 h0.2 hU.1 hU.2
  refine ⟨es, a1, a2, a3, fun o5 => ?_⟩
  have hM : dMul (.lst [.int 12, .int 60]) (.int (m : Int)) = .ok (.lst ((sz2 m).map .int)) := by
    rw [e_mulL, if_pos ⟨by omega, by rw [Int.toNat_natCast]; exact le16 (by simp; omega)⟩, Int.toNat_natCast, sz2_map]
  unfold lw5
  simp only [e_sAsg, e_mApp, e_mCons, e_mVar, List.getElem?_cons_zero, List.getElem?_cons_succ, bind_ok, e_mC, e_mNil, hc', e_mLst, e_mkL2, e_mBin, hM, he, a4, List.set_cons_succ, List.set_cons_zero]
theorem ent_w3 {es : List (Str × Int)} (h : ∀ e ∈ es, Ent e) : ∀ e ∈ es, e.1 ∈ words3 := fun e he => (h e he).1
theorem row_made {top : Int} {es : List (Str × Int)} (h0 : 0 ≤ top) (he : ∀ e ∈ es, Ent e) (hf : Fits top es) (hz : es.length ≤ 1000) : m_Row___init__ [.int top, .lst (es.map entD)] = .ok (rowD top es) := by
  have hi := row_init top es (ent_w3 he) (le16 (by omega))
  unfold makeV at hi
  rw [if_pos h0, fits_go hf] at hi
  exact hi
theorem isi_s (s : Str) : dIsi cl [.b "str"] (.str s) = .ok (.bl true) := rfl
theorem nt_note {top : Int} {es : List (Str × Int)} (h0 : 0 ≤ top) (h : top < 10 ^ 9) (he : ∀ e ∈ es, Ent e) (hz : es.length ≤ 36) : Nt 15 37 (noteT top es) :=
  ⟨noteLs top es, note_ne top es, by unfold noteLs; rw [List.length_cons, List.length_map]; omega, noteLs_ln h0 h he, rfl⟩
theorem nt_reads {n m : Nat} {t : Str} (h : Nt n m t) (hn : n ≤ 640) (hm : m ≤ 120) : m__law_reads [.str t] = .ok (.bl true) :=
  reads_eq t (h.short hn (by
    have := Nat.mul_le_mul hm (show n + 1 ≤ 641 by omega)
    omega))
section
variable (ns : List Int) (s : Option D) (top U : Int) (m : Nat) (es : List (Str × Int)) (r : List (Option D))
/-- the state behind the letters -/
abbrev E5 (o6 o7 o8 : Option D) (r : List (Option D)) : T.Env := some (.scr ns) :: s :: some (.int top) :: some (.int m) :: some (.int U) :: some (.lst (es.map entD)) :: o6 :: o7 :: o8 :: r
theorem lw_first (h0 : 0 ≤ top ∧ top ≤ 16) (he : ∀ e ∈ es, Ent e) (hf : Fits top es) (hz : es.length ≤ 36) (rest : T.Env → SO) (o6 o7 o8 : Option D) :
    sSeq lw6 (sSeq lw7 (sSeq lw8 (sSeq lw9 (sSeq lw10 rest)))) (E5 ns s top U m es o6 o7 o8 r) = rest (E5 ns s top U m es (some (.str (noteT top es))) (some (rowD top es)) (some (.str (noteT top es))) r) := by
  have ht : top < 10 ^ 9 := by omega
  have h1 := law_note_eq h0.1 ht he (by omega)
  have h2 := row_made h0.1 he hf (by omega)
  have h3 := format_row_eq h0.1 ht he (by omega)
  have h4 := nt_reads (nt_note h0.1 ht he hz) (by decide) (by decide)
  have h5 := parse_note h0.1 ht he (by omega) (fits_go hf)
  have h6 := eqO_row top es (ent_w3 he)
  unfold lw6 lw7 lw8 lw9 lw10 E5
  simp only [e_sSeq, e_sAsg, e_mApp, e_mCons, e_mVar, List.getElem?_cons_zero, List.getElem?_cons_succ, bind_ok, e_mC, e_mNil, h1, h2, h3, List.set_cons_succ, List.set_cons_zero, e_sIf, e_mOr, e_mNot, e_mTest, e_mUn, isi_s, e_asB, e_mBin, e_neS, decide_true, Bool.not_true, h4, e_sNext, h5, h6, e_notB, Bool.false_eq_true, if_false]

abbrev E9 (o9 o10 o11 : Option D) (r : List (Option D)) : T.Env := E5 ns s top U m es (some (.str (noteT top es))) (some (rowD top es)) (some (.str (noteT top es))) (o9 :: o10 :: o11 :: r)
theorem lb11_run (h0 : 0 ≤ top ∧ top ≤ 16) (he : ∀ e ∈ es, Ent e) (hz : es.length ≤ 36) (i : Nat) (hi : i ≤ 90) (o10 o11 : Option D) : ∃ p10 p11, lb11 (E9 ns s top U m es (some (.int (i : Int))) o10 o11 r) = .nx (E9 ns s top U m es (some (.int (i : Int))) p10 p11 r) := by
  obtain ⟨c0, hc⟩ := cell_eq ns (2 + i) (by omega)
  rw [Int.natCast_add] at hc
  have hc' : m__law_cell [.scr ns, .int (2 + (i : Int))] = .ok (.int c0) := hc
  obtain ⟨ds, hd, hdd⟩ := digits_eq c0 [23, 61, 60, 23, 61, 60] (by unfold Szs; decide) (by decide)
  obtain ⟨a, b, c, d, e, f, rfl, ha, hb, hc2, hd2, he2, hf2⟩ := g6 hd
  have he' : m__law_digits [.int c0, .lst [.int 23, .int 61, .int 60, .int 23, .int 61, .int 60]] = .ok (.lst [.int a, .int b, .int c, .int d, .int e, .int f]) := hdd
  obtain ⟨t1, h1, n1⟩ := spoilt_note 15 37 (noteT top es) a b c (nt_note h0.1 (by omega) he hz) (by decide) (by decide) ha.1 hb.1 hc2.1 hc2.2
  obtain ⟨t2, h2, n2⟩ := spoilt_note 85 38 t1 d e f n1 (by decide) (by decide) hd2.1 he2.1 hf2.1 hf2.2
  have r1 := nt_reads n1 (by decide) (by decide)
  have r2 := nt_reads n2 (by decide) (by decide)
  refine ⟨some (.lst [.int a, .int b, .int c, .int d, .int e, .int f]), some (.str t1), ?_⟩
  unfold lb11 E9 E5
  simp only [e_sSeq, e_sAsg, e_mApp, e_mCons, e_mVar, List.getElem?_cons_zero, List.getElem?_cons_succ, bind_ok, e_mC, e_mNil, e_mBin, e_addI, hc', e_mLst, e_mkL6, he', List.set_cons_succ, List.set_cons_zero, e_ixL, atI_0, atI_1, atI_2, atI_3, atI_4, atI_5, h1, e_sIf, e_mOr, e_mNot, e_mTest, r1, h2, r2, e_asB, Bool.not_true, Bool.false_eq_true, if_false, e_sNext]
theorem lb11_loop (h0 : 0 ≤ top ∧ top ≤ 16) (he : ∀ e ∈ es, Ent e) (hz : es.length ≤ 36) : ∀ (is : List Nat), (∀ i ∈ is, i ≤ 90) → ∀ (o9 o10 o11 : Option D), ∃ p9 p10 p11, forD (.nm 9) lb11 (is.map fun (i : Nat) => D.int i) (E9 ns s top U m es o9 o10 o11 r) = .nx (E9 ns s top U m es p9 p10 p11 r)
  | [], _, o9, o10, o11 => ⟨o9, o10, o11, e_forD0 _ _ _⟩
  | i :: is, h, o9, o10, o11 => by
    obtain ⟨p10, p11, h1⟩ := lb11_run ns s top U m es r h0 he hz i (h i List.mem_cons_self) o10 o11
    obtain ⟨q9, q10, q11, h2⟩ := lb11_loop h0 he hz is (fun z hz => h z (List.mem_cons_of_mem _ hz)) (some (.int (i : Int))) p10 p11
    refine ⟨q9, q10, q11, ?_⟩
    rw [List.map_cons, forD_nx (ρ1 := E9 ns s top U m es (some (.int (i : Int))) o10 o11 r) rfl h1]
    exact h2
theorem lw11_run (h0 : 0 ≤ top ∧ top ≤ 16) (he : ∀ e ∈ es, Ent e) (hz : es.length ≤ 36) (o9 o10 o11 : Option D) : ∃ p9 p10 p11, lw11 (E9 ns s top U m es o9 o10 o11 r) = .nx (E9 ns s top U m es p9 p10 p11 r) := by
  obtain ⟨p9, p10, p11, h⟩ := lb11_loop ns s top U m es r h0 he hz (List.range' 0 6) (fun i hi => by
    obtain ⟨j, h1, h2⟩ := List.mem_range'.mp hi
    omega) o9 o10 o11
  refine ⟨p9, p10, p11, ?_⟩
  rw [← range0] at h
  have hok : okR 0 6 = true := okR_nat (a := 0) (b := 6) (by omega) (by omega)
  have h' : forD (.nm 9) lb11 (rangeD 0 6) (E9 ns s top U m es o9 o10 o11 r) = .nx (E9 ns s top U m es p9 p10 p11 r) := h
  unfold lw11
  simp only [e_sFor, e_mRange1, e_mCons, e_mC, e_mNil, bind_ok, e_dRange1, hok, if_true, h']

end
/-! ### the two late notes -/
theorem late_eq (d : Int) (h : 0 ≤ d ∧ d < 6) : ∃ late : List Str, late.length ≤ 1 ∧ (∀ l ∈ late, Ln 15 l) ∧ atI [D.lst [.str "cups 0"], .lst [.str "cap"], .lst [.str "row 1"], .lst [.str ""], .lst [.str "cross 0 0"], .lst []] d = some (.lst (late.map .str)) := by
  have one : ∀ s : Str, Ln 15 s → (∀ l ∈ [s], Ln 15 l) := fun s hs l hl => by rw [List.mem_singleton.mp hl]; exact hs
  rcases (show d = 0 ∨ d = 1 ∨ d = 2 ∨ d = 3 ∨ d = 4 ∨ d = 5 by omega) with q | q | q | q | q | q <;> subst q
  · exact ⟨["cups 0"], by simp, one _ (.lit (by decide +kernel)), by rw [atI_0]; rfl⟩
  · exact ⟨["cap"], by simp, one _ (.lit (by decide +kernel)), by rw [atI_1]; rfl⟩
  · exact ⟨["row 1"], by simp, one _ (.lit (by decide +kernel)), by rw [atI_2]; rfl⟩
  · exact ⟨[""], by simp, one _ (.lit (by decide +kernel)), by rw [atI_3]; rfl⟩
  · exact ⟨["cross 0 0"], by simp, one _ (.lit (by decide +kernel)), by rw [atI_4]; rfl⟩
  · exact ⟨[], by simp, fun _ h => (by cases h), by rw [atI_5]; rfl⟩
theorem lb14_run (ρ : T.Env) (ls : List Str) (hl : ∀ l ∈ ls, Ln 15 l) (hm : ls.length ≤ 60) (h11 : ρ[11]? = some (some (.lst (ls.map .str)))) : lb14 ρ = .nx ρ := by
  have e11 : mVar 11 ρ = .ok (.lst (ls.map .str)) := by rw [e_mVar, h11]
  obtain ⟨z, hz, q⟩ := evJoin (f := mVar 11) e11 hl hm (by decide) (by decide)
  have r1 := nt_reads q (by decide) (by decide)
  unfold lb14
  simp only [e_sSeq, e_sIf, e_mNot, e_mTest, e_mApp, e_mCons, hz, e_mNil, bind_ok, r1, e_asB, Bool.not_true, e_sNext]
section
variable (ns : List Int) (a b c d top U : Int) (m : Nat) (es : List (Str × Int)) (r : List (Option D))
abbrev F9 (o9 o10 o11 o12 o13 : Option D) (r : List (Option D)) : T.Env := E9 ns (some (.lst [.int a, .int b, .int c, .int d])) top U m es o9 o10 o11 (o12 :: o13 :: r)
theorem lw_late (hc : 0 ≤ c ∧ c < 13) (hd : 0 ≤ d ∧ d < 6) (h0 : 0 ≤ top ∧ top ≤ 16) (he : ∀ e ∈ es, Ent e) (hz : es.length ≤ 36) (rest : T.Env → SO) (o9 o10 o11 o12 o13 : Option D) :
    ∃ p11 p12 p13, sSeq lw12 (sSeq lw13 (sSeq lw14 rest)) (F9 ns a b c d top U m es o9 o10 o11 o12 o13 r) = rest (F9 ns a b c d top U m es o9 o10 p11 p12 p13 r) := by
  have ht : top < 10 ^ 9 := by omega
  have hj : (noteT top es).length + 2 ≤ sizeLine := le16 (note_short h0.1 ht he (by omega)).1
  have sp := splitL (noteT top es) "\n" nl1 hj
  rw [split_note h0.1 ht he] at sp
  obtain ⟨late, l1, l2, l3⟩ := late_eq d hd
  have hls : noteLs top es = lineS ("row", top) :: es.map lineS := rfl
  have hL := noteLs_ln h0.1 ht he
  have hc12 : cutD ((noteLs top es).map D.str) (some 1) none = (es.map lineS).map D.str := by rw [cutD_from1, hls, List.map_cons, List.drop_one, List.tail_cons]
  have hn : dStr [.int (1 + c)] = .ok (.str (strI (1 + c))) := strD (by omega) (by omega)
  have hn9 : (strI (1 + c)).length ≤ 9 := strI_len (by omega) (by omega)
  have hrow : ("row -" : Str).length = 5 := by decide +kernel
  have p1 : ("row -" : Str).length + (strI (1 + c)).length ≤ sizeLine := le16 (by omega)
  have hA : Ln 15 ("row -" ++ strI (1 + c)) := (Ln.app (n := 5) (m := 9) (.lit (by decide +kernel)) (.num (by decide) (by omega) (by omega))).mono (by decide)
  have z1 : 0 + 1 + ((es.map lineS).map D.str).length ≤ sizeLine := by rw [List.length_map, List.length_map]; exact le16 (by omega)
  have z2 : ((es.map lineS).map D.str).length + 1 + (late.map D.str).length ≤ sizeLine := by rw [List.length_map, List.length_map, List.length_map]; exact le16 (by omega)
  have hnl : (noteLs top es).length = es.length + 1 := by rw [hls, List.length_cons, List.length_map]
  have z3 : ((noteLs top es).map D.str).length + (0 + 1 + 1) ≤ sizeLine := by rw [List.length_map]; exact le16 (by omega)
  have z4 : ((noteLs top es).map D.str ++ [D.str "cap 1000003", .str "cup 0"]).length + (late.map D.str).length ≤ sizeLine := by rw [List.length_append, List.length_map, List.length_map, List.length_cons, List.length_cons, List.length_nil]; exact le16 (by omega)
  have x1 : D.str ("row -" ++ strI (1 + c)) :: ((es.map lineS).map D.str ++ late.map D.str) = ((("row -" ++ strI (1 + c)) :: es.map lineS) ++ late).map .str := by rw [List.map_append, List.map_cons, List.cons_append]
  have x2 : ((noteLs top es).map D.str ++ [D.str "cap 1000003", .str "cup 0"]) ++ late.map D.str = ((noteLs top es ++ [("cap 1000003" : Str), "cup 0"]) ++ late).map .str := by rw [List.map_append, List.map_append]; rfl
  have q1 : ∀ l ∈ (("row -" ++ strI (1 + c)) :: es.map lineS) ++ late, Ln 15 l := fun l hl => (List.mem_append.mp hl).elim (fun h => (List.mem_cons.mp h).elim (fun h => h ▸ hA) fun h => hL l (by rw [hls]; exact List.mem_cons_of_mem _ h)) (l2 l)
  have q2 : ∀ l ∈ (noteLs top es ++ [("cap 1000003" : Str), "cup 0"]) ++ late, Ln 15 l := fun l hl => (List.mem_append.mp hl).elim (fun h => (List.mem_append.mp h).elim (hL l) fun h => by
    rcases List.mem_cons.mp h with h | h
    · rw [h]; exact .lit (by decide +kernel)
    · rw [List.mem_singleton.mp h]; exact .lit (by decide +kernel)) (l2 l)
  refine ⟨some (.lst (((noteLs top es ++ [("cap 1000003" : Str), "cup 0"]) ++ late).map .str)), some (.lst ((noteLs top es).map .str)), some (.lst (late.map .str)), ?_⟩
  have hf : ∀ (o9 o10 o11 : Option D), forD (.nm 11) lb14 [.lst (((("row -" ++ strI (1 + c)) :: es.map lineS) ++ late).map .str), .lst (((noteLs top es ++ [("cap 1000003" : Str), "cup 0"]) ++ late).map .str)] (F9 ns a b c d top U m es o9 o10 o11 (some (.lst ((noteLs top es).map .str))) (some (.lst (late.map .str))) r) = .nx (F9 ns a b c d top U m es o9 o10 (some (.lst (((noteLs top es ++ [("cap 1000003" : Str), "cup 0"]) ++ late).map .str))) (some (.lst ((noteLs top es).map .str))) (some (.lst (late.map .str))) r) := fun o9 o10 o11 => by
    rw [forD_nx rfl (lb14_run _ _ q1 (by rw [List.length_append, List.length_cons, List.length_map]; omega) rfl), forD_nx rfl (lb14_run _ _ q2 (by rw [List.length_append, List.length_append, hnl, List.length_cons, List.length_cons, List.length_nil]; omega) rfl)]
    rfl
  unfold F9 E9 E5 at *
  unfold lw12 lw13 lw14
  simp only [e_sSeq, e_sAsg, e_mM1, e_mVar, List.getElem?_cons_zero, List.getElem?_cons_succ, bind_ok, e_mC, e_isStr, if_true, sp, e_noX, List.set_cons_succ, List.set_cons_zero, e_mBin, e_mLst, e_mCons, e_mNil, e_mkL0, e_mkL1, e_mkL2, e_mkL6, e_ixL, atI_3, l3, e_sFor, e_mSeq, e_mCall, atI_2, e_addI, hn, e_addS, if_pos p1, e_mSl, e_mB1, e_asInt, e_mB0, e_slL, hc12, e_addL, List.length_cons, List.length_nil, if_pos z1, List.cons_append, List.nil_append]
  simp only [if_pos z2, if_pos z3, bind_ok, e_addL, if_pos z4, e_mkL2, e_dSeqL, x1, x2, hf o9 o10 o11]
end
/-! ### the row turned upside down, and the end -/
def ftE : T.Env → O D := mTup (mCons (mBin dIx (mVar 16) (mL1 dIndex (mVar 15) (mBin dIx (mVar 18) (mC (.int 0))))) (mCons (mBin dIx (mVar 18) (mC (.int 1))) (mNil)))
theorem perm0 (f : List D → O D) (d : D) : mPerm [0] f [d] = f [d] := rfl
theorem flip_ix (w : Str) (h : w ∈ words3) : ∃ j : Int, dIndex (.lst [.str "cross", .str "cap", .str "cup"]) [.str w] = .ok (.int j) ∧ dIx (.lst [.str "cross", .str "cup", .str "cap"]) (.int j) = .ok (.str (flipW w)) := by
  rcases mem3 h with e | e | e <;> subst e
  · exact ⟨0, rfl, rfl⟩
  · exact ⟨2, rfl, rfl⟩
  · exact ⟨1, rfl, rfl⟩
theorem lanes_at (L : Int) (es : List (Str × Int)) : atI ((L :: lanesL L es).map D.int) (-1) = some (.int (botV L es)) := by
  obtain ⟨p, hp⟩ := lanes_last es L []
  rw [List.nil_append] at hp
  rw [hp, List.map_append]
  exact atI_last _ _
section
variable (ns : List Int) (a b c d top U : Int) (m : Nat) (es : List (Str × Int))
theorem lw_end (h0 : 0 ≤ top ∧ top ≤ 16) (he : ∀ e ∈ es, Ent e) (hf : Fits top es) (hz : es.length ≤ 36) (o9 o10 o11 o12 o13 o14 o15 o16 o17 o18 : Option D) :
    sSeq lw15 (sSeq lw16 (sSeq lw17 (sSeq lw18 (sSeq lw19 lw20)))) (F9 ns a b c d top U m es o9 o10 o11 o12 o13 [o14, o15, o16, o17, o18]) = .rt (.bl true) := by
  have hw := ent_w3 he
  have ht : top < 10 ^ 9 := by omega
  have h1 := flipped_eq top es hw (by omega) h0.1 hf
  have hb0 := fits_bot es top hw h0.1 hf
  have hb1 : botV top es < 10 ^ 9 := by have := bot_le es top; omega
  have hfe := flipL_ent he
  have hfz : (flipL es).length ≤ 36 := by rw [flipL_len]; exact hz
  have h2 := format_row_eq hb0 hb1 hfe (by omega)
  have h3 := law_note_eq hb0 hb1 hfe (by omega)
  have h4 := nt_reads (nt_note hb0 hb1 hfe hfz) (by decide) (by decide)
  have h5 := law_lanes_eq top es (le16 (by omega))
  have h6 := format_row_eq h0.1 ht he (by omega)
  have h7 := parse_note h0.1 ht he (by omega) (fits_go hf)
  have h8 := is_row_eq top es hw (by omega)
  have hMeth : ∀ ρ : T.Env, ρ[7]? = some (some (rowD top es)) → mMeth "Row" "flipped" m_Row_flipped (mVar 7) mNil ρ = .ok (rowD (botV top es) (flipL es)) := fun ρ h => by
    rw [e_mMeth, e_mVar, h]
    simp only [bind_ok, rowD]
    rw [if_pos ⟨trivial, by rw [List.lookup_cons, show (("flipped" : Str) == "top") = false by decide +kernel]; dsimp only; rw [List.lookup_cons, show (("flipped" : Str) == "letters") = false by decide +kernel]; rfl⟩, e_mNil, bind_ok]
    exact h1
  have hc := fun (p14 : Option D) => compD_mem (tg := .nm 18) (e := ftE) (ρ := F9 ns a b c d top U m es o9 o10 o11 o12 o13 [p14, some (.lst [.str "cross", .str "cap", .str "cup"]), some (.lst [.str "cross", .str "cup", .str "cap"]), o17, none]) (fd := entD) (fz := fun e => entD (flipE e)) es.reverse [] (fun x hx => by
    obtain ⟨j, j1, j2⟩ := flip_ix x.1 (hw x (List.mem_reverse.mp hx))
    refine ⟨_, rfl, ?_⟩
    unfold ftE F9 E9 E5
    simp only [e_mTup, e_mCons, e_mBin, e_mVar, List.set_cons_succ, List.set_cons_zero, List.getElem?_cons_zero, List.getElem?_cons_succ, bind_ok, e_mL1, e_isLst, if_true, e_mC, entD, e_ixT, atI_0, atI_1, j1, e_noX, j2, e_mNil, e_mkT2, flipE]) (by rw [List.length_nil, Nat.zero_add, List.length_reverse]; exact le16 (by omega))
  rw [flipL_map, List.nil_append] at hc
  have es18 : lw18 = sAsg 17 (mComp (mRev (mVar 5)) [18] (.nm 18) (mYes) ftE) := rfl
  unfold F9 E9 E5 at *
  rw [es18]
  unfold lw15 lw16 lw17 lw19 lw20
  have hM7 : ∀ ρ : T.Env, ρ[7]? = some (some (rowD top es)) → mApp m_format_row (mCons (mMeth "Row" "flipped" m_Row_flipped (mVar 7) mNil) (mNil)) ρ = .ok (.str (noteT (botV top es) (flipL es))) := fun ρ h => by
    rw [e_mApp, e_mCons, hMeth ρ h, e_mNil, bind_ok, bind_ok, bind_ok, h2]
  rw [e_sSeq, e_sAsg, hM7 _ rfl]
  simp only [e_sSeq, e_sAsg, e_mLst, e_mCons, e_mC, e_mNil, bind_ok, e_mkL3, List.set_cons_succ, List.set_cons_zero, e_mComp, e_mRev, e_mVar, List.getElem?_cons_zero, List.getElem?_cons_succ, e_dRevL, ← List.map_reverse, e_wipe1, e_wipe0, hc, e_sIf, e_mOr, e_mTest, e_mBin, e_mApp, h5, e_mUn, e_neg, e_ixL, lanes_at, h3, e_neS, decide_true, Bool.not_true, e_asB, Bool.false_eq_true, if_false, e_mNot, h4, e_sNext, e_sRet, e_mAndV, List.length_cons, List.length_nil, if_true]
  simp only [perm0, h6, h7, bind_ok, e_eqS, decide_true, e_asB, if_true, h8]
end
theorem law_true (ns : List Int) : m_law [.scr ns] = .ok (.bl true) := by
  obtain ⟨a, b, c, d, ha, hb, hc, hd, s0⟩ := lw_sizes ns (List.replicate 17 none)
  obtain ⟨top, U, m, ht, hU, hm, s1⟩ := lw_sizes2 ns a b c d ha hb hc (List.replicate 14 none)
  obtain ⟨es, l1, he, hf, s2⟩ := lw_letters ns (some (.lst [.int a, .int b, .int c, .int d])) top U m ht hU hm (List.replicate 13 none)
  have hz : es.length ≤ 36 := by omega
  unfold m_law
  rw [e_def, if_pos (show [D.scr ns].length = 1 from rfl), law_shape]
  rw [show startD 19 [D.scr ns] = some (.scr ns) :: none :: List.replicate 17 none from rfl, seq_nx (s0 none)]
  rw [show some (D.scr ns) :: some (D.lst [.int a, .int b, .int c, .int d]) :: List.replicate 17 none = some (D.scr ns) :: some (D.lst [.int a, .int b, .int c, .int d]) :: none :: none :: none :: List.replicate 14 none from rfl, s1]
  rw [show some (D.scr ns) :: some (D.lst [.int a, .int b, .int c, .int d]) :: some (D.int top) :: some (D.int m) :: some (D.int U) :: List.replicate 14 none = some (D.scr ns) :: some (D.lst [.int a, .int b, .int c, .int d]) :: some (D.int top) :: some (D.int m) :: some (D.int U) :: none :: List.replicate 13 none from rfl, seq_nx (s2 none)]
  have f1 := lw_first ns (some (.lst [.int a, .int b, .int c, .int d])) top U m es (List.replicate 10 none) ht he hf hz
  rw [show some (D.scr ns) :: some (D.lst [.int a, .int b, .int c, .int d]) :: some (D.int top) :: some (D.int m) :: some (D.int U) :: some (.lst (es.map entD)) :: List.replicate 13 none = E5 ns (some (.lst [.int a, .int b, .int c, .int d])) top U m es none none none (List.replicate 10 none) from rfl, f1]
  obtain ⟨p9, p10, p11, f2⟩ := lw11_run ns (some (.lst [.int a, .int b, .int c, .int d])) top U m es (List.replicate 7 none) ht he hz none none none
  rw [show E5 ns (some (D.lst [D.int a, D.int b, D.int c, D.int d])) top U m es (some (.str (noteT top es))) (some (rowD top es)) (some (.str (noteT top es))) (List.replicate 10 none) = E9 ns (some (D.lst [D.int a, D.int b, D.int c, D.int d])) top U m es none none none (List.replicate 7 none) from rfl, seq_nx f2]
  obtain ⟨q11, q12, q13, f3⟩ := lw_late ns a b c d top U m es (List.replicate 5 none) hc hd ht he hz (sSeq lw15 (sSeq lw16 (sSeq lw17 (sSeq lw18 (sSeq lw19 lw20))))) p9 p10 p11 none none
  have f3' := f3.trans (lw_end ns a b c d top U m es ht he hf hz p9 p10 q11 q12 q13 none none none none none)
  have f4 : sSeq lw12 (sSeq lw13 (sSeq lw14 (sSeq lw15 (sSeq lw16 (sSeq lw17 (sSeq lw18 (sSeq lw19 lw20))))))) (E5 ns (some (D.lst [D.int a, D.int b, D.int c, D.int d])) top U m es (some (.str (noteT top es))) (some (rowD top es)) (some (.str (noteT top es))) (p9 :: p10 :: p11 :: List.replicate 7 none)) = .rt (.bl true) := f3'
  rw [f4, e_end1]

end K69

set_option Elab.async false
set_option linter.all false
set_option maxRecDepth 100000
set_option maxHeartbeats 4000000
namespace K69
open PySem L2 T
def top (i : Nat) : Stmt := PySem.Challenge.pw_rimcords_k69_row_notes.main.body.getD i (.Pass ⟨0, 0, 0, 0⟩)
def cls0 : List Str := []
structure Top (w : World) (K : PySem.W.Frag) (mg : Str → Option Value) : Prop where
  b_isinstance : mg "isinstance" = none
  b_int : mg "int" = none
  b_bool : mg "bool" = none
  b_tuple : mg "tuple" = none
  b_list : mg "list" = none
  b_len : mg "len" = none
  b_enumerate : mg "enumerate" = none
  b_reversed : mg "reversed" = none
  b_range : mg "range" = none
  b_str : mg "str" = none
  b_ValueError : mg "ValueError" = none
  g_BadLanes : mg "BadLanes" = some (.ref (He.ga K "BadLanes"))
  g_BadLetter : mg "BadLetter" = some (.ref (He.ga K "BadLetter"))
  g_NoteError : mg "NoteError" = some (.ref (He.ga K "NoteError"))
  g_MORE_LANES : mg "MORE_LANES" = some (.ref (He.ga K "MORE_LANES"))
  g_Row : mg "Row" = some (.ref (He.ga K "Row"))
  g_FLIPPED : mg "FLIPPED" = some (.ref (He.ga K "FLIPPED"))
  g_RimError : mg "RimError" = some (.ref (He.ga K "RimError"))
  kit : Kit K cl
  f_top : FldOk K fc_top "top"
  f_letters : FldOk K fc_letters "letters"
  p_Row_lanes : Cls K (He.ga K "Row") ∧ ∃ p, PropOf K (He.ga K "Row") "lanes" p (propG K "Row" "lanes")
  p_Row_bottom : Cls K (He.ga K "Row") ∧ ∃ p, PropOf K (He.ga K "Row") "bottom" p (propG K "Row" "bottom")
  m_Row___len__ : MetOk K "Row" "__len__"
  m_Row___eq__ : MetOk K "Row" "__eq__"
  m_Row_flipped : MetOk K "Row" "flipped"
  t_MORE_LANES : TabOk K w "MORE_LANES" tb_MORE_LANES
  t_FLIPPED : TabOk K w "FLIPPED" tb_FLIPPED
  ek : ErrK K erb ers eru erf
def dvR (K : PySem.W.Frag) : List V := [.ref (He.dflAt ("Row", some "__init__") 0 K)]
theorem bndR {K : PySem.W.Frag} {f : Addr} {fd : FuncData} (F : FunD K "__init__" "Row.__init__" (defArgs (inClass (top 14) 0)) (defBody (inClass (top 14) 0)) (defScope (inClass (top 14) 0)) (dvR K) [] f fd) : Binds K fd ["self", "top", "letters"] [] := by
  obtain ⟨ds, h1, h2⟩ := F.binds1 (ps := ["self", "top", "letters"]) 3 1 (by simp [dvR]) rfl (fun T kV doc pm an cdv ct us its h1 h2 => match us, h1, its, h2 with | [_, _, _], _, [_], _ => ⟨_, rfl, rfl⟩)
  cases h1
  exact h2
abbrev s_BadLanes___init__ : Stmt := (inClass (top 4) 0)
theorem sc_BadLanes___init__ : FnScope ["self", "number"] ["self", "number"] (defScope s_BadLanes___init__) := ⟨rfl, rfl, rfl, by decide +kernel, rfl, by decide +kernel, by decide +kernel⟩
theorem ok_BadLanes___init__ {P : Program} {w : World} {K : PySem.W.Frag} {mg : Str → Option Value} {base : Heap} {f : Addr} {fd : FuncData} (F : FunD K "__init__" "BadLanes.__init__" (defArgs s_BadLanes___init__) (defBody s_BadLanes___init__) (defScope s_BadLanes___init__) [] [] f fd) (hm : mg "BadLanes" = some (.ref (He.ga K "BadLanes"))) (hi : PySem.W.findIn K (.ref (He.ga K "BadLanes")) "__init__" = some (some (.ref f))) (ht : PySem.W.typeIn K (.ref f) = some (.type "function")) (T : Top w K mg) :
    CalleeX P w K mg base "BadLanes" 1 ["number"] :=
  ⟨f, fd, ["self", "number"], hm, T.ek.oex _ (by decide), hi, ht, xinit_ok F sc_BadLanes___init__ (T.ek.oex _ (by decide)) (fun g hg => T.ek.no _ (by decide) g (by revert g; decide)) (by decide) (fun cdv A outer s H E hr => pss_cons (ps_ost (pv 0) (pv 1)) (pss_nil)), F.bindsN fun _ _ _ _ _ _ us hl => match us, hl with | [_, _], _ => rfl⟩
abbrev s_BadLetter___init__ : Stmt := (inClass (top 5) 0)
theorem sc_BadLetter___init__ : FnScope ["self", "place", "letter"] ["self", "place", "letter"] (defScope s_BadLetter___init__) := ⟨rfl, rfl, rfl, by decide +kernel, rfl, by decide +kernel, by decide +kernel⟩
theorem ok_BadLetter___init__ {P : Program} {w : World} {K : PySem.W.Frag} {mg : Str → Option Value} {base : Heap} {f : Addr} {fd : FuncData} (F : FunD K "__init__" "BadLetter.__init__" (defArgs s_BadLetter___init__) (defBody s_BadLetter___init__) (defScope s_BadLetter___init__) [] [] f fd) (hm : mg "BadLetter" = some (.ref (He.ga K "BadLetter"))) (hi : PySem.W.findIn K (.ref (He.ga K "BadLetter")) "__init__" = some (some (.ref f))) (ht : PySem.W.typeIn K (.ref f) = some (.type "function")) (T : Top w K mg) :
    CalleeX P w K mg base "BadLetter" 1 ["place", "letter"] :=
  ⟨f, fd, ["self", "place", "letter"], hm, T.ek.oex _ (by decide), hi, ht, xinit_ok F sc_BadLetter___init__ (T.ek.oex _ (by decide)) (fun g hg => T.ek.no _ (by decide) g (by revert g; decide)) (by decide) (fun cdv A outer s H E hr => pss_cons (ps_ost (pv 0) (pv 1)) (pss_cons (ps_ost (pv 0) (pv 2)) (pss_nil))), F.bindsN fun _ _ _ _ _ _ us hl => match us, hl with | [_, _, _], _ => rfl⟩
abbrev s_NoteError___init__ : Stmt := (inClass (top 7) 0)
theorem sc_NoteError___init__ : FnScope ["self", "line"] ["self", "line"] (defScope s_NoteError___init__) := ⟨rfl, rfl, rfl, by decide +kernel, rfl, by decide +kernel, by decide +kernel⟩
theorem ok_NoteError___init__ {P : Program} {w : World} {K : PySem.W.Frag} {mg : Str → Option Value} {base : Heap} {f : Addr} {fd : FuncData} (F : FunD K "__init__" "NoteError.__init__" (defArgs s_NoteError___init__) (defBody s_NoteError___init__) (defScope s_NoteError___init__) [] [] f fd) (hm : mg "NoteError" = some (.ref (He.ga K "NoteError"))) (hi : PySem.W.findIn K (.ref (He.ga K "NoteError")) "__init__" = some (some (.ref f))) (ht : PySem.W.typeIn K (.ref f) = some (.type "function")) (T : Top w K mg) :
    CalleeX P w K mg base "NoteError" 1 ["line"] :=
  ⟨f, fd, ["self", "line"], hm, T.ek.oex _ (by decide), hi, ht, xinit_ok F sc_NoteError___init__ (T.ek.oex _ (by decide)) (fun g hg => T.ek.no _ (by decide) g (by revert g; decide)) (by decide) (fun cdv A outer s H E hr => pss_cons (ps_ost (pv 0) (pv 1)) (pss_nil)), F.bindsN fun _ _ _ _ _ _ us hl => match us, hl with | [_, _], _ => rfl⟩
abbrev s_is_count : Stmt := (top 9)
abbrev N_is_count : List Str := ["value"]
theorem sc_is_count : FnScope N_is_count ["value"] (defScope s_is_count) := ⟨rfl, rfl, rfl, by decide +kernel, rfl, by decide +kernel, by decide +kernel⟩
theorem fn_is_count {P : Program} {w : World} {K : PySem.W.Frag} {mg : Str → Option Value} {base : Heap} {f : Addr} {fd : FuncData} (F : FunD K "is_count" "is_count" (defArgs s_is_count) (defBody s_is_count) (defScope s_is_count) [] [] f fd) (T : Top w K mg) :
    FnOk P w K mg base (L2N.CX P w) 1 f fd ["value"] (spM K [] m_is_count .sh) := by
  refine def_ok (N := N_is_count) (ps := ["value"]) (κ := [.sh]) (κ' := [.sh]) (g := g_is_count) F sc_is_count (kAt_all rfl) (fun cdv A outer s H E hr => ?_)
  have hu := u65 hr
  have tk : L2N.Takes (cxOf (L2N.CX P w) P w K mg base N_is_count "is_count" (defScope s_is_count) f cdv A outer s H E) (cDef E .sh).W := L2N.takes_of rfl rfl rfl rfl
  have po : PassesOwn (model P w) _ _ (cxOf (L2N.CX P w) P w K mg base N_is_count "is_count" (defScope s_is_count) f cdv A outer s H E).xe := passes_of rfl
  have nd := (sc_is_count).nd
  exact css_one (κ' := [.sh]) (cs_ret rfl (ce_and (ce_isi T.kit rfl T.b_isinstance (ce_var 0 rfl (pv 0)) (pe_ty rfl T.b_int (by decide +kernel))) (ce_and (ce_not (ce_isi T.kit rfl T.b_isinstance (ce_var 0 rfl (pv 0)) (pe_ty rfl T.b_bool (by decide +kernel)))) (ce_one (ce_cmp sem_ge op_ge (ce_var 0 rfl (pv 0)) (ce_int) (nomark _))))) trivial)
theorem ok_is_count {P : Program} {w : World} {K : PySem.W.Frag} {mg : Str → Option Value} {base : Heap} {f : Addr} {fd : FuncData} (F : FunD K "is_count" "is_count" (defArgs s_is_count) (defBody s_is_count) (defScope s_is_count) [] [] f fd) (hm : mg "is_count" = some (.ref f)) (T : Top w K mg) :
    Callee P w K mg base "is_count" 1 m_is_count .sh := callee_of hm F (fn_is_count F T) (F.bindsN fun _ _ _ _ _ _ us hl => match us, hl with | [_], _ => rfl)
abbrev s_letter_fits : Stmt := (top 13)
abbrev N_letter_fits : List Str := ["letter", "lanes"]
theorem sc_letter_fits : FnScope N_letter_fits ["letter", "lanes"] (defScope s_letter_fits) := ⟨rfl, rfl, rfl, by decide +kernel, rfl, by decide +kernel, by decide +kernel⟩
theorem fn_letter_fits {P : Program} {w : World} {K : PySem.W.Frag} {mg : Str → Option Value} {base : Heap} {f : Addr} {fd : FuncData} (F : FunD K "letter_fits" "letter_fits" (defArgs s_letter_fits) (defBody s_letter_fits) (defScope s_letter_fits) [] [] f fd) (T : Top w K mg) (Cf_is_count : Callee P w K mg base "is_count" 1 m_is_count .sh) :
    FnOk P w K mg base (L2N.CX P w) 2 f fd ["letter", "lanes"] (spM K [] m_letter_fits .sh) := by
  refine def_ok (N := N_letter_fits) (ps := ["letter", "lanes"]) (κ := [.sh, .sh]) (κ' := [.sh, .sh]) (g := g_letter_fits) F sc_letter_fits (kAt_all rfl) (fun cdv A outer s H E hr => ?_)
  have hu := u65 hr
  have tk : L2N.Takes (cxOf (L2N.CX P w) P w K mg base N_letter_fits "letter_fits" (defScope s_letter_fits) f cdv A outer s H E) (cDef E .sh).W := L2N.takes_of rfl rfl rfl rfl
  have po : PassesOwn (model P w) _ _ (cxOf (L2N.CX P w) P w K mg base N_letter_fits "letter_fits" (defScope s_letter_fits) f cdv A outer s H E).xe := passes_of rfl
  have nd := (sc_letter_fits).nd
  exact css_cons (κ1 := [.sh, .sh]) (cs_if (κ' := [.sh, .sh]) (ct_bool (cw_or (ct_not (ct_val (ce_isiT T.kit rfl T.b_isinstance (ce_var 0 rfl (pv 0)) (PCls.cons (pe_ty rfl T.b_list (by decide +kernel)) rfl (PCls.cons (pe_ty rfl T.b_tuple (by decide +kernel)) rfl (PCls.nil)))))) (cw_or (ct_cmp sem_ne (op_ne.or (op_neD (q64 hu))) (ce_callB sem_len call_len rfl T.b_len (by decide +kernel) (ca_cons (ce_var 0 rfl (pv 0)) (ca_nil))) (ce_int) (nomark _)) (cw_or1 (ct_not (ct_val (ce_call Cf_is_count (hr.mono (by decide)) tk rfl (ca_cons (ce_ix (ce_var 0 rfl (pv 0)) (ce_int)) (ca_nil))))))))) (css_one (κ' := [.sh, .sh]) (cs_ret rfl (ce_bl) trivial)) (css_nil) trivial) (css_cons (κ1 := [.sh, .sh]) (cs_if (κ' := [.sh, .sh]) (ct_cmp sem_eq (op_eq.or (op_eqD (q64 hu))) (ce_ix (ce_var 0 rfl (pv 0)) (ce_int)) (ce_str) (nomark _)) (css_one (κ' := [.sh, .sh]) (cs_ret rfl (ce_cmp sem_le op_le (ce_ix (ce_var 0 rfl (pv 0)) (ce_int)) (ce_var 1 rfl (pv 1)) (nomark _)) trivial)) (css_nil) trivial) (css_one (κ' := [.sh, .sh]) (cs_ret rfl (ce_and (ce_cmp sem_in0 (op_inAll hu) (ce_ix (ce_var 0 rfl (pv 0)) (ce_int)) (ce_tup (ca_cons (ce_str) (ca_cons (ce_str) (ca_nil)))) rfl) (ce_one (ce_cmp sem_lt op_lt (ce_add (ce_ix (ce_var 0 rfl (pv 0)) (ce_int)) (ce_int)) (ce_var 1 rfl (pv 1)) (nomark _)))) trivial)))
theorem ok_letter_fits {P : Program} {w : World} {K : PySem.W.Frag} {mg : Str → Option Value} {base : Heap} {f : Addr} {fd : FuncData} (F : FunD K "letter_fits" "letter_fits" (defArgs s_letter_fits) (defBody s_letter_fits) (defScope s_letter_fits) [] [] f fd) (hm : mg "letter_fits" = some (.ref f)) (T : Top w K mg) (Cf_is_count : Callee P w K mg base "is_count" 1 m_is_count .sh) :
    Callee P w K mg base "letter_fits" 2 m_letter_fits .sh := callee_of hm F (fn_letter_fits F T Cf_is_count) (F.bindsN fun _ _ _ _ _ _ us hl => match us, hl with | [_, _], _ => rfl)
abbrev s_Row___init__ : Stmt := (inClass (top 14) 0)
abbrev N_Row___init__ : List Str := ["self", "top", "letters", "lanes", "kept", "place", "letter"]
theorem sc_Row___init__ : FnScope N_Row___init__ ["self", "top", "letters"] (defScope s_Row___init__) := ⟨rfl, rfl, rfl, by decide +kernel, rfl, by decide +kernel, by decide +kernel⟩
theorem ok_Row___init__ {P : Program} {w : World} {K : PySem.W.Frag} {mg : Str → Option Value} {base : Heap} {f : Addr} {fd : FuncData} (F : FunD K "__init__" "Row.__init__" (defArgs s_Row___init__) (defBody s_Row___init__) (defScope s_Row___init__) (dvR K) [] f fd) (hm : mg "Row" = some (.ref (He.ga K "Row"))) (hM : Mk K (He.ga K "Row") f) (T : Top w K mg) (Cf_is_count : Callee P w K mg base "is_count" 1 m_is_count .sh) (Cx_BadLanes : CalleeX P w K mg base "BadLanes" 1 ["number"]) (Cf_letter_fits : Callee P w K mg base "letter_fits" 2 m_letter_fits .sh) (Cx_BadLetter : CalleeX P w K mg base "BadLetter" 1 ["place", "letter"]) :
    CalleeI P w K mg base "Row" 3 m_Row___init__ := by
  refine ⟨f, fd, ["self", "top", "letters"], [], [], [], hm, hM, init_ok (N := ["top", "letters", "lanes", "kept", "place", "letter"]) (ps := ["top", "letters"]) (κ := [.sh, .sh, .sh, .sh, .sh, .sh]) (κ' := fun a => [(.slf a), .sh, .sh, .sh, (.ls .sh), .sh, .sh]) (g := g_Row___init__) F sc_Row___init__ (kAt_all rfl) (fun _ => rfl) (fun a cdv A outer s H E hr => ?_), (bndR F), .nil, fun _ => .nil⟩
  have hu := u65 hr
  have tk : L2N.Takes (cxOf (L2N.CX P w) P w K mg base N_Row___init__ "Row.__init__" (defScope s_Row___init__) f cdv A outer s H E) (cInit E).W := L2N.takes_of rfl rfl rfl rfl
  have po : PassesOwn (model P w) _ _ (cxOf (L2N.CX P w) P w K mg base N_Row___init__ "Row.__init__" (defScope s_Row___init__) f cdv A outer s H E).xe := passes_of rfl
  have nd := (sc_Row___init__).nd
  exact css_cons (κ1 := [(.slf a), .sh, .sh, .sh, .sh, .sh, .sh]) (cs_if (κ' := [(.slf a), .sh, .sh, .sh, .sh, .sh, .sh]) (ct_not (ct_val (ce_call Cf_is_count (hr.mono (by decide)) tk rfl (ca_cons (ce_var 1 rfl (pv 1)) (ca_nil))))) (css_one (κ' := [(.slf a), .sh, .sh, .sh, .sh, .sh, .sh]) (cs_raise Cx_BadLanes (hr.mono (by decide)) rfl tk rfl (ca_cons (ce_var 1 rfl (pv 1)) (ca_nil)) trivial)) (css_nil) trivial) (css_cons (κ1 := [(.slf a), .sh, .sh, .sh, .sh, .sh, .sh]) (cs_asg 3 (r := .sh) (show 3 < 7 by decide) trivial (ps_set (i := 3) nd rfl (Or.inl rfl) (ce_var 1 rfl (pv 1)))) (css_cons (κ1 := [(.slf a), .sh, .sh, .sh, (.ls .sh), .sh, .sh]) (cs_asg 4 (r := (.ls .sh)) (show 4 < 7 by decide) trivial (ps_set (i := 4) nd rfl (Or.inl rfl) (ce_nilO))) (css_cons (κ1 := [(.slf a), .sh, .sh, .sh, (.ls .sh), .sh, .sh]) (cs_for (tg := .tp [5, 6]) po rfl (ci_enum rfl T.b_enumerate (ca_cons (ce_var 2 rfl (pv 2)) (ca_nil))) (pg_tup rfl (pgs_cons (pg_name (i := 5) nd rfl (Or.inl rfl)) (pgs_cons (pg_name (i := 6) nd rfl (Or.inl rfl)) (pgs_nil)))) (slots_sh rfl) (css_cons (κ1 := [(.slf a), .sh, .sh, .sh, (.ls .sh), .sh, .sh]) (cs_if (κ' := [(.slf a), .sh, .sh, .sh, (.ls .sh), .sh, .sh]) (ct_not (ct_val (ce_call Cf_letter_fits (hr.mono (by decide)) tk rfl (ca_cons (ce_var 6 rfl (pv 6)) (ca_cons (ce_var 3 rfl (pv 3)) (ca_nil)))))) (css_one (κ' := [(.slf a), .sh, .sh, .sh, (.ls .sh), .sh, .sh]) (cs_raise Cx_BadLetter (hr.mono (by decide)) rfl tk rfl (ca_cons (ce_var 5 rfl (pv 5)) (ca_cons (ce_var 6 rfl (pv 6)) (ca_nil))) trivial)) (css_nil) trivial) (css_cons (κ1 := [(.slf a), .sh, .sh, .sh, (.ls .sh), .sh, .sh]) (cs_asg 3 (r := .sh) (show 3 < 7 by decide) trivial (ps_set (i := 3) nd rfl (Or.inl rfl) (ce_add (ce_var 3 rfl (pv 3)) (ce_tab T.t_MORE_LANES rfl T.g_MORE_LANES (ce_ix (ce_var 6 rfl (pv 6)) (ce_int)))))) (css_cons (κ1 := [(.slf a), .sh, .sh, .sh, (.ls .sh), .sh, .sh]) (cs_append 4 (k := .sh) rfl trivial (ps_expr (pe_bm PySem.F.plainAttrs_list PySem.F.slot_list_append PySem.F.type_list_append mt_append (pv 4) (pa_cons (ce_tup (ca_cons (ce_ix (ce_var 6 rfl (pv 6)) (ce_int)) (ca_cons (ce_ix (ce_var 6 rfl (pv 6)) (ce_int)) (ca_nil)))) pa_nil)))) (css_nil)))) trivial) (css_cons (κ1 := [(.slf a), .sh, .sh, .sh, (.ls .sh), .sh, .sh]) (cs_setA 0 T.f_top rfl trivial (pv 0) (ce_var 1 rfl (pv 1))) (css_cons (κ1 := [(.slf a), .sh, .sh, .sh, (.ls .sh), .sh, .sh]) (cs_setA 0 T.f_letters rfl trivial (pv 0) (ce_tupO 4 rfl T.b_tuple rfl (pv 4))) (css_nil))))))
abbrev s_Row_lanes : Stmt := (inClass (top 14) 1)
abbrev N_Row_lanes : List Str := ["self", "counts", "word", "_"]
theorem sc_Row_lanes : FnScope N_Row_lanes ["self"] (defScope s_Row_lanes) := ⟨rfl, rfl, rfl, by decide +kernel, rfl, by decide +kernel, by decide +kernel⟩
theorem fn_Row_lanes {P : Program} {w : World} {K : PySem.W.Frag} {mg : Str → Option Value} {base : Heap} {f : Addr} {fd : FuncData} (F : FunD K "lanes" "Row.lanes" (defArgs s_Row_lanes) (defBody s_Row_lanes) (defScope s_Row_lanes) [] [] f fd) (T : Top w K mg) :
    FnOk P w K mg base (L2N.CX P w) 1 f fd ["self"] (spM K [] m_Row_lanes .sh) := by
  refine def_ok (N := N_Row_lanes) (ps := ["self"]) (κ := [.sh, .sh, .sh, .sh]) (κ' := [.sh, (.ls .sh), .sh, .sh]) (g := g_Row_lanes) F sc_Row_lanes (kAt_all rfl) (fun cdv A outer s H E hr => ?_)
  have hu := u65 hr
  have tk : L2N.Takes (cxOf (L2N.CX P w) P w K mg base N_Row_lanes "Row.lanes" (defScope s_Row_lanes) f cdv A outer s H E) (cDef E .sh).W := L2N.takes_of rfl rfl rfl rfl
  have po : PassesOwn (model P w) _ _ (cxOf (L2N.CX P w) P w K mg base N_Row_lanes "Row.lanes" (defScope s_Row_lanes) f cdv A outer s H E).xe := passes_of rfl
  have nd := (sc_Row_lanes).nd
  exact css_cons (κ1 := [.sh, (.ls .sh), .sh, .sh]) (cs_asg 1 (r := (.ls .sh)) (show 1 < 4 by decide) trivial (ps_set (i := 1) nd rfl (Or.inl rfl) (ce_lstO (ca_cons (ce_fld T.f_top (ce_var 0 rfl (pv 0))) (ca_nil))))) (css_cons (κ1 := [.sh, (.ls .sh), .sh, .sh]) (cs_for (tg := .tp [2, 3]) po rfl (ci_seq (ce_fld T.f_letters (ce_var 0 rfl (pv 0)))) (pg_tup rfl (pgs_cons (pg_name (i := 2) nd rfl (Or.inl rfl)) (pgs_cons (pg_name (i := 3) nd rfl (Or.inl rfl)) (pgs_nil)))) (slots_sh rfl) (css_cons (κ1 := [.sh, (.ls .sh), .sh, .sh]) (cs_append 1 (k := .sh) rfl trivial (ps_expr (pe_bm PySem.F.plainAttrs_list PySem.F.slot_list_append PySem.F.type_list_append mt_append (pv 1) (pa_cons (ce_add (ce_ixO 1 rfl (pv 1) (ce_neg (ce_int))) (ce_tab T.t_MORE_LANES rfl T.g_MORE_LANES (ce_var 2 rfl (pv 2)))) pa_nil)))) (css_nil)) trivial) (css_one (κ' := [.sh, (.ls .sh), .sh, .sh]) (cs_ret rfl (ce_tupO 1 rfl T.b_tuple rfl (pv 1)) trivial)))
theorem ok_Row_lanes {P : Program} {w : World} {K : PySem.W.Frag} {mg : Str → Option Value} {base : Heap} {f : Addr} {fd : FuncData} (F : FunD K "lanes" "Row.lanes" (defArgs s_Row_lanes) (defBody s_Row_lanes) (defScope s_Row_lanes) [] [] f fd) (T : Top w K mg) :
    CalleeA P w K mg base f 1 m_Row_lanes .sh := calleeA_of (fn_Row_lanes F T) (F.bindsN fun _ _ _ _ _ _ us hl => match us, hl with | [_], _ => rfl)
abbrev s_Row_bottom : Stmt := (inClass (top 14) 2)
abbrev N_Row_bottom : List Str := ["self"]
theorem sc_Row_bottom : FnScope N_Row_bottom ["self"] (defScope s_Row_bottom) := ⟨rfl, rfl, rfl, by decide +kernel, rfl, by decide +kernel, by decide +kernel⟩
theorem fn_Row_bottom {P : Program} {w : World} {K : PySem.W.Frag} {mg : Str → Option Value} {base : Heap} {f : Addr} {fd : FuncData} (F : FunD K "bottom" "Row.bottom" (defArgs s_Row_bottom) (defBody s_Row_bottom) (defScope s_Row_bottom) [] [] f fd) (T : Top w K mg) (Cp_Row_lanes : CalleeA P w K mg base (propG K "Row" "lanes") 1 m_Row_lanes .sh) :
    FnOk P w K mg base (L2N.CX P w) 3 f fd ["self"] (spM K [] m_Row_bottom .sh) := by
  refine def_ok (N := N_Row_bottom) (ps := ["self"]) (κ := [.sh]) (κ' := [.sh]) (g := g_Row_bottom) F sc_Row_bottom (kAt_all rfl) (fun cdv A outer s H E hr => ?_)
  have hu := u65 hr
  have tk : L2N.Takes (cxOf (L2N.CX P w) P w K mg base N_Row_bottom "Row.bottom" (defScope s_Row_bottom) f cdv A outer s H E) (cDef E .sh).W := L2N.takes_of rfl rfl rfl rfl
  have po : PassesOwn (model P w) _ _ (cxOf (L2N.CX P w) P w K mg base N_Row_bottom "Row.bottom" (defScope s_Row_bottom) f cdv A outer s H E).xe := passes_of rfl
  have nd := (sc_Row_bottom).nd
  exact css_one (κ' := [.sh]) (cs_ret rfl (ce_ix (ce_prop T.p_Row_lanes Cp_Row_lanes (hr.mono (by decide)) (ce_var 0 rfl (pv 0))) (ce_neg (ce_int))) trivial)
theorem ok_Row_bottom {P : Program} {w : World} {K : PySem.W.Frag} {mg : Str → Option Value} {base : Heap} {f : Addr} {fd : FuncData} (F : FunD K "bottom" "Row.bottom" (defArgs s_Row_bottom) (defBody s_Row_bottom) (defScope s_Row_bottom) [] [] f fd) (T : Top w K mg) (Cp_Row_lanes : CalleeA P w K mg base (propG K "Row" "lanes") 1 m_Row_lanes .sh) :
    CalleeA P w K mg base f 3 m_Row_bottom .sh := calleeA_of (fn_Row_bottom F T Cp_Row_lanes) (F.bindsN fun _ _ _ _ _ _ us hl => match us, hl with | [_], _ => rfl)
abbrev s_Row___len__ : Stmt := (inClass (top 14) 4)
abbrev N_Row___len__ : List Str := ["self"]
theorem sc_Row___len__ : FnScope N_Row___len__ ["self"] (defScope s_Row___len__) := ⟨rfl, rfl, rfl, by decide +kernel, rfl, by decide +kernel, by decide +kernel⟩
theorem fn_Row___len__ {P : Program} {w : World} {K : PySem.W.Frag} {mg : Str → Option Value} {base : Heap} {f : Addr} {fd : FuncData} (F : FunD K "__len__" "Row.__len__" (defArgs s_Row___len__) (defBody s_Row___len__) (defScope s_Row___len__) [] [] f fd) (T : Top w K mg) :
    FnOk P w K mg base (L2N.CX P w) 1 f fd ["self"] (spM K [] m_Row___len__ .sh) := by
  refine def_ok (N := N_Row___len__) (ps := ["self"]) (κ := [.sh]) (κ' := [.sh]) (g := g_Row___len__) F sc_Row___len__ (kAt_all rfl) (fun cdv A outer s H E hr => ?_)
  have hu := u65 hr
  have tk : L2N.Takes (cxOf (L2N.CX P w) P w K mg base N_Row___len__ "Row.__len__" (defScope s_Row___len__) f cdv A outer s H E) (cDef E .sh).W := L2N.takes_of rfl rfl rfl rfl
  have po : PassesOwn (model P w) _ _ (cxOf (L2N.CX P w) P w K mg base N_Row___len__ "Row.__len__" (defScope s_Row___len__) f cdv A outer s H E).xe := passes_of rfl
  have nd := (sc_Row___len__).nd
  exact css_one (κ' := [.sh]) (cs_ret rfl (ce_callB sem_len call_len rfl T.b_len (by decide +kernel) (ca_cons (ce_fld T.f_letters (ce_var 0 rfl (pv 0))) (ca_nil))) trivial)
theorem ok_Row___len__ {P : Program} {w : World} {K : PySem.W.Frag} {mg : Str → Option Value} {base : Heap} {f : Addr} {fd : FuncData} (F : FunD K "__len__" "Row.__len__" (defArgs s_Row___len__) (defBody s_Row___len__) (defScope s_Row___len__) [] [] f fd) (T : Top w K mg) :
    CalleeA P w K mg base f 1 m_Row___len__ .sh := calleeA_of (fn_Row___len__ F T) (F.bindsN fun _ _ _ _ _ _ us hl => match us, hl with | [_], _ => rfl)
abbrev s_Row___eq__ : Stmt := (inClass (top 14) 5)
abbrev N_Row___eq__ : List Str := ["self", "other"]
theorem sc_Row___eq__ : FnScope N_Row___eq__ ["self", "other"] (defScope s_Row___eq__) := ⟨rfl, rfl, rfl, by decide +kernel, rfl, by decide +kernel, by decide +kernel⟩
theorem fn_Row___eq__ {P : Program} {w : World} {K : PySem.W.Frag} {mg : Str → Option Value} {base : Heap} {f : Addr} {fd : FuncData} (F : FunD K "__eq__" "Row.__eq__" (defArgs s_Row___eq__) (defBody s_Row___eq__) (defScope s_Row___eq__) [] [] f fd) (T : Top w K mg) :
    FnOk P w K mg base (L2N.CX P w) 1 f fd ["self", "other"] (spM K [] m_Row___eq__ .sh) := by
  refine def_ok (N := N_Row___eq__) (ps := ["self", "other"]) (κ := [.sh, .sh]) (κ' := [.sh, .sh]) (g := g_Row___eq__) F sc_Row___eq__ (kAt_all rfl) (fun cdv A outer s H E hr => ?_)
  have hu := u65 hr
  have tk : L2N.Takes (cxOf (L2N.CX P w) P w K mg base N_Row___eq__ "Row.__eq__" (defScope s_Row___eq__) f cdv A outer s H E) (cDef E .sh).W := L2N.takes_of rfl rfl rfl rfl
  have po : PassesOwn (model P w) _ _ (cxOf (L2N.CX P w) P w K mg base N_Row___eq__ "Row.__eq__" (defScope s_Row___eq__) f cdv A outer s H E).xe := passes_of rfl
  have nd := (sc_Row___eq__).nd
  exact css_one (κ' := [.sh, .sh]) (cs_ret rfl (ce_and (ce_isi T.kit rfl T.b_isinstance (ce_var 1 rfl (pv 1)) (pe_cl rfl T.g_Row)) (ce_and (ce_cmp sem_eq (op_eq.or (op_eqD (q64 hu))) (ce_fld T.f_top (ce_var 0 rfl (pv 0))) (ce_fld T.f_top (ce_var 1 rfl (pv 1))) (nomark _)) (ce_one (ce_cmp sem_eq (op_eq.or (op_eqD (q64 hu))) (ce_fld T.f_letters (ce_var 0 rfl (pv 0))) (ce_fld T.f_letters (ce_var 1 rfl (pv 1))) (nomark _))))) trivial)
theorem ok_Row___eq__ {P : Program} {w : World} {K : PySem.W.Frag} {mg : Str → Option Value} {base : Heap} {f : Addr} {fd : FuncData} (F : FunD K "__eq__" "Row.__eq__" (defArgs s_Row___eq__) (defBody s_Row___eq__) (defScope s_Row___eq__) [] [] f fd) (T : Top w K mg) :
    CalleeA P w K mg base f 1 m_Row___eq__ .sh := calleeA_of (fn_Row___eq__ F T) (F.bindsN fun _ _ _ _ _ _ us hl => match us, hl with | [_, _], _ => rfl)
abbrev s_Row_flipped : Stmt := (inClass (top 14) 9)
abbrev N_Row_flipped : List Str := ["self", "letters", "word", "lane"]
theorem sc_Row_flipped : FnScope N_Row_flipped ["self"] (defScope s_Row_flipped) := ⟨rfl, rfl, rfl, by decide +kernel, rfl, by decide +kernel, by decide +kernel⟩
theorem fn_Row_flipped {P : Program} {w : World} {K : PySem.W.Frag} {mg : Str → Option Value} {base : Heap} {f : Addr} {fd : FuncData} (F : FunD K "flipped" "Row.flipped" (defArgs s_Row_flipped) (defBody s_Row_flipped) (defScope s_Row_flipped) [] [] f fd) (T : Top w K mg) (Ci_Row : CalleeI P w K mg base "Row" 3 m_Row___init__) (Cp_Row_bottom : CalleeA P w K mg base (propG K "Row" "bottom") 3 m_Row_bottom .sh) :
    FnOk P w K mg base (L2N.CX P w) 5 f fd ["self"] (spM K [] m_Row_flipped .sh) := by
  refine def_ok (N := N_Row_flipped) (ps := ["self"]) (κ := [.sh, .sh, .sh, .sh]) (κ' := [.sh, .sh, .sh, .sh]) (g := g_Row_flipped) F sc_Row_flipped (kAt_all rfl) (fun cdv A outer s H E hr => ?_)
  have hu := u65 hr
  have tk : L2N.Takes (cxOf (L2N.CX P w) P w K mg base N_Row_flipped "Row.flipped" (defScope s_Row_flipped) f cdv A outer s H E) (cDef E .sh).W := L2N.takes_of rfl rfl rfl rfl
  have po : PassesOwn (model P w) _ _ (cxOf (L2N.CX P w) P w K mg base N_Row_flipped "Row.flipped" (defScope s_Row_flipped) f cdv A outer s H E).xe := passes_of rfl
  have nd := (sc_Row_flipped).nd
  exact css_cons (κ1 := [.sh, .sh, .sh, .sh]) (cs_compS (i := 1) (tg := .tp [2, 3]) (own := [("word", 2), ("lane", 3)]) (show 1 < 4 by decide) trivial (ps_setLc rfl nd rfl rfl (sw_true rfl rfl rfl (by decide +kernel)) (ci_rev rfl T.b_reversed (ce_fld T.f_letters (ce_var 0 rfl (pv 0)))) (show BlkOk N_Row_flipped (defScope s_Row_flipped) _ _ from blkOk_by (by decide +kernel)) (fun _ _ _ _ _ => pg_tup rfl (pgs_cons (pg_name (i := 2) nd rfl (Or.inl rfl)) (pgs_cons (pg_name (i := 3) nd rfl (Or.inl rfl)) (pgs_nil)))) (fun _ _ _ _ _ => cts_nil) (fun _ _ _ _ _ => ce_tup (ca_cons (ce_tab T.t_FLIPPED rfl T.g_FLIPPED (ce_var 2 rfl (pv 2))) (ca_cons (ce_var 3 rfl (pv 3)) (ca_nil))))) (by decide)) (css_one (κ' := [.sh, .sh, .sh, .sh]) (cs_ret rfl (ce_make Ci_Row (hr.mono (by decide)) tk rfl (ca_cons (ce_prop T.p_Row_bottom Cp_Row_bottom (hr.mono (by decide)) (ce_var 0 rfl (pv 0))) (ca_cons (ce_var 1 rfl (pv 1)) (ca_nil)))) trivial))
theorem ok_Row_flipped {P : Program} {w : World} {K : PySem.W.Frag} {mg : Str → Option Value} {base : Heap} {f : Addr} {fd : FuncData} (F : FunD K "flipped" "Row.flipped" (defArgs s_Row_flipped) (defBody s_Row_flipped) (defScope s_Row_flipped) [] [] f fd) (T : Top w K mg) (Ci_Row : CalleeI P w K mg base "Row" 3 m_Row___init__) (Cp_Row_bottom : CalleeA P w K mg base (propG K "Row" "bottom") 3 m_Row_bottom .sh) :
    CalleeA P w K mg base f 5 m_Row_flipped .sh := calleeA_of (fn_Row_flipped F T Ci_Row Cp_Row_bottom) (F.bindsN fun _ _ _ _ _ _ us hl => match us, hl with | [_], _ => rfl)
abbrev s_format_row : Stmt := (top 16)
abbrev N_format_row : List Str := ["row", "lines", "word", "lane"]
theorem sc_format_row : FnScope N_format_row ["row"] (defScope s_format_row) := ⟨rfl, rfl, rfl, by decide +kernel, rfl, by decide +kernel, by decide +kernel⟩
theorem fn_format_row {P : Program} {w : World} {K : PySem.W.Frag} {mg : Str → Option Value} {base : Heap} {f : Addr} {fd : FuncData} (F : FunD K "format_row" "format_row" (defArgs s_format_row) (defBody s_format_row) (defScope s_format_row) [] [] f fd) (T : Top w K mg) :
    FnOk P w K mg base (L2N.CX P w) 1 f fd ["row"] (spM K [] m_format_row .sh) := by
  refine def_ok (N := N_format_row) (ps := ["row"]) (κ := [.sh, .sh, .sh, .sh]) (κ' := [.sh, .sh, .sh, .sh]) (g := g_format_row) F sc_format_row (kAt_all rfl) (fun cdv A outer s H E hr => ?_)
  have hu := u65 hr
  have tk : L2N.Takes (cxOf (L2N.CX P w) P w K mg base N_format_row "format_row" (defScope s_format_row) f cdv A outer s H E) (cDef E .sh).W := L2N.takes_of rfl rfl rfl rfl
  have po : PassesOwn (model P w) _ _ (cxOf (L2N.CX P w) P w K mg base N_format_row "format_row" (defScope s_format_row) f cdv A outer s H E).xe := passes_of rfl
  have nd := (sc_format_row).nd
  exact css_cons (κ1 := [.sh, (.ls .sh), .sh, .sh]) (cs_asg 1 (r := (.ls .sh)) (show 1 < 4 by decide) trivial (ps_set (i := 1) nd rfl (Or.inl rfl) (ce_lstO (ca_cons (ce_fs (CFS.cons (ce_str) (CFS.cons (ce_fmt (ce_fld T.f_top (ce_var 0 rfl (pv 0)))) (CFS.nil)))) (ca_nil))))) (css_cons (κ1 := [.sh, (.ls .sh), .sh, .sh]) (cs_for (tg := .tp [2, 3]) po rfl (ci_seq (ce_fld T.f_letters (ce_var 0 rfl (pv 0)))) (pg_tup rfl (pgs_cons (pg_name (i := 2) nd rfl (Or.inl rfl)) (pgs_cons (pg_name (i := 3) nd rfl (Or.inl rfl)) (pgs_nil)))) (slots_sh rfl) (css_cons (κ1 := [.sh, (.ls .sh), .sh, .sh]) (cs_append 1 (k := .sh) rfl trivial (ps_expr (pe_bm PySem.F.plainAttrs_list PySem.F.slot_list_append PySem.F.type_list_append mt_append (pv 1) (pa_cons (ce_fs (CFS.cons (ce_fmt (ce_var 2 rfl (pv 2))) (CFS.cons (ce_str) (CFS.cons (ce_fmt (ce_var 3 rfl (pv 3))) (CFS.nil))))) pa_nil)))) (css_nil)) trivial) (css_freeze 1 (Or.inl rfl) (show 1 < 4 by decide) (css_one (κ' := [.sh, .sh, .sh, .sh]) (cs_ret rfl (ce_m1 sem_join PySem.F.slot_str_join PySem.F.type_str_join mt_join (ce_str) (ce_var 1 rfl (pv 1))) trivial))))
theorem ok_format_row {P : Program} {w : World} {K : PySem.W.Frag} {mg : Str → Option Value} {base : Heap} {f : Addr} {fd : FuncData} (F : FunD K "format_row" "format_row" (defArgs s_format_row) (defBody s_format_row) (defScope s_format_row) [] [] f fd) (hm : mg "format_row" = some (.ref f)) (T : Top w K mg) :
    Callee P w K mg base "format_row" 1 m_format_row .sh := callee_of hm F (fn_format_row F T) (F.bindsN fun _ _ _ _ _ _ us hl => match us, hl with | [_], _ => rfl)
abbrev s_written_number : Stmt := (top 17)
abbrev N_written_number : List Str := ["word", "digits", "sign"]
theorem sc_written_number : FnScope N_written_number ["word"] (defScope s_written_number) := ⟨rfl, rfl, rfl, by decide +kernel, rfl, by decide +kernel, by decide +kernel⟩
theorem fn_written_number {P : Program} {w : World} {K : PySem.W.Frag} {mg : Str → Option Value} {base : Heap} {f : Addr} {fd : FuncData} (F : FunD K "written_number" "written_number" (defArgs s_written_number) (defBody s_written_number) (defScope s_written_number) [] [] f fd) (T : Top w K mg) :
    FnOk P w K mg base (L2N.CX P w) 1 f fd ["word"] (spM K [] m_written_number .sh) := by
  refine def_ok (N := N_written_number) (ps := ["word"]) (κ := [.sh, .sh, .sh]) (κ' := [.sh, .sh, .sh]) (g := g_written_number) F sc_written_number (kAt_all rfl) (fun cdv A outer s H E hr => ?_)
  have hu := u65 hr
  have tk : L2N.Takes (cxOf (L2N.CX P w) P w K mg base N_written_number "written_number" (defScope s_written_number) f cdv A outer s H E) (cDef E .sh).W := L2N.takes_of rfl rfl rfl rfl
  have po : PassesOwn (model P w) _ _ (cxOf (L2N.CX P w) P w K mg base N_written_number "written_number" (defScope s_written_number) f cdv A outer s H E).xe := passes_of rfl
  have nd := (sc_written_number).nd
  exact css_cons (κ1 := [.sh, .sh, .sh]) (cs_asg 1 (r := .sh) (show 1 < 3 by decide) trivial (ps_set (i := 1) nd rfl (Or.inl rfl) (ce_if (ct_val (ce_m1 sem_starts PySem.F.slot_str_startswith PySem.F.type_str_startswith mt_startswith (ce_var 0 rfl (pv 0)) (ce_str))) (ce_slice (ce_var 0 rfl (pv 0)) (co_some (ce_int)) (co_none)) (ce_var 0 rfl (pv 0))))) (css_cons (κ1 := [.sh, .sh, .sh]) (cs_if (κ' := [.sh, .sh, .sh]) (ct_cmp sem_eq (op_eq.or (op_eqD (q64 hu))) (ce_var 1 rfl (pv 1)) (ce_str) (nomark _)) (css_one (κ' := [.sh, .sh, .sh]) (cs_ret rfl (ce_non) trivial)) (css_nil) trivial) (css_cons (κ1 := [.sh, .sh, .sh]) (cs_for (tg := .nm 2) po rfl (ci_seq (ce_var 1 rfl (pv 1))) (pg_name (i := 2) nd rfl (Or.inl rfl)) (slots_sh rfl) (css_cons (κ1 := [.sh, .sh, .sh]) (cs_if (κ' := [.sh, .sh, .sh]) (ct_cmp sem_nin0 (op_ninAll hu) (ce_var 2 rfl (pv 2)) (ce_str) rfl) (css_one (κ' := [.sh, .sh, .sh]) (cs_ret rfl (ce_non) trivial)) (css_nil) trivial) (css_nil)) trivial) (css_cons (κ1 := [.sh, .sh, .sh]) (cs_if (κ' := [.sh, .sh, .sh]) (ct_bool (cw_and (ct_cmp sem_eq (op_eq.or (op_eqD (q64 hu))) (ce_ix (ce_var 1 rfl (pv 1)) (ce_int)) (ce_str) (nomark _)) (cw_and1 (ct_cmp sem_ne (op_ne.or (op_neD (q64 hu))) (ce_var 0 rfl (pv 0)) (ce_str) (nomark _))))) (css_one (κ' := [.sh, .sh, .sh]) (cs_ret rfl (ce_non) trivial)) (css_nil) trivial) (css_one (κ' := [.sh, .sh, .sh]) (cs_ret rfl (ce_callTy sem_intA call_intA rfl T.b_int (by decide +kernel) (ca_cons (ce_var 0 rfl (pv 0)) (ca_nil))) trivial)))))
theorem ok_written_number {P : Program} {w : World} {K : PySem.W.Frag} {mg : Str → Option Value} {base : Heap} {f : Addr} {fd : FuncData} (F : FunD K "written_number" "written_number" (defArgs s_written_number) (defBody s_written_number) (defScope s_written_number) [] [] f fd) (hm : mg "written_number" = some (.ref f)) (T : Top w K mg) :
    Callee P w K mg base "written_number" 1 m_written_number .sh := callee_of hm F (fn_written_number F T) (F.bindsN fun _ _ _ _ _ _ us hl => match us, hl with | [_], _ => rfl)
abbrev s_parse_line : Stmt := (top 18)
abbrev N_parse_line : List Str := ["line", "first_words", "words", "number"]
theorem sc_parse_line : FnScope N_parse_line ["line", "first_words"] (defScope s_parse_line) := ⟨rfl, rfl, rfl, by decide +kernel, rfl, by decide +kernel, by decide +kernel⟩
theorem fn_parse_line {P : Program} {w : World} {K : PySem.W.Frag} {mg : Str → Option Value} {base : Heap} {f : Addr} {fd : FuncData} (F : FunD K "parse_line" "parse_line" (defArgs s_parse_line) (defBody s_parse_line) (defScope s_parse_line) [] [] f fd) (T : Top w K mg) (Cf_written_number : Callee P w K mg base "written_number" 1 m_written_number .sh) :
    FnOk P w K mg base (L2N.CX P w) 2 f fd ["line", "first_words"] (spM K [] m_parse_line .sh) := by
  refine def_ok (N := N_parse_line) (ps := ["line", "first_words"]) (κ := [.sh, .sh, .sh, .sh]) (κ' := [.sh, .sh, .sh, .sh]) (g := g_parse_line) F sc_parse_line (kAt_all rfl) (fun cdv A outer s H E hr => ?_)
  have hu := u65 hr
  have tk : L2N.Takes (cxOf (L2N.CX P w) P w K mg base N_parse_line "parse_line" (defScope s_parse_line) f cdv A outer s H E) (cDef E .sh).W := L2N.takes_of rfl rfl rfl rfl
  have po : PassesOwn (model P w) _ _ (cxOf (L2N.CX P w) P w K mg base N_parse_line "parse_line" (defScope s_parse_line) f cdv A outer s H E).xe := passes_of rfl
  have nd := (sc_parse_line).nd
  exact css_cons (κ1 := [.sh, .sh, .sh, .sh]) (cs_asg 2 (r := .sh) (show 2 < 4 by decide) trivial (ps_set (i := 2) nd rfl (Or.inl rfl) (ce_m1 (MetSem.share sem_split) PySem.F.slot_str_split PySem.F.type_str_split mt_split (ce_var 0 rfl (pv 0)) (ce_str)))) (css_cons (κ1 := [.sh, .sh, .sh, .sh]) (cs_if (κ' := [.sh, .sh, .sh, .sh]) (ct_bool (cw_or (ct_cmp sem_ne (op_ne.or (op_neD (q64 hu))) (ce_callB sem_len call_len rfl T.b_len (by decide +kernel) (ca_cons (ce_var 2 rfl (pv 2)) (ca_nil))) (ce_int) (nomark _)) (cw_or1 (ct_cmp sem_nin0 (op_ninAll hu) (ce_ix (ce_var 2 rfl (pv 2)) (ce_int)) (ce_var 1 rfl (pv 1)) rfl)))) (css_one (κ' := [.sh, .sh, .sh, .sh]) (cs_ret rfl (ce_non) trivial)) (css_nil) trivial) (css_cons (κ1 := [.sh, .sh, .sh, .sh]) (cs_asg 3 (r := .sh) (show 3 < 4 by decide) trivial (ps_set (i := 3) nd rfl (Or.inl rfl) (ce_call Cf_written_number (hr.mono (by decide)) tk rfl (ca_cons (ce_ix (ce_var 2 rfl (pv 2)) (ce_int)) (ca_nil))))) (css_cons (κ1 := [.sh, .sh, .sh, .sh]) (cs_if (κ' := [.sh, .sh, .sh, .sh]) (ct_cmp sem_isN op_isN (ce_var 3 rfl (pv 3)) (ce_non) (nomark _)) (css_one (κ' := [.sh, .sh, .sh, .sh]) (cs_ret rfl (ce_non) trivial)) (css_nil) trivial) (css_one (κ' := [.sh, .sh, .sh, .sh]) (cs_ret rfl (ce_tup (ca_cons (ce_ix (ce_var 2 rfl (pv 2)) (ce_int)) (ca_cons (ce_var 3 rfl (pv 3)) (ca_nil)))) trivial)))))
theorem ok_parse_line {P : Program} {w : World} {K : PySem.W.Frag} {mg : Str → Option Value} {base : Heap} {f : Addr} {fd : FuncData} (F : FunD K "parse_line" "parse_line" (defArgs s_parse_line) (defBody s_parse_line) (defScope s_parse_line) [] [] f fd) (hm : mg "parse_line" = some (.ref f)) (T : Top w K mg) (Cf_written_number : Callee P w K mg base "written_number" 1 m_written_number .sh) :
    Callee P w K mg base "parse_line" 2 m_parse_line .sh := callee_of hm F (fn_parse_line F T Cf_written_number) (F.bindsN fun _ _ _ _ _ _ us hl => match us, hl with | [_, _], _ => rfl)
abbrev s_parse_row : Stmt := (top 19)
abbrev N_parse_row : List Str := ["text", "entries", "place", "line", "words", "entry"]
theorem sc_parse_row : FnScope N_parse_row ["text"] (defScope s_parse_row) := ⟨rfl, rfl, rfl, by decide +kernel, rfl, by decide +kernel, by decide +kernel⟩
theorem fn_parse_row {P : Program} {w : World} {K : PySem.W.Frag} {mg : Str → Option Value} {base : Heap} {f : Addr} {fd : FuncData} (F : FunD K "parse_row" "parse_row" (defArgs s_parse_row) (defBody s_parse_row) (defScope s_parse_row) [] [] f fd) (T : Top w K mg) (Cf_parse_line : Callee P w K mg base "parse_line" 2 m_parse_line .sh) (Cx_NoteError : CalleeX P w K mg base "NoteError" 1 ["line"]) (Ci_Row : CalleeI P w K mg base "Row" 3 m_Row___init__) :
    FnOk P w K mg base (L2N.CX P w) 5 f fd ["text"] (spM K [] m_parse_row .sh) := by
  refine def_ok (N := N_parse_row) (ps := ["text"]) (κ := [.sh, .sh, .sh, .sh, .sh, .sh]) (κ' := [.sh, .sh, .sh, .sh, .sh, .sh]) (g := g_parse_row) F sc_parse_row (kAt_all rfl) (fun cdv A outer s H E hr => ?_)
  have hu := u65 hr
  have tk : L2N.Takes (cxOf (L2N.CX P w) P w K mg base N_parse_row "parse_row" (defScope s_parse_row) f cdv A outer s H E) (cDef E .sh).W := L2N.takes_of rfl rfl rfl rfl
  have po : PassesOwn (model P w) _ _ (cxOf (L2N.CX P w) P w K mg base N_parse_row "parse_row" (defScope s_parse_row) f cdv A outer s H E).xe := passes_of rfl
  have nd := (sc_parse_row).nd
  exact css_cons (κ1 := [.sh, (.ls .sh), .sh, .sh, .sh, .sh]) (cs_asg 1 (r := (.ls .sh)) (show 1 < 6 by decide) trivial (ps_set (i := 1) nd rfl (Or.inl rfl) (ce_nilO))) (css_cons (κ1 := [.sh, (.ls .sh), .sh, .sh, .sh, .sh]) (cs_for (tg := .tp [2, 3]) po rfl (ci_enum rfl T.b_enumerate (ca_cons (ce_m1 (MetSem.share sem_split) PySem.F.slot_str_split PySem.F.type_str_split mt_split (ce_var 0 rfl (pv 0)) (ce_str)) (ca_nil))) (pg_tup rfl (pgs_cons (pg_name (i := 2) nd rfl (Or.inl rfl)) (pgs_cons (pg_name (i := 3) nd rfl (Or.inl rfl)) (pgs_nil)))) (slots_sh rfl) (css_cons (κ1 := [.sh, (.ls .sh), .sh, .sh, .sh, .sh]) (cs_asg 4 (r := .sh) (show 4 < 6 by decide) trivial (ps_set (i := 4) nd rfl (Or.inl rfl) (ce_if (ct_cmp sem_eq (op_eq.or (op_eqD (q64 hu))) (ce_var 2 rfl (pv 2)) (ce_int) (nomark _)) (ce_tup (ca_cons (ce_str) (ca_nil))) (ce_tup (ca_cons (ce_str) (ca_cons (ce_str) (ca_cons (ce_str) (ca_nil)))))))) (css_cons (κ1 := [.sh, (.ls .sh), .sh, .sh, .sh, .sh]) (cs_asg 5 (r := .sh) (show 5 < 6 by decide) trivial (ps_set (i := 5) nd rfl (Or.inl rfl) (ce_call Cf_parse_line (hr.mono (by decide)) tk rfl (ca_cons (ce_var 3 rfl (pv 3)) (ca_cons (ce_var 4 rfl (pv 4)) (ca_nil)))))) (css_cons (κ1 := [.sh, (.ls .sh), .sh, .sh, .sh, .sh]) (cs_if (κ' := [.sh, (.ls .sh), .sh, .sh, .sh, .sh]) (ct_cmp sem_isN op_isN (ce_var 5 rfl (pv 5)) (ce_non) (nomark _)) (css_one (κ' := [.sh, (.ls .sh), .sh, .sh, .sh, .sh]) (cs_raise Cx_NoteError (hr.mono (by decide)) rfl tk rfl (ca_cons (ce_add (ce_var 2 rfl (pv 2)) (ce_int)) (ca_nil)) trivial)) (css_nil) trivial) (css_cons (κ1 := [.sh, (.ls .sh), .sh, .sh, .sh, .sh]) (cs_append 1 (k := .sh) rfl trivial (ps_expr (pe_bm PySem.F.plainAttrs_list PySem.F.slot_list_append PySem.F.type_list_append mt_append (pv 1) (pa_cons (ce_var 5 rfl (pv 5)) pa_nil)))) (css_nil))))) trivial) (css_freeze 1 (Or.inl rfl) (show 1 < 6 by decide) (css_one (κ' := [.sh, .sh, .sh, .sh, .sh, .sh]) (cs_ret rfl (ce_make Ci_Row (hr.mono (by decide)) tk rfl (ca_cons (ce_ix (ce_ix (ce_var 1 rfl (pv 1)) (ce_int)) (ce_int)) (ca_cons (ce_slice (ce_var 1 rfl (pv 1)) (co_some (ce_int)) (co_none)) (ca_nil)))) trivial))))
theorem ok_parse_row {P : Program} {w : World} {K : PySem.W.Frag} {mg : Str → Option Value} {base : Heap} {f : Addr} {fd : FuncData} (F : FunD K "parse_row" "parse_row" (defArgs s_parse_row) (defBody s_parse_row) (defScope s_parse_row) [] [] f fd) (hm : mg "parse_row" = some (.ref f)) (T : Top w K mg) (Cf_parse_line : Callee P w K mg base "parse_line" 2 m_parse_line .sh) (Cx_NoteError : CalleeX P w K mg base "NoteError" 1 ["line"]) (Ci_Row : CalleeI P w K mg base "Row" 3 m_Row___init__) :
    Callee P w K mg base "parse_row" 5 m_parse_row .sh := callee_of hm F (fn_parse_row F T Cf_parse_line Cx_NoteError Ci_Row) (F.bindsN fun _ _ _ _ _ _ us hl => match us, hl with | [_], _ => rfl)
abbrev s__law_whole : Stmt := (top 21)
abbrev N__law_whole : List Str := ["_law_value"]
theorem sc__law_whole : FnScope N__law_whole ["_law_value"] (defScope s__law_whole) := ⟨rfl, rfl, rfl, by decide +kernel, rfl, by decide +kernel, by decide +kernel⟩
theorem fn__law_whole {P : Program} {w : World} {K : PySem.W.Frag} {mg : Str → Option Value} {base : Heap} {f : Addr} {fd : FuncData} (F : FunD K "_law_whole" "_law_whole" (defArgs s__law_whole) (defBody s__law_whole) (defScope s__law_whole) [] [] f fd) (T : Top w K mg) :
    FnOk P w K mg base (L2N.CX P w) 1 f fd ["_law_value"] (spM K [] m__law_whole .sh) := by
  refine def_ok (N := N__law_whole) (ps := ["_law_value"]) (κ := [.sh]) (κ' := [.sh]) (g := g__law_whole) F sc__law_whole (kAt_all rfl) (fun cdv A outer s H E hr => ?_)
  have hu := u65 hr
  have tk : L2N.Takes (cxOf (L2N.CX P w) P w K mg base N__law_whole "_law_whole" (defScope s__law_whole) f cdv A outer s H E) (cDef E .sh).W := L2N.takes_of rfl rfl rfl rfl
  have po : PassesOwn (model P w) _ _ (cxOf (L2N.CX P w) P w K mg base N__law_whole "_law_whole" (defScope s__law_whole) f cdv A outer s H E).xe := passes_of rfl
  have nd := (sc__law_whole).nd
  exact css_one (κ' := [.sh]) (cs_ret rfl (ce_and (ce_isi T.kit rfl T.b_isinstance (ce_var 0 rfl (pv 0)) (pe_ty rfl T.b_int (by decide +kernel))) (ce_one (ce_not (ce_isi T.kit rfl T.b_isinstance (ce_var 0 rfl (pv 0)) (pe_ty rfl T.b_bool (by decide +kernel)))))) trivial)
theorem ok__law_whole {P : Program} {w : World} {K : PySem.W.Frag} {mg : Str → Option Value} {base : Heap} {f : Addr} {fd : FuncData} (F : FunD K "_law_whole" "_law_whole" (defArgs s__law_whole) (defBody s__law_whole) (defScope s__law_whole) [] [] f fd) (hm : mg "_law_whole" = some (.ref f)) (T : Top w K mg) :
    Callee P w K mg base "_law_whole" 1 m__law_whole .sh := callee_of hm F (fn__law_whole F T) (F.bindsN fun _ _ _ _ _ _ us hl => match us, hl with | [_], _ => rfl)
abbrev s__law_cell : Stmt := (top 22)
abbrev N__law_cell : List Str := ["_law_script", "_law_k", "_law_seed", "_law_cell_here"]
theorem sc__law_cell : FnScope N__law_cell ["_law_script", "_law_k"] (defScope s__law_cell) := ⟨rfl, rfl, rfl, by decide +kernel, rfl, by decide +kernel, by decide +kernel⟩
theorem fn__law_cell {P : Program} {w : World} {K : PySem.W.Frag} {mg : Str → Option Value} {base : Heap} {f : Addr} {fd : FuncData} (F : FunD K "_law_cell" "_law_cell" (defArgs s__law_cell) (defBody s__law_cell) (defScope s__law_cell) [] [] f fd) (T : Top w K mg) :
    FnOk P w K mg base (L2N.CX P w) 1 f fd ["_law_script", "_law_k"] (spM K [] m__law_cell .sh) := by
  refine def_ok (N := N__law_cell) (ps := ["_law_script", "_law_k"]) (κ := [.sh, .sh, .sh, .sh]) (κ' := [.sh, .sh, .sh, .sh]) (g := g__law_cell) F sc__law_cell (kAt_all rfl) (fun cdv A outer s H E hr => ?_)
  have hu := u65 hr
  have tk : L2N.Takes (cxOf (L2N.CX P w) P w K mg base N__law_cell "_law_cell" (defScope s__law_cell) f cdv A outer s H E) (cDef E .sh).W := L2N.takes_of rfl rfl rfl rfl
  have po : PassesOwn (model P w) _ _ (cxOf (L2N.CX P w) P w K mg base N__law_cell "_law_cell" (defScope s__law_cell) f cdv A outer s H E).xe := passes_of rfl
  have nd := (sc__law_cell).nd
  exact css_cons (κ1 := [.sh, .sh, .sh, .sh]) (cs_if (κ' := [.sh, .sh, .sh, .sh]) (ct_cmp sem_lt op_lt (ce_var 1 rfl (pv 1)) (ce_callB sem_len call_len rfl T.b_len (by decide +kernel) (ca_cons (ce_var 0 rfl (pv 0)) (ca_nil))) (nomark _)) (css_one (κ' := [.sh, .sh, .sh, .sh]) (cs_ret rfl (ce_ix (ce_var 0 rfl (pv 0)) (ce_var 1 rfl (pv 1))) trivial)) (css_nil) trivial) (css_cons (κ1 := [.sh, .sh, .sh, .sh]) (cs_asg 2 (r := .sh) (show 2 < 4 by decide) trivial (ps_set (i := 2) nd rfl (Or.inl rfl) (ce_int))) (css_cons (κ1 := [.sh, .sh, .sh, .sh]) (cs_for (tg := .nm 3) po rfl (ci_seq (ce_var 0 rfl (pv 0))) (pg_name (i := 3) nd rfl (Or.inl rfl)) (slots_sh rfl) (css_cons (κ1 := [.sh, .sh, .sh, .sh]) (cs_asg 2 (r := .sh) (show 2 < 4 by decide) trivial (ps_set (i := 2) nd rfl (Or.inl rfl) (ce_mod (ce_callTy sem_intA call_intA rfl T.b_int (by decide +kernel) (ca_cons (ce_add (ce_mul (ce_var 2 rfl (pv 2)) (ce_int)) (ce_mod (ce_callTy sem_intA call_intA rfl T.b_int (by decide +kernel) (ca_cons (ce_var 3 rfl (pv 3)) (ca_nil))) (ce_int))) (ca_nil))) (ce_int)))) (css_nil)) trivial) (css_one (κ' := [.sh, .sh, .sh, .sh]) (cs_ret rfl (ce_mod (ce_callTy sem_intA call_intA rfl T.b_int (by decide +kernel) (ca_cons (ce_mul (ce_mul (ce_add (ce_var 2 rfl (pv 2)) (ce_int)) (ce_add (ce_var 1 rfl (pv 1)) (ce_int))) (ce_int)) (ca_nil))) (ce_int)) trivial))))
theorem ok__law_cell {P : Program} {w : World} {K : PySem.W.Frag} {mg : Str → Option Value} {base : Heap} {f : Addr} {fd : FuncData} (F : FunD K "_law_cell" "_law_cell" (defArgs s__law_cell) (defBody s__law_cell) (defScope s__law_cell) [] [] f fd) (hm : mg "_law_cell" = some (.ref f)) (T : Top w K mg) :
    Callee P w K mg base "_law_cell" 1 m__law_cell .sh := callee_of hm F (fn__law_cell F T) (F.bindsN fun _ _ _ _ _ _ us hl => match us, hl with | [_, _], _ => rfl)
abbrev s__law_digits : Stmt := (top 23)
abbrev N__law_digits : List Str := ["_law_cell_here", "_law_sizes", "_law_listed", "_law_rest", "_law_size", "_law_seed", "_law_k", "_law_twice"]
theorem sc__law_digits : FnScope N__law_digits ["_law_cell_here", "_law_sizes"] (defScope s__law_digits) := ⟨rfl, rfl, rfl, by decide +kernel, rfl, by decide +kernel, by decide +kernel⟩
theorem fn__law_digits {P : Program} {w : World} {K : PySem.W.Frag} {mg : Str → Option Value} {base : Heap} {f : Addr} {fd : FuncData} (F : FunD K "_law_digits" "_law_digits" (defArgs s__law_digits) (defBody s__law_digits) (defScope s__law_digits) [] [] f fd) (T : Top w K mg) :
    FnOk P w K mg base (L2N.CX P w) 1 f fd ["_law_cell_here", "_law_sizes"] (spM K [] m__law_digits .sh) := by
  refine def_ok (N := N__law_digits) (ps := ["_law_cell_here", "_law_sizes"]) (κ := [.sh, .sh, .sh, .sh, .sh, .sh, .sh, .sh]) (κ' := [.sh, .sh, .sh, .sh, .sh, .sh, .sh, .sh]) (g := g__law_digits) F sc__law_digits (kAt_all rfl) (fun cdv A outer s H E hr => ?_)
  have hu := u65 hr
  have tk : L2N.Takes (cxOf (L2N.CX P w) P w K mg base N__law_digits "_law_digits" (defScope s__law_digits) f cdv A outer s H E) (cDef E .sh).W := L2N.takes_of rfl rfl rfl rfl
  have po : PassesOwn (model P w) _ _ (cxOf (L2N.CX P w) P w K mg base N__law_digits "_law_digits" (defScope s__law_digits) f cdv A outer s H E).xe := passes_of rfl
  have nd := (sc__law_digits).nd
  exact css_cons (κ1 := [.sh, .sh, (.ls .sh), .sh, .sh, .sh, .sh, .sh]) (cs_asg 2 (r := (.ls .sh)) (show 2 < 8 by decide) trivial (ps_set (i := 2) nd rfl (Or.inl rfl) (ce_nilO))) (css_cons (κ1 := [.sh, .sh, (.ls .sh), .sh, .sh, .sh, .sh, .sh]) (cs_asg 3 (r := .sh) (show 3 < 8 by decide) trivial (ps_set (i := 3) nd rfl (Or.inl rfl) (ce_callTy sem_intA call_intA rfl T.b_int (by decide +kernel) (ca_cons (ce_var 0 rfl (pv 0)) (ca_nil))))) (css_cons (κ1 := [.sh, .sh, (.ls .sh), .sh, .sh, .sh, .sh, .sh]) (cs_if (κ' := [.sh, .sh, (.ls .sh), .sh, .sh, .sh, .sh, .sh]) (ct_cmp sem_ge op_ge (ce_var 3 rfl (pv 3)) (ce_pow (ce_int) (ce_int)) (nomark _)) (css_cons (κ1 := [.sh, .sh, (.ls .sh), .sh, .sh, .sh, .sh, .sh]) (cs_asg 3 (r := .sh) (show 3 < 8 by decide) trivial (ps_set (i := 3) nd rfl (Or.inl rfl) (ce_sub (ce_var 3 rfl (pv 3)) (ce_pow (ce_int) (ce_int))))) (css_cons (κ1 := [.sh, .sh, (.ls .sh), .sh, .sh, .sh, .sh, .sh]) (cs_for (tg := .nm 4) po rfl (ci_seq (ce_var 1 rfl (pv 1))) (pg_name (i := 4) nd rfl (Or.inl rfl)) (slots_sh rfl) (css_cons (κ1 := [.sh, .sh, (.ls .sh), .sh, .sh, .sh, .sh, .sh]) (cs_append 2 (k := .sh) rfl trivial (ps_expr (pe_bm PySem.F.plainAttrs_list PySem.F.slot_list_append PySem.F.type_list_append mt_append (pv 2) (pa_cons (ce_mod (ce_callTy sem_intA call_intA rfl T.b_int (by decide +kernel) (ca_cons (ce_var 3 rfl (pv 3)) (ca_nil))) (ce_var 4 rfl (pv 4))) pa_nil)))) (css_cons (κ1 := [.sh, .sh, (.ls .sh), .sh, .sh, .sh, .sh, .sh]) (cs_asg 3 (r := .sh) (show 3 < 8 by decide) trivial (ps_set (i := 3) nd rfl (Or.inl rfl) (ce_fdiv (ce_callTy sem_intA call_intA rfl T.b_int (by decide +kernel) (ca_cons (ce_var 3 rfl (pv 3)) (ca_nil))) (ce_var 4 rfl (pv 4))))) (css_nil))) trivial) (css_freeze 2 (Or.inl rfl) (show 2 < 8 by decide) (css_one (κ' := [.sh, .sh, (.ls .sh), .sh, .sh, .sh, .sh, .sh]) (cs_ret rfl (ce_var 2 rfl (pv 2)) trivial))))) (css_nil) trivial) (css_cons (κ1 := [.sh, .sh, (.ls .sh), .sh, .sh, .sh, .sh, .sh]) (cs_asg 5 (r := .sh) (show 5 < 8 by decide) trivial (ps_set (i := 5) nd rfl (Or.inl rfl) (ce_mod (ce_callTy sem_intA call_intA rfl T.b_int (by decide +kernel) (ca_cons (ce_var 3 rfl (pv 3)) (ca_nil))) (ce_int)))) (css_cons (κ1 := [.sh, .sh, (.ls .sh), .sh, .sh, .sh, .sh, .sh]) (cs_for (tg := .nm 6) po rfl (ci_range1 rfl T.b_range (ca_cons (ce_callB sem_len call_len rfl T.b_len (by decide +kernel) (ca_cons (ce_var 1 rfl (pv 1)) (ca_nil))) (ca_nil))) (pg_name (i := 6) nd rfl (Or.inl rfl)) (slots_sh rfl) (css_cons (κ1 := [.sh, .sh, (.ls .sh), .sh, .sh, .sh, .sh, .sh]) (cs_asg 5 (r := .sh) (show 5 < 8 by decide) trivial (ps_set (i := 5) nd rfl (Or.inl rfl) (ce_mod (ce_callTy sem_intA call_intA rfl T.b_int (by decide +kernel) (ca_cons (ce_add (ce_add (ce_mul (ce_var 5 rfl (pv 5)) (ce_int)) (ce_mul (ce_int) (ce_var 6 rfl (pv 6)))) (ce_int)) (ca_nil))) (ce_int)))) (css_cons (κ1 := [.sh, .sh, (.ls .sh), .sh, .sh, .sh, .sh, .sh]) (cs_asg 7 (r := .sh) (show 7 < 8 by decide) trivial (ps_set (i := 7) nd rfl (Or.inl rfl) (ce_mod (ce_callTy sem_intA call_intA rfl T.b_int (by decide +kernel) (ca_cons (ce_mul (ce_var 5 rfl (pv 5)) (ce_add (ce_fdiv (ce_var 5 rfl (pv 5)) (ce_int)) (ce_int))) (ca_nil))) (ce_int)))) (css_cons (κ1 := [.sh, .sh, (.ls .sh), .sh, .sh, .sh, .sh, .sh]) (cs_append 2 (k := .sh) rfl trivial (ps_expr (pe_bm PySem.F.plainAttrs_list PySem.F.slot_list_append PySem.F.type_list_append mt_append (pv 2) (pa_cons (ce_mod (ce_fdiv (ce_var 7 rfl (pv 7)) (ce_int)) (ce_ix (ce_var 1 rfl (pv 1)) (ce_var 6 rfl (pv 6)))) pa_nil)))) (css_nil)))) trivial) (css_freeze 2 (Or.inl rfl) (show 2 < 8 by decide) (css_one (κ' := [.sh, .sh, .sh, .sh, .sh, .sh, .sh, .sh]) (cs_ret rfl (ce_var 2 rfl (pv 2)) trivial)))))))
theorem ok__law_digits {P : Program} {w : World} {K : PySem.W.Frag} {mg : Str → Option Value} {base : Heap} {f : Addr} {fd : FuncData} (F : FunD K "_law_digits" "_law_digits" (defArgs s__law_digits) (defBody s__law_digits) (defScope s__law_digits) [] [] f fd) (hm : mg "_law_digits" = some (.ref f)) (T : Top w K mg) :
    Callee P w K mg base "_law_digits" 1 m__law_digits .sh := callee_of hm F (fn__law_digits F T) (F.bindsN fun _ _ _ _ _ _ us hl => match us, hl with | [_, _], _ => rfl)
abbrev s__law_letters : Stmt := (top 24)
abbrev N__law_letters : List Str := ["_law_listed", "_law_top", "_law_upto", "_law_letters_here", "_law_lanes_here", "_law_k", "_law_word"]
theorem sc__law_letters : FnScope N__law_letters ["_law_listed", "_law_top", "_law_upto"] (defScope s__law_letters) := ⟨rfl, rfl, rfl, by decide +kernel, rfl, by decide +kernel, by decide +kernel⟩
theorem fn__law_letters {P : Program} {w : World} {K : PySem.W.Frag} {mg : Str → Option Value} {base : Heap} {f : Addr} {fd : FuncData} (F : FunD K "_law_letters" "_law_letters" (defArgs s__law_letters) (defBody s__law_letters) (defScope s__law_letters) [] [] f fd) (T : Top w K mg) :
    FnOk P w K mg base (L2N.CX P w) 1 f fd ["_law_listed", "_law_top", "_law_upto"] (spM K [] m__law_letters .sh) := by
  refine def_ok (N := N__law_letters) (ps := ["_law_listed", "_law_top", "_law_upto"]) (κ := [.sh, .sh, .sh, .sh, .sh, .sh, .sh]) (κ' := [.sh, .sh, .sh, .sh, .sh, .sh, .sh]) (g := g__law_letters) F sc__law_letters (kAt_all rfl) (fun cdv A outer s H E hr => ?_)
  have hu := u65 hr
  have tk : L2N.Takes (cxOf (L2N.CX P w) P w K mg base N__law_letters "_law_letters" (defScope s__law_letters) f cdv A outer s H E) (cDef E .sh).W := L2N.takes_of rfl rfl rfl rfl
  have po : PassesOwn (model P w) _ _ (cxOf (L2N.CX P w) P w K mg base N__law_letters "_law_letters" (defScope s__law_letters) f cdv A outer s H E).xe := passes_of rfl
  have nd := (sc__law_letters).nd
  exact css_cons (κ1 := [.sh, .sh, .sh, (.ls .sh), .sh, .sh, .sh]) (cs_asg 3 (r := (.ls .sh)) (show 3 < 7 by decide) trivial (ps_set (i := 3) nd rfl (Or.inl rfl) (ce_nilO))) (css_cons (κ1 := [.sh, .sh, .sh, (.ls .sh), .sh, .sh, .sh]) (cs_asg 4 (r := .sh) (show 4 < 7 by decide) trivial (ps_set (i := 4) nd rfl (Or.inl rfl) (ce_var 1 rfl (pv 1)))) (css_cons (κ1 := [.sh, .sh, .sh, (.ls .sh), .sh, .sh, .sh]) (cs_for (tg := .nm 5) po rfl (ci_range1 rfl T.b_range (ca_cons (ce_fdiv (ce_callB sem_len call_len rfl T.b_len (by decide +kernel) (ca_cons (ce_var 0 rfl (pv 0)) (ca_nil))) (ce_int)) (ca_nil))) (pg_name (i := 5) nd rfl (Or.inl rfl)) (slots_sh rfl) (css_cons (κ1 := [.sh, .sh, .sh, (.ls .sh), .sh, .sh, .sh]) (cs_asg 6 (r := .sh) (show 6 < 7 by decide) trivial (ps_set (i := 6) nd rfl (Or.inl rfl) (ce_ix (ce_lst (ca_cons (ce_str) (ca_cons (ce_str) (ca_cons (ce_str) (ca_cons (ce_str) (ca_nil)))))) (ce_fdiv (ce_ix (ce_var 0 rfl (pv 0)) (ce_mul (ce_int) (ce_var 5 rfl (pv 5)))) (ce_int))))) (css_cons (κ1 := [.sh, .sh, .sh, (.ls .sh), .sh, .sh, .sh]) (cs_if (κ' := [.sh, .sh, .sh, (.ls .sh), .sh, .sh, .sh]) (ct_cmp sem_lt op_lt (ce_var 4 rfl (pv 4)) (ce_int) (nomark _)) (css_cons (κ1 := [.sh, .sh, .sh, (.ls .sh), .sh, .sh, .sh]) (cs_asg 6 (r := .sh) (show 6 < 7 by decide) trivial (ps_set (i := 6) nd rfl (Or.inl rfl) (ce_str))) (css_nil)) (css_nil) trivial) (css_cons (κ1 := [.sh, .sh, .sh, (.ls .sh), .sh, .sh, .sh]) (cs_if (κ' := [.sh, .sh, .sh, (.ls .sh), .sh, .sh, .sh]) (ct_bool (cw_and (ct_cmp sem_eq (op_eq.or (op_eqD (q64 hu))) (ce_var 6 rfl (pv 6)) (ce_str) (nomark _)) (cw_and1 (ct_cmp sem_gt op_gt (ce_add (ce_var 4 rfl (pv 4)) (ce_int)) (ce_var 2 rfl (pv 2)) (nomark _))))) (css_cons (κ1 := [.sh, .sh, .sh, (.ls .sh), .sh, .sh, .sh]) (cs_asg 6 (r := .sh) (show 6 < 7 by decide) trivial (ps_set (i := 6) nd rfl (Or.inl rfl) (ce_str))) (css_nil)) (css_nil) trivial) (css_cons (κ1 := [.sh, .sh, .sh, (.ls .sh), .sh, .sh, .sh]) (cs_if (κ' := [.sh, .sh, .sh, (.ls .sh), .sh, .sh, .sh]) (ct_cmp sem_eq (op_eq.or (op_eqD (q64 hu))) (ce_var 6 rfl (pv 6)) (ce_str) (nomark _)) (css_cons (κ1 := [.sh, .sh, .sh, (.ls .sh), .sh, .sh, .sh]) (cs_append 3 (k := .sh) rfl trivial (ps_expr (pe_bm PySem.F.plainAttrs_list PySem.F.slot_list_append PySem.F.type_list_append mt_append (pv 3) (pa_cons (ce_tup (ca_cons (ce_var 6 rfl (pv 6)) (ca_cons (ce_mod (ce_callTy sem_intA call_intA rfl T.b_int (by decide +kernel) (ca_cons (ce_ix (ce_var 0 rfl (pv 0)) (ce_add (ce_mul (ce_int) (ce_var 5 rfl (pv 5))) (ce_int))) (ca_nil))) (ce_add (ce_var 4 rfl (pv 4)) (ce_int))) (ca_nil)))) pa_nil)))) (css_cons (κ1 := [.sh, .sh, .sh, (.ls .sh), .sh, .sh, .sh]) (cs_asg 4 (r := .sh) (show 4 < 7 by decide) trivial (ps_set (i := 4) nd rfl (Or.inl rfl) (ce_add (ce_var 4 rfl (pv 4)) (ce_int)))) (css_nil))) (css_cons (κ1 := [.sh, .sh, .sh, (.ls .sh), .sh, .sh, .sh]) (cs_append 3 (k := .sh) rfl trivial (ps_expr (pe_bm PySem.F.plainAttrs_list PySem.F.slot_list_append PySem.F.type_list_append mt_append (pv 3) (pa_cons (ce_tup (ca_cons (ce_var 6 rfl (pv 6)) (ca_cons (ce_mod (ce_callTy sem_intA call_intA rfl T.b_int (by decide +kernel) (ca_cons (ce_ix (ce_var 0 rfl (pv 0)) (ce_add (ce_mul (ce_int) (ce_var 5 rfl (pv 5))) (ce_int))) (ca_nil))) (ce_sub (ce_var 4 rfl (pv 4)) (ce_int))) (ca_nil)))) pa_nil)))) (css_cons (κ1 := [.sh, .sh, .sh, (.ls .sh), .sh, .sh, .sh]) (cs_asg 4 (r := .sh) (show 4 < 7 by decide) trivial (ps_set (i := 4) nd rfl (Or.inl rfl) (ce_sub (ce_var 4 rfl (pv 4)) (ce_mul (ce_int) (ce_callTy sem_intA call_intA rfl T.b_int (by decide +kernel) (ca_cons (ce_cmp sem_eq (op_eq.or (op_eqD (q64 hu))) (ce_var 6 rfl (pv 6)) (ce_str) (nomark _)) (ca_nil))))))) (css_nil))) trivial) (css_nil))))) trivial) (css_freeze 3 (Or.inl rfl) (show 3 < 7 by decide) (css_one (κ' := [.sh, .sh, .sh, .sh, .sh, .sh, .sh]) (cs_ret rfl (ce_var 3 rfl (pv 3)) trivial)))))
theorem ok__law_letters {P : Program} {w : World} {K : PySem.W.Frag} {mg : Str → Option Value} {base : Heap} {f : Addr} {fd : FuncData} (F : FunD K "_law_letters" "_law_letters" (defArgs s__law_letters) (defBody s__law_letters) (defScope s__law_letters) [] [] f fd) (hm : mg "_law_letters" = some (.ref f)) (T : Top w K mg) :
    Callee P w K mg base "_law_letters" 1 m__law_letters .sh := callee_of hm F (fn__law_letters F T) (F.bindsN fun _ _ _ _ _ _ us hl => match us, hl with | [_, _, _], _ => rfl)
abbrev s__law_lanes : Stmt := (top 25)
abbrev N__law_lanes : List Str := ["_law_top", "_law_letters_here", "_law_lanes_here", "_law_letter"]
theorem sc__law_lanes : FnScope N__law_lanes ["_law_top", "_law_letters_here"] (defScope s__law_lanes) := ⟨rfl, rfl, rfl, by decide +kernel, rfl, by decide +kernel, by decide +kernel⟩
theorem fn__law_lanes {P : Program} {w : World} {K : PySem.W.Frag} {mg : Str → Option Value} {base : Heap} {f : Addr} {fd : FuncData} (F : FunD K "_law_lanes" "_law_lanes" (defArgs s__law_lanes) (defBody s__law_lanes) (defScope s__law_lanes) [] [] f fd) (T : Top w K mg) :
    FnOk P w K mg base (L2N.CX P w) 1 f fd ["_law_top", "_law_letters_here"] (spM K [] m__law_lanes .sh) := by
  refine def_ok (N := N__law_lanes) (ps := ["_law_top", "_law_letters_here"]) (κ := [.sh, .sh, .sh, .sh]) (κ' := [.sh, .sh, .sh, .sh]) (g := g__law_lanes) F sc__law_lanes (kAt_all rfl) (fun cdv A outer s H E hr => ?_)
  have hu := u65 hr
  have tk : L2N.Takes (cxOf (L2N.CX P w) P w K mg base N__law_lanes "_law_lanes" (defScope s__law_lanes) f cdv A outer s H E) (cDef E .sh).W := L2N.takes_of rfl rfl rfl rfl
  have po : PassesOwn (model P w) _ _ (cxOf (L2N.CX P w) P w K mg base N__law_lanes "_law_lanes" (defScope s__law_lanes) f cdv A outer s H E).xe := passes_of rfl
  have nd := (sc__law_lanes).nd
  exact css_cons (κ1 := [.sh, .sh, (.ls .sh), .sh]) (cs_asg 2 (r := (.ls .sh)) (show 2 < 4 by decide) trivial (ps_set (i := 2) nd rfl (Or.inl rfl) (ce_lstO (ca_cons (ce_var 0 rfl (pv 0)) (ca_nil))))) (css_cons (κ1 := [.sh, .sh, (.ls .sh), .sh]) (cs_for (tg := .nm 3) po rfl (ci_seq (ce_var 1 rfl (pv 1))) (pg_name (i := 3) nd rfl (Or.inl rfl)) (slots_sh rfl) (css_cons (κ1 := [.sh, .sh, (.ls .sh), .sh]) (cs_append 2 (k := .sh) rfl trivial (ps_expr (pe_bm PySem.F.plainAttrs_list PySem.F.slot_list_append PySem.F.type_list_append mt_append (pv 2) (pa_cons (ce_sub (ce_add (ce_ixO 2 rfl (pv 2) (ce_neg (ce_int))) (ce_mul (ce_int) (ce_callTy sem_intA call_intA rfl T.b_int (by decide +kernel) (ca_cons (ce_cmp sem_eq (op_eq.or (op_eqD (q64 hu))) (ce_ix (ce_var 3 rfl (pv 3)) (ce_int)) (ce_str) (nomark _)) (ca_nil))))) (ce_mul (ce_int) (ce_callTy sem_intA call_intA rfl T.b_int (by decide +kernel) (ca_cons (ce_cmp sem_eq (op_eq.or (op_eqD (q64 hu))) (ce_ix (ce_var 3 rfl (pv 3)) (ce_int)) (ce_str) (nomark _)) (ca_nil))))) pa_nil)))) (css_nil)) trivial) (css_freeze 2 (Or.inl rfl) (show 2 < 4 by decide) (css_one (κ' := [.sh, .sh, .sh, .sh]) (cs_ret rfl (ce_var 2 rfl (pv 2)) trivial))))
theorem ok__law_lanes {P : Program} {w : World} {K : PySem.W.Frag} {mg : Str → Option Value} {base : Heap} {f : Addr} {fd : FuncData} (F : FunD K "_law_lanes" "_law_lanes" (defArgs s__law_lanes) (defBody s__law_lanes) (defScope s__law_lanes) [] [] f fd) (hm : mg "_law_lanes" = some (.ref f)) (T : Top w K mg) :
    Callee P w K mg base "_law_lanes" 1 m__law_lanes .sh := callee_of hm F (fn__law_lanes F T) (F.bindsN fun _ _ _ _ _ _ us hl => match us, hl with | [_, _], _ => rfl)
abbrev s__law_is_row : Stmt := (top 26)
abbrev N__law_is_row : List Str := ["_law_told", "_law_top", "_law_letters_here", "_law_k", "_law_letter"]
theorem sc__law_is_row : FnScope N__law_is_row ["_law_told", "_law_top", "_law_letters_here"] (defScope s__law_is_row) := ⟨rfl, rfl, rfl, by decide +kernel, rfl, by decide +kernel, by decide +kernel⟩
theorem fn__law_is_row {P : Program} {w : World} {K : PySem.W.Frag} {mg : Str → Option Value} {base : Heap} {f : Addr} {fd : FuncData} (F : FunD K "_law_is_row" "_law_is_row" (defArgs s__law_is_row) (defBody s__law_is_row) (defScope s__law_is_row) [] [] f fd) (T : Top w K mg) (Cf__law_whole : Callee P w K mg base "_law_whole" 1 m__law_whole .sh) (Cm_Row___len__ : CalleeA P w K mg base (He.ma K (He.ga K "Row") "__len__") 1 m_Row___len__ .sh) (Cp_Row_bottom : CalleeA P w K mg base (propG K "Row" "bottom") 3 m_Row_bottom .sh) (Cf__law_lanes : Callee P w K mg base "_law_lanes" 1 m__law_lanes .sh) :
    FnOk P w K mg base (L2N.CX P w) 5 f fd ["_law_told", "_law_top", "_law_letters_here"] (spM K [] m__law_is_row .sh) := by
  refine def_ok (N := N__law_is_row) (ps := ["_law_told", "_law_top", "_law_letters_here"]) (κ := [.sh, .sh, .sh, .sh, .sh]) (κ' := [.sh, .sh, .sh, .sh, .sh]) (g := g__law_is_row) F sc__law_is_row (kAt_all rfl) (fun cdv A outer s H E hr => ?_)
  have hu := u65 hr
  have tk : L2N.Takes (cxOf (L2N.CX P w) P w K mg base N__law_is_row "_law_is_row" (defScope s__law_is_row) f cdv A outer s H E) (cDef E .sh).W := L2N.takes_of rfl rfl rfl rfl
  have po : PassesOwn (model P w) _ _ (cxOf (L2N.CX P w) P w K mg base N__law_is_row "_law_is_row" (defScope s__law_is_row) f cdv A outer s H E).xe := passes_of rfl
  have nd := (sc__law_is_row).nd
  exact css_cons (κ1 := [.sh, .sh, .sh, .sh, .sh]) (cs_if (κ' := [.sh, .sh, .sh, .sh, .sh]) (ct_bool (cw_or (ct_not (ct_val (ce_isi T.kit rfl T.b_isinstance (ce_var 0 rfl (pv 0)) (pe_cl rfl T.g_Row)))) (cw_or (ct_not (ct_val (ce_call Cf__law_whole (hr.mono (by decide)) tk rfl (ca_cons (ce_fld T.f_top (ce_var 0 rfl (pv 0))) (ca_nil))))) (cw_or1 (ct_cmp sem_ne (op_ne.or (op_neD (q64 hu))) (ce_fld T.f_top (ce_var 0 rfl (pv 0))) (ce_var 1 rfl (pv 1)) (nomark _)))))) (css_one (κ' := [.sh, .sh, .sh, .sh, .sh]) (cs_ret rfl (ce_bl) trivial)) (css_nil) trivial) (css_cons (κ1 := [.sh, .sh, .sh, .sh, .sh]) (cs_if (κ' := [.sh, .sh, .sh, .sh, .sh]) (ct_bool (cw_or (ct_not (ct_val (ce_isi T.kit rfl T.b_isinstance (ce_fld T.f_letters (ce_var 0 rfl (pv 0))) (pe_ty rfl T.b_tuple (by decide +kernel))))) (cw_or (ct_cmp sem_ne (op_ne.or (op_neD (q64 hu))) (ce_callB sem_len call_len rfl T.b_len (by decide +kernel) (ca_cons (ce_fld T.f_letters (ce_var 0 rfl (pv 0))) (ca_nil))) (ce_callB sem_len call_len rfl T.b_len (by decide +kernel) (ca_cons (ce_var 2 rfl (pv 2)) (ca_nil))) (nomark _)) (cw_or1 (ct_cmp sem_ne (op_ne.or (op_neD (q64 hu))) (ce_lenO T.m_Row___len__ Cm_Row___len__ (hr.mono (by decide)) rfl T.b_len (ca_cons (ce_var 0 rfl (pv 0)) (ca_nil))) (ce_callB sem_len call_len rfl T.b_len (by decide +kernel) (ca_cons (ce_var 2 rfl (pv 2)) (ca_nil))) (nomark _)))))) (css_one (κ' := [.sh, .sh, .sh, .sh, .sh]) (cs_ret rfl (ce_bl) trivial)) (css_nil) trivial) (css_cons (κ1 := [.sh, .sh, .sh, .sh, .sh]) (cs_for (tg := .nm 3) po rfl (ci_range1 rfl T.b_range (ca_cons (ce_callB sem_len call_len rfl T.b_len (by decide +kernel) (ca_cons (ce_var 2 rfl (pv 2)) (ca_nil))) (ca_nil))) (pg_name (i := 3) nd rfl (Or.inl rfl)) (slots_sh rfl) (css_cons (κ1 := [.sh, .sh, .sh, .sh, .sh]) (cs_asg 4 (r := .sh) (show 4 < 5 by decide) trivial (ps_set (i := 4) nd rfl (Or.inl rfl) (ce_ix (ce_fld T.f_letters (ce_var 0 rfl (pv 0))) (ce_var 3 rfl (pv 3))))) (css_cons (κ1 := [.sh, .sh, .sh, .sh, .sh]) (cs_if (κ' := [.sh, .sh, .sh, .sh, .sh]) (ct_bool (cw_or (ct_not (ct_val (ce_isi T.kit rfl T.b_isinstance (ce_var 4 rfl (pv 4)) (pe_ty rfl T.b_tuple (by decide +kernel))))) (cw_or1 (ct_cmp sem_ne (op_ne.or (op_neD (q64 hu))) (ce_callB sem_len call_len rfl T.b_len (by decide +kernel) (ca_cons (ce_var 4 rfl (pv 4)) (ca_nil))) (ce_int) (nomark _))))) (css_one (κ' := [.sh, .sh, .sh, .sh, .sh]) (cs_ret rfl (ce_bl) trivial)) (css_nil) trivial) (css_cons (κ1 := [.sh, .sh, .sh, .sh, .sh]) (cs_if (κ' := [.sh, .sh, .sh, .sh, .sh]) (ct_bool (cw_or (ct_not (ct_val (ce_isi T.kit rfl T.b_isinstance (ce_ix (ce_var 4 rfl (pv 4)) (ce_int)) (pe_ty rfl T.b_str (by decide +kernel))))) (cw_or1 (ct_not (ct_val (ce_call Cf__law_whole (hr.mono (by decide)) tk rfl (ca_cons (ce_ix (ce_var 4 rfl (pv 4)) (ce_int)) (ca_nil)))))))) (css_one (κ' := [.sh, .sh, .sh, .sh, .sh]) (cs_ret rfl (ce_bl) trivial)) (css_nil) trivial) (css_cons (κ1 := [.sh, .sh, .sh, .sh, .sh]) (cs_if (κ' := [.sh, .sh, .sh, .sh, .sh]) (ct_bool (cw_or (ct_cmp sem_ne (op_ne.or (op_neD (q64 hu))) (ce_ix (ce_var 4 rfl (pv 4)) (ce_int)) (ce_ix (ce_ix (ce_var 2 rfl (pv 2)) (ce_var 3 rfl (pv 3))) (ce_int)) (nomark _)) (cw_or1 (ct_cmp sem_ne (op_ne.or (op_neD (q64 hu))) (ce_ix (ce_var 4 rfl (pv 4)) (ce_int)) (ce_ix (ce_ix (ce_var 2 rfl (pv 2)) (ce_var 3 rfl (pv 3))) (ce_int)) (nomark _))))) (css_one (κ' := [.sh, .sh, .sh, .sh, .sh]) (cs_ret rfl (ce_bl) trivial)) (css_nil) trivial) (css_nil))))) trivial) (css_one (κ' := [.sh, .sh, .sh, .sh, .sh]) (cs_ret rfl (ce_and (ce_call Cf__law_whole (hr.mono (by decide)) tk rfl (ca_cons (ce_prop T.p_Row_bottom Cp_Row_bottom (hr.mono (by decide)) (ce_var 0 rfl (pv 0))) (ca_nil))) (ce_one (ce_cmp sem_eq (op_eq.or (op_eqD (q64 hu))) (ce_prop T.p_Row_bottom Cp_Row_bottom (hr.mono (by decide)) (ce_var 0 rfl (pv 0))) (ce_ix (ce_call Cf__law_lanes (hr.mono (by decide)) tk rfl (ca_cons (ce_var 1 rfl (pv 1)) (ca_cons (ce_var 2 rfl (pv 2)) (ca_nil)))) (ce_neg (ce_int))) (nomark _)))) trivial))))
theorem ok__law_is_row {P : Program} {w : World} {K : PySem.W.Frag} {mg : Str → Option Value} {base : Heap} {f : Addr} {fd : FuncData} (F : FunD K "_law_is_row" "_law_is_row" (defArgs s__law_is_row) (defBody s__law_is_row) (defScope s__law_is_row) [] [] f fd) (hm : mg "_law_is_row" = some (.ref f)) (T : Top w K mg) (Cf__law_whole : Callee P w K mg base "_law_whole" 1 m__law_whole .sh) (Cm_Row___len__ : CalleeA P w K mg base (He.ma K (He.ga K "Row") "__len__") 1 m_Row___len__ .sh) (Cp_Row_bottom : CalleeA P w K mg base (propG K "Row" "bottom") 3 m_Row_bottom .sh) (Cf__law_lanes : Callee P w K mg base "_law_lanes" 1 m__law_lanes .sh) :
    Callee P w K mg base "_law_is_row" 5 m__law_is_row .sh := callee_of hm F (fn__law_is_row F T Cf__law_whole Cm_Row___len__ Cp_Row_bottom Cf__law_lanes) (F.bindsN fun _ _ _ _ _ _ us hl => match us, hl with | [_, _, _], _ => rfl)
abbrev s__law_note : Stmt := (top 27)
abbrev N__law_note : List Str := ["_law_top", "_law_letters_here", "_law_letter"]
theorem sc__law_note : FnScope N__law_note ["_law_top", "_law_letters_here"] (defScope s__law_note) := ⟨rfl, rfl, rfl, by decide +kernel, rfl, by decide +kernel, by decide +kernel⟩
theorem fn__law_note {P : Program} {w : World} {K : PySem.W.Frag} {mg : Str → Option Value} {base : Heap} {f : Addr} {fd : FuncData} (F : FunD K "_law_note" "_law_note" (defArgs s__law_note) (defBody s__law_note) (defScope s__law_note) [] [] f fd) (T : Top w K mg) :
    FnOk P w K mg base (L2N.CX P w) 1 f fd ["_law_top", "_law_letters_here"] (spM K [] m__law_note .sh) := by
  refine def_ok (N := N__law_note) (ps := ["_law_top", "_law_letters_here"]) (κ := [.sh, .sh, .sh]) (κ' := [.sh, .sh, .sh]) (g := g__law_note) F sc__law_note (kAt_all rfl) (fun cdv A outer s H E hr => ?_)
  have hu := u65 hr
  have tk : L2N.Takes (cxOf (L2N.CX P w) P w K mg base N__law_note "_law_note" (defScope s__law_note) f cdv A outer s H E) (cDef E .sh).W := L2N.takes_of rfl rfl rfl rfl
  have po : PassesOwn (model P w) _ _ (cxOf (L2N.CX P w) P w K mg base N__law_note "_law_note" (defScope s__law_note) f cdv A outer s H E).xe := passes_of rfl
  have nd := (sc__law_note).nd
  exact css_one (κ' := [.sh, .sh, .sh]) (cs_ret rfl (ce_m1 sem_join PySem.F.slot_str_join PySem.F.type_str_join mt_join (ce_str) (ce_add (ce_lst (ca_cons (ce_add (ce_str) (ce_callTy sem_str call_str_int rfl T.b_str (by decide +kernel) (ca_cons (ce_var 0 rfl (pv 0)) (ca_nil)))) (ca_nil))) (ce_share (ce_compO (own := [("_law_letter", 2)]) (tg := .nm 2) rfl nd (ci_seq (ce_var 1 rfl (pv 1))) (show BlkOk N__law_note (defScope s__law_note) _ _ from blkOk_by (by decide +kernel)) (slots_own rfl) (fun _ _ _ _ _ => pg_name (i := 2) nd rfl (Or.inl rfl)) (fun _ _ _ _ _ => cts_nil) (fun _ _ _ _ _ => ce_add (ce_add (ce_ix (ce_var 2 rfl (pv 2)) (ce_int)) (ce_str)) (ce_callTy sem_str call_str_int rfl T.b_str (by decide +kernel) (ca_cons (ce_ix (ce_var 2 rfl (pv 2)) (ce_int)) (ca_nil)))))))) trivial)
theorem ok__law_note {P : Program} {w : World} {K : PySem.W.Frag} {mg : Str → Option Value} {base : Heap} {f : Addr} {fd : FuncData} (F : FunD K "_law_note" "_law_note" (defArgs s__law_note) (defBody s__law_note) (defScope s__law_note) [] [] f fd) (hm : mg "_law_note" = some (.ref f)) (T : Top w K mg) :
    Callee P w K mg base "_law_note" 1 m__law_note .sh := callee_of hm F (fn__law_note F T) (F.bindsN fun _ _ _ _ _ _ us hl => match us, hl with | [_, _], _ => rfl)
abbrev s__law_spoilt_line : Stmt := (top 28)
abbrev N__law_spoilt_line : List Str := ["_law_line", "_law_kind", "_law_seed", "_law_word", "_law_number_here", "_law_more"]
theorem sc__law_spoilt_line : FnScope N__law_spoilt_line ["_law_line", "_law_kind", "_law_seed"] (defScope s__law_spoilt_line) := ⟨rfl, rfl, rfl, by decide +kernel, rfl, by decide +kernel, by decide +kernel⟩
theorem fn__law_spoilt_line {P : Program} {w : World} {K : PySem.W.Frag} {mg : Str → Option Value} {base : Heap} {f : Addr} {fd : FuncData} (F : FunD K "_law_spoilt_line" "_law_spoilt_line" (defArgs s__law_spoilt_line) (defBody s__law_spoilt_line) (defScope s__law_spoilt_line) [] [] f fd) (T : Top w K mg) :
    FnOk P w K mg base (L2N.CX P w) 1 f fd ["_law_line", "_law_kind", "_law_seed"] (spM K [] m__law_spoilt_line .sh) := by
  refine def_ok (N := N__law_spoilt_line) (ps := ["_law_line", "_law_kind", "_law_seed"]) (κ := [.sh, .sh, .sh, .sh, .sh, .sh]) (κ' := [.sh, .sh, .sh, .sh, .sh, .sh]) (g := g__law_spoilt_line) F sc__law_spoilt_line (kAt_all rfl) (fun cdv A outer s H E hr => ?_)
  have hu := u65 hr
  have tk : L2N.Takes (cxOf (L2N.CX P w) P w K mg base N__law_spoilt_line "_law_spoilt_line" (defScope s__law_spoilt_line) f cdv A outer s H E) (cDef E .sh).W := L2N.takes_of rfl rfl rfl rfl
  have po : PassesOwn (model P w) _ _ (cxOf (L2N.CX P w) P w K mg base N__law_spoilt_line "_law_spoilt_line" (defScope s__law_spoilt_line) f cdv A outer s H E).xe := passes_of rfl
  have nd := (sc__law_spoilt_line).nd
  exact css_cons (κ1 := [.sh, .sh, .sh, .sh, .sh, .sh]) (cs_asg 3 (r := .sh) (show 3 < 6 by decide) trivial (ps_set (i := 3) nd rfl (Or.inl rfl) (ce_ix (ce_m1 (MetSem.share sem_split) PySem.F.slot_str_split PySem.F.type_str_split mt_split (ce_var 0 rfl (pv 0)) (ce_str)) (ce_int)))) (css_cons (κ1 := [.sh, .sh, .sh, .sh, .sh, .sh]) (cs_asg 4 (r := .sh) (show 4 < 6 by decide) trivial (ps_set (i := 4) nd rfl (Or.inl rfl) (ce_slice (ce_var 0 rfl (pv 0)) (co_some (ce_add (ce_callB sem_len call_len rfl T.b_len (by decide +kernel) (ca_cons (ce_var 3 rfl (pv 3)) (ca_nil))) (ce_int))) (co_none)))) (css_cons (κ1 := [.sh, .sh, .sh, .sh, .sh, .sh]) (cs_asg 5 (r := .sh) (show 5 < 6 by decide) trivial (ps_set (i := 5) nd rfl (Or.inl rfl) (ce_mod (ce_callTy sem_intA call_intA rfl T.b_int (by decide +kernel) (ca_cons (ce_var 2 rfl (pv 2)) (ca_nil))) (ce_int)))) (css_cons (κ1 := [.sh, .sh, .sh, .sh, .sh, .sh]) (cs_if (κ' := [.sh, .sh, .sh, .sh, .sh, .sh]) (ct_cmp sem_lt op_lt (ce_var 1 rfl (pv 1)) (ce_int) (nomark _)) (css_one (κ' := [.sh, .sh, .sh, .sh, .sh, .sh]) (cs_ret rfl (ce_ix (ce_lst (ca_cons (ce_str) (ca_cons (ce_add (ce_add (ce_var 3 rfl (pv 3)) (ce_str)) (ce_var 4 rfl (pv 4))) (ca_cons (ce_add (ce_var 0 rfl (pv 0)) (ce_str)) (ca_cons (ce_add (ce_str) (ce_var 0 rfl (pv 0))) (ca_nil)))))) (ce_var 1 rfl (pv 1))) trivial)) (css_nil) trivial) (css_cons (κ1 := [.sh, .sh, .sh, .sh, .sh, .sh]) (cs_if (κ' := [.sh, .sh, .sh, .sh, .sh, .sh]) (ct_cmp sem_lt op_lt (ce_var 1 rfl (pv 1)) (ce_int) (nomark _)) (css_one (κ' := [.sh, .sh, .sh, .sh, .sh, .sh]) (cs_ret rfl (ce_ix (ce_lst (ca_cons (ce_var 3 rfl (pv 3)) (ca_cons (ce_add (ce_add (ce_var 0 rfl (pv 0)) (ce_str)) (ce_var 4 rfl (pv 4))) (ca_cons (ce_add (ce_var 3 rfl (pv 3)) (ce_var 4 rfl (pv 4))) (ca_cons (ce_add (ce_add (ce_var 3 rfl (pv 3)) (ce_str)) (ce_var 4 rfl (pv 4))) (ca_nil)))))) (ce_sub (ce_var 1 rfl (pv 1)) (ce_int))) trivial)) (css_nil) trivial) (css_cons (κ1 := [.sh, .sh, .sh, .sh, .sh, .sh]) (cs_if (κ' := [.sh, .sh, .sh, .sh, .sh, .sh]) (ct_cmp sem_lt op_lt (ce_var 1 rfl (pv 1)) (ce_int) (nomark _)) (css_one (κ' := [.sh, .sh, .sh, .sh, .sh, .sh]) (cs_ret rfl (ce_ix (ce_lst (ca_cons (ce_add (ce_var 3 rfl (pv 3)) (ce_str)) (ca_cons (ce_add (ce_add (ce_var 3 rfl (pv 3)) (ce_str)) (ce_var 4 rfl (pv 4))) (ca_cons (ce_add (ce_add (ce_var 4 rfl (pv 4)) (ce_str)) (ce_var 3 rfl (pv 3))) (ca_cons (ce_add (ce_var 0 rfl (pv 0)) (ce_str)) (ca_nil)))))) (ce_sub (ce_var 1 rfl (pv 1)) (ce_int))) trivial)) (css_nil) trivial) (css_cons (κ1 := [.sh, .sh, .sh, .sh, .sh, .sh]) (cs_if (κ' := [.sh, .sh, .sh, .sh, .sh, .sh]) (ct_cmp sem_eq (op_eq.or (op_eqD (q64 hu))) (ce_var 1 rfl (pv 1)) (ce_int) (nomark _)) (css_one (κ' := [.sh, .sh, .sh, .sh, .sh, .sh]) (cs_ret rfl (ce_add (ce_add (ce_ix (ce_lst (ca_cons (ce_m0 sem_upper PySem.F.slot_str_upper PySem.F.type_str_upper mt_upper (ce_var 3 rfl (pv 3))) (ca_cons (ce_add (ce_m0 sem_upper PySem.F.slot_str_upper PySem.F.type_str_upper mt_upper (ce_slice (ce_var 3 rfl (pv 3)) (co_none) (co_some (ce_int)))) (ce_slice (ce_var 3 rfl (pv 3)) (co_some (ce_int)) (co_none))) (ca_cons (ce_add (ce_var 3 rfl (pv 3)) (ce_str)) (ca_cons (ce_slice (ce_var 3 rfl (pv 3)) (co_none) (co_some (ce_neg (ce_int)))) (ca_cons (ce_str) (ca_nil))))))) (ce_var 5 rfl (pv 5))) (ce_str)) (ce_var 4 rfl (pv 4))) trivial)) (css_nil) trivial) (css_cons (κ1 := [.sh, .sh, .sh, .sh, .sh, .sh]) (cs_if (κ' := [.sh, .sh, .sh, .sh, .sh, .sh]) (ct_cmp sem_eq (op_eq.or (op_eqD (q64 hu))) (ce_var 1 rfl (pv 1)) (ce_int) (nomark _)) (css_one (κ' := [.sh, .sh, .sh, .sh, .sh, .sh]) (cs_ret rfl (ce_add (ce_ix (ce_lst (ca_cons (ce_str) (ca_cons (ce_str) (ca_nil)))) (ce_callTy sem_intA call_intA rfl T.b_int (by decide +kernel) (ca_cons (ce_cmp sem_ne (op_ne.or (op_neD (q64 hu))) (ce_var 3 rfl (pv 3)) (ce_str) (nomark _)) (ca_nil)))) (ce_var 4 rfl (pv 4))) trivial)) (css_nil) trivial) (css_cons (κ1 := [.sh, .sh, .sh, .sh, .sh, .sh]) (cs_if (κ' := [.sh, .sh, .sh, .sh, .sh, .sh]) (ct_cmp sem_eq (op_eq.or (op_eqD (q64 hu))) (ce_var 1 rfl (pv 1)) (ce_int) (nomark _)) (css_one (κ' := [.sh, .sh, .sh, .sh, .sh, .sh]) (cs_ret rfl (ce_add (ce_var 3 rfl (pv 3)) (ce_ix (ce_lst (ca_cons (ce_str) (ca_cons (ce_str) (ca_cons (ce_str) (ca_cons (ce_str) (ca_cons (ce_str) (ca_cons (ce_str) (ca_cons (ce_str) (ca_cons (ce_str) (ca_nil)))))))))) (ce_mod (ce_callTy sem_intA call_intA rfl T.b_int (by decide +kernel) (ca_cons (ce_var 2 rfl (pv 2)) (ca_nil))) (ce_int)))) trivial)) (css_nil) trivial) (css_cons (κ1 := [.sh, .sh, .sh, .sh, .sh, .sh]) (cs_if (κ' := [.sh, .sh, .sh, .sh, .sh, .sh]) (ct_cmp sem_eq (op_eq.or (op_eqD (q64 hu))) (ce_var 1 rfl (pv 1)) (ce_int) (nomark _)) (css_one (κ' := [.sh, .sh, .sh, .sh, .sh, .sh]) (cs_ret rfl (ce_add (ce_add (ce_var 3 rfl (pv 3)) (ce_str)) (ce_callTy sem_str call_str_int rfl T.b_str (by decide +kernel) (ca_cons (ce_mul (ce_add (ce_int) (ce_callTy sem_intA call_intA rfl T.b_int (by decide +kernel) (ca_cons (ce_var 2 rfl (pv 2)) (ca_nil)))) (ce_ix (ce_lst (ca_cons (ce_int) (ca_cons (ce_pow (ce_int) (ce_int)) (ca_nil)))) (ce_mod (ce_callTy sem_intA call_intA rfl T.b_int (by decide +kernel) (ca_cons (ce_var 2 rfl (pv 2)) (ca_nil))) (ce_int)))) (ca_nil)))) trivial)) (css_nil) trivial) (css_cons (κ1 := [.sh, .sh, .sh, .sh, .sh, .sh]) (cs_if (κ' := [.sh, .sh, .sh, .sh, .sh, .sh]) (ct_cmp sem_eq (op_eq.or (op_eqD (q64 hu))) (ce_var 3 rfl (pv 3)) (ce_str) (nomark _)) (css_one (κ' := [.sh, .sh, .sh, .sh, .sh, .sh]) (cs_ret rfl (ce_add (ce_add (ce_var 3 rfl (pv 3)) (ce_str)) (ce_callTy sem_str call_str_int rfl T.b_str (by decide +kernel) (ca_cons (ce_mod (ce_callTy sem_intA call_intA rfl T.b_int (by decide +kernel) (ca_cons (ce_var 2 rfl (pv 2)) (ca_nil))) (ce_int)) (ca_nil)))) trivial)) (css_nil) trivial) (css_one (κ' := [.sh, .sh, .sh, .sh, .sh, .sh]) (cs_ret rfl (ce_add (ce_add (ce_var 3 rfl (pv 3)) (ce_str)) (ce_callTy sem_str call_str_int rfl T.b_str (by decide +kernel) (ca_cons (ce_mul (ce_callTy sem_intA call_intA rfl T.b_int (by decide +kernel) (ca_cons (ce_var 2 rfl (pv 2)) (ca_nil))) (ce_ix (ce_lst (ca_cons (ce_int) (ca_cons (ce_int) (ca_cons (ce_int) (ca_cons (ce_int) (ca_cons (ce_add (ce_pow (ce_int) (ce_int)) (ce_int)) (ca_nil))))))) (ce_var 5 rfl (pv 5)))) (ca_nil)))) trivial))))))))))))
theorem ok__law_spoilt_line {P : Program} {w : World} {K : PySem.W.Frag} {mg : Str → Option Value} {base : Heap} {f : Addr} {fd : FuncData} (F : FunD K "_law_spoilt_line" "_law_spoilt_line" (defArgs s__law_spoilt_line) (defBody s__law_spoilt_line) (defScope s__law_spoilt_line) [] [] f fd) (hm : mg "_law_spoilt_line" = some (.ref f)) (T : Top w K mg) :
    Callee P w K mg base "_law_spoilt_line" 1 m__law_spoilt_line .sh := callee_of hm F (fn__law_spoilt_line F T) (F.bindsN fun _ _ _ _ _ _ us hl => match us, hl with | [_, _, _], _ => rfl)
abbrev s__law_spoilt_note : Stmt := (top 29)
abbrev N__law_spoilt_note : List Str := ["_law_note_here", "_law_kind", "_law_place", "_law_seed", "_law_lines", "_law_at", "_law_other", "_law_k"]
theorem sc__law_spoilt_note : FnScope N__law_spoilt_note ["_law_note_here", "_law_kind", "_law_place", "_law_seed"] (defScope s__law_spoilt_note) := ⟨rfl, rfl, rfl, by decide +kernel, rfl, by decide +kernel, by decide +kernel⟩
theorem fn__law_spoilt_note {P : Program} {w : World} {K : PySem.W.Frag} {mg : Str → Option Value} {base : Heap} {f : Addr} {fd : FuncData} (F : FunD K "_law_spoilt_note" "_law_spoilt_note" (defArgs s__law_spoilt_note) (defBody s__law_spoilt_note) (defScope s__law_spoilt_note) [] [] f fd) (T : Top w K mg) (Cf__law_spoilt_line : Callee P w K mg base "_law_spoilt_line" 1 m__law_spoilt_line .sh) :
    FnOk P w K mg base (L2N.CX P w) 2 f fd ["_law_note_here", "_law_kind", "_law_place", "_law_seed"] (spM K [] m__law_spoilt_note .sh) := by
  refine def_ok (N := N__law_spoilt_note) (ps := ["_law_note_here", "_law_kind", "_law_place", "_law_seed"]) (κ := [.sh, .sh, .sh, .sh, .sh, .sh, .sh, .sh]) (κ' := [.sh, .sh, .sh, .sh, .sh, .sh, .sh, .sh]) (g := g__law_spoilt_note) F sc__law_spoilt_note (kAt_all rfl) (fun cdv A outer s H E hr => ?_)
  have hu := u65 hr
  have tk : L2N.Takes (cxOf (L2N.CX P w) P w K mg base N__law_spoilt_note "_law_spoilt_note" (defScope s__law_spoilt_note) f cdv A outer s H E) (cDef E .sh).W := L2N.takes_of rfl rfl rfl rfl
  have po : PassesOwn (model P w) _ _ (cxOf (L2N.CX P w) P w K mg base N__law_spoilt_note "_law_spoilt_note" (defScope s__law_spoilt_note) f cdv A outer s H E).xe := passes_of rfl
  have nd := (sc__law_spoilt_note).nd
  exact css_cons (κ1 := [.sh, .sh, .sh, .sh, .sh, .sh, .sh, .sh]) (cs_asg 4 (r := .sh) (show 4 < 8 by decide) trivial (ps_set (i := 4) nd rfl (Or.inr rfl) (ce_m1 (MetSem.share sem_split) PySem.F.slot_str_split PySem.F.type_str_split mt_split (ce_var 0 rfl (pv 0)) (ce_str)))) (css_cons (κ1 := [.sh, .sh, .sh, .sh, .sh, .sh, .sh, .sh]) (cs_asg 5 (r := .sh) (show 5 < 8 by decide) trivial (ps_set (i := 5) nd rfl (Or.inr rfl) (ce_mod (ce_callTy sem_intA call_intA rfl T.b_int (by decide +kernel) (ca_cons (ce_var 2 rfl (pv 2)) (ca_nil))) (ce_callB sem_len call_len rfl T.b_len (by decide +kernel) (ca_cons (ce_var 4 rfl (pv 4)) (ca_nil)))))) (css_cons (κ1 := [.sh, .sh, .sh, .sh, .sh, .sh, .sh, .sh]) (cs_if (κ' := [.sh, .sh, .sh, .sh, .sh, .sh, .sh, .sh]) (ct_cmp sem_lt op_lt (ce_var 2 rfl (pv 2)) (ce_int) (nomark _)) (css_cons (κ1 := [.sh, .sh, .sh, .sh, .sh, .sh, .sh, .sh]) (cs_asg 5 (r := .sh) (show 5 < 8 by decide) trivial (ps_set (i := 5) nd rfl (Or.inr rfl) (ce_int))) (css_nil)) (css_nil) trivial) (css_cons (κ1 := [.sh, .sh, .sh, .sh, .sh, .sh, .sh, .sh]) (cs_asg 6 (r := .sh) (show 6 < 8 by decide) trivial (ps_set (i := 6) nd rfl (Or.inr rfl) (ce_mod (ce_callTy sem_intA call_intA rfl T.b_int (by decide +kernel) (ca_cons (ce_var 3 rfl (pv 3)) (ca_nil))) (ce_callB sem_len call_len rfl T.b_len (by decide +kernel) (ca_cons (ce_var 4 rfl (pv 4)) (ca_nil)))))) (css_cons (κ1 := [.sh, .sh, .sh, .sh, .sh, .sh, .sh, .sh]) (cs_if (κ' := [.sh, .sh, .sh, .sh, .sh, .sh, .sh, .sh]) (ct_bool (cw_and (ct_cmp sem_lt op_lt (ce_var 1 rfl (pv 1)) (ce_int) (nomark _)) (cw_and1 (ct_cmp sem_in0 (op_inAll hu) (ce_str) (ce_ix (ce_var 4 rfl (pv 4)) (ce_var 5 rfl (pv 5))) rfl)))) (css_one (κ' := [.sh, .sh, .sh, .sh, .sh, .sh, .sh, .sh]) (cs_ret rfl (ce_m1 sem_join PySem.F.slot_str_join PySem.F.type_str_join mt_join (ce_str) (ce_add (ce_add (ce_slice (ce_var 4 rfl (pv 4)) (co_none) (co_some (ce_var 5 rfl (pv 5)))) (ce_lst (ca_cons (ce_call Cf__law_spoilt_line (hr.mono (by decide)) tk rfl (ca_cons (ce_ix (ce_var 4 rfl (pv 4)) (ce_var 5 rfl (pv 5))) (ca_cons (ce_var 1 rfl (pv 1)) (ca_cons (ce_var 3 rfl (pv 3)) (ca_nil))))) (ca_nil)))) (ce_slice (ce_var 4 rfl (pv 4)) (co_some (ce_add (ce_var 5 rfl (pv 5)) (ce_int))) (co_none)))) trivial)) (css_nil) trivial) (css_cons (κ1 := [.sh, .sh, .sh, .sh, .sh, .sh, .sh, .sh]) (cs_if (κ' := [.sh, .sh, .sh, .sh, .sh, .sh, .sh, .sh]) (ct_cmp sem_eq (op_eq.or (op_eqD (q64 hu))) (ce_var 1 rfl (pv 1)) (ce_int) (nomark _)) (css_one (κ' := [.sh, .sh, .sh, .sh, .sh, .sh, .sh, .sh]) (cs_ret rfl (ce_add (ce_var 0 rfl (pv 0)) (ce_str)) trivial)) (css_nil) trivial) (css_cons (κ1 := [.sh, .sh, .sh, .sh, .sh, .sh, .sh, .sh]) (cs_if (κ' := [.sh, .sh, .sh, .sh, .sh, .sh, .sh, .sh]) (ct_cmp sem_eq (op_eq.or (op_eqD (q64 hu))) (ce_var 1 rfl (pv 1)) (ce_int) (nomark _)) (css_one (κ' := [.sh, .sh, .sh, .sh, .sh, .sh, .sh, .sh]) (cs_ret rfl (ce_add (ce_str) (ce_var 0 rfl (pv 0))) trivial)) (css_nil) trivial) (css_cons (κ1 := [.sh, .sh, .sh, .sh, .sh, .sh, .sh, .sh]) (cs_if (κ' := [.sh, .sh, .sh, .sh, .sh, .sh, .sh, .sh]) (ct_cmp sem_eq (op_eq.or (op_eqD (q64 hu))) (ce_var 1 rfl (pv 1)) (ce_int) (nomark _)) (css_one (κ' := [.sh, .sh, .sh, .sh, .sh, .sh, .sh, .sh]) (cs_ret rfl (ce_m1 sem_join PySem.F.slot_str_join PySem.F.type_str_join mt_join (ce_str) (ce_add (ce_slice (ce_var 4 rfl (pv 4)) (co_none) (co_some (ce_var 5 rfl (pv 5)))) (ce_slice (ce_var 4 rfl (pv 4)) (co_some (ce_add (ce_var 5 rfl (pv 5)) (ce_int))) (co_none)))) trivial)) (css_nil) trivial) (css_cons (κ1 := [.sh, .sh, .sh, .sh, .sh, .sh, .sh, .sh]) (cs_if (κ' := [.sh, .sh, .sh, .sh, .sh, .sh, .sh, .sh]) (ct_cmp sem_eq (op_eq.or (op_eqD (q64 hu))) (ce_var 1 rfl (pv 1)) (ce_int) (nomark _)) (css_one (κ' := [.sh, .sh, .sh, .sh, .sh, .sh, .sh, .sh]) (cs_ret rfl (ce_m1 sem_join PySem.F.slot_str_join PySem.F.type_str_join mt_join (ce_str) (ce_add (ce_add (ce_slice (ce_var 4 rfl (pv 4)) (co_none) (co_some (ce_var 5 rfl (pv 5)))) (ce_lst (ca_cons (ce_ix (ce_var 4 rfl (pv 4)) (ce_var 5 rfl (pv 5))) (ca_nil)))) (ce_slice (ce_var 4 rfl (pv 4)) (co_some (ce_var 5 rfl (pv 5))) (co_none)))) trivial)) (css_nil) trivial) (css_cons (κ1 := [.sh, .sh, .sh, .sh, .sh, .sh, .sh, .sh]) (cs_if (κ' := [.sh, .sh, .sh, .sh, .sh, .sh, .sh, .sh]) (ct_cmp sem_eq (op_eq.or (op_eqD (q64 hu))) (ce_var 1 rfl (pv 1)) (ce_int) (nomark _)) (css_one (κ' := [.sh, .sh, .sh, .sh, .sh, .sh, .sh, .sh]) (cs_ret rfl (ce_m1 sem_join PySem.F.slot_str_join PySem.F.type_str_join mt_join (ce_str) (ce_share (ce_compO (own := [("_law_k", 7)]) (tg := .nm 7) rfl nd (ci_range1 rfl T.b_range (ca_cons (ce_callB sem_len call_len rfl T.b_len (by decide +kernel) (ca_cons (ce_var 4 rfl (pv 4)) (ca_nil))) (ca_nil))) (show BlkOk N__law_spoilt_note (defScope s__law_spoilt_note) _ _ from blkOk_by (by decide +kernel)) (slots_own rfl) (fun _ _ _ _ _ => pg_name (i := 7) nd rfl (Or.inl rfl)) (fun _ _ _ _ _ => cts_nil) (fun _ _ _ _ _ => ce_ix (ce_lst (ca_cons (ce_ix (ce_var 4 rfl (pv 4)) (ce_var 7 rfl (pv 7))) (ca_cons (ce_ix (ce_var 4 rfl (pv 4)) (ce_var 6 rfl (pv 6))) (ca_cons (ce_ix (ce_var 4 rfl (pv 4)) (ce_var 5 rfl (pv 5))) (ca_nil))))) (ce_add (ce_callTy sem_intA call_intA rfl T.b_int (by decide +kernel) (ca_cons (ce_cmp sem_eq (op_eq.or (op_eqD (q64 hu))) (ce_var 7 rfl (pv 7)) (ce_var 5 rfl (pv 5)) (nomark _)) (ca_nil))) (ce_mul (ce_int) (ce_callTy sem_intA call_intA rfl T.b_int (by decide +kernel) (ca_cons (ce_and (ce_cmp sem_eq (op_eq.or (op_eqD (q64 hu))) (ce_var 7 rfl (pv 7)) (ce_var 6 rfl (pv 6)) (nomark _)) (ce_one (ce_cmp sem_ne (op_ne.or (op_neD (q64 hu))) (ce_var 7 rfl (pv 7)) (ce_var 5 rfl (pv 5)) (nomark _)))) (ca_nil))))))))) trivial)) (css_nil) trivial) (css_one (κ' := [.sh, .sh, .sh, .sh, .sh, .sh, .sh, .sh]) (cs_ret rfl (ce_str) trivial)))))))))))
theorem ok__law_spoilt_note {P : Program} {w : World} {K : PySem.W.Frag} {mg : Str → Option Value} {base : Heap} {f : Addr} {fd : FuncData} (F : FunD K "_law_spoilt_note" "_law_spoilt_note" (defArgs s__law_spoilt_note) (defBody s__law_spoilt_note) (defScope s__law_spoilt_note) [] [] f fd) (hm : mg "_law_spoilt_note" = some (.ref f)) (T : Top w K mg) (Cf__law_spoilt_line : Callee P w K mg base "_law_spoilt_line" 1 m__law_spoilt_line .sh) :
    Callee P w K mg base "_law_spoilt_note" 2 m__law_spoilt_note .sh := callee_of hm F (fn__law_spoilt_note F T Cf__law_spoilt_line) (F.bindsN fun _ _ _ _ _ _ us hl => match us, hl with | [_, _, _, _], _ => rfl)
abbrev s__law_number : Stmt := (top 30)
abbrev N__law_number : List Str := ["_law_word", "_law_digits_here", "_law_sign"]
theorem sc__law_number : FnScope N__law_number ["_law_word"] (defScope s__law_number) := ⟨rfl, rfl, rfl, by decide +kernel, rfl, by decide +kernel, by decide +kernel⟩
theorem fn__law_number {P : Program} {w : World} {K : PySem.W.Frag} {mg : Str → Option Value} {base : Heap} {f : Addr} {fd : FuncData} (F : FunD K "_law_number" "_law_number" (defArgs s__law_number) (defBody s__law_number) (defScope s__law_number) [] [] f fd) (T : Top w K mg) :
    FnOk P w K mg base (L2N.CX P w) 1 f fd ["_law_word"] (spM K [] m__law_number .sh) := by
  refine def_ok (N := N__law_number) (ps := ["_law_word"]) (κ := [.sh, .sh, .sh]) (κ' := [.sh, .sh, .sh]) (g := g__law_number) F sc__law_number (kAt_all rfl) (fun cdv A outer s H E hr => ?_)
  have hu := u65 hr
  have tk : L2N.Takes (cxOf (L2N.CX P w) P w K mg base N__law_number "_law_number" (defScope s__law_number) f cdv A outer s H E) (cDef E .sh).W := L2N.takes_of rfl rfl rfl rfl
  have po : PassesOwn (model P w) _ _ (cxOf (L2N.CX P w) P w K mg base N__law_number "_law_number" (defScope s__law_number) f cdv A outer s H E).xe := passes_of rfl
  have nd := (sc__law_number).nd
  exact css_cons (κ1 := [.sh, .sh, .sh]) (cs_asg 1 (r := .sh) (show 1 < 3 by decide) trivial (ps_set (i := 1) nd rfl (Or.inl rfl) (ce_var 0 rfl (pv 0)))) (css_cons (κ1 := [.sh, .sh, .sh]) (cs_if (κ' := [.sh, .sh, .sh]) (ct_cmp sem_eq (op_eq.or (op_eqD (q64 hu))) (ce_slice (ce_var 0 rfl (pv 0)) (co_none) (co_some (ce_int))) (ce_str) (nomark _)) (css_cons (κ1 := [.sh, .sh, .sh]) (cs_asg 1 (r := .sh) (show 1 < 3 by decide) trivial (ps_set (i := 1) nd rfl (Or.inl rfl) (ce_slice (ce_var 0 rfl (pv 0)) (co_some (ce_int)) (co_none)))) (css_nil)) (css_nil) trivial) (css_cons (κ1 := [.sh, .sh, .sh]) (cs_if (κ' := [.sh, .sh, .sh]) (ct_bool (cw_or (ct_cmp sem_eq (op_eq.or (op_eqD (q64 hu))) (ce_var 1 rfl (pv 1)) (ce_str) (nomark _)) (cw_or1 (ct_bool (cw_and (ct_cmp sem_eq (op_eq.or (op_eqD (q64 hu))) (ce_ix (ce_var 1 rfl (pv 1)) (ce_int)) (ce_str) (nomark _)) (cw_and1 (ct_cmp sem_ne (op_ne.or (op_neD (q64 hu))) (ce_var 0 rfl (pv 0)) (ce_str) (nomark _)))))))) (css_one (κ' := [.sh, .sh, .sh]) (cs_ret rfl (ce_non) trivial)) (css_nil) trivial) (css_cons (κ1 := [.sh, .sh, .sh]) (cs_for (tg := .nm 2) po rfl (ci_seq (ce_var 1 rfl (pv 1))) (pg_name (i := 2) nd rfl (Or.inl rfl)) (slots_sh rfl) (css_cons (κ1 := [.sh, .sh, .sh]) (cs_if (κ' := [.sh, .sh, .sh]) (ct_cmp sem_nin0 (op_ninAll hu) (ce_var 2 rfl (pv 2)) (ce_str) rfl) (css_one (κ' := [.sh, .sh, .sh]) (cs_ret rfl (ce_non) trivial)) (css_nil) trivial) (css_nil)) trivial) (css_one (κ' := [.sh, .sh, .sh]) (cs_ret rfl (ce_mul (ce_callTy sem_intA call_intA rfl T.b_int (by decide +kernel) (ca_cons (ce_var 1 rfl (pv 1)) (ca_nil))) (ce_sub (ce_int) (ce_mul (ce_int) (ce_callTy sem_intA call_intA rfl T.b_int (by decide +kernel) (ca_cons (ce_cmp sem_eq (op_eq.or (op_eqD (q64 hu))) (ce_ix (ce_var 0 rfl (pv 0)) (ce_int)) (ce_str) (nomark _)) (ca_nil)))))) trivial)))))
theorem ok__law_number {P : Program} {w : World} {K : PySem.W.Frag} {mg : Str → Option Value} {base : Heap} {f : Addr} {fd : FuncData} (F : FunD K "_law_number" "_law_number" (defArgs s__law_number) (defBody s__law_number) (defScope s__law_number) [] [] f fd) (hm : mg "_law_number" = some (.ref f)) (T : Top w K mg) :
    Callee P w K mg base "_law_number" 1 m__law_number .sh := callee_of hm F (fn__law_number F T) (F.bindsN fun _ _ _ _ _ _ us hl => match us, hl with | [_], _ => rfl)
abbrev s__law_outcome : Stmt := (top 31)
abbrev N__law_outcome : List Str := ["_law_note_here", "_law_lines", "_law_entries", "_law_k", "_law_words", "_law_allowed", "_law_stand", "_law_word"]
theorem sc__law_outcome : FnScope N__law_outcome ["_law_note_here"] (defScope s__law_outcome) := ⟨rfl, rfl, rfl, by decide +kernel, rfl, by decide +kernel, by decide +kernel⟩
theorem fn__law_outcome {P : Program} {w : World} {K : PySem.W.Frag} {mg : Str → Option Value} {base : Heap} {f : Addr} {fd : FuncData} (F : FunD K "_law_outcome" "_law_outcome" (defArgs s__law_outcome) (defBody s__law_outcome) (defScope s__law_outcome) [] [] f fd) (T : Top w K mg) (Cf__law_number : Callee P w K mg base "_law_number" 1 m__law_number .sh) :
    FnOk P w K mg base (L2N.CX P w) 2 f fd ["_law_note_here"] (spM K [] m__law_outcome .sh) := by
  refine def_ok (N := N__law_outcome) (ps := ["_law_note_here"]) (κ := [.sh, .sh, .sh, .sh, .sh, .sh, .sh, .sh]) (κ' := [.sh, .sh, .sh, .sh, .sh, .sh, .sh, .sh]) (g := g__law_outcome) F sc__law_outcome (kAt_all rfl) (fun cdv A outer s H E hr => ?_)
  have hu := u65 hr
  have tk : L2N.Takes (cxOf (L2N.CX P w) P w K mg base N__law_outcome "_law_outcome" (defScope s__law_outcome) f cdv A outer s H E) (cDef E .sh).W := L2N.takes_of rfl rfl rfl rfl
  have po : PassesOwn (model P w) _ _ (cxOf (L2N.CX P w) P w K mg base N__law_outcome "_law_outcome" (defScope s__law_outcome) f cdv A outer s H E).xe := passes_of rfl
  have nd := (sc__law_outcome).nd
  exact css_cons (κ1 := [.sh, .sh, .sh, .sh, .sh, .sh, .sh, .sh]) (cs_asg 1 (r := .sh) (show 1 < 8 by decide) trivial (ps_set (i := 1) nd rfl (Or.inl rfl) (ce_m1 (MetSem.share sem_split) PySem.F.slot_str_split PySem.F.type_str_split mt_split (ce_var 0 rfl (pv 0)) (ce_str)))) (css_cons (κ1 := [.sh, .sh, (.ls .sh), .sh, .sh, .sh, .sh, .sh]) (cs_asg 2 (r := (.ls .sh)) (show 2 < 8 by decide) trivial (ps_set (i := 2) nd rfl (Or.inl rfl) (ce_nilO))) (css_cons (κ1 := [.sh, .sh, (.ls .sh), .sh, .sh, .sh, .sh, .sh]) (cs_for (tg := .nm 3) po rfl (ci_range1 rfl T.b_range (ca_cons (ce_callB sem_len call_len rfl T.b_len (by decide +kernel) (ca_cons (ce_var 1 rfl (pv 1)) (ca_nil))) (ca_nil))) (pg_name (i := 3) nd rfl (Or.inl rfl)) (slots_sh rfl) (css_cons (κ1 := [.sh, .sh, (.ls .sh), .sh, .sh, .sh, .sh, .sh]) (cs_asg 4 (r := .sh) (show 4 < 8 by decide) trivial (ps_set (i := 4) nd rfl (Or.inl rfl) (ce_m1 (MetSem.share sem_split) PySem.F.slot_str_split PySem.F.type_str_split mt_split (ce_ix (ce_var 1 rfl (pv 1)) (ce_var 3 rfl (pv 3))) (ce_str)))) (css_cons (κ1 := [.sh, .sh, (.ls .sh), .sh, .sh, .sh, .sh, .sh]) (cs_asg 5 (r := .sh) (show 5 < 8 by decide) trivial (ps_set (i := 5) nd rfl (Or.inl rfl) (ce_ix (ce_lst (ca_cons (ce_lst (ca_cons (ce_str) (ca_nil))) (ca_cons (ce_lst (ca_cons (ce_str) (ca_cons (ce_str) (ca_cons (ce_str) (ca_nil))))) (ca_nil)))) (ce_callTy sem_intA call_intA rfl T.b_int (by decide +kernel) (ca_cons (ce_cmp sem_gt op_gt (ce_var 3 rfl (pv 3)) (ce_int) (nomark _)) (ca_nil)))))) (css_cons (κ1 := [.sh, .sh, (.ls .sh), .sh, .sh, .sh, .sh, .sh]) (cs_if (κ' := [.sh, .sh, (.ls .sh), .sh, .sh, .sh, .sh, .sh]) (ct_bool (cw_or (ct_cmp sem_ne (op_ne.or (op_neD (q64 hu))) (ce_callB sem_len call_len rfl T.b_len (by decide +kernel) (ca_cons (ce_var 4 rfl (pv 4)) (ca_nil))) (ce_int) (nomark _)) (cw_or (ct_cmp sem_nin0 (op_ninAll hu) (ce_ix (ce_var 4 rfl (pv 4)) (ce_int)) (ce_var 5 rfl (pv 5)) rfl) (cw_or1 (ct_cmp sem_isN op_isN (ce_call Cf__law_number (hr.mono (by decide)) tk rfl (ca_cons (ce_ix (ce_var 4 rfl (pv 4)) (ce_int)) (ca_nil))) (ce_non) (nomark _)))))) (css_one (κ' := [.sh, .sh, (.ls .sh), .sh, .sh, .sh, .sh, .sh]) (cs_ret rfl (ce_lst (ca_cons (ce_str) (ca_cons (ce_add (ce_var 3 rfl (pv 3)) (ce_int)) (ca_nil)))) trivial)) (css_nil) trivial) (css_cons (κ1 := [.sh, .sh, (.ls .sh), .sh, .sh, .sh, .sh, .sh]) (cs_append 2 (k := .sh) rfl trivial (ps_expr (pe_bm PySem.F.plainAttrs_list PySem.F.slot_list_append PySem.F.type_list_append mt_append (pv 2) (pa_cons (ce_tup (ca_cons (ce_ix (ce_var 4 rfl (pv 4)) (ce_int)) (ca_cons (ce_call Cf__law_number (hr.mono (by decide)) tk rfl (ca_cons (ce_ix (ce_var 4 rfl (pv 4)) (ce_int)) (ca_nil))) (ca_nil)))) pa_nil)))) (css_nil))))) trivial) (css_cons (κ1 := [.sh, .sh, (.ls .sh), .sh, .sh, .sh, .sh, .sh]) (cs_asg 6 (r := .sh) (show 6 < 8 by decide) trivial (ps_set (i := 6) nd rfl (Or.inl rfl) (ce_ix (ce_ixO 2 rfl (pv 2) (ce_int)) (ce_int)))) (css_cons (κ1 := [.sh, .sh, (.ls .sh), .sh, .sh, .sh, .sh, .sh]) (cs_if (κ' := [.sh, .sh, (.ls .sh), .sh, .sh, .sh, .sh, .sh]) (ct_cmp sem_lt op_lt (ce_var 6 rfl (pv 6)) (ce_int) (nomark _)) (css_one (κ' := [.sh, .sh, (.ls .sh), .sh, .sh, .sh, .sh, .sh]) (cs_ret rfl (ce_lst (ca_cons (ce_str) (ca_cons (ce_var 6 rfl (pv 6)) (ca_nil)))) trivial)) (css_nil) trivial) (css_cons (κ1 := [.sh, .sh, (.ls .sh), .sh, .sh, .sh, .sh, .sh]) (cs_for (tg := .nm 3) po rfl (ci_range2 rfl T.b_range (ca_cons (ce_int) (ca_cons (ce_borrow (ce_callB sem_len call_len rfl T.b_len (by decide +kernel) (ca_cons (ce_var 2 rfl (pv 2)) (ca_nil)))) (ca_nil)))) (pg_name (i := 3) nd rfl (Or.inl rfl)) (slots_sh rfl) (css_cons (κ1 := [.sh, .sh, (.ls .sh), .sh, .sh, .sh, .sh, .sh]) (cs_asg 7 (r := .sh) (show 7 < 8 by decide) trivial (ps_set (i := 7) nd rfl (Or.inl rfl) (ce_ix (ce_ixO 2 rfl (pv 2) (ce_var 3 rfl (pv 3))) (ce_int)))) (css_cons (κ1 := [.sh, .sh, (.ls .sh), .sh, .sh, .sh, .sh, .sh]) (cs_if (κ' := [.sh, .sh, (.ls .sh), .sh, .sh, .sh, .sh, .sh]) (ct_bool (cw_or (ct_cmp sem_lt op_lt (ce_ix (ce_ixO 2 rfl (pv 2) (ce_var 3 rfl (pv 3))) (ce_int)) (ce_int) (nomark _)) (cw_or1 (ct_cmp sem_gt op_gt (ce_add (ce_ix (ce_ixO 2 rfl (pv 2) (ce_var 3 rfl (pv 3))) (ce_int)) (ce_mul (ce_int) (ce_callTy sem_intA call_intA rfl T.b_int (by decide +kernel) (ca_cons (ce_cmp sem_ne (op_ne.or (op_neD (q64 hu))) (ce_var 7 rfl (pv 7)) (ce_str) (nomark _)) (ca_nil))))) (ce_var 6 rfl (pv 6)) (nomark _))))) (css_one (κ' := [.sh, .sh, (.ls .sh), .sh, .sh, .sh, .sh, .sh]) (cs_ret rfl (ce_lst (ca_cons (ce_str) (ca_cons (ce_sub (ce_var 3 rfl (pv 3)) (ce_int)) (ca_cons (ce_ixO 2 rfl (pv 2) (ce_var 3 rfl (pv 3))) (ca_nil))))) trivial)) (css_nil) trivial) (css_cons (κ1 := [.sh, .sh, (.ls .sh), .sh, .sh, .sh, .sh, .sh]) (cs_asg 6 (r := .sh) (show 6 < 8 by decide) trivial (ps_set (i := 6) nd rfl (Or.inl rfl) (ce_sub (ce_add (ce_var 6 rfl (pv 6)) (ce_mul (ce_int) (ce_callTy sem_intA call_intA rfl T.b_int (by decide +kernel) (ca_cons (ce_cmp sem_eq (op_eq.or (op_eqD (q64 hu))) (ce_var 7 rfl (pv 7)) (ce_str) (nomark _)) (ca_nil))))) (ce_mul (ce_int) (ce_callTy sem_intA call_intA rfl T.b_int (by decide +kernel) (ca_cons (ce_cmp sem_eq (op_eq.or (op_eqD (q64 hu))) (ce_var 7 rfl (pv 7)) (ce_str) (nomark _)) (ca_nil))))))) (css_nil)))) trivial) (css_freeze 2 (Or.inl rfl) (show 2 < 8 by decide) (css_one (κ' := [.sh, .sh, .sh, .sh, .sh, .sh, .sh, .sh]) (cs_ret rfl (ce_lst (ca_cons (ce_str) (ca_cons (ce_ix (ce_ix (ce_var 2 rfl (pv 2)) (ce_int)) (ce_int)) (ca_cons (ce_slice (ce_var 2 rfl (pv 2)) (co_some (ce_int)) (co_none)) (ca_nil))))) trivial))))))))
theorem ok__law_outcome {P : Program} {w : World} {K : PySem.W.Frag} {mg : Str → Option Value} {base : Heap} {f : Addr} {fd : FuncData} (F : FunD K "_law_outcome" "_law_outcome" (defArgs s__law_outcome) (defBody s__law_outcome) (defScope s__law_outcome) [] [] f fd) (hm : mg "_law_outcome" = some (.ref f)) (T : Top w K mg) (Cf__law_number : Callee P w K mg base "_law_number" 1 m__law_number .sh) :
    Callee P w K mg base "_law_outcome" 2 m__law_outcome .sh := callee_of hm F (fn__law_outcome F T Cf__law_number) (F.bindsN fun _ _ _ _ _ _ us hl => match us, hl with | [_], _ => rfl)
abbrev s__law_refusal : Stmt := (top 32)
abbrev N__law_refusal : List Str := ["_law_note_here", "e", "_law_kinds"]
theorem sc__law_refusal : FnScope N__law_refusal ["_law_note_here"] (defScope s__law_refusal) := ⟨rfl, rfl, rfl, by decide +kernel, rfl, by decide +kernel, by decide +kernel⟩
theorem fn__law_refusal {P : Program} {w : World} {K : PySem.W.Frag} {mg : Str → Option Value} {base : Heap} {f : Addr} {fd : FuncData} (F : FunD K "_law_refusal" "_law_refusal" (defArgs s__law_refusal) (defBody s__law_refusal) (defScope s__law_refusal) [] [] f fd) (T : Top w K mg) (Cf_parse_row : Callee P w K mg base "parse_row" 5 m_parse_row .sh) (Ch__law_whole : CalleeH P w K mg base "_law_whole" 1 m__law_whole .sh) :
    FnOk P w K mg base (L2N.CX P w) 6 f fd ["_law_note_here"] (spM K [] m__law_refusal .sh) := by
  refine def_ok (N := N__law_refusal) (ps := ["_law_note_here"]) (κ := [.sh, .sh, .sh]) (κ' := [.sh, .sh, .sh]) (g := g__law_refusal) F sc__law_refusal (kAt_all rfl) (fun cdv A outer s H E hr => ?_)
  have hu := u65 hr
  have tk : L2N.Takes (cxOf (L2N.CX P w) P w K mg base N__law_refusal "_law_refusal" (defScope s__law_refusal) f cdv A outer s H E) (cDef E .sh).W := L2N.takes_of rfl rfl rfl rfl
  have po : PassesOwn (model P w) _ _ (cxOf (L2N.CX P w) P w K mg base N__law_refusal "_law_refusal" (defScope s__law_refusal) f cdv A outer s H E).xe := passes_of rfl
  have nd := (sc__law_refusal).nd
  exact css_cons (κ1 := [.sh, .sh, .sh]) (cs_try (κb := [.sh, .sh, .sh]) (base := "RimError") T.ek rfl rfl nd rfl rfl ⟨rfl, by decide, .inl T.g_RimError⟩ tk (show 1 < 3 by decide) rfl rfl (fun W pn xe tk po => css_cons (κ1 := [.sh, .sh, .sh]) (cs_expr (ce_call Cf_parse_row (hr.mono (by decide)) tk rfl (ca_cons (ce_var 0 rfl (pv 0)) (ca_nil))) rfl) (css_nil)) (fun a oe C d pn hz hv => css_cons (κ1 := [.sh, (.exc a d C), .sh]) (cs_asg 2 (r := .sh) (show 2 < 3 by decide) trivial (ps_set (i := 2) nd rfl (Or.inl rfl) (ce_lst (ca_cons (ce_xis 1 (u := .o "NoteError") T.ek hz hv rfl rfl T.b_isinstance (pv 1) (pe_cl rfl T.g_NoteError)) (ca_cons (ce_xis 1 (u := .o "BadLanes") T.ek hz hv rfl rfl T.b_isinstance (pv 1) (pe_cl rfl T.g_BadLanes)) (ca_cons (ce_xis 1 (u := .o "BadLetter") T.ek hz hv rfl rfl T.b_isinstance (pv 1) (pe_cl rfl T.g_BadLetter)) (ca_nil))))))) (css_cons (κ1 := [.sh, (.exc a d C), .sh]) (cs_if (κ' := [.sh, (.exc a d C), .sh]) (ct_bool (cw_or (ct_not (ct_val (ce_xis 1 (u := .b "ValueError") T.ek hz hv rfl rfl T.b_isinstance (pv 1) (pe_ty rfl T.b_ValueError (by decide +kernel))))) (cw_or1 (ct_cmp sem_ne (op_ne.or (op_neD (q64 hu))) (ce_l1 sem_count PySem.F.slot_list_count PySem.F.type_list_count mt_cntF (ce_var 2 rfl (pv 2)) (ce_bl) (pe_bm PySem.F.plainAttrs_list PySem.F.slot_list_count PySem.F.type_list_count mt_cntF (ce_var 2 rfl (pv 2)) (pa_cons (ce_bl) pa_nil))) (ce_int) (nomark _))))) (css_one (κ' := [.sh, (.exc a d C), .sh]) (cs_ret rfl (ce_non) trivial)) (css_nil) trivial) (css_cons (κ1 := [.sh, (.exc a d C), .sh]) (cs_if (κ' := [.sh, (.exc a d C), .sh]) (ct_bool (cw_and (ct_val (ce_ix (ce_var 2 rfl (pv 2)) (ce_int))) (cw_and1 (ct_val (ce_callH Ch__law_whole (L2H.roomH_mark (hr.mono (by decide)) _) (hotC_suite hz hv) takes_suite rfl (ca_cons (ce_xf 1 T.ek hz hv rfl (pv 1)) (ca_nil))))))) (css_one (κ' := [.sh, (.exc a d C), .sh]) (cs_ret rfl (ce_lst (ca_cons (ce_str) (ca_cons (ce_xf 1 T.ek hz hv rfl (pv 1)) (ca_nil)))) trivial)) (css_nil) trivial) (css_cons (κ1 := [.sh, (.exc a d C), .sh]) (cs_if (κ' := [.sh, (.exc a d C), .sh]) (ct_bool (cw_and (ct_val (ce_ix (ce_var 2 rfl (pv 2)) (ce_int))) (cw_and1 (ct_val (ce_callH Ch__law_whole (L2H.roomH_mark (hr.mono (by decide)) _) (hotC_suite hz hv) takes_suite rfl (ca_cons (ce_xf 1 T.ek hz hv rfl (pv 1)) (ca_nil))))))) (css_one (κ' := [.sh, (.exc a d C), .sh]) (cs_ret rfl (ce_lst (ca_cons (ce_str) (ca_cons (ce_xf 1 T.ek hz hv rfl (pv 1)) (ca_nil)))) trivial)) (css_nil) trivial) (css_cons (κ1 := [.sh, (.exc a d C), .sh]) (cs_if (κ' := [.sh, (.exc a d C), .sh]) (ct_bool (cw_and (ct_val (ce_ix (ce_var 2 rfl (pv 2)) (ce_int))) (cw_and (ct_val (ce_callH Ch__law_whole (L2H.roomH_mark (hr.mono (by decide)) _) (hotC_suite hz hv) takes_suite rfl (ca_cons (ce_xf 1 T.ek hz hv rfl (pv 1)) (ca_nil)))) (cw_and (ct_val (ce_isi T.kit rfl T.b_isinstance (ce_xf 1 T.ek hz hv rfl (pv 1)) (pe_ty rfl T.b_tuple (by decide +kernel)))) (cw_and1 (ct_cmp sem_eq (op_eq.or (op_eqD (q64 hu))) (ce_callB sem_len call_len rfl T.b_len (by decide +kernel) (ca_cons (ce_xf 1 T.ek hz hv rfl (pv 1)) (ca_nil))) (ce_int) (nomark _))))))) (css_cons (κ1 := [.sh, (.exc a d C), .sh]) (cs_if (κ' := [.sh, (.exc a d C), .sh]) (ct_val (ce_callH Ch__law_whole (L2H.roomH_mark (hr.mono (by decide)) _) (hotC_suite hz hv) takes_suite rfl (ca_cons (ce_ix (ce_xf 1 T.ek hz hv rfl (pv 1)) (ce_int)) (ca_nil)))) (css_one (κ' := [.sh, (.exc a d C), .sh]) (cs_ret rfl (ce_lst (ca_cons (ce_str) (ca_cons (ce_xf 1 T.ek hz hv rfl (pv 1)) (ca_cons (ce_xf 1 T.ek hz hv rfl (pv 1)) (ca_nil))))) trivial)) (css_nil) trivial) (css_nil)) (css_nil) trivial) (css_freeze 1 (Or.inl rfl) (show 1 < 3 by decide) (css_nil)))))))) (css_one (κ' := [.sh, .sh, .sh]) (cs_ret rfl (ce_non) trivial))
theorem ok__law_refusal {P : Program} {w : World} {K : PySem.W.Frag} {mg : Str → Option Value} {base : Heap} {f : Addr} {fd : FuncData} (F : FunD K "_law_refusal" "_law_refusal" (defArgs s__law_refusal) (defBody s__law_refusal) (defScope s__law_refusal) [] [] f fd) (hm : mg "_law_refusal" = some (.ref f)) (T : Top w K mg) (Cf_parse_row : Callee P w K mg base "parse_row" 5 m_parse_row .sh) (Ch__law_whole : CalleeH P w K mg base "_law_whole" 1 m__law_whole .sh) :
    Callee P w K mg base "_law_refusal" 6 m__law_refusal .sh := callee_of hm F (fn__law_refusal F T Cf_parse_row Ch__law_whole) (F.bindsN fun _ _ _ _ _ _ us hl => match us, hl with | [_], _ => rfl)
abbrev s__law_reads : Stmt := (top 33)
abbrev N__law_reads : List Str := ["_law_note_here", "_law_due"]
theorem sc__law_reads : FnScope N__law_reads ["_law_note_here"] (defScope s__law_reads) := ⟨rfl, rfl, rfl, by decide +kernel, rfl, by decide +kernel, by decide +kernel⟩
theorem fn__law_reads {P : Program} {w : World} {K : PySem.W.Frag} {mg : Str → Option Value} {base : Heap} {f : Addr} {fd : FuncData} (F : FunD K "_law_reads" "_law_reads" (defArgs s__law_reads) (defBody s__law_reads) (defScope s__law_reads) [] [] f fd) (T : Top w K mg) (Cf__law_outcome : Callee P w K mg base "_law_outcome" 2 m__law_outcome .sh) (Cf_parse_row : Callee P w K mg base "parse_row" 5 m_parse_row .sh) (Cf__law_is_row : Callee P w K mg base "_law_is_row" 5 m__law_is_row .sh) (Cf__law_refusal : Callee P w K mg base "_law_refusal" 6 m__law_refusal .sh) :
    FnOk P w K mg base (L2N.CX P w) 7 f fd ["_law_note_here"] (spM K [] m__law_reads .sh) := by
  refine def_ok (N := N__law_reads) (ps := ["_law_note_here"]) (κ := [.sh, .sh]) (κ' := [.sh, .sh]) (g := g__law_reads) F sc__law_reads (kAt_all rfl) (fun cdv A outer s H E hr => ?_)
  have hu := u65 hr
  have tk : L2N.Takes (cxOf (L2N.CX P w) P w K mg base N__law_reads "_law_reads" (defScope s__law_reads) f cdv A outer s H E) (cDef E .sh).W := L2N.takes_of rfl rfl rfl rfl
  have po : PassesOwn (model P w) _ _ (cxOf (L2N.CX P w) P w K mg base N__law_reads "_law_reads" (defScope s__law_reads) f cdv A outer s H E).xe := passes_of rfl
  have nd := (sc__law_reads).nd
  exact css_cons (κ1 := [.sh, .sh]) (cs_asg 1 (r := .sh) (show 1 < 2 by decide) trivial (ps_set (i := 1) nd rfl (Or.inl rfl) (ce_call Cf__law_outcome (hr.mono (by decide)) tk rfl (ca_cons (ce_var 0 rfl (pv 0)) (ca_nil))))) (css_cons (κ1 := [.sh, .sh]) (cs_if (κ' := [.sh, .sh]) (ct_cmp sem_eq (op_eq.or (op_eqD (q64 hu))) (ce_ix (ce_var 1 rfl (pv 1)) (ce_int)) (ce_str) (nomark _)) (css_one (κ' := [.sh, .sh]) (cs_ret rfl (ce_call Cf__law_is_row (hr.mono (by decide)) tk rfl (ca_cons (ce_call Cf_parse_row (hr.mono (by decide)) tk rfl (ca_cons (ce_var 0 rfl (pv 0)) (ca_nil))) (ca_cons (ce_ix (ce_var 1 rfl (pv 1)) (ce_int)) (ca_cons (ce_ix (ce_var 1 rfl (pv 1)) (ce_int)) (ca_nil))))) trivial)) (css_nil) trivial) (css_one (κ' := [.sh, .sh]) (cs_ret rfl (ce_cmp sem_eq (op_eq.or (op_eqD (q64 hu))) (ce_call Cf__law_refusal (hr.mono (by decide)) tk rfl (ca_cons (ce_var 0 rfl (pv 0)) (ca_nil))) (ce_var 1 rfl (pv 1)) (nomark _)) trivial)))
theorem ok__law_reads {P : Program} {w : World} {K : PySem.W.Frag} {mg : Str → Option Value} {base : Heap} {f : Addr} {fd : FuncData} (F : FunD K "_law_reads" "_law_reads" (defArgs s__law_reads) (defBody s__law_reads) (defScope s__law_reads) [] [] f fd) (hm : mg "_law_reads" = some (.ref f)) (T : Top w K mg) (Cf__law_outcome : Callee P w K mg base "_law_outcome" 2 m__law_outcome .sh) (Cf_parse_row : Callee P w K mg base "parse_row" 5 m_parse_row .sh) (Cf__law_is_row : Callee P w K mg base "_law_is_row" 5 m__law_is_row .sh) (Cf__law_refusal : Callee P w K mg base "_law_refusal" 6 m__law_refusal .sh) :
    Callee P w K mg base "_law_reads" 7 m__law_reads .sh := callee_of hm F (fn__law_reads F T Cf__law_outcome Cf_parse_row Cf__law_is_row Cf__law_refusal) (F.bindsN fun _ _ _ _ _ _ us hl => match us, hl with | [_], _ => rfl)
abbrev s_law : Stmt := (top 34)
abbrev N_law : List Str := ["_law_script", "_law_size", "_law_top", "_law_many", "_law_upto", "_law_letters_here", "_law_note_here", "_law_sample", "_law_told", "_law_k", "_law_wrong", "_law_near", "_law_lines", "_law_late", "_law_back", "_law_words", "_law_over", "_law_turned", "_law_letter"]
theorem sc_law : FnScope N_law ["_law_script"] (defScope s_law) := ⟨rfl, rfl, rfl, by decide +kernel, rfl, by decide +kernel, by decide +kernel⟩
theorem fn_law {P : Program} {w : World} {K : PySem.W.Frag} {mg : Str → Option Value} {base : Heap} {f : Addr} {fd : FuncData} (F : FunD K "law" "law" (defArgs s_law) (defBody s_law) (defScope s_law) [] [] f fd) (T : Top w K mg) (Cf__law_cell : Callee P w K mg base "_law_cell" 1 m__law_cell .sh) (Cf__law_digits : Callee P w K mg base "_law_digits" 1 m__law_digits .sh) (Cf__law_letters : Callee P w K mg base "_law_letters" 1 m__law_letters .sh) (Cf__law_note : Callee P w K mg base "_law_note" 1 m__law_note .sh) (Ci_Row : CalleeI P w K mg base "Row" 3 m_Row___init__) (Cf_format_row : Callee P w K mg base "format_row" 1 m_format_row .sh) (Cf__law_reads : Callee P w K mg base "_law_reads" 7 m__law_reads .sh) (Cm_Row___eq__ : CalleeA P w K mg base (He.ma K (He.ga K "Row") "__eq__") 1 m_Row___eq__ .sh) (Cf_parse_row : Callee P w K mg base "parse_row" 5 m_parse_row .sh) (Cf__law_spoilt_note : Callee P w K mg base "_law_spoilt_note" 2 m__law_spoilt_note .sh) (Cm_Row_flipped : CalleeA P w K mg base (He.ma K (He.ga K "Row") "flipped") 5 m_Row_flipped .sh) (Cf__law_lanes : Callee P w K mg base "_law_lanes" 1 m__law_lanes .sh) (Ck_format_row_row : CalleeK P w K mg base "format_row" 1 ["row"] [0] m_format_row .sh) (Ck_parse_row_text : CalleeK P w K mg base "parse_row" 5 ["text"] [0] m_parse_row .sh) (Cf__law_is_row : Callee P w K mg base "_law_is_row" 5 m__law_is_row .sh) :
    FnOk P w K mg base (L2N.CX P w) 8 f fd ["_law_script"] (spM K [] m_law .sh) := by
  refine def_ok (N := N_law) (ps := ["_law_script"]) (κ := [.sh, .sh, .sh, .sh, .sh, .sh, .sh, .sh, .sh, .sh, .sh, .sh, .sh, .sh, .sh, .sh, .sh, .sh, .sh]) (κ' := [.sh, .sh, .sh, .sh, .sh, .sh, .sh, .sh, .sh, .sh, .sh, .sh, .sh, .sh, .sh, .sh, .sh, .sh, .sh]) (g := g_law) F sc_law (kAt_all rfl) (fun cdv A outer s H E hr => ?_)
  have hu := u65 hr
  have tk : L2N.Takes (cxOf (L2N.CX P w) P w K mg base N_law "law" (defScope s_law) f cdv A outer s H E) (cDef E .sh).W := L2N.takes_of rfl rfl rfl rfl
  have po : PassesOwn (model P w) _ _ (cxOf (L2N.CX P w) P w K mg base N_law "law" (defScope s_law) f cdv A outer s H E).xe := passes_of rfl
  have nd := (sc_law).nd
  exact css_cons (κ1 := [.sh, .sh, .sh, .sh, .sh, .sh, .sh, .sh, .sh, .sh, .sh, .sh, .sh, .sh, .sh, .sh, .sh, .sh, .sh]) (cs_asg 1 (r := .sh) (show 1 < 19 by decide) trivial (ps_set (i := 1) nd rfl (Or.inl rfl) (ce_call Cf__law_digits (hr.mono (by decide)) tk rfl (ca_cons (ce_call Cf__law_cell (hr.mono (by decide)) tk rfl (ca_cons (ce_var 0 rfl (pv 0)) (ca_cons (ce_int) (ca_nil)))) (ca_cons (ce_lst (ca_cons (ce_int) (ca_cons (ce_int) (ca_cons (ce_int) (ca_cons (ce_int) (ca_nil)))))) (ca_nil)))))) (css_cons (κ1 := [.sh, .sh, .sh, .sh, .sh, .sh, .sh, .sh, .sh, .sh, .sh, .sh, .sh, .sh, .sh, .sh, .sh, .sh, .sh]) (cs_asg 2 (r := .sh) (show 2 < 19 by decide) trivial (ps_set (i := 2) nd rfl (Or.inl rfl) (ce_ix (ce_var 1 rfl (pv 1)) (ce_int)))) (css_cons (κ1 := [.sh, .sh, .sh, .sh, .sh, .sh, .sh, .sh, .sh, .sh, .sh, .sh, .sh, .sh, .sh, .sh, .sh, .sh, .sh]) (cs_asg 3 (r := .sh) (show 3 < 19 by decide) trivial (ps_set (i := 3) nd rfl (Or.inl rfl) (ce_ix (ce_var 1 rfl (pv 1)) (ce_int)))) (css_cons (κ1 := [.sh, .sh, .sh, .sh, .sh, .sh, .sh, .sh, .sh, .sh, .sh, .sh, .sh, .sh, .sh, .sh, .sh, .sh, .sh]) (cs_asg 4 (r := .sh) (show 4 < 19 by decide) trivial (ps_set (i := 4) nd rfl (Or.inl rfl) (ce_int))) (css_cons (κ1 := [.sh, .sh, .sh, .sh, .sh, .sh, .sh, .sh, .sh, .sh, .sh, .sh, .sh, .sh, .sh, .sh, .sh, .sh, .sh]) (cs_if (κ' := [.sh, .sh, .sh, .sh, .sh, .sh, .sh, .sh, .sh, .sh, .sh, .sh, .sh, .sh, .sh, .sh, .sh, .sh, .sh]) (ct_cmp sem_eq (op_eq.or (op_eqD (q64 hu))) (ce_ix (ce_var 1 rfl (pv 1)) (ce_int)) (ce_int) (nomark _)) (css_cons (κ1 := [.sh, .sh, .sh, .sh, .sh, .sh, .sh, .sh, .sh, .sh, .sh, .sh, .sh, .sh, .sh, .sh, .sh, .sh, .sh]) (cs_asg 2 (r := .sh) (show 2 < 19 by decide) trivial (ps_set (i := 2) nd rfl (Or.inl rfl) (ce_add (ce_var 2 rfl (pv 2)) (ce_int)))) (css_cons (κ1 := [.sh, .sh, .sh, .sh, .sh, .sh, .sh, .sh, .sh, .sh, .sh, .sh, .sh, .sh, .sh, .sh, .sh, .sh, .sh]) (cs_asg 3 (r := .sh) (show 3 < 19 by decide) trivial (ps_set (i := 3) nd rfl (Or.inl rfl) (ce_mul (ce_int) (ce_var 3 rfl (pv 3))))) (css_cons (κ1 := [.sh, .sh, .sh, .sh, .sh, .sh, .sh, .sh, .sh, .sh, .sh, .sh, .sh, .sh, .sh, .sh, .sh, .sh, .sh]) (cs_asg 4 (r := .sh) (show 4 < 19 by decide) trivial (ps_set (i := 4) nd rfl (Or.inl rfl) (ce_int))) (css_nil)))) (css_nil) trivial) (css_cons (κ1 := [.sh, .sh, .sh, .sh, .sh, .sh, .sh, .sh, .sh, .sh, .sh, .sh, .sh, .sh, .sh, .sh, .sh, .sh, .sh]) (cs_asg 5 (r := .sh) (show 5 < 19 by decide) trivial (ps_set (i := 5) nd rfl (Or.inl rfl) (ce_call Cf__law_letters (hr.mono (by decide)) tk rfl (ca_cons (ce_call Cf__law_digits (hr.mono (by decide)) tk rfl (ca_cons (ce_call Cf__law_cell (hr.mono (by decide)) tk rfl (ca_cons (ce_var 0 rfl (pv 0)) (ca_cons (ce_int) (ca_nil)))) (ca_cons (ce_mul (ce_lst (ca_cons (ce_int) (ca_cons (ce_int) (ca_nil)))) (ce_var 3 rfl (pv 3))) (ca_nil)))) (ca_cons (ce_var 2 rfl (pv 2)) (ca_cons (ce_var 4 rfl (pv 4)) (ca_nil))))))) (css_cons (κ1 := [.sh, .sh, .sh, .sh, .sh, .sh, .sh, .sh, .sh, .sh, .sh, .sh, .sh, .sh, .sh, .sh, .sh, .sh, .sh]) (cs_asg 6 (r := .sh) (show 6 < 19 by decide) trivial (ps_set (i := 6) nd rfl (Or.inl rfl) (ce_call Cf__law_note (hr.mono (by decide)) tk rfl (ca_cons (ce_var 2 rfl (pv 2)) (ca_cons (ce_var 5 rfl (pv 5)) (ca_nil)))))) (css_cons (κ1 := [.sh, .sh, .sh, .sh, .sh, .sh, .sh, .sh, .sh, .sh, .sh, .sh, .sh, .sh, .sh, .sh, .sh, .sh, .sh]) (cs_asg 7 (r := .sh) (show 7 < 19 by decide) trivial (ps_set (i := 7) nd rfl (Or.inl rfl) (ce_make Ci_Row (hr.mono (by decide)) tk rfl (ca_cons (ce_var 2 rfl (pv 2)) (ca_cons (ce_var 5 rfl (pv 5)) (ca_nil)))))) (css_cons (κ1 := [.sh, .sh, .sh, .sh, .sh, .sh, .sh, .sh, .sh, .sh, .sh, .sh, .sh, .sh, .sh, .sh, .sh, .sh, .sh]) (cs_asg 8 (r := .sh) (show 8 < 19 by decide) trivial (ps_set (i := 8) nd rfl (Or.inl rfl) (ce_call Cf_format_row (hr.mono (by decide)) tk rfl (ca_cons (ce_var 7 rfl (pv 7)) (ca_nil))))) (css_cons (κ1 := [.sh, .sh, .sh, .sh, .sh, .sh, .sh, .sh, .sh, .sh, .sh, .sh, .sh, .sh, .sh, .sh, .sh, .sh, .sh]) (cs_if (κ' := [.sh, .sh, .sh, .sh, .sh, .sh, .sh, .sh, .sh, .sh, .sh, .sh, .sh, .sh, .sh, .sh, .sh, .sh, .sh]) (ct_bool (cw_or (ct_not (ct_val (ce_isi T.kit rfl T.b_isinstance (ce_var 8 rfl (pv 8)) (pe_ty rfl T.b_str (by decide +kernel))))) (cw_or (ct_cmp sem_ne (op_ne.or (op_neD (q64 hu))) (ce_var 8 rfl (pv 8)) (ce_var 6 rfl (pv 6)) (nomark _)) (cw_or1 (ct_not (ct_val (ce_call Cf__law_reads (hr.mono (by decide)) tk rfl (ca_cons (ce_var 6 rfl (pv 6)) (ca_nil))))))))) (css_one (κ' := [.sh, .sh, .sh, .sh, .sh, .sh, .sh, .sh, .sh, .sh, .sh, .sh, .sh, .sh, .sh, .sh, .sh, .sh, .sh]) (cs_ret rfl (ce_bl) trivial)) (css_nil) trivial) (css_cons (κ1 := [.sh, .sh, .sh, .sh, .sh, .sh, .sh, .sh, .sh, .sh, .sh, .sh, .sh, .sh, .sh, .sh, .sh, .sh, .sh]) (cs_if (κ' := [.sh, .sh, .sh, .sh, .sh, .sh, .sh, .sh, .sh, .sh, .sh, .sh, .sh, .sh, .sh, .sh, .sh, .sh, .sh]) (ct_cmp sem_notB op_notBl (ce_eqO T.m_Row___eq__ Cm_Row___eq__ (hr.mono (by decide)) (ce_call Cf_parse_row (hr.mono (by decide)) tk rfl (ca_cons (ce_var 8 rfl (pv 8)) (ca_nil))) (ce_var 7 rfl (pv 7)) (nomark _)) (ce_bl) (nomark _)) (css_one (κ' := [.sh, .sh, .sh, .sh, .sh, .sh, .sh, .sh, .sh, .sh, .sh, .sh, .sh, .sh, .sh, .sh, .sh, .sh, .sh]) (cs_ret rfl (ce_bl) trivial)) (css_nil) trivial) (css_cons (κ1 := [.sh, .sh, .sh, .sh, .sh, .sh, .sh, .sh, .sh, .sh, .sh, .sh, .sh, .sh, .sh, .sh, .sh, .sh, .sh]) (cs_for (tg := .nm 9) po rfl (ci_range1 rfl T.b_range (ca_cons (ce_int) (ca_nil))) (pg_name (i := 9) nd rfl (Or.inl rfl)) (slots_sh rfl) (css_cons (κ1 := [.sh, .sh, .sh, .sh, .sh, .sh, .sh, .sh, .sh, .sh, .sh, .sh, .sh, .sh, .sh, .sh, .sh, .sh, .sh]) (cs_asg 10 (r := .sh) (show 10 < 19 by decide) trivial (ps_set (i := 10) nd rfl (Or.inl rfl) (ce_call Cf__law_digits (hr.mono (by decide)) tk rfl (ca_cons (ce_call Cf__law_cell (hr.mono (by decide)) tk rfl (ca_cons (ce_var 0 rfl (pv 0)) (ca_cons (ce_add (ce_int) (ce_var 9 rfl (pv 9))) (ca_nil)))) (ca_cons (ce_lst (ca_cons (ce_int) (ca_cons (ce_int) (ca_cons (ce_int) (ca_cons (ce_int) (ca_cons (ce_int) (ca_cons (ce_int) (ca_nil)))))))) (ca_nil)))))) (css_cons (κ1 := [.sh, .sh, .sh, .sh, .sh, .sh, .sh, .sh, .sh, .sh, .sh, .sh, .sh, .sh, .sh, .sh, .sh, .sh, .sh]) (cs_asg 11 (r := .sh) (show 11 < 19 by decide) trivial (ps_set (i := 11) nd rfl (Or.inl rfl) (ce_call Cf__law_spoilt_note (hr.mono (by decide)) tk rfl (ca_cons (ce_var 6 rfl (pv 6)) (ca_cons (ce_ix (ce_var 10 rfl (pv 10)) (ce_int)) (ca_cons (ce_ix (ce_var 10 rfl (pv 10)) (ce_int)) (ca_cons (ce_ix (ce_var 10 rfl (pv 10)) (ce_int)) (ca_nil)))))))) (css_cons (κ1 := [.sh, .sh, .sh, .sh, .sh, .sh, .sh, .sh, .sh, .sh, .sh, .sh, .sh, .sh, .sh, .sh, .sh, .sh, .sh]) (cs_if (κ' := [.sh, .sh, .sh, .sh, .sh, .sh, .sh, .sh, .sh, .sh, .sh, .sh, .sh, .sh, .sh, .sh, .sh, .sh, .sh]) (ct_bool (cw_or (ct_not (ct_val (ce_call Cf__law_reads (hr.mono (by decide)) tk rfl (ca_cons (ce_var 11 rfl (pv 11)) (ca_nil))))) (cw_or1 (ct_not (ct_val (ce_call Cf__law_reads (hr.mono (by decide)) tk rfl (ca_cons (ce_call Cf__law_spoilt_note (hr.mono (by decide)) tk rfl (ca_cons (ce_var 11 rfl (pv 11)) (ca_cons (ce_ix (ce_var 10 rfl (pv 10)) (ce_int)) (ca_cons (ce_ix (ce_var 10 rfl (pv 10)) (ce_int)) (ca_cons (ce_ix (ce_var 10 rfl (pv 10)) (ce_int)) (ca_nil)))))) (ca_nil)))))))) (css_one (κ' := [.sh, .sh, .sh, .sh, .sh, .sh, .sh, .sh, .sh, .sh, .sh, .sh, .sh, .sh, .sh, .sh, .sh, .sh, .sh]) (cs_ret rfl (ce_bl) trivial)) (css_nil) trivial) (css_nil)))) trivial) (css_cons (κ1 := [.sh, .sh, .sh, .sh, .sh, .sh, .sh, .sh, .sh, .sh, .sh, .sh, .sh, .sh, .sh, .sh, .sh, .sh, .sh]) (cs_asg 12 (r := .sh) (show 12 < 19 by decide) trivial (ps_set (i := 12) nd rfl (Or.inl rfl) (ce_m1 (MetSem.share sem_split) PySem.F.slot_str_split PySem.F.type_str_split mt_split (ce_var 6 rfl (pv 6)) (ce_str)))) (css_cons (κ1 := [.sh, .sh, .sh, .sh, .sh, .sh, .sh, .sh, .sh, .sh, .sh, .sh, .sh, .sh, .sh, .sh, .sh, .sh, .sh]) (cs_asg 13 (r := .sh) (show 13 < 19 by decide) trivial (ps_set (i := 13) nd rfl (Or.inl rfl) (ce_ix (ce_lst (ca_cons (ce_lst (ca_cons (ce_str) (ca_nil))) (ca_cons (ce_lst (ca_cons (ce_str) (ca_nil))) (ca_cons (ce_lst (ca_cons (ce_str) (ca_nil))) (ca_cons (ce_lst (ca_cons (ce_str) (ca_nil))) (ca_cons (ce_lst (ca_cons (ce_str) (ca_nil))) (ca_cons (ce_lst (ca_nil)) (ca_nil)))))))) (ce_ix (ce_var 1 rfl (pv 1)) (ce_int))))) (css_cons (κ1 := [.sh, .sh, .sh, .sh, .sh, .sh, .sh, .sh, .sh, .sh, .sh, .sh, .sh, .sh, .sh, .sh, .sh, .sh, .sh]) (cs_for (tg := .nm 11) po rfl (ci_seq (ce_lst (ca_cons (ce_add (ce_add (ce_lst (ca_cons (ce_add (ce_str) (ce_callTy sem_str call_str_int rfl T.b_str (by decide +kernel) (ca_cons (ce_add (ce_int) (ce_ix (ce_var 1 rfl (pv 1)) (ce_int))) (ca_nil)))) (ca_nil))) (ce_slice (ce_var 12 rfl (pv 12)) (co_some (ce_int)) (co_none))) (ce_var 13 rfl (pv 13))) (ca_cons (ce_add (ce_add (ce_var 12 rfl (pv 12)) (ce_lst (ca_cons (ce_str) (ca_cons (ce_str) (ca_nil))))) (ce_var 13 rfl (pv 13))) (ca_nil))))) (pg_name (i := 11) nd rfl (Or.inl rfl)) (slots_sh rfl) (css_cons (κ1 := [.sh, .sh, .sh, .sh, .sh, .sh, .sh, .sh, .sh, .sh, .sh, .sh, .sh, .sh, .sh, .sh, .sh, .sh, .sh]) (cs_if (κ' := [.sh, .sh, .sh, .sh, .sh, .sh, .sh, .sh, .sh, .sh, .sh, .sh, .sh, .sh, .sh, .sh, .sh, .sh, .sh]) (ct_not (ct_val (ce_call Cf__law_reads (hr.mono (by decide)) tk rfl (ca_cons (ce_m1 sem_join PySem.F.slot_str_join PySem.F.type_str_join mt_join (ce_str) (ce_var 11 rfl (pv 11))) (ca_nil))))) (css_one (κ' := [.sh, .sh, .sh, .sh, .sh, .sh, .sh, .sh, .sh, .sh, .sh, .sh, .sh, .sh, .sh, .sh, .sh, .sh, .sh]) (cs_ret rfl (ce_bl) trivial)) (css_nil) trivial) (css_nil)) trivial) (css_cons (κ1 := [.sh, .sh, .sh, .sh, .sh, .sh, .sh, .sh, .sh, .sh, .sh, .sh, .sh, .sh, .sh, .sh, .sh, .sh, .sh]) (cs_asg 14 (r := .sh) (show 14 < 19 by decide) trivial (ps_set (i := 14) nd rfl (Or.inl rfl) (ce_call Cf_format_row (hr.mono (by decide)) tk rfl (ca_cons (ce_meth0 T.m_Row_flipped Cm_Row_flipped (hr.mono (by decide)) tk (ce_var 7 rfl (pv 7))) (ca_nil))))) (css_cons (κ1 := [.sh, .sh, .sh, .sh, .sh, .sh, .sh, .sh, .sh, .sh, .sh, .sh, .sh, .sh, .sh, .sh, .sh, .sh, .sh]) (cs_asg 15 (r := .sh) (show 15 < 19 by decide) trivial (ps_set (i := 15) nd rfl (Or.inr rfl) (ce_lst (ca_cons (ce_str) (ca_cons (ce_str) (ca_cons (ce_str) (ca_nil))))))) (css_cons (κ1 := [.sh, .sh, .sh, .sh, .sh, .sh, .sh, .sh, .sh, .sh, .sh, .sh, .sh, .sh, .sh, .sh, .sh, .sh, .sh]) (cs_asg 16 (r := .sh) (show 16 < 19 by decide) trivial (ps_set (i := 16) nd rfl (Or.inr rfl) (ce_lst (ca_cons (ce_str) (ca_cons (ce_str) (ca_cons (ce_str) (ca_nil))))))) (css_cons (κ1 := [.sh, .sh, .sh, .sh, .sh, .sh, .sh, .sh, .sh, .sh, .sh, .sh, .sh, .sh, .sh, .sh, .sh, .sh, .sh]) (cs_compS (i := 17) (tg := .nm 18) (own := [("_law_letter", 18)]) (show 17 < 19 by decide) trivial (ps_setLc rfl nd rfl rfl (sw_true rfl rfl rfl (by decide +kernel)) (ci_rev rfl T.b_reversed (ce_var 5 rfl (pv 5))) (show BlkOk N_law (defScope s_law) _ _ from blkOk_by (by decide +kernel)) (fun _ _ _ _ _ => pg_name (i := 18) nd rfl (Or.inl rfl)) (fun _ _ _ _ _ => cts_nil) (fun _ _ _ _ _ => ce_tup (ca_cons (ce_ix (ce_var 16 rfl (pv 16)) (ce_l1 sem_index PySem.F.slot_list_index PySem.F.type_list_index mt_index (ce_var 15 rfl (pv 15)) (ce_ix (ce_var 18 rfl (pv 18)) (ce_int)) (pe_bm PySem.F.plainAttrs_list PySem.F.slot_list_index PySem.F.type_list_index mt_index (ce_var 15 rfl (pv 15)) (pa_cons (ce_ix (ce_var 18 rfl (pv 18)) (ce_int)) pa_nil)))) (ca_cons (ce_ix (ce_var 18 rfl (pv 18)) (ce_int)) (ca_nil))))) (by decide)) (css_cons (κ1 := [.sh, .sh, .sh, .sh, .sh, .sh, .sh, .sh, .sh, .sh, .sh, .sh, .sh, .sh, .sh, .sh, .sh, .sh, .sh]) (cs_if (κ' := [.sh, .sh, .sh, .sh, .sh, .sh, .sh, .sh, .sh, .sh, .sh, .sh, .sh, .sh, .sh, .sh, .sh, .sh, .sh]) (ct_bool (cw_or (ct_cmp sem_ne (op_ne.or (op_neD (q64 hu))) (ce_var 14 rfl (pv 14)) (ce_call Cf__law_note (hr.mono (by decide)) tk rfl (ca_cons (ce_ix (ce_call Cf__law_lanes (hr.mono (by decide)) tk rfl (ca_cons (ce_var 2 rfl (pv 2)) (ca_cons (ce_var 5 rfl (pv 5)) (ca_nil)))) (ce_neg (ce_int))) (ca_cons (ce_var 17 rfl (pv 17)) (ca_nil)))) (nomark _)) (cw_or1 (ct_not (ct_val (ce_call Cf__law_reads (hr.mono (by decide)) tk rfl (ca_cons (ce_var 14 rfl (pv 14)) (ca_nil)))))))) (css_one (κ' := [.sh, .sh, .sh, .sh, .sh, .sh, .sh, .sh, .sh, .sh, .sh, .sh, .sh, .sh, .sh, .sh, .sh, .sh, .sh]) (cs_ret rfl (ce_bl) trivial)) (css_nil) trivial) (css_one (κ' := [.sh, .sh, .sh, .sh, .sh, .sh, .sh, .sh, .sh, .sh, .sh, .sh, .sh, .sh, .sh, .sh, .sh, .sh, .sh]) (cs_ret rfl (ce_and (ce_cmp sem_eq (op_eq.or (op_eqD (q64 hu))) (ce_callK (ks := ["row"]) (π := [0]) Ck_format_row_row (hr.mono (by decide)) tk rfl (ck_cons (ce_var 7 rfl (pv 7)) (ck_nil))) (ce_var 6 rfl (pv 6)) (nomark _)) (ce_one (ce_call Cf__law_is_row (hr.mono (by decide)) tk rfl (ca_cons (ce_callK (ks := ["text"]) (π := [0]) Ck_parse_row_text (hr.mono (by decide)) tk rfl (ck_cons (ce_var 6 rfl (pv 6)) (ck_nil))) (ca_cons (ce_var 2 rfl (pv 2)) (ca_cons (ce_var 5 rfl (pv 5)) (ca_nil))))))) trivial)))))))))))))))))))))
theorem ok_law {P : Program} {w : World} {K : PySem.W.Frag} {mg : Str → Option Value} {base : Heap} {f : Addr} {fd : FuncData} (F : FunD K "law" "law" (defArgs s_law) (defBody s_law) (defScope s_law) [] [] f fd) (hm : mg "law" = some (.ref f)) (T : Top w K mg) (Cf__law_cell : Callee P w K mg base "_law_cell" 1 m__law_cell .sh) (Cf__law_digits : Callee P w K mg base "_law_digits" 1 m__law_digits .sh) (Cf__law_letters : Callee P w K mg base "_law_letters" 1 m__law_letters .sh) (Cf__law_note : Callee P w K mg base "_law_note" 1 m__law_note .sh) (Ci_Row : CalleeI P w K mg base "Row" 3 m_Row___init__) (Cf_format_row : Callee P w K mg base "format_row" 1 m_format_row .sh) (Cf__law_reads : Callee P w K mg base "_law_reads" 7 m__law_reads .sh) (Cm_Row___eq__ : CalleeA P w K mg base (He.ma K (He.ga K "Row") "__eq__") 1 m_Row___eq__ .sh) (Cf_parse_row : Callee P w K mg base "parse_row" 5 m_parse_row .sh) (Cf__law_spoilt_note : Callee P w K mg base "_law_spoilt_note" 2 m__law_spoilt_note .sh) (Cm_Row_flipped : CalleeA P w K mg base (He.ma K (He.ga K "Row") "flipped") 5 m_Row_flipped .sh) (Cf__law_lanes : Callee P w K mg base "_law_lanes" 1 m__law_lanes .sh) (Ck_format_row_row : CalleeK P w K mg base "format_row" 1 ["row"] [0] m_format_row .sh) (Ck_parse_row_text : CalleeK P w K mg base "parse_row" 5 ["text"] [0] m_parse_row .sh) (Cf__law_is_row : Callee P w K mg base "_law_is_row" 5 m__law_is_row .sh) :
    Callee P w K mg base "law" 8 m_law .sh := callee_of hm F (fn_law F T Cf__law_cell Cf__law_digits Cf__law_letters Cf__law_note Ci_Row Cf_format_row Cf__law_reads Cm_Row___eq__ Cf_parse_row Cf__law_spoilt_note Cm_Row_flipped Cf__law_lanes Ck_format_row_row Ck_parse_row_text Cf__law_is_row) (F.bindsN fun _ _ _ _ _ _ us hl => match us, hl with | [_], _ => rfl)
theorem okh__law_whole {P : Program} {w : World} {K : PySem.W.Frag} {mg : Str → Option Value} {base : Heap} {f : Addr} {fd : FuncData} (F : FunD K "_law_whole" "_law_whole" (defArgs s__law_whole) (defBody s__law_whole) (defScope s__law_whole) [] [] f fd) (hm : mg "_law_whole" = some (.ref f)) (T : Top w K mg) :
    CalleeH P w K mg base "_law_whole" 1 m__law_whole .sh := by
  refine ⟨f, fd, ["_law_value"], hm, F.kp, def_okH (N := N__law_whole) (ps := ["_law_value"]) (κ := [.sh]) (κ' := [.sh]) (g := g__law_whole) F sc__law_whole (kAt_all rfl) (fun cdv A outer s H E p hot hrH => ?_), (F.bindsN fun _ _ _ _ _ _ us hl => match us, hl with | [_], _ => rfl)⟩
  have hu := u65H hrH
  have nd := (sc__law_whole).nd
  exact css_one (κ' := [.sh]) (cs_ret rfl (ce_and (ce_isi T.kit rfl T.b_isinstance (ce_var 0 rfl (pv 0)) (pe_ty rfl T.b_int (by decide +kernel))) (ce_one (ce_not (ce_isi T.kit rfl T.b_isinstance (ce_var 0 rfl (pv 0)) (pe_ty rfl T.b_bool (by decide +kernel)))))) trivial)
end K69

set_option Elab.async false
set_option linter.all false
set_option maxRecDepth 100000
set_option maxHeartbeats 4000000
namespace K69
open PySem L2 T
def exL (K : PySem.W.Frag) : List Bool := [(He.Fa.free "isinstance").ok K,
  (He.Fa.free "int").ok K,
  (He.Fa.free "bool").ok K,
  (He.Fa.free "tuple").ok K,
  (He.Fa.free "list").ok K,
  (He.Fa.free "len").ok K,
  (He.Fa.free "enumerate").ok K,
  (He.Fa.free "reversed").ok K,
  (He.Fa.free "range").ok K,
  (He.Fa.free "str").ok K,
  (He.Fa.free "ValueError").ok K,
  (He.Fa.glo "BadLanes").ok K,
  (He.Fa.glo "BadLetter").ok K,
  (He.Fa.glo "NoteError").ok K,
  (He.Fa.glo "MORE_LANES").ok K,
  (He.Fa.glo "Row").ok K,
  (He.Fa.glo "FLIPPED").ok K,
  (He.Fa.glo "RimError").ok K,
  kitC K cl,
  fldC K fc_top "top",
  fldC K fc_letters "letters",
  propB K "Row" "lanes",
  propB K "Row" "bottom",
  metC K "Row" "__len__",
  metC K "Row" "__eq__",
  metC K "Row" "flipped",
  tabC K "MORE_LANES" tb_MORE_LANES,
  tabC K "FLIPPED" tb_FLIPPED,
  errC K erb ers eru erf,
  xinB K "BadLanes",
  xinB K "BadLetter",
  xinB K "NoteError",
  (He.Fa.glo "is_count").ok K,
  (He.Fa.glo "letter_fits").ok K,
  (He.Fa.mkr "Row").ok K,
  (He.Fa.glo "format_row").ok K,
  (He.Fa.glo "written_number").ok K,
  (He.Fa.glo "parse_line").ok K,
  (He.Fa.glo "parse_row").ok K,
  (He.Fa.glo "_law_whole").ok K,
  (He.Fa.glo "_law_cell").ok K,
  (He.Fa.glo "_law_digits").ok K,
  (He.Fa.glo "_law_letters").ok K,
  (He.Fa.glo "_law_lanes").ok K,
  (He.Fa.glo "_law_is_row").ok K,
  (He.Fa.glo "_law_note").ok K,
  (He.Fa.glo "_law_spoilt_line").ok K,
  (He.Fa.glo "_law_spoilt_note").ok K,
  (He.Fa.glo "_law_number").ok K,
  (He.Fa.glo "_law_outcome").ok K,
  (He.Fa.glo "_law_refusal").ok K,
  (He.Fa.glo "_law_reads").ok K,
  (He.Fa.glo "law").ok K]
def exF (K : PySem.W.Frag) : Bool := (exL K).all id
def fn : List DefA := [⟨fun K => He.ma K (He.ga K "BadLanes") "__init__", "__init__", "BadLanes.__init__", defArgs s_BadLanes___init__, defBody s_BadLanes___init__, defScope s_BadLanes___init__, []⟩,
  ⟨fun K => He.ma K (He.ga K "BadLetter") "__init__", "__init__", "BadLetter.__init__", defArgs s_BadLetter___init__, defBody s_BadLetter___init__, defScope s_BadLetter___init__, []⟩,
  ⟨fun K => He.ma K (He.ga K "NoteError") "__init__", "__init__", "NoteError.__init__", defArgs s_NoteError___init__, defBody s_NoteError___init__, defScope s_NoteError___init__, []⟩,
  ⟨fun K => He.ga K "is_count", "is_count", "is_count", defArgs s_is_count, defBody s_is_count, defScope s_is_count, []⟩,
  ⟨fun K => He.ga K "letter_fits", "letter_fits", "letter_fits", defArgs s_letter_fits, defBody s_letter_fits, defScope s_letter_fits, []⟩,
  ⟨fun K => He.ma K (He.ga K "Row") "__init__", "__init__", "Row.__init__", defArgs s_Row___init__, defBody s_Row___init__, defScope s_Row___init__, [.adr (He.dflAt ("Row", some "__init__") 0)]⟩,
  ⟨fun K => propG K "Row" "lanes", "lanes", "Row.lanes", defArgs s_Row_lanes, defBody s_Row_lanes, defScope s_Row_lanes, []⟩,
  ⟨fun K => propG K "Row" "bottom", "bottom", "Row.bottom", defArgs s_Row_bottom, defBody s_Row_bottom, defScope s_Row_bottom, []⟩,
  ⟨fun K => He.ma K (He.ga K "Row") "__len__", "__len__", "Row.__len__", defArgs s_Row___len__, defBody s_Row___len__, defScope s_Row___len__, []⟩,
  ⟨fun K => He.ma K (He.ga K "Row") "__eq__", "__eq__", "Row.__eq__", defArgs s_Row___eq__, defBody s_Row___eq__, defScope s_Row___eq__, []⟩,
  ⟨fun K => He.ma K (He.ga K "Row") "flipped", "flipped", "Row.flipped", defArgs s_Row_flipped, defBody s_Row_flipped, defScope s_Row_flipped, []⟩,
  ⟨fun K => He.ga K "format_row", "format_row", "format_row", defArgs s_format_row, defBody s_format_row, defScope s_format_row, []⟩,
  ⟨fun K => He.ga K "written_number", "written_number", "written_number", defArgs s_written_number, defBody s_written_number, defScope s_written_number, []⟩,
  ⟨fun K => He.ga K "parse_line", "parse_line", "parse_line", defArgs s_parse_line, defBody s_parse_line, defScope s_parse_line, []⟩,
  ⟨fun K => He.ga K "parse_row", "parse_row", "parse_row", defArgs s_parse_row, defBody s_parse_row, defScope s_parse_row, []⟩,
  ⟨fun K => He.ga K "_law_whole", "_law_whole", "_law_whole", defArgs s__law_whole, defBody s__law_whole, defScope s__law_whole, []⟩,
  ⟨fun K => He.ga K "_law_cell", "_law_cell", "_law_cell", defArgs s__law_cell, defBody s__law_cell, defScope s__law_cell, []⟩,
  ⟨fun K => He.ga K "_law_digits", "_law_digits", "_law_digits", defArgs s__law_digits, defBody s__law_digits, defScope s__law_digits, []⟩,
  ⟨fun K => He.ga K "_law_letters", "_law_letters", "_law_letters", defArgs s__law_letters, defBody s__law_letters, defScope s__law_letters, []⟩,
  ⟨fun K => He.ga K "_law_lanes", "_law_lanes", "_law_lanes", defArgs s__law_lanes, defBody s__law_lanes, defScope s__law_lanes, []⟩,
  ⟨fun K => He.ga K "_law_is_row", "_law_is_row", "_law_is_row", defArgs s__law_is_row, defBody s__law_is_row, defScope s__law_is_row, []⟩,
  ⟨fun K => He.ga K "_law_note", "_law_note", "_law_note", defArgs s__law_note, defBody s__law_note, defScope s__law_note, []⟩,
  ⟨fun K => He.ga K "_law_spoilt_line", "_law_spoilt_line", "_law_spoilt_line", defArgs s__law_spoilt_line, defBody s__law_spoilt_line, defScope s__law_spoilt_line, []⟩,
  ⟨fun K => He.ga K "_law_spoilt_note", "_law_spoilt_note", "_law_spoilt_note", defArgs s__law_spoilt_note, defBody s__law_spoilt_note, defScope s__law_spoilt_note, []⟩,
  ⟨fun K => He.ga K "_law_number", "_law_number", "_law_number", defArgs s__law_number, defBody s__law_number, defScope s__law_number, []⟩,
  ⟨fun K => He.ga K "_law_outcome", "_law_outcome", "_law_outcome", defArgs s__law_outcome, defBody s__law_outcome, defScope s__law_outcome, []⟩,
  ⟨fun K => He.ga K "_law_refusal", "_law_refusal", "_law_refusal", defArgs s__law_refusal, defBody s__law_refusal, defScope s__law_refusal, []⟩,
  ⟨fun K => He.ga K "_law_reads", "_law_reads", "_law_reads", defArgs s__law_reads, defBody s__law_reads, defScope s__law_reads, []⟩,
  ⟨fun K => He.ga K "law", "law", "law", defArgs s_law, defBody s_law, defScope s_law, []⟩]
def ts : List (Str × List Str) := [("MORE_LANES", tb_MORE_LANES.map (·.1)), ("FLIPPED", tb_FLIPPED.map (·.1))]
theorem exl {w : World} {K : PySem.W.Frag} (c : obsA exF fn ts K = valA fn ts w) (i : Nat) {b : Bool} (h : (exL K)[i]? = some b := by rfl) : b = true := List.all_eq_true.mp (saysA_ex c) b (List.mem_of_getElem? h)
theorem top_of {w : World} {K : PySem.W.Frag} {h : Heap} {mg : Str → Option Value} (X : K.In h) (G : h.Ns mainGlobals mg) (c : obsA exF fn ts K = valA fn ts w) : Top w K mg where
  b_isinstance := He.free_ok X G (exl c 0)
  b_int := He.free_ok X G (exl c 1)
  b_bool := He.free_ok X G (exl c 2)
  b_tuple := He.free_ok X G (exl c 3)
  b_list := He.free_ok X G (exl c 4)
  b_len := He.free_ok X G (exl c 5)
  b_enumerate := He.free_ok X G (exl c 6)
  b_reversed := He.free_ok X G (exl c 7)
  b_range := He.free_ok X G (exl c 8)
  b_str := He.free_ok X G (exl c 9)
  b_ValueError := He.free_ok X G (exl c 10)
  g_BadLanes := He.glo_ok X G (exl c 11)
  g_BadLetter := He.glo_ok X G (exl c 12)
  g_NoteError := He.glo_ok X G (exl c 13)
  g_MORE_LANES := He.glo_ok X G (exl c 14)
  g_Row := He.glo_ok X G (exl c 15)
  g_FLIPPED := He.glo_ok X G (exl c 16)
  g_RimError := He.glo_ok X G (exl c 17)
  kit := kit_by (exl c 18)
  f_top := fld_by (exl c 19)
  f_letters := fld_by (exl c 20)
  p_Row_lanes := prop_by (exl c 21)
  p_Row_bottom := prop_by (exl c 22)
  m_Row___len__ := met_by (exl c 23)
  m_Row___eq__ := met_by (exl c 24)
  m_Row_flipped := met_by (exl c 25)
  t_MORE_LANES := tab_by (exl c 26) (saysA_tab c 0 rfl)
  t_FLIPPED := tab_by (exl c 27) (saysA_tab c 1 rfl)
  ek := err_by (exl c 28)
theorem law_all {P : Program} {w : World} {K : PySem.W.Frag} {h : Heap} {mg : Str → Option Value} {f : Addr} (X : K.In h) (G : h.Ns mainGlobals mg) (hfa : mg ("law" : Str) = some (.ref f)) (c : obsA exF fn ts K = valA fn ts w) :
    ∃ fd : FuncData, (∀ (s : Shared) (v : Value), BindsTo s fd ⟨[v], []⟩ [("_law_script", v)]) ∧ ∀ base : Heap, FnOk P w K mg base (L2N.CX P w) 8 f fd ["_law_script"] (spM K [] m_law .sh) := by
  have T := top_of X G c
  have e := hfa.symm.trans (He.glo_ok X G (exl c 52))
  cases e
  obtain ⟨fdL, FL⟩ := saysA_def c 28 rfl
  refine ⟨fdL, fun s v => FunD.bindsA (ps := ["_law_script"]) FL (fun _ _ _ _ _ _ us hl => match us, hl with | [_], _ => rfl) s [v] rfl, fun base => ?_⟩
  obtain ⟨fd0, F0⟩ := saysA_def c 0 rfl
  have Cx_BadLanes := ok_BadLanes___init__ (P := P) (base := base) F0 T.g_BadLanes (xin_by (exl c 29)).1 (xin_by (exl c 29)).2 T
  obtain ⟨fd1, F1⟩ := saysA_def c 1 rfl
  have Cx_BadLetter := ok_BadLetter___init__ (P := P) (base := base) F1 T.g_BadLetter (xin_by (exl c 30)).1 (xin_by (exl c 30)).2 T
  obtain ⟨fd2, F2⟩ := saysA_def c 2 rfl
  have Cx_NoteError := ok_NoteError___init__ (P := P) (base := base) F2 T.g_NoteError (xin_by (exl c 31)).1 (xin_by (exl c 31)).2 T
  obtain ⟨fd3, F3⟩ := saysA_def c 3 rfl
  have Cf_is_count := (ok_is_count (P := P) (base := base) F3 (He.glo_ok X G (exl c 32)) T)
  obtain ⟨fd4, F4⟩ := saysA_def c 4 rfl
  have Cf_letter_fits := (ok_letter_fits (P := P) (base := base) F4 (He.glo_ok X G (exl c 33)) T Cf_is_count)
  obtain ⟨fd5, F5⟩ := saysA_def c 5 rfl
  have Ci_Row := (ok_Row___init__ (P := P) (base := base) F5 (He.glo_ok X G (exl c 15)) (He.mkr_ok (exl c 34)) T Cf_is_count Cx_BadLanes Cf_letter_fits Cx_BadLetter)
  obtain ⟨fd6, F6⟩ := saysA_def c 6 rfl
  have Cp_Row_lanes := (ok_Row_lanes (P := P) (base := base) F6 T)
  obtain ⟨fd7, F7⟩ := saysA_def c 7 rfl
  have Cp_Row_bottom := (ok_Row_bottom (P := P) (base := base) F7 T Cp_Row_lanes)
  obtain ⟨fd8, F8⟩ := saysA_def c 8 rfl
  have Cm_Row___len__ := (ok_Row___len__ (P := P) (base := base) F8 T)
  obtain ⟨fd9, F9⟩ := saysA_def c 9 rfl
  have Cm_Row___eq__ := (ok_Row___eq__ (P := P) (base := base) F9 T)
  obtain ⟨fd10, F10⟩ := saysA_def c 10 rfl
  have Cm_Row_flipped := (ok_Row_flipped (P := P) (base := base) F10 T Ci_Row Cp_Row_bottom)
  obtain ⟨fd11, F11⟩ := saysA_def c 11 rfl
  have Cf_format_row := (ok_format_row (P := P) (base := base) F11 (He.glo_ok X G (exl c 35)) T)
  have Ck_format_row_row := calleeK_of (He.glo_ok X G (exl c 35)) F11 (fn_format_row (P := P) (base := base) F11 T) (ks := ["row"]) (π := [0]) (ps := ["row"]) rfl (by decide) (fun _ _ _ _ _ _ us hl => match us, hl with | [_], _ => rfl)
  obtain ⟨fd12, F12⟩ := saysA_def c 12 rfl
  have Cf_written_number := (ok_written_number (P := P) (base := base) F12 (He.glo_ok X G (exl c 36)) T)
  obtain ⟨fd13, F13⟩ := saysA_def c 13 rfl
  have Cf_parse_line := (ok_parse_line (P := P) (base := base) F13 (He.glo_ok X G (exl c 37)) T Cf_written_number)
  obtain ⟨fd14, F14⟩ := saysA_def c 14 rfl
  have Cf_parse_row := (ok_parse_row (P := P) (base := base) F14 (He.glo_ok X G (exl c 38)) T Cf_parse_line Cx_NoteError Ci_Row)
  have Ck_parse_row_text := calleeK_of (He.glo_ok X G (exl c 38)) F14 (fn_parse_row (P := P) (base := base) F14 T Cf_parse_line Cx_NoteError Ci_Row) (ks := ["text"]) (π := [0]) (ps := ["text"]) rfl (by decide) (fun _ _ _ _ _ _ us hl => match us, hl with | [_], _ => rfl)
  obtain ⟨fd15, F15⟩ := saysA_def c 15 rfl
  have Cf__law_whole := (ok__law_whole (P := P) (base := base) F15 (He.glo_ok X G (exl c 39)) T)
  have Ch__law_whole := (okh__law_whole (P := P) (base := base) F15 (He.glo_ok X G (exl c 39)) T)
  obtain ⟨fd16, F16⟩ := saysA_def c 16 rfl
  have Cf__law_cell := (ok__law_cell (P := P) (base := base) F16 (He.glo_ok X G (exl c 40)) T)
  obtain ⟨fd17, F17⟩ := saysA_def c 17 rfl
  have Cf__law_digits := (ok__law_digits (P := P) (base := base) F17 (He.glo_ok X G (exl c 41)) T)
  obtain ⟨fd18, F18⟩ := saysA_def c 18 rfl
  have Cf__law_letters := (ok__law_letters (P := P) (base := base) F18 (He.glo_ok X G (exl c 42)) T)
  obtain ⟨fd19, F19⟩ := saysA_def c 19 rfl
  have Cf__law_lanes := (ok__law_lanes (P := P) (base := base) F19 (He.glo_ok X G (exl c 43)) T)
  obtain ⟨fd20, F20⟩ := saysA_def c 20 rfl
  have Cf__law_is_row := (ok__law_is_row (P := P) (base := base) F20 (He.glo_ok X G (exl c 44)) T Cf__law_whole Cm_Row___len__ Cp_Row_bottom Cf__law_lanes)
  obtain ⟨fd21, F21⟩ := saysA_def c 21 rfl
  have Cf__law_note := (ok__law_note (P := P) (base := base) F21 (He.glo_ok X G (exl c 45)) T)
  obtain ⟨fd22, F22⟩ := saysA_def c 22 rfl
  have Cf__law_spoilt_line := (ok__law_spoilt_line (P := P) (base := base) F22 (He.glo_ok X G (exl c 46)) T)
  obtain ⟨fd23, F23⟩ := saysA_def c 23 rfl
  have Cf__law_spoilt_note := (ok__law_spoilt_note (P := P) (base := base) F23 (He.glo_ok X G (exl c 47)) T Cf__law_spoilt_line)
  obtain ⟨fd24, F24⟩ := saysA_def c 24 rfl
  have Cf__law_number := (ok__law_number (P := P) (base := base) F24 (He.glo_ok X G (exl c 48)) T)
  obtain ⟨fd25, F25⟩ := saysA_def c 25 rfl
  have Cf__law_outcome := (ok__law_outcome (P := P) (base := base) F25 (He.glo_ok X G (exl c 49)) T Cf__law_number)
  obtain ⟨fd26, F26⟩ := saysA_def c 26 rfl
  have Cf__law_refusal := (ok__law_refusal (P := P) (base := base) F26 (He.glo_ok X G (exl c 50)) T Cf_parse_row Ch__law_whole)
  obtain ⟨fd27, F27⟩ := saysA_def c 27 rfl
  have Cf__law_reads := (ok__law_reads (P := P) (base := base) F27 (He.glo_ok X G (exl c 51)) T Cf__law_outcome Cf_parse_row Cf__law_is_row Cf__law_refusal)
  exact fn_law FL T Cf__law_cell Cf__law_digits Cf__law_letters Cf__law_note Ci_Row Cf_format_row Cf__law_reads Cm_Row___eq__ Cf_parse_row Cf__law_spoilt_note Cm_Row_flipped Cf__law_lanes Ck_format_row_row Ck_parse_row_text Cf__law_is_row
def lo0 : List PySem.Str := ["_wall", "RimError", "BadNumber", "BadLanes", "BadLetter", "UnlikeLanes", "NoteError", "is_count", "MORE_LANES", "FLIPPED", "letter_fits", "Row", "format_row", "written_number", "parse_line", "parse_row", "_law_whole", "_law_cell", "_law_digits", "_law_letters", "_law_lanes", "_law_is_row", "_law_note", "_law_spoilt_line", "_law_spoilt_note", "_law_number", "_law_outcome", "_law_refusal", "_law_reads"]
def loose : List PySem.Str := lo0
abbrev R : PySem.W.OpenRow := PySem.W.OpenLaw.row PySem.Challenge.rw_rimcords_k69_row_notes
abbrev hk : PySem.W.Hook := hookA 5 exF fn ts
def ob (s : PySem.W.SharedT) : AlA := obsAG 5 exF fn ts (HandSHeadRun.getT s)
theorem ob_eq (s : PySem.W.SharedT) : ob s = hk.obs s.abs := obsAG_eq (HandSHeadRun.getT_eq s)
theorem run0 (w : World) : HandSHeadRun.RunEq R (PySem.W.view R.prog [34]) hk ob 20000 loose (w.withFollow "special-get-raises" false) := by
  intro os
  kernel_rfl
theorem run1 (w : World) : HandSHeadRun.RunEq R (PySem.W.view R.prog [34]) hk ob 20000 loose (w.withFollow "special-get-raises" true) := by
  intro os
  kernel_rfl
theorem run (w : World) : HandSHeadRun.RunEq R (PySem.W.view R.prog [34]) hk ob 20000 loose w := PySem.W.byRow2 "special-get-raises" (P := fun w => HandSHeadRun.RunEq R (PySem.W.view R.prog [34]) hk ob 20000 loose w) run0 run1 w
end K69

set_option Elab.async false
set_option linter.all false
set_option maxRecDepth 100000
set_option maxHeartbeats 4000000
open PySem PySem.W PySem.Calls PyProof.Rows
theorem PySem.Challenge.cw_rimcords_k69_row_notes_holds : PySem.Challenge.rw_rimcords_k69_row_notes.Holds := by
  w_on; o_law
  refine HandSHeadRun.head_any (r := OpenLaw.row PySem.Challenge.rw_rimcords_k69_row_notes) (q := view (OpenLaw.row PySem.Challenge.rw_rimcords_k69_row_notes).prog [34]) (H := K69.hk) (ob := K69.ob) (M := 20000) (loose := K69.loose) (d := HandSHeadRun.topDef (OpenLaw.row PySem.Challenge.rw_rimcords_k69_row_notes).prog 34) (kwd := []) K69.ob_eq (by kernel_rfl) (fun s => by kernel_rfl) K69.run
    (by kernel_rfl) (by kernel_rfl) (by kernel_rfl) (by rfl) (by first | assumption | decide +kernel) (by decide +kernel) ⟨rfl, rfl, rfl, rfl, rfl, by decide +kernel⟩ ?hw ?hc
  case hw => w_witness2
  case hc =>
    refine L2.walk_ofE (l := PySem.Challenge.rw_rimcords_k69_row_notes) (n := 63) (k := 8) (x := "_law_script") (CX := T.CXA (PySem.Challenge.rw_rimcords_k69_row_notes).prog) rfl (by decide) (by kernel_rfl) ⟨rfl, by decide, by decide⟩ ?F (fun _ _ _ _ z => T.no_cxA z)
    intro w mg fa h Y G hmg0
    obtain ⟨K, KX, c⟩ := Y
    have hmg : mg ("law" : PySem.Str) = some (.ref fa) := by
      have e : (HandSHeadRun.topDef (OpenLaw.row PySem.Challenge.rw_rimcords_k69_row_notes).prog 34).name = ("law" : PySem.Str) := by kernel_rfl
      rw [← e]
      exact hmg0
    obtain ⟨fd, hb, hF⟩ := K69.law_all (P := (PySem.Challenge.rw_rimcords_k69_row_notes).prog) (w := w) KX G hmg c
    exact ⟨K, fd, T.spM K [] K69.m_law .sh, KX, hb, fun H a ns hl _ hS => T.law_sp hS (K69.law_true ns), fun base _ _ => T.fn_cxA (hF base)⟩

