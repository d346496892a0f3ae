import PyProof.Rows.All
import Wide.All
import OpenK.AllK
import Wide.FinOn
import HandS.Evl
import HandS.ForExc
import HandS.Strs
import HandS.Wide
import HandS.WideBits
import HandS.IsInst
import HandS.TupAny
import HandS.SortInts
import HandS.Conv
import HandS.CallSlots
import HandS.Defaults
import HandS.Property
import HandS.Comp
import HandS.Head0
import HandS.Head1
import HandS.Head2
import HandS.HeadEnd
import HandS.HeadHook1
import HandS.HeadHook2
import HandS.EndBits
import HandS.Text
import HandS.Codes
import HandS.List
import HandS.Style
import HandS.Deep
import HandS.Dict
import PyProof.ListRange
import HandS.ClsMeth
import HandS.Zip
import HandS.TryOnly
import KE.GoesEnum
import HandS.ExcInit
import HandS.FStr
import HandS.Nested
import HandS.ExcSuper
import KE.KExcSuper
import KE.KSuper
import HandS.ExcField
import HandS.ExcIs
import HandS.HotCalls
import KE.KExcIs
import PyProof.LongRange
import PyProof.Rows.StrRev
import PyProof.Rows.MatchSeqLen
import HandS.RaiseMore
import KE.SortData
import KE.SortLaws
import HandS.GenOver
import PyProof.GenQ
import HandS.GenList
import PySem.Challenge.RW_slantwalk_k12_first_directions
set_option Elab.async false
set_option linter.all false
set_option maxRecDepth 100000
set_option maxHeartbeats 4000000
/-! The data layer, 1: pure data, what stands for it in the abstract heap, ownership. -/
namespace Sw
open PySem L2

/-- pure data -/
inductive Dat where
  | non | bl (b : Bool) | int (i : Int) | str (x : Str) | ty (n : String)
  | tup (xs : List Dat) | lst (xs : List Dat) | obj (k : Nat) (xs : List Dat) | set (xs : List Int) | scr (xs : List Int)
  | cls (k : Nat) | ext (n : Nat) (xs : List Dat)
/-- a class: its address, its attributes in their order -/
structure Cl where
  C : Addr
  fs : List Str
/-- the classes; the world (a set's order leans on it); what stands for other kinds of objects -/
structure Tb where
  cl : Nat → Cl
  w : World
  φ : Nat → Addr → List V → HO
instance : CoeFun Tb fun _ => Nat → Cl := ⟨Tb.cl⟩
def setH (w : World) (a : Addr) (xs : List Int) : HO := SetO w a (fun i => decide (i ∈ xs)) xs.length

mutual
/-- v stands for d in the still part S of the heap -/
inductive Is (T : Tb) (K : PySem.W.Frag) (S : Hp) : V → Dat → Prop
  | non : Is T K S .non .non
  | bl {b} : Is T K S (.bl b) (.bl b)
  | int {i} : Is T K S (.int i) (.int i)
  | str {x} : Is T K S (.str x) (.str x)
  | ty {n} : Is T K S (.ty n) (.ty n)
  | tup {a vs ds} : SqT K S a vs → IsL T K S vs ds → Is T K S (.ref a) (.tup ds)
  | lst {a vs ds} : S a = some (.lst vs) → IsL T K S vs ds → Is T K S (.ref a) (.lst ds)
  | scr {a ns} : SqL K S a (ns.map V.int) → Is T K S (.ref a) (.scr ns)
  | obj {a dx k vs ds} : S a = some (.ins (T k).C dx ((T k).fs.zip vs)) → vs.length ≤ (T k).fs.length → IsL T K S vs ds → Is T K S (.ref a) (.obj k ds)
  | set {a xs} : S a = some (setH T.w a xs) → xs.Nodup → Is T K S (.ref a) (.set xs)
  | cls {k} : Is T K S (.ref (T k).C) (.cls k)
  | ext {a n vs ds} : S a = some (T.φ n a vs) → IsL T K S vs ds → Is T K S (.ref a) (.ext n ds)
inductive IsL (T : Tb) (K : PySem.W.Frag) (S : Hp) : List V → List Dat → Prop
  | nil : IsL T K S [] []
  | cons {v d vs ds} : Is T K S v d → IsL T K S vs ds → IsL T K S (v :: vs) (d :: ds)
end

/-- all that S knows H' knows -/
def Ex (S H : Hp) : Prop := ∀ a o, S a = some o → H a = some o
theorem Ex.rfl {S : Hp} : Ex S S := fun _ _ h => h
theorem Ex.trans {A B C : Hp} (h : Ex A B) (k : Ex B C) : Ex A C := fun a o e => k a o (h a o e)
theorem Ex.rd {S H : Hp} {a : Addr} {u : HO} (e : Ex S H) (h : Rd S a u) : Rd H a u :=
  h.elim (fun h => .inl (e a _ h)) fun ⟨o, h⟩ => .inr ⟨o, e a _ h⟩
theorem Ex.sl {K : PySem.W.Frag} {S H : Hp} {a : Addr} {xs : List V} (e : Ex S H) (h : SqL K S a xs) : SqL K H a xs :=
  h.elim (fun h => .inl (e.rd h)) .inr
theorem Ex.stp {K : PySem.W.Frag} {S H : Hp} {a : Addr} {xs : List V} (e : Ex S H) (h : SqT K S a xs) : SqT K H a xs :=
  h.elim (fun h => .inl (e.rd h)) .inr
theorem Ex.none {S H : Hp} {a : Addr} (e : Ex S H) (h : H a = none) : S a = none := by
  cases q : S a with
  | none => rfl
  | some o => rw [e a o q] at h; cases h

section
variable {T : Tb} {K : PySem.W.Frag} {S S' H H' : Hp}
mutual
theorem Is.mono (e : Ex S S') : ∀ {v d}, Is T K S v d → Is T K S' v d
  | _, _, .non => .non
  | _, _, .bl => .bl
  | _, _, .int => .int
  | _, _, .str => .str
  | _, _, .ty => .ty
  | _, _, .tup h l => .tup (e.stp h) (IsL.mono e l)
  | _, _, .lst h l => .lst (e _ _ h) (IsL.mono e l)
  | _, _, .scr h => .scr (e.sl h)
  | _, _, .obj h n l => .obj (e _ _ h) n (IsL.mono e l)
  | _, _, .set h n => .set (e _ _ h) n
  | _, _, .cls => .cls
  | _, _, .ext h l => .ext (e _ _ h) (IsL.mono e l)
theorem IsL.mono (e : Ex S S') : ∀ {vs ds}, IsL T K S vs ds → IsL T K S' vs ds
  | _, _, .nil => .nil
  | _, _, .cons h l => .cons (Is.mono e h) (IsL.mono e l)
end
theorem IsL.len : ∀ {vs ds}, IsL T K S vs ds → vs.length = ds.length
  | _, _, .nil => rfl
  | _, _, .cons _ l => by rw [List.length_cons, List.length_cons, l.len]
theorem IsL.app : ∀ {vs ds vs' ds'}, IsL T K S vs ds → IsL T K S vs' ds' → IsL T K S (vs ++ vs') (ds ++ ds')
  | _, _, _, _, .nil, k => k
  | _, _, _, _, .cons h l, k => .cons h (l.app k)
theorem IsL.get : ∀ {vs ds} {i : Nat} {d : Dat}, IsL T K S vs ds → ds[i]? = some d → ∃ v, vs[i]? = some v ∧ Is T K S v d
  | _, _, _, _, .nil, e => by simp at e
  | _, _, 0, _, .cons h _, e => by
    have e' : _ = _ := Option.some.inj (by simpa using e)
    exact ⟨_, rfl, e' ▸ h⟩
  | _, _, i + 1, d, .cons _ l, e => l.get (i := i) (d := d) (by simpa using e)
theorem IsL.get' : ∀ {vs ds} {i : Nat} {v : V}, IsL T K S vs ds → vs[i]? = some v → ∃ d, ds[i]? = some d ∧ Is T K S v d
  | _, _, _, _, .nil, e => by simp at e
  | _, _, 0, _, .cons h _, e => by
    have e' : _ = _ := Option.some.inj (by simpa using e)
    exact ⟨_, rfl, e' ▸ h⟩
  | _, _, i + 1, v, .cons _ l, e => l.get' (i := i) (v := v) (by simpa using e)
theorem IsL.set : ∀ {vs ds} {i : Nat} {v : V} {d : Dat}, IsL T K S vs ds → Is T K S v d → IsL T K S (vs.set i v) (ds.set i d)
  | _, _, _, _, _, .nil, _ => .nil
  | _, _, 0, _, _, .cons _ l, h => .cons h l
  | _, _, _ + 1, _, _, .cons g l, h => .cons g (l.set h)
theorem IsL.take : ∀ {vs ds} (n : Nat), IsL T K S vs ds → IsL T K S (vs.take n) (ds.take n)
  | _, _, 0, _ => .nil
  | _, _, _ + 1, .nil => .nil
  | _, _, n + 1, .cons g l => .cons g (l.take n)
theorem IsL.drop : ∀ {vs ds} (n : Nat), IsL T K S vs ds → IsL T K S (vs.drop n) (ds.drop n)
  | _, _, 0, l => l
  | _, _, _ + 1, .nil => .nil
  | _, _, n + 1, .cons _ l => l.drop n

mutual
/-- v stands for d; the addresses f are its own: objects of H that S does not know. The number: how many levels of lists are its own -/
inductive Own (T : Tb) (K : PySem.W.Frag) (S H : Hp) : Nat → V → Dat → List Addr → Prop
  | s {v d} : Is T K S v d → Own T K S H 0 v d []
  | l {k p vs ds f} : H p = some (.lst vs) → S p = none → OwnL T K S H k vs ds f → Own T K S H (k + 1) (.ref p) (.lst ds) (p :: f)
  | set {p xs} : H p = some (setH T.w p xs) → S p = none → xs.Nodup → Own T K S H 1 (.ref p) (.set xs) [p]
  | ext {k p n vs ds f} : H p = some (T.φ n p vs) → S p = none → OwnL T K S H k vs ds f → Own T K S H (k + 1) (.ref p) (.ext n ds) (p :: f)
  | obj {k p c dx vs ds f} : H p = some (.ins (T c).C dx ((T c).fs.zip vs)) → S p = none → vs.length ≤ (T c).fs.length → OwnL T K S H k vs ds f → Own T K S H (k + 1) (.ref p) (.obj c ds) (p :: f)
inductive OwnL (T : Tb) (K : PySem.W.Frag) (S H : Hp) : Nat → List V → List Dat → List Addr → Prop
  | nil {k} : OwnL T K S H k [] [] []
  | cons {k v d vs ds f g} : Own T K S H k v d f → OwnL T K S H k vs ds g → OwnL T K S H k (v :: vs) (d :: ds) (f ++ g)
end
mutual
theorem Own.mono (e : Ex S S') : ∀ {k v d f}, Own T K S H k v d f → (∀ p ∈ f, S' p = none ∧ H' p = H p) → Own T K S' H' k v d f
  | _, _, _, _, .s h, _ => .s (h.mono e)
  | _, _, _, _, .l h n l, q => .l ((q _ (List.mem_cons_self ..)).2.trans h) (q _ (List.mem_cons_self ..)).1 (OwnL.mono e l fun p hp => q p (List.mem_cons_of_mem _ hp))
  | _, _, _, _, .set h n d, q => .set ((q _ (List.mem_cons_self ..)).2.trans h) (q _ (List.mem_cons_self ..)).1 d
  | _, _, _, _, .ext h n l, q => .ext ((q _ (List.mem_cons_self ..)).2.trans h) (q _ (List.mem_cons_self ..)).1 (OwnL.mono e l fun p hp => q p (List.mem_cons_of_mem _ hp))
  | _, _, _, _, .obj h n z l, q => .obj ((q _ (List.mem_cons_self ..)).2.trans h) (q _ (List.mem_cons_self ..)).1 z (OwnL.mono e l fun p hp => q p (List.mem_cons_of_mem _ hp))
theorem OwnL.mono (e : Ex S S') : ∀ {k vs ds f}, OwnL T K S H k vs ds f → (∀ p ∈ f, S' p = none ∧ H' p = H p) → OwnL T K S' H' k vs ds f
  | _, _, _, _, .nil, _ => .nil
  | _, _, _, _, .cons h l, q => .cons (Own.mono e h fun p hp => q p (List.mem_append_left _ hp)) (OwnL.mono e l fun p hp => q p (List.mem_append_right _ hp))
end
mutual
theorem Own.own : ∀ {k v d f}, Own T K S H k v d f → ∀ p ∈ f, S p = none ∧ ∃ o, H p = some o
  | _, _, _, _, .s _, _, hp => by cases hp
  | _, _, _, _, .l h n l, p, hp => by
    rcases List.mem_cons.mp hp with e | hp
    · rw [e]; exact ⟨n, _, h⟩
    · exact OwnL.own l p hp
  | _, _, _, _, .set h n _, p, hp => by
    rcases List.mem_cons.mp hp with e | hp
    · rw [e]; exact ⟨n, _, h⟩
    · cases hp
  | _, _, _, _, .ext h n l, p, hp => by
    rcases List.mem_cons.mp hp with e | hp
    · rw [e]; exact ⟨n, _, h⟩
    · exact OwnL.own l p hp
  | _, _, _, _, .obj h n _ l, p, hp => by
    rcases List.mem_cons.mp hp with e | hp
    · rw [e]; exact ⟨n, _, h⟩
    · exact OwnL.own l p hp
theorem OwnL.own : ∀ {k vs ds f}, OwnL T K S H k vs ds f → ∀ p ∈ f, S p = none ∧ ∃ o, H p = some o
  | _, _, _, _, .nil, _, hp => by cases hp
  | _, _, _, _, .cons h l, p, hp => (List.mem_append.mp hp).elim (Own.own h p) (OwnL.own l p)
end
mutual
/-- what is its own becomes still -/
theorem Own.frz (e : Ex S S') : ∀ {k v d f}, Own T K S H k v d f → (∀ p ∈ f, S' p = H p) → Is T K S' v d
  | _, _, _, _, .s h, _ => h.mono e
  | _, _, _, _, .l h _ l, q => .lst ((q _ (List.mem_cons_self ..)).trans h) (OwnL.frz e l fun p hp => q p (List.mem_cons_of_mem _ hp))
  | _, _, _, _, .set h _ d, q => .set ((q _ (List.mem_cons_self ..)).trans h) d
  | _, _, _, _, .ext h _ l, q => .ext ((q _ (List.mem_cons_self ..)).trans h) (OwnL.frz e l fun p hp => q p (List.mem_cons_of_mem _ hp))
  | _, _, _, _, .obj h _ z l, q => .obj ((q _ (List.mem_cons_self ..)).trans h) z (OwnL.frz e l fun p hp => q p (List.mem_cons_of_mem _ hp))
theorem OwnL.frz (e : Ex S S') : ∀ {k vs ds f}, OwnL T K S H k vs ds f → (∀ p ∈ f, S' p = H p) → IsL T K S' vs ds
  | _, _, _, _, .nil, _ => .nil
  | _, _, _, _, .cons h l, q => .cons (Own.frz e h fun p hp => q p (List.mem_append_left _ hp)) (OwnL.frz e l fun p hp => q p (List.mem_append_right _ hp))
end
theorem OwnL.len : ∀ {k vs ds f}, OwnL T K S H k vs ds f → vs.length = ds.length
  | _, _, _, _, .nil => rfl
  | _, _, _, _, .cons _ l => by rw [List.length_cons, List.length_cons, l.len]
theorem OwnL.of0 : ∀ {vs ds}, IsL T K S vs ds → OwnL T K S H 0 vs ds []
  | _, _, .nil => .nil
  | _, _, .cons h l => .cons (f := []) (g := []) (.s h) (OwnL.of0 l)
theorem OwnL.is0 : ∀ {vs ds f}, OwnL T K S H 0 vs ds f → IsL T K S vs ds ∧ f = []
  | _, _, _, .nil => ⟨.nil, rfl⟩
  | _, _, _, .cons (.s h) l => ⟨.cons h l.is0.1, l.is0.2⟩
theorem OwnL.app : ∀ {k vs ds f vs' ds' g}, OwnL T K S H k vs ds f → OwnL T K S H k vs' ds' g → OwnL T K S H k (vs ++ vs') (ds ++ ds') (f ++ g)
  | _, _, _, _, _, _, _, .nil, k => k
  | _, _, _, _, _, _, _, .cons h l, k => by
    rw [List.append_assoc]
    exact .cons h (l.app k)
end
end Sw

/-! The data layer, 2: what the names hold, by data; the state's word. -/
namespace Sw
open PySem L2

/-- what a name holds: v k d: data d, k levels of it its own; b d: data of the caller's -/
inductive Sl where
  | v (k : Nat) (d : Dat) | b (d : Dat)
abbrev DEnv := List (Option Sl)
def Sl.rd : Option Sl → Option Dat
  | some (.v 0 d) => some d
  | some (.v 1 d) => some d
  | some (.b d) => some d
  | _ => none
/-- an exception: its class, its attributes -/
structure Exn where
  k : Nat
  ds : List Dat
/-- T: the classes; X: the exceptions' classes; S0, H0: the still part and the heap at the entry; me: a parameter that is the callee's to change -/
structure Gm where
  T : Tb
  X : Nat → Cl
  K : PySem.W.Frag
  S0 : Hp
  H0 : Hp
  me : Option (Nat × V)

section
variable (Γ : Gm)
def Own' (S H : Hp) (k : Nat) (v : V) (d : Dat) (f : List Addr) : Prop := Own Γ.T Γ.K S H k v d f
def Is' (S : Hp) (v : V) (d : Dat) : Prop := Is Γ.T Γ.K S v d
/-- readable: still, or one level its own -/
def Rb (S H : Hp) (v : V) (d : Dat) : Prop := ∃ k f, k ≤ 1 ∧ Own Γ.T Γ.K S H k v d f
def Ent (S H : Hp) : Option V × Option Sl → List Addr → Prop
  | (_, none), f => f = []
  | (some v, some (.v k d)), f => Own Γ.T Γ.K S H k v d f
  | (some v, some (.b d)), f => f = [] ∧ ∃ k g, k ≤ 1 ∧ Own Γ.T Γ.K S H k v d g ∧ ∀ p ∈ g, ∃ o, Γ.H0 p = some o
  | (none, some _), _ => False
inductive Sep (S H : Hp) : List (Option V × Option Sl) → List (List Addr) → Prop
  | nil : Sep S H [] []
  | cons {e f L fs} : Ent Γ S H e f → Sep S H L fs → Sep S H (e :: L) (f :: fs)
structure Ok (S H : Hp) (L : List (Option V × Option Sl)) : Prop where
  ex0 : Ex Γ.S0 S
  ex : Ex S H
  fr : ∀ p o, Γ.S0 p = none → Γ.H0 p = some o → S p = none ∧ H p = some o
  sep : ∃ fs, Sep Γ S H L fs ∧ fs.flatten.Nodup ∧ ∀ p ∈ fs.flatten, Γ.H0 p = none
end
/-- a step of the heap: more is still, more is there; what S does not know is as it was -/
structure Stp (S H S' H' : Hp) : Prop where
  s : Ex S S'
  h : Ex S' H'
  k : ∀ p o, S p = none → H p = some o → S' p = none ∧ H' p = some o

section
variable {Γ : Gm} {S S' H H' : Hp} {L L' : List (Option V × Option Sl)}
theorem Stp.rfl (e : Ex S H) : Stp S H S H := ⟨Ex.rfl, e, fun _ _ a b => ⟨a, b⟩⟩
theorem Stp.trans {S2 H2 : Hp} (a : Stp S H S' H') (b : Stp S' H' S2 H2) : Stp S H S2 H2 :=
  ⟨a.s.trans b.s, b.h, fun p o x y => let ⟨u, w⟩ := a.k p o x y; b.k p o u w⟩
theorem Stp.new {p : Addr} {o : HO} (e : Ex S H) (n : H p = none) : Stp S H (upd S p o) (upd H p o) := by
  have nS := e.none n
  refine ⟨fun a u h => ?_, fun a u h => ?_, fun a u h k => ?_⟩
  · rw [upd_ne (ne_of_none h nS)]; exact h
  · by_cases q : a = p
    · rw [q, upd_same] at h ⊢; exact h
    · rw [upd_ne q] at h ⊢; exact e a u h
  · have q := ne_of_none k n
    rw [upd_ne q, upd_ne q]; exact ⟨h, k⟩
theorem Stp.newOwn {p : Addr} {o : HO} (e : Ex S H) (n : H p = none) : Stp S H S (upd H p o) := by
  refine ⟨Ex.rfl, fun a u h => ?_, fun a u h k => ?_⟩
  · have q := ne_of_none (e a u h) n
    rw [upd_ne q]; exact e a u h
  · have q := ne_of_none k n
    rw [upd_ne q]; exact ⟨h, k⟩
theorem Stp.all (a : Stp S H S' H') (e : Ex S H) : Ex H H' := fun p o h => by
  cases q : S p with
  | some u =>
    have z := e p u q
    rw [h] at z
    rw [Option.some.inj z]
    exact a.h p u (a.s p u q)
  | none => exact (a.k p o q h).2

theorem Sep.perm (h : L.Perm L') : ∀ {fs}, Sep Γ S H L fs → ∃ fs', Sep Γ S H L' fs' ∧ fs.flatten.Perm fs'.flatten := by
  induction h with
  | nil => intro fs s; exact ⟨fs, s, .refl _⟩
  | cons e _ ih =>
    intro fs s
    cases s with
    | cons he hl =>
      obtain ⟨g, h1, h2⟩ := ih hl
      exact ⟨_ :: g, .cons he h1, by rw [List.flatten_cons, List.flatten_cons]; exact h2.append_left _⟩
  | swap a b l =>
    intro fs s
    cases s with
    | cons ha hl =>
      cases hl with
      | cons hb hl =>
        refine ⟨_, .cons hb (.cons ha hl), ?_⟩
        simp only [List.flatten_cons]
        rw [← List.append_assoc, ← List.append_assoc]
        exact (List.perm_append_comm).append_right _
  | trans _ _ i1 i2 =>
    intro fs s
    obtain ⟨g, h1, h2⟩ := i1 s
    obtain ⟨g', h3, h4⟩ := i2 h1
    exact ⟨g', h3, h2.trans h4⟩
theorem Ok.perm (o : Ok Γ S H L) (h : L.Perm L') : Ok Γ S H L' := by
  obtain ⟨fs, s, n, z⟩ := o.sep
  obtain ⟨fs', s', p⟩ := s.perm h
  exact ⟨o.ex0, o.ex, o.fr, fs', s', p.nodup_iff.mp n, fun q hq => z q (p.mem_iff.mpr hq)⟩
theorem Sep.sub (h : L'.Sublist L) : ∀ {fs}, Sep Γ S H L fs → ∃ fs', Sep Γ S H L' fs' ∧ fs'.flatten.Sublist fs.flatten := by
  induction h with
  | slnil => intro fs s; exact ⟨fs, s, .refl _⟩
  | cons e _ ih =>
    intro fs s
    cases s with
    | cons he hl =>
      obtain ⟨g, h1, h2⟩ := ih hl
      exact ⟨g, h1, by rw [List.flatten_cons]; exact h2.trans (List.sublist_append_right _ _)⟩
  | cons_cons e _ ih =>
    intro fs s
    cases s with
    | cons he hl =>
      obtain ⟨g, h1, h2⟩ := ih hl
      exact ⟨_ :: g, .cons he h1, by rw [List.flatten_cons, List.flatten_cons]; exact (List.Sublist.refl _).append h2⟩
theorem Ok.sub (o : Ok Γ S H L) (h : L'.Sublist L) : Ok Γ S H L' := by
  obtain ⟨fs, s, n, z⟩ := o.sep
  obtain ⟨fs', s', p⟩ := s.sub h
  exact ⟨o.ex0, o.ex, o.fr, fs', s', n.sublist p, fun q hq => z q (p.subset hq)⟩
theorem Ent.mono {e : Option V × Option Sl} {f : List Addr} (a : Ent Γ S H e f) (x : Ex S S') (k : ∀ p ∈ f, S' p = none ∧ H' p = H p) (kb : ∀ p o, Γ.H0 p = some o → S p = none → S' p = none ∧ H' p = H p) : Ent Γ S' H' e f := by
  obtain ⟨ov, os⟩ := e
  cases os with
  | none => exact a
  | some sl =>
    cases ov with
    | none => cases sl <;> exact (show False from a).elim
    | some v =>
      cases sl with
      | v n d => exact Own.mono x a k
      | b d =>
        obtain ⟨e, n, g, h1, h2, h3⟩ := a
        refine ⟨e, n, g, h1, Own.mono x h2 fun p hp => ?_, h3⟩
        obtain ⟨o, ho⟩ := h3 p hp
        exact kb p o ho (h2.own p hp).1
theorem Sep.mono (x : Ex S S') (kb : ∀ p o, Γ.H0 p = some o → S p = none → S' p = none ∧ H' p = H p) : ∀ {L fs}, Sep Γ S H L fs → (∀ p ∈ fs.flatten, S' p = none ∧ H' p = H p) → Sep Γ S' H' L fs
  | _, _, .nil, _ => .nil
  | _, _, .cons he hl, k => .cons (he.mono x (fun p hp => k p (by rw [List.flatten_cons]; exact List.mem_append_left _ hp)) kb) (Sep.mono x kb hl fun p hp => k p (by rw [List.flatten_cons]; exact List.mem_append_right _ hp))
theorem Sep.own : ∀ {L fs}, Sep Γ S H L fs → ∀ p ∈ fs.flatten, S p = none ∧ ∃ o, H p = some o
  | _, _, .nil, _, hp => by simp at hp
  | _, _, .cons (e := e) he hl, p, hp => by
    rw [List.flatten_cons] at hp
    rcases List.mem_append.mp hp with hp | hp
    · obtain ⟨ov, os⟩ := e
      cases os with
      | none =>
        have z : _ = [] := he
        rw [z] at hp; cases hp
      | some sl =>
        cases ov with
        | none => cases sl <;> exact (show False from he).elim
        | some v =>
          cases sl with
          | v n d => exact Own.own he p hp
          | b d =>
            obtain ⟨z, _⟩ := he
            rw [z] at hp; cases hp
    · exact Sep.own hl p hp
/-- what the entry knew is still there -/
theorem Ok.keeps (o : Ok Γ S H L) (x : Ex Γ.S0 Γ.H0) : Ex Γ.H0 H := fun p u h => by
  cases q : Γ.S0 p with
  | some w =>
    have z := x p w q
    rw [h] at z
    rw [Option.some.inj z]
    exact o.ex p w (o.ex0 p w q)
  | none => exact (o.fr p u q h).2
theorem Ok.step (o : Ok Γ S H L) (a : Stp S H S' H') : Ok Γ S' H' L := by
  obtain ⟨fs, s, n, z⟩ := o.sep
  refine ⟨o.ex0.trans a.s, a.h, fun p u h k => ?_, fs, ?_, n, z⟩
  · obtain ⟨h1, h2⟩ := o.fr p u h k
    exact a.k p u h1 h2
  · refine s.mono a.s (fun p u h k => ?_) fun p hp => ?_
    · have hH : ∃ w, H p = some w := by
        cases q : Γ.S0 p with
        | some w =>
          have z := o.ex0 p w q
          rw [k] at z; cases z
        | none => exact ⟨u, (o.fr p u q h).2⟩
      obtain ⟨w, hw⟩ := hH
      obtain ⟨h1, h2⟩ := a.k p w k hw
      exact ⟨h1, h2.trans hw.symm⟩
    · obtain ⟨h1, w, hw⟩ := s.own p hp
      obtain ⟨h2, h3⟩ := a.k p w h1 hw
      exact ⟨h2, h3.trans hw.symm⟩
/-- a step, and a new thing of one's own -/
theorem Ok.push {k : Nat} {v : V} {d : Dat} {f : List Addr} (o : Ok Γ S H L) (a : Stp S H S' H') (w : Own Γ.T Γ.K S' H' k v d f) (nd : f.Nodup) (nw : ∀ p ∈ f, H p = none) : Ok Γ S' H' ((some v, some (.v k d)) :: L) := by
  have o' := o.step a
  obtain ⟨fs, s, n, z⟩ := o.sep
  have s' := s.mono (S' := S') (H' := H') a.s (fun p u h k => by
    have hH : ∃ w, H p = some w := by
      cases q : Γ.S0 p with
      | some w =>
        have z := o.ex0 p w q
        rw [k] at z; cases z
      | none => exact ⟨u, (o.fr p u q h).2⟩
    obtain ⟨w, hw⟩ := hH
    obtain ⟨h1, h2⟩ := a.k p w k hw
    exact ⟨h1, h2.trans hw.symm⟩) fun p hp => by
      obtain ⟨h1, w, hw⟩ := s.own p hp
      obtain ⟨h2, h3⟩ := a.k p w h1 hw
      exact ⟨h2, h3.trans hw.symm⟩
  refine ⟨o'.ex0, o'.ex, o'.fr, f :: fs, .cons w s', ?_, fun p hp => ?_⟩
  · rw [List.flatten_cons]
    refine List.nodup_append.mpr ⟨nd, n, fun p hp q hq e => ?_⟩
    obtain ⟨_, u, hu⟩ := s.own q hq
    rw [← e, nw p hp] at hu; cases hu
  · rw [List.flatten_cons] at hp
    rcases List.mem_append.mp hp with hp | hp
    · cases q : Γ.H0 p with
      | none => rfl
      | some u =>
        have z := nw p hp
        cases q2 : Γ.S0 p with
        | some w2 =>
          have := o.ex p w2 (o.ex0 p w2 q2)
          rw [z] at this; cases this
        | none =>
          have := (o.fr p u q2 q).2
          rw [z] at this; cases this
    · exact z p hp
theorem Ok.pushS {v : V} {d : Dat} (o : Ok Γ S H L) (h : Is Γ.T Γ.K S v d) : Ok Γ S H ((some v, some (.v 0 d)) :: L) :=
  o.push (Stp.rfl o.ex) (.s h) List.nodup_nil (fun _ h => by cases h)
/-- what the first name holds becomes still -/
theorem Ok.frz {k : Nat} {v : V} {d : Dat} (o : Ok Γ S H ((some v, some (.v k d)) :: L)) : ∃ S', Ex S S' ∧ Ok Γ S' H ((some v, some (.v 0 d)) :: L) := by
  obtain ⟨fs, s, n, z⟩ := o.sep
  cases s with
  | cons he hl =>
    rename_i f fs
    have he : Own Γ.T Γ.K S H k v d f := he
    rw [List.flatten_cons] at n z
    obtain ⟨n1, n2, n3⟩ := List.nodup_append.mp n
    have ex : Ex S (fun a => if a ∈ f then H a else S a) := fun a u h => by
      by_cases q : a ∈ f
      · simp only [q, if_true]; exact o.ex a u h
      · simp only [q, if_false]; exact h
    refine ⟨fun a => if a ∈ f then H a else S a, ex, o.ex0.trans ex, fun a u h => ?_, fun p u h k => ?_, [] :: fs, .cons (.s (he.frz ex fun p hp => by simp [hp])) ?_, ?_, fun p hp => ?_⟩
    · by_cases q : a ∈ f
      · simp only [q, if_true] at h; exact h
      · simp only [q, if_false] at h; exact o.ex a u h
    · have q : p ∉ f := fun q => by
        have := z p (List.mem_append_left _ q)
        rw [k] at this; cases this
      simp only [q, if_false]
      exact o.fr p u h k
    · refine hl.mono ex (fun p u h k => ?_) fun p hp => ?_
      · have q : p ∉ f := fun q => by
          have := z p (List.mem_append_left _ q)
          rw [h] at this; cases this
        simp only [q, if_false]
        exact ⟨k, trivial⟩
      · have q : p ∉ f := fun q => n3 p q p hp rfl
        simp only [q, if_false]
        exact ⟨(hl.own p hp).1, trivial⟩
    · rw [List.flatten_cons]; exact n2
    · rw [List.flatten_cons] at hp
      exact z p (List.mem_append_right _ hp)
theorem Ok.own0 {k : Nat} {v : V} {d : Dat} (o : Ok Γ S H ((some v, some (.v k d)) :: L)) : ∃ f, Own Γ.T Γ.K S H k v d f := by
  obtain ⟨fs, s, _, _⟩ := o.sep
  cases s with
  | cons he _ => exact ⟨_, he⟩
theorem Ok.is0 {v : V} {d : Dat} (o : Ok Γ S H ((some v, some (.v 0 d)) :: L)) : Is Γ.T Γ.K S v d := by
  obtain ⟨f, h⟩ := o.own0
  cases h with
  | s h => exact h
theorem Ok.rb {v : V} {sl : Sl} {d : Dat} (o : Ok Γ S H L) (m : (some v, some sl) ∈ L) (h : Sl.rd (some sl) = some d) : Rb Γ S H v d := by
  obtain ⟨fs, s, n, z⟩ := o.sep
  clear o n z
  induction s with
  | nil => cases m
  | cons he hl ih =>
    rcases List.mem_cons.mp m with e | m
    · subst e
      cases sl with
      | v k d' =>
        have he : Own Γ.T Γ.K S H k v d' _ := he
        match k, h with
        | 0, h => cases h; exact ⟨0, _, Nat.zero_le _, he⟩
        | 1, h => cases h; exact ⟨1, _, Nat.le_refl _, he⟩
      | b d' =>
        cases h
        obtain ⟨_, k, g, h1, h2, _⟩ := he
        exact ⟨k, g, h1, h2⟩
    · exact ih m
/-- the first name's own list changes -/
theorem Ok.chg {p : Addr} {ds ds' : List Dat} {vs' : List V} (o : Ok Γ S H ((some (.ref p), some (.v 1 (.lst ds))) :: L)) (h : IsL Γ.T Γ.K S vs' ds') :
    Ok Γ S (upd H p (.lst vs')) ((some (.ref p), some (.v 1 (.lst ds'))) :: L) := by
  obtain ⟨fs, s, n, z⟩ := o.sep
  cases s with
  | cons he hl =>
    rename_i f fs
    have he : Own Γ.T Γ.K S H 1 (.ref p) (.lst ds) f := he
    cases he with
    | l h1 h2 h3 =>
      rename_i vs g
      obtain ⟨_, rfl⟩ := h3.is0
      rw [List.flatten_cons] at n z
      obtain ⟨n1, n2, n3⟩ := List.nodup_append.mp n
      have hz : Γ.H0 p = none := z p (List.mem_append_left _ (List.mem_cons_self ..))
      refine ⟨o.ex0, fun a u q => ?_, fun a u q k => ?_, [p] :: fs, .cons (.l upd_same h2 (.of0 h)) ?_, n, z⟩
      · have e : a ≠ p := ne_of_none q h2
        rw [upd_ne e]; exact o.ex a u q
      · have e : a ≠ p := fun e => by rw [e, hz] at k; cases k
        rw [upd_ne e]; exact o.fr a u q k
      · refine hl.mono Ex.rfl (fun a u q k => ?_) fun a hp => ?_
        · have e : a ≠ p := fun e => by rw [e, hz] at q; cases q
          rw [upd_ne e]; exact ⟨k, rfl⟩
        · have e : a ≠ p := fun e => n3 p (List.mem_cons_self ..) a hp e.symm
          rw [upd_ne e]; exact ⟨(hl.own a hp).1, rfl⟩
end
end Sw

/-! The data layer, 3: judgements; expressions over scalars, names, calls of rules. -/
namespace Sw
open PySem L2
theorem zip_at {α β : Type} {a : α} {b : β} : ∀ {s : List α} {r : List β} {i : Nat}, s[i]? = some a → r[i]? = some b →
    ∃ A B, s.zip r = A ++ (a, b) :: B ∧ (∀ b', s.zip (r.set i b') = A ++ (a, b') :: B) ∧ ∀ a' b', (s.set i a').zip (r.set i b') = A ++ (a', b') :: B
  | [], _, _, h, _ => by simp at h
  | _ :: _, [], _, _, h => by simp at h
  | x :: s, y :: r, 0, h1, h2 => by
    have e1 : x = a := by simpa using h1
    have e2 : y = b := by simpa using h2
    subst e1 e2
    exact ⟨[], s.zip r, rfl, fun _ => rfl, fun _ _ => rfl⟩
  | x :: s, y :: r, i + 1, h1, h2 => by
    obtain ⟨A, B, e1, e2, e3⟩ := zip_at (s := s) (r := r) (i := i) (by simpa using h1) (by simpa using h2)
    exact ⟨(x, y) :: A, B, by simp [e1], fun b' => by simp [e2], fun a' b' => by simp [e3]⟩

structure StOk (Γ : Gm) (S H : Hp) (σ : L2.St) (ρ : DEnv) (F : List (Option V × Option Sl)) : Prop where
  len : σ.length = ρ.length
  ok : Ok Γ S H (σ.zip ρ ++ F)
  me : ∀ i v, Γ.me = some (i, v) → σ[i]? = some (some v)
/-- a place: a name's, or a value on the way -/
inductive Pl where
  | s (i : Nat) | t (sl : Sl)
def Pl.at_ (σ : L2.St) (v : V) : Pl → Prop
  | .s i => σ[i]? = some (some v)
  | .t _ => True
def Pl.tmp (v : V) : Pl → List (Option V × Option Sl)
  | .s _ => []
  | .t sl => [(some v, some sl)]
def Pl.sl (ρ : DEnv) : Pl → Option Sl
  | .s i => (ρ[i]?).getD none
  | .t sl => some sl
def Pl.d (ρ : DEnv) (p : Pl) : Option Dat := Sl.rd (p.sl ρ)
/-- what the abstract heap tells of an exception -/
def ExAt (Γ : Gm) (S H : Hp) (cls : Value) (dd : Option Addr) (x : Exn) : Prop :=
  cls = .ref (Γ.X x.k).C ∧ ((dd = none ∧ x.ds = []) ∨ ∃ a vs, dd = some a ∧ S a = some (.xd ((Γ.X x.k).fs.zip vs)) ∧ vs.length = (Γ.X x.k).fs.length ∧ IsL Γ.T Γ.K S vs x.ds)
abbrev DEx := Exn → DEnv → Prop
def LW (Γ : Gm) (F : List (Option V × Option Sl)) (E : DEx) (W : WX) : Prop :=
  ∀ S H σ ρ x cls d, StOk Γ S H σ ρ F → ExAt Γ S H cls d x → E x ρ → W cls d σ H

section
variable {Γ : Gm} {S S' H H' : Hp} {σ : L2.St} {ρ : DEnv} {F F' : List (Option V × Option Sl)} {v : V} {d : Dat} {p : Pl} {E : DEx} {W : WX}
theorem StOk.sub (o : StOk Γ S H σ ρ F) (h : F'.Sublist F) : StOk Γ S H σ ρ F' := ⟨o.len, o.ok.sub ((List.Sublist.refl _).append h), o.me⟩
theorem StOk.drop {e : Option V × Option Sl} (o : StOk Γ S H σ ρ (e :: F)) : StOk Γ S H σ ρ F := o.sub (List.sublist_cons_self _ _)
theorem StOk.dropP (o : StOk Γ S H σ ρ (p.tmp v ++ F)) : StOk Γ S H σ ρ F := o.sub (List.sublist_append_right _ _)
theorem StOk.step (o : StOk Γ S H σ ρ F) (a : Stp S H S' H') : StOk Γ S' H' σ ρ F := ⟨o.len, o.ok.step a, o.me⟩
theorem StOk.push {k : Nat} {f : List Addr} (o : StOk Γ S H σ ρ F) (a : Stp S H S' H') (w : Own Γ.T Γ.K S' H' k v d f) (nd : f.Nodup) (nw : ∀ p ∈ f, H p = none) :
    StOk Γ S' H' σ ρ ((some v, some (.v k d)) :: F) :=
  ⟨o.len, (o.ok.push a w nd nw).perm List.perm_middle.symm, o.me⟩
theorem StOk.pushS (o : StOk Γ S H σ ρ F) (h : Is Γ.T Γ.K S v d) : StOk Γ S H σ ρ ((some v, some (.v 0 d)) :: F) :=
  o.push (Stp.rfl o.ok.ex) (.s h) List.nodup_nil fun _ h => by cases h
theorem LW.more (l : LW Γ F E W) (F' : List (Option V × Option Sl)) : LW Γ (F' ++ F) E W := fun S H σ ρ x cls d o => l S H σ ρ x cls d (o.sub (List.sublist_append_right _ _))
theorem LW.tmp (l : LW Γ F E W) : LW Γ (p.tmp v ++ F) E W := l.more _
theorem slot_at {i : Nat} {sl : Sl} (h : (ρ[i]?).getD none = some sl) : ρ[i]? = some (some sl) := by
  cases e : ρ[i]? with
  | none => rw [e] at h; cases h
  | some o => rw [e] at h; exact congrArg some h
/-- a place that is read -/
theorem StOk.rb (o : StOk Γ S H σ ρ F') (ha : p.at_ σ v) (hs : (p.tmp v).Sublist F') (h : p.d ρ = some d) : Rb Γ S H v d := by
  cases p with
  | s i =>
    have h : Sl.rd ((ρ[i]?).getD none) = some d := h
    cases e : (ρ[i]?).getD none with
    | none => rw [e] at h; cases h
    | some sl =>
      rw [e] at h
      have e' := slot_at e
      obtain ⟨A, B, e1, _⟩ := zip_at (show σ[i]? = some (some v) from ha) e'
      exact o.ok.rb (by rw [e1]; simp) h
  | t sl => exact o.ok.rb (List.mem_append_right _ (hs.subset (List.mem_singleton.mpr rfl))) h
theorem StOk.frzT {k : Nat} (o : StOk Γ S H σ ρ ((some v, some (.v k d)) :: F)) : ∃ S', Ex S S' ∧ StOk Γ S' H σ ρ ((some v, some (.v 0 d)) :: F) ∧ Is Γ.T Γ.K S' v d := by
  have o1 := o.ok.perm (L' := (some v, some (.v k d)) :: (σ.zip ρ ++ F)) List.perm_middle
  obtain ⟨S', x, o2⟩ := o1.frz
  exact ⟨S', x, ⟨o.len, o2.perm List.perm_middle.symm, o.me⟩, o2.is0⟩
theorem StOk.frzS {k i : Nat} (o : StOk Γ S H σ ρ F) (hv : σ[i]? = some (some v)) (hd : ρ[i]? = some (some (.v k d))) :
    ∃ S', Ex S S' ∧ StOk Γ S' H σ (ρ.set i (some (.v 0 d))) F ∧ Is Γ.T Γ.K S' v d := by
  obtain ⟨A, B, e1, e2, _⟩ := zip_at hv hd
  have o1 := o.ok
  rw [e1, List.append_assoc, List.cons_append] at o1
  obtain ⟨S', x, o2⟩ := (o1.perm List.perm_middle).frz
  refine ⟨S', x, ⟨by rw [List.length_set]; exact o.len, ?_, o.me⟩, o2.is0⟩
  rw [e2, List.append_assoc, List.cons_append]
  exact o2.perm List.perm_middle.symm
theorem Rb.int {i : Int} (h : Rb Γ S H v (.int i)) : v = .int i := by
  obtain ⟨k, f, _, h⟩ := h; cases h with | s h => cases h; rfl
theorem Rb.bl {b : Bool} (h : Rb Γ S H v (.bl b)) : v = .bl b := by
  obtain ⟨k, f, _, h⟩ := h; cases h with | s h => cases h; rfl
theorem Rb.str {x : Str} (h : Rb Γ S H v (.str x)) : v = .str x := by
  obtain ⟨k, f, _, h⟩ := h; cases h with | s h => cases h; rfl
theorem Rb.non (h : Rb Γ S H v .non) : v = .non := by
  obtain ⟨k, f, _, h⟩ := h; cases h with | s h => cases h; rfl
theorem Rb.tup {ds : List Dat} (h : Rb Γ S H v (.tup ds)) : ∃ a vs, v = .ref a ∧ SqT Γ.K S a vs ∧ IsL Γ.T Γ.K S vs ds := by
  obtain ⟨k, f, _, h⟩ := h
  cases h with
  | s h => cases h with | tup h l => exact ⟨_, _, rfl, h, l⟩
theorem Rb.lst {ds : List Dat} (e : Ex S H) (h : Rb Γ S H v (.lst ds)) : ∃ a vs, v = .ref a ∧ H a = some (.lst vs) ∧ IsL Γ.T Γ.K S vs ds := by
  obtain ⟨k, f, hk, h⟩ := h
  cases k with
  | zero => cases h with | s h => cases h with | lst h l => exact ⟨_, _, rfl, e _ _ h, l⟩
  | succ k =>
    have hk0 : k = 0 := by omega
    subst hk0
    cases h with
    | l h _ l => exact ⟨_, _, rfl, h, l.is0.1⟩
theorem Rb.scr {ns : List Int} (e : Ex S H) (h : Rb Γ S H v (.scr ns)) : ∃ a, v = .ref a ∧ SqL Γ.K H a (ns.map V.int) := by
  obtain ⟨k, f, _, h⟩ := h
  cases h with
  | s h => cases h with | scr h => exact ⟨_, rfl, e.sl h⟩
theorem Rb.set {xs : List Int} (e : Ex S H) (h : Rb Γ S H v (.set xs)) : ∃ a, v = .ref a ∧ H a = some (setH Γ.T.w a xs) ∧ xs.Nodup := by
  obtain ⟨k, f, _, h⟩ := h
  cases h with
  | s h => cases h with | set h n => exact ⟨_, rfl, e _ _ h, n⟩
  | set h _ n => exact ⟨_, rfl, h, n⟩
theorem Rb.obj {c : Nat} {ds : List Dat} (e : Ex S H) (h : Rb Γ S H v (.obj c ds)) : ∃ a dx vs, v = .ref a ∧ H a = some (.ins (Γ.T c).C dx ((Γ.T c).fs.zip vs)) ∧ vs.length ≤ (Γ.T c).fs.length ∧ IsL Γ.T Γ.K S vs ds := by
  obtain ⟨k, f, hk, h⟩ := h
  cases k with
  | zero => cases h with | s h => cases h with | obj h n l => exact ⟨_, _, _, rfl, e _ _ h, n, l⟩
  | succ k =>
    have hk0 : k = 0 := by omega
    subst hk0
    cases h with
    | obj h _ n l => exact ⟨_, _, _, rfl, h, n, l.is0.1⟩
theorem Rb.of (h : Is Γ.T Γ.K S v d) : Rb Γ S H v d := ⟨0, [], Nat.zero_le _, .s h⟩
end

/-! ### the judgements -/
abbrev TPD := DEx → DEnv → (DEnv → Pl → Prop) → Prop
def RunP (Γ : Gm) (W : WX) (te : TE) (t : TPD) : Prop := ∀ S H σ ρ F E Q Qh, StOk Γ S H σ ρ F → LW Γ F E W → t E ρ Q →
    (∀ v S' H' ρ' p, p.at_ σ v → StOk Γ S' H' σ ρ' (p.tmp v ++ F) → Q ρ' p → Qh v H') → te σ H Qh
structure DP (Γ : Gm) (X : Cx) (W : WX) (e : Expr) (t : TPD) : Prop where
  run : ∃ te, PE X e te ∧ RunP Γ W te t
abbrev TTD := DEx → DEnv → (DEnv → Bool → Prop) → Prop
def RunT (Γ : Gm) (W : WX) (te : TT) (t : TTD) : Prop := ∀ S H σ ρ F E Q Qh, StOk Γ S H σ ρ F → LW Γ F E W → t E ρ Q →
    (∀ b S' H' ρ', StOk Γ S' H' σ ρ' F → Q ρ' b → Qh b H') → te σ H Qh
structure DT (Γ : Gm) (X : Cx) (W : WX) (e : Expr) (t : TTD) : Prop where
  run : ∃ te, PT X e te ∧ RunT Γ W te t
structure DWt (Γ : Gm) (X : Cx) (W : WX) (e : Expr) (t : TTD) : Prop where
  run : ∃ te, PW X e te ∧ RunT Γ W te t
theorem DWt.t {Γ : Gm} {X : Cx} {W : WX} {e : Expr} {t : TTD} (h : DWt Γ X W e t) : DT Γ X W e t := ⟨let ⟨te, p, q⟩ := h.run; ⟨te, p.pt, q⟩⟩
/-- the values of a list of arguments: the last one first -/
def tmps : List V → List Pl → List (Option V × Option Sl)
  | v :: vs, p :: ps => tmps vs ps ++ p.tmp v
  | _, _ => []
inductive Ats (σ : L2.St) : List V → List Pl → Prop
  | nil : Ats σ [] []
  | cons {v p vs ps} : p.at_ σ v → Ats σ vs ps → Ats σ (v :: vs) (p :: ps)
abbrev TAD := DEx → DEnv → (DEnv → List Pl → Prop) → Prop
def RunA (Γ : Gm) (W : WX) (te : TA) (t : TAD) : Prop := ∀ S H σ ρ F E Q Qh, StOk Γ S H σ ρ F → LW Γ F E W → t E ρ Q →
    (∀ vs S' H' ρ' ps, Ats σ vs ps → StOk Γ S' H' σ ρ' (tmps vs ps ++ F) → Q ρ' ps → Qh vs H') → te σ H Qh
structure DA (Γ : Gm) (X : Cx) (W : WX) (es : List Expr) (t : TAD) : Prop where
  run : ∃ te, PA X es te ∧ RunA Γ W te t
/-- what a rule of values hands on -/
def Post (Γ : Gm) (S H : Hp) (Q : Nat → Dat → Prop) (Qh : VK) : Prop :=
  ∀ S' H' k z dz f, Stp S H S' H' → Own Γ.T Γ.K S' H' k z dz f → f.Nodup → (∀ p ∈ f, H p = none) → Q k dz → Qh z H'
section
variable {Γ : Gm} {S H : Hp} {Q : Nat → Dat → Prop} {Qh : VK}
theorem Post.sc (p : Post Γ S H Q Qh) (e : Ex S H) {z : V} {dz : Dat} (h : Is Γ.T Γ.K S z dz) (q : Q 0 dz) : Qh z H :=
  p S H 0 z dz [] (Stp.rfl e) (.s h) List.nodup_nil (fun _ h => by cases h) q
/-- a new list of one's own -/
theorem Post.lst (p : Post Γ S H Q Qh) (e : Ex S H) {a : Addr} {vs : List V} {ds : List Dat} (n : H a = none) (h : IsL Γ.T Γ.K S vs ds) (q : Q 1 (.lst ds)) : Qh (.ref a) (upd H a (.lst vs)) :=
  p S _ 1 _ _ [a] (Stp.newOwn e n) (.l upd_same (e.none n) (.of0 h)) (by simp) (fun b hb => by rw [List.mem_singleton.mp hb]; exact n) q
/-- a new tuple -/
theorem Post.tup (p : Post Γ S H Q Qh) (e : Ex S H) {a : Addr} {vs : List V} {ds : List Dat} (n : H a = none) (h : IsL Γ.T Γ.K S vs ds) (q : Q 0 (.tup ds)) : Qh (.ref a) (upd H a (.tup vs)) :=
  p _ _ 0 _ _ [] (Stp.new e n) (.s (.tup (.of upd_same) (h.mono (Stp.new (o := .tup vs) e n).s))) List.nodup_nil (fun _ h => by cases h) q
end
end Sw

/-! The data layer, 4: expressions. -/
namespace Sw
open PySem L2
section
variable {Γ : Gm} {X : Cx} {W : WX} {e a b : Expr} {es : List Expr} {pos : Pos}
/-! ### names, constants, taking a value -/
def pName (i : Nat) : TPD := fun _ ρ Q => match ρ[i]? with
  | some (some _) => Q ρ (.s i)
  | _ => False
theorem sep_no {S H : Hp} {sl : Sl} {B : List (Option V × Option Sl)} : ∀ {A fs}, Sep Γ S H (A ++ (none, some sl) :: B) fs → False
  | [], _, .cons he _ => by cases sl <;> exact he
  | _ :: _, _, .cons _ hl => sep_no hl
theorem dp_name {i : Nat} (h : PE X e (tVar i)) : DP Γ X W e (pName i) := by
  refine ⟨_, h, fun S H σ ρ F E Q Qh o l q k => ?_⟩
  unfold pName at q
  cases r : ρ[i]? with
  | none => rw [r] at q; exact q.elim
  | some os =>
    rw [r] at q
    cases os with
    | none => exact q.elim
    | some sl =>
      have hi : i < σ.length := by
        have := (List.getElem?_eq_some_iff.mp r).1
        rw [o.len]; exact this
      cases hv : σ[i]? with
      | none => rw [List.getElem?_eq_none_iff] at hv; omega
      | some ov =>
        obtain ⟨A, B, e1, _⟩ := zip_at hv r
        cases ov with
        | none =>
          obtain ⟨fs, s, _⟩ := o.ok.sep
          rw [e1, List.append_assoc] at s
          exact (sep_no s).elim
        | some v => exact ⟨v, hv, k v S H ρ (.s i) hv o q⟩
def takeP (ρ : DEnv) (p : Pl) (Q : DEnv → Pl → Prop) : Prop := match p with
  | .t sl => Q ρ (.t sl)
  | .s i => match ρ[i]? with
    | some (some (.v 0 d)) => Q ρ (.t (.v 0 d))
    | some (some (.v (_ + 1) d)) => Q (ρ.set i (some (.v 0 d))) (.t (.v 0 d))
    | _ => False
/-- still: nothing of it may change any more -/
def stillP (ρ : DEnv) (p : Pl) (Q : DEnv → Pl → Prop) : Prop := match p with
  | .t (.v _ d) => Q ρ (.t (.v 0 d))
  | .t (.b _) => False
  | .s i => match ρ[i]? with
    | some (some (.v 0 d)) => Q ρ (.t (.v 0 d))
    | some (some (.v (_ + 1) d)) => Q (ρ.set i (some (.v 0 d))) (.t (.v 0 d))
    | _ => False
theorem take_ok {S H : Hp} {σ : L2.St} {ρ : DEnv} {F} {v : V} {p : Pl} {Q : DEnv → Pl → Prop} (o : StOk Γ S H σ ρ (p.tmp v ++ F)) (ha : p.at_ σ v) (q : takeP ρ p Q) :
    ∃ S' ρ' sl, StOk Γ S' H σ ρ' ((some v, some sl) :: F) ∧ Q ρ' (.t sl) := by
  cases p with
  | t sl => exact ⟨S, ρ, sl, o, q⟩
  | s i =>
    have ha : σ[i]? = some (some v) := ha
    have o : StOk Γ S H σ ρ F := o
    unfold takeP at q
    cases r : ρ[i]? with
    | none => simp only [r] at q
    | some os =>
      cases os with
      | none => simp only [r] at q
      | some sl =>
        cases sl with
        | b d => simp only [r] at q
        | v k d =>
          cases k with
          | zero =>
            simp only [r] at q
            obtain ⟨S', x, o', h⟩ := o.frzS ha r
            have e : ρ.set i (some (.v 0 d)) = ρ := by
              have hi := (List.getElem?_eq_some_iff.mp r).1
              rw [← (List.getElem?_eq_some_iff.mp r).2]
              exact List.set_getElem_self hi
            rw [e] at o'
            exact ⟨S', ρ, _, o'.pushS h, q⟩
          | succ k =>
            simp only [r] at q
            obtain ⟨S', x, o', h⟩ := o.frzS ha r
            exact ⟨S', _, _, o'.pushS h, q⟩
theorem still_ok {S H : Hp} {σ : L2.St} {ρ : DEnv} {F} {v : V} {p : Pl} {Q : DEnv → Pl → Prop} (o : StOk Γ S H σ ρ (p.tmp v ++ F)) (ha : p.at_ σ v) (q : stillP ρ p Q) :
    ∃ S' ρ' d, StOk Γ S' H σ ρ' ((some v, some (.v 0 d)) :: F) ∧ Q ρ' (.t (.v 0 d)) := by
  cases p with
  | t sl =>
    cases sl with
    | b d => exact q.elim
    | v k d =>
      obtain ⟨S', x, o', h⟩ := StOk.frzT (F := F) o
      exact ⟨S', ρ, d, o', q⟩
  | s i =>
    have h1 : takeP ρ (.s i) fun ρ' p => ∃ d, p = .t (.v 0 d) ∧ Q ρ' p := by
      unfold takeP
      unfold stillP at q
      cases r : ρ[i]? with
      | none => simp only [r] at q
      | some os =>
        cases os with
        | none => simp only [r] at q
        | some sl =>
          cases sl with
          | b d => simp only [r] at q
          | v k d =>
            cases k with
            | zero => simp only [r] at q ⊢; exact ⟨d, _root_.rfl, q⟩
            | succ k => simp only [r] at q ⊢; exact ⟨d, _root_.rfl, q⟩
    obtain ⟨S', ρ', sl, o', d, e, q'⟩ := take_ok o ha h1
    cases e
    exact ⟨S', ρ', d, o', q'⟩
def pTake (t : TPD) : TPD := fun E ρ Q => t E ρ fun ρ1 p => takeP ρ1 p Q
def pStill (t : TPD) : TPD := fun E ρ Q => t E ρ fun ρ1 p => stillP ρ1 p Q
def pC (d : Dat) : TPD := fun _ ρ Q => Q ρ (.t (.v 0 d))
theorem dp_of_c {v : V} {d : Dat} (h : PE X e (tC v)) (r : ∀ S, Is Γ.T Γ.K S v d) : DP Γ X W e (pC d) :=
  ⟨_, h, fun S H σ ρ F E Q Qh o l q k => k v S H ρ (.t (.v 0 d)) trivial (o.pushS (r S)) q⟩
theorem dp_int {i j p} : DP Γ X W (.Constant (.int i) j p) (pC (.int i)) := dp_of_c pe_int fun _ => .int
theorem dp_bl {i j p} : DP Γ X W (.Constant (.bool i) j p) (pC (.bl i)) := dp_of_c pe_bl fun _ => .bl
theorem dp_non {j p} : DP Γ X W (.Constant .none j p) (pC .non) := dp_of_c pe_non fun _ => .non
theorem dp_str {i j p} : DP Γ X W (.Constant (.str i) j p) (pC (.str i)) := dp_of_c pe_str fun _ => .str

/-! ### two operands -/
abbrev OD := Dat → Dat → (Nat → Dat → Prop) → Prop
def ap2 (od : OD) : Option Dat → Option Dat → (Nat → Dat → Prop) → Prop
  | some x, some y, R => od x y R
  | _, _, _ => False
def pOp (od : OD) (ta tb : TPD) : TPD := fun E ρ Q => ta E ρ fun ρ1 p => tb E ρ1 fun ρ2 q => ap2 od (p.d ρ2) (q.d ρ2) fun k d => Q ρ2 (.t (.v k d))
def Br (Γ : Gm) (r : R2) (od : OD) : Prop := ∀ S H x y dx dy Q Qh, Ex S H → Rb Γ S H x dx → Rb Γ S H y dy → od dx dy Q → Post Γ S H Q Qh → r x y H Qh
theorem run_op {r : R2} {od : OD} {ta tb : TPD} {ta' tb' : TE} (br : Br Γ r od) (ha : RunP Γ W ta' ta) (hb : RunP Γ W tb' tb) : RunP Γ W (tOp r ta' tb') (pOp od ta tb) := by
  intro S H σ ρ F E Q Qh o l q k
  refine ha S H σ ρ F E _ _ o l q fun x S1 H1 ρ1 p hp o1 q1 => ?_
  refine hb S1 H1 σ ρ1 (p.tmp x ++ F) E _ _ o1 l.tmp q1 fun y S2 H2 ρ2 p2 hp2 o2 q2 => ?_
  cases e1 : p.d ρ2 with
  | none => rw [e1] at q2; exact q2.elim
  | some dx =>
    cases e2 : p2.d ρ2 with
    | none => rw [e1, e2] at q2; exact q2.elim
    | some dy =>
      rw [e1, e2] at q2
      have r1 := o2.rb hp ((List.sublist_append_left _ _).trans (List.sublist_append_right _ _)) e1
      have r2 := o2.rb hp2 (List.sublist_append_left _ _) e2
      refine br S2 H2 x y dx dy _ _ o2.ok.ex r1 r2 q2 fun S' H' n z dz f st ow nd nw qq => ?_
      refine k z S' H' ρ2 (.t (.v n dz)) trivial ?_ qq
      exact (o2.sub (List.sublist_append_right _ _)).dropP.push st ow nd nw
theorem dp_op {op : Operator} {r : R2} {od : OD} {ta tb : TPD} (ho : OpR X (binaryOp op) r) (br : Br Γ r od) (ha : DP Γ X W a ta) (hb : DP Γ X W b tb) : DP Γ X W (.BinOp a op b pos) (pOp od ta tb) :=
  let ⟨_, p1, q1⟩ := ha.run; let ⟨_, p2, q2⟩ := hb.run; ⟨_, pe_op ho p1 p2, run_op br q1 q2⟩
theorem dp_cmp {op : CmpOp} {r : R2} {od : OD} {ta tb : TPD} (ho : OpR X (compareOp op) r) (br : Br Γ r od) (ha : DP Γ X W a ta) (hb : DP Γ X W b tb) (hm : behindInMarks op b = false) : DP Γ X W (.Compare a [op] [b] pos) (pOp od ta tb) :=
  let ⟨_, p1, q1⟩ := ha.run; let ⟨_, p2, q2⟩ := hb.run; ⟨_, pe_cmpR ho p1 p2 hm, run_op br q1 q2⟩
theorem dp_ix {r : R2} {od : OD} {ta tb : TPD} (ho : IxR X r) (br : Br Γ r od) (ha : DP Γ X W a ta) (hb : DP Γ X W b tb) (hs : PlainIx b) : DP Γ X W (.Subscript a b pos) (pOp od ta tb) :=
  let ⟨_, p1, q1⟩ := ha.run; let ⟨_, p2, q2⟩ := hb.run; ⟨_, pe_ix ho p1 p2 hs, run_op br q1 q2⟩
/-- a value as a test -/
def tdVal (t : TPD) : TTD := fun E ρ Q => t E ρ fun ρ1 p => match p.d ρ1 with
  | some (.bl b) => Q ρ1 b
  | _ => False
theorem run_val {t : TPD} {t' : TE} (h : RunP Γ W t' t) : RunT Γ W (tB t') (tdVal t) := by
  intro S H σ ρ F E Q Qh o l q k
  refine h S H σ ρ F E _ _ o l q fun x S1 H1 ρ1 p hp o1 q1 => ?_
  split at q1
  · rename_i b eb
    have r1 := o1.rb hp (List.sublist_append_left _ _) eb
    exact ⟨b, r1.bl, k b S1 H1 ρ1 o1.dropP q1⟩
  · exact q1.elim
theorem dt_val {t : TPD} (h : DP Γ X W e t) (he : ∀ whole, isTrue e X.env whole = (do let v ← whole; standAt e.pos; holding [v] (truthy v)) := by intro _; rfl) : DT Γ X W e (tdVal t) :=
  let ⟨_, p, q⟩ := h.run; ⟨_, pt_val p he, run_val q⟩
theorem dt_cmp {op : CmpOp} {r : R2} {od : OD} {ta tb : TPD} (ho : OpR X (compareOp op) r) (br : Br Γ r od) (ha : DP Γ X W a ta) (hb : DP Γ X W b tb) (hm : behindInMarks op b = false) : DT Γ X W (.Compare a [op] [b] pos) (tdVal (pOp od ta tb)) :=
  let ⟨_, p1, q1⟩ := ha.run; let ⟨_, p2, q2⟩ := hb.run; ⟨_, pt_cmpR ho p1 p2 hm, run_val (run_op br q1 q2)⟩
def tdNot (t : TTD) : TTD := fun E ρ Q => t E ρ fun ρ1 b => Q ρ1 (!b)
def tdAnd (t u : TTD) : TTD := fun E ρ Q => t E ρ fun ρ1 b => if b = true then u E ρ1 Q else Q ρ1 false
def tdOr (t u : TTD) : TTD := fun E ρ Q => t E ρ fun ρ1 b => if b = true then Q ρ1 true else u E ρ1 Q
variable {t u : TTD} {rest : List Expr}
theorem dt_not (h : DT Γ X W e t) : DT Γ X W (.UnaryOp .Not e pos) (tdNot t) :=
  let ⟨_, p, q⟩ := h.run
  ⟨_, pt_not p, fun S H σ ρ F E Q Qh o l x k => q S H σ ρ F E _ _ o l x fun b S' H' ρ' o' x' => k (!b) S' H' ρ' o' x'⟩
theorem dw_and1 (h : DT Γ X W a t) : DWt Γ X W (.BoolOp .And [a] pos) t := let ⟨_, p, q⟩ := h.run; ⟨_, pw_and1 p, q⟩
theorem dw_or1 (h : DT Γ X W a t) : DWt Γ X W (.BoolOp .Or [a] pos) t := let ⟨_, p, q⟩ := h.run; ⟨_, pw_or1 p, q⟩
theorem dw_and (h : DT Γ X W a t) (h2 : DWt Γ X W (.BoolOp .And (b :: rest) pos) u) : DWt Γ X W (.BoolOp .And (a :: b :: rest) pos) (tdAnd t u) :=
  let ⟨_, p, q⟩ := h.run; let ⟨_, p2, q2⟩ := h2.run
  ⟨_, pw_and p p2, fun S H σ ρ F E Q Qh o l x k => q S H σ ρ F E _ _ o l x fun c S' H' ρ' o' x' => by
    cases c with
    | true => exact q2 S' H' σ ρ' F E _ _ o' l x' k
    | false => exact k false S' H' ρ' o' x'⟩
theorem dw_or (h : DT Γ X W a t) (h2 : DWt Γ X W (.BoolOp .Or (b :: rest) pos) u) : DWt Γ X W (.BoolOp .Or (a :: b :: rest) pos) (tdOr t u) :=
  let ⟨_, p, q⟩ := h.run; let ⟨_, p2, q2⟩ := h2.run
  ⟨_, pw_or p p2, fun S H σ ρ F E Q Qh o l x k => q S H σ ρ F E _ _ o l x fun c S' H' ρ' o' x' => by
    cases c with
    | true => exact k true S' H' ρ' o' x'
    | false => exact q2 S' H' σ ρ' F E _ _ o' l x' k⟩
/-! ### and, or, not as values -/
def pB (t : TPD) : TPD := fun E ρ Q => t E ρ fun ρ1 p => match p.d ρ1 with
  | some (.bl b) => Q ρ1 (.t (.v 0 (.bl b)))
  | _ => False
def pAnd (t u : TPD) : TPD := fun E ρ Q => t E ρ fun ρ1 p => match p.d ρ1 with
  | some (.bl b) => if b = true then u E ρ1 Q else Q ρ1 (.t (.v 0 (.bl false)))
  | _ => False
def pOr (t u : TPD) : TPD := fun E ρ Q => t E ρ fun ρ1 p => match p.d ρ1 with
  | some (.bl b) => if b = true then Q ρ1 (.t (.v 0 (.bl true))) else u E ρ1 Q
  | _ => False
def pNot (t : TPD) : TPD := fun E ρ Q => t E ρ fun ρ1 p => match p.d ρ1 with
  | some (.bl b) => Q ρ1 (.t (.v 0 (.bl (!b))))
  | _ => False
variable {ta tb tc : TPD}
theorem dp_and1 {op} (h : DP Γ X W a ta) : DP Γ X W (.BoolOp op [a] pos) ta := let ⟨_, p, q⟩ := h.run; ⟨_, pe_one p, q⟩
theorem dp_and (h : DP Γ X W a ta) (h2 : DP Γ X W (.BoolOp .And (b :: rest) pos) tb) : DP Γ X W (.BoolOp .And (a :: b :: rest) pos) (pAnd ta tb) :=
  let ⟨_, p, q⟩ := h.run; let ⟨_, p2, q2⟩ := h2.run
  ⟨_, pe_and p p2, fun S H σ ρ F E Q Qh o l x k => q S H σ ρ F E _ _ o l x fun v S' H' ρ' pl hp o' x' => by
    split at x'
    · rename_i c ec
      have r1 := o'.rb hp (List.sublist_append_left _ _) ec
      refine ⟨c, r1.bl, ?_⟩
      cases c with
      | true => exact q2 S' H' σ ρ' F E _ _ o'.dropP l x' k
      | false => exact k _ S' H' ρ' (.t (.v 0 (.bl false))) trivial (o'.dropP.pushS .bl) x'
    · exact x'.elim⟩
theorem dp_or (h : DP Γ X W a ta) (h2 : DP Γ X W (.BoolOp .Or (b :: rest) pos) tb) : DP Γ X W (.BoolOp .Or (a :: b :: rest) pos) (pOr ta tb) :=
  let ⟨_, p, q⟩ := h.run; let ⟨_, p2, q2⟩ := h2.run
  ⟨_, pe_or p p2, fun S H σ ρ F E Q Qh o l x k => q S H σ ρ F E _ _ o l x fun v S' H' ρ' pl hp o' x' => by
    split at x'
    · rename_i c ec
      have r1 := o'.rb hp (List.sublist_append_left _ _) ec
      refine ⟨c, r1.bl, ?_⟩
      cases c with
      | true => exact k _ S' H' ρ' (.t (.v 0 (.bl true))) trivial (o'.dropP.pushS .bl) x'
      | false => exact q2 S' H' σ ρ' F E _ _ o'.dropP l x' k
    · exact x'.elim⟩
theorem dp_not (h : DP Γ X W e ta) : DP Γ X W (.UnaryOp .Not e pos) (pNot ta) :=
  let ⟨_, p, q⟩ := h.run
  ⟨_, pe_not p, fun S H σ ρ F E Q Qh o l x k => q S H σ ρ F E _ _ o l x fun v S' H' ρ' pl hp o' x' => by
    split at x'
    · rename_i c ec
      have r1 := o'.rb hp (List.sublist_append_left _ _) ec
      exact ⟨c, r1.bl, k _ S' H' ρ' (.t (.v 0 (.bl (!c)))) trivial (o'.dropP.pushS .bl) x'⟩
    · exact x'.elim⟩
def pIf (t : TTD) (ta tb : TPD) : TPD := fun E ρ Q => t E ρ fun ρ1 b => if b = true then ta E ρ1 Q else tb E ρ1 Q
theorem dp_if {c : Expr} (hc : DT Γ X W c t) (ha : DP Γ X W a ta) (hb : DP Γ X W b tb) : DP Γ X W (.IfExp c a b pos) (pIf t ta tb) :=
  let ⟨_, p, q⟩ := hc.run; let ⟨_, p1, q1⟩ := ha.run; let ⟨_, p2, q2⟩ := hb.run
  ⟨_, pe_ifExp p p1 p2, fun S H σ ρ F E Q Qh o l x k => q S H σ ρ F E _ _ o l x fun c S' H' ρ' o' x' => by
    cases c with
    | true => exact q1 S' H' σ ρ' F E _ _ o' l x' k
    | false => exact q2 S' H' σ ρ' F E _ _ o' l x' k⟩
/-! ### one operand -/
abbrev UD := Dat → (Nat → Dat → Prop) → Prop
def ap1 (ud : UD) : Option Dat → (Nat → Dat → Prop) → Prop
  | some x, R => ud x R
  | _, _ => False
def pUn (ud : UD) (ta : TPD) : TPD := fun E ρ Q => ta E ρ fun ρ1 p => ap1 ud (p.d ρ1) fun k d => Q ρ1 (.t (.v k d))
def BrU (Γ : Gm) (r : V → Hp → VK → Prop) (ud : UD) : Prop := ∀ S H x dx Q Qh, Ex S H → Rb Γ S H x dx → ud dx Q → Post Γ S H Q Qh → r x H Qh
theorem run_un {r : V → Hp → VK → Prop} {ud : UD} {ta' : TE} (br : BrU Γ r ud) (ha : RunP Γ W ta' ta) : RunP Γ W (tUn r ta') (pUn ud ta) := by
  intro S H σ ρ F E Q Qh o l q k
  refine ha S H σ ρ F E _ _ o l q fun x S1 H1 ρ1 p hp o1 q1 => ?_
  cases e1 : p.d ρ1 with
  | none => rw [e1] at q1; exact q1.elim
  | some dx =>
    rw [e1] at q1
    have r1 := o1.rb hp (List.sublist_append_left _ _) e1
    refine br S1 H1 x dx _ _ o1.ok.ex r1 q1 fun S' H' n z dz f st ow nd nw qq => ?_
    exact k z S' H' ρ1 (.t (.v n dz)) trivial (o1.dropP.push st ow nd nw) qq
theorem dp_un {op : UnaryOp} {r : V → Hp → VK → Prop} {ud : UD} (ho : UnR X (unaryOp op) r) (br : BrU Γ r ud) (ha : DP Γ X W a ta) : DP Γ X W (.UnaryOp op a pos) (pUn ud ta) :=
  let ⟨_, p1, q1⟩ := ha.run; ⟨_, pe_un ho p1, run_un br q1⟩
/-! ### arguments -/
def aNil : TAD := fun _ ρ Q => Q ρ []
def aCons (t : TPD) (u : TAD) : TAD := fun E ρ Q => t E ρ fun ρ1 p => u E ρ1 fun ρ2 ps => Q ρ2 (p :: ps)
theorem da_nil : DA Γ X W [] aNil := ⟨_, pa_nil, fun S H σ ρ F E Q Qh o l q k => k [] S H ρ [] .nil o q⟩
theorem da_cons {u : TAD} (h : DP Γ X W e ta) (h2 : DA Γ X W es u) (hs : starEach (e :: es) X.env = (false, eval e X.env) :: starEach es X.env := by rfl) : DA Γ X W (e :: es) (aCons ta u) :=
  let ⟨_, p, q⟩ := h.run; let ⟨_, p2, q2⟩ := h2.run
  ⟨_, pa_cons p p2 hs, fun S H σ ρ F E Q Qh o l x k => q S H σ ρ F E _ _ o l x fun v S' H' ρ' pl hp o' x' =>
    q2 S' H' σ ρ' (pl.tmp v ++ F) E _ _ o' l.tmp x' fun vs S2 H2 ρ2 ps hps o2 x2 => k (v :: vs) S2 H2 ρ2 (pl :: ps) (.cons (by exact hp) hps) (by
      show StOk Γ S2 H2 σ ρ2 ((tmps vs ps ++ pl.tmp v) ++ F)
      rw [List.append_assoc]; exact o2) x2⟩
/-- the data of a list of places -/
def datL (ρ : DEnv) : List Pl → Option (List Dat)
  | [] => some []
  | p :: ps => match p.d ρ, datL ρ ps with
    | some d, some ds => some (d :: ds)
    | _, _ => none
inductive RbL (Γ : Gm) (S H : Hp) : List V → List Dat → Prop
  | nil : RbL Γ S H [] []
  | cons {v d vs ds} : Rb Γ S H v d → RbL Γ S H vs ds → RbL Γ S H (v :: vs) (d :: ds)
theorem tmps_sub {v : V} {p : Pl} {vs : List V} {ps : List Pl} : (tmps vs ps).Sublist (tmps (v :: vs) (p :: ps)) := List.sublist_append_left _ _
theorem rbL_of {S H : Hp} {σ : L2.St} {ρ : DEnv} {F} : ∀ {vs ps ds}, Ats σ vs ps → StOk Γ S H σ ρ F → (tmps vs ps).Sublist F → datL ρ ps = some ds → RbL Γ S H vs ds
  | _, _, _, .nil, _, _, e => by cases e; exact .nil
  | _, _, ds, .cons (v := v) (p := p) (ps := ps) h r, o, s, e => by
    unfold datL at e
    split at e
    · rename_i d ds' e1 e2
      cases e
      exact .cons (o.rb h ((List.sublist_append_right _ _).trans s) e1) (rbL_of r o ((List.sublist_append_left _ _).trans s) e2)
    · cases e
abbrev LD := List Dat → (Nat → Dat → Prop) → Prop
def apL (od : LD) : Option (List Dat) → (Nat → Dat → Prop) → Prop
  | some ds, R => od ds R
  | none, _ => False
def pCall (od : LD) (ta : TAD) : TPD := fun E ρ Q => ta E ρ fun ρ1 ps => apL od (datL ρ1 ps) fun k d => Q ρ1 (.t (.v k d))
def BrC (Γ : Gm) (r : List V → Hp → VK → Prop) (od : LD) : Prop := ∀ S H vs ds Q Qh, Ex S H → RbL Γ S H vs ds → od ds Q → Post Γ S H Q Qh → r vs H Qh
theorem run_call {r : List V → Hp → VK → Prop} {od : LD} {u : TAD} {t' : TA} (br : BrC Γ r od) (ha : RunA Γ W t' u) : RunP Γ W (tCB r t') (pCall od u) := by
  intro S H σ ρ F E Q Qh o l q k
  refine ha S H σ ρ F E _ _ o l q fun vs S1 H1 ρ1 ps hp o1 q1 => ?_
  cases e1 : datL ρ1 ps with
  | none => rw [e1] at q1; exact q1.elim
  | some ds =>
    rw [e1] at q1
    have r1 := rbL_of hp o1 (List.sublist_append_left _ _) e1
    refine br S1 H1 vs ds _ _ o1.ok.ex r1 q1 fun S' H' n z dz f st ow nd nw qq => ?_
    exact k z S' H' ρ1 (.t (.v n dz)) trivial ((o1.sub (List.sublist_append_right _ _)).push st ow nd nw) qq
theorem dp_callB {r : List V → Hp → VK → Prop} {od : LD} {u : TAD} {id : String} {x : Str} {p : Pos} (hc : CallR X (.builtin id) r) (br : BrC Γ r od) (hg : Gl X x) (hm : X.mg x = none) (hv : bootBuiltins x = some (.builtin id)) (ha : DA Γ X W (e :: es) u)
    (hn : x ≠ "__name__" := by decide) (hdb : (x == ("__debug__" : Str)) = false := by decide) (he : starEach (e :: es) X.env = (false, eval e X.env) :: starEach es X.env := by rfl) (hpl : (backTo pos (starEach es X.env)).any (·.1) = false := by rfl) :
    DP Γ X W (.Call (.Name x p) (e :: es) [] pos) (pCall od u) :=
  let ⟨_, p1, q1⟩ := ha.run; ⟨_, pe_callB hc hg hm hv p1 hn hdb he hpl, run_call br q1⟩
theorem dp_callTy {r : List V → Hp → VK → Prop} {od : LD} {u : TAD} {id : String} {x : Str} {p : Pos} (hc : CallR X (.type id) r) (br : BrC Γ r od) (hg : Gl X x) (hm : X.mg x = none) (hv : bootBuiltins x = some (.type id)) (ha : DA Γ X W (e :: es) u)
    (hn : x ≠ "__name__" := by decide) (hdb : (x == ("__debug__" : Str)) = false := by decide) (he : starEach (e :: es) X.env = (false, eval e X.env) :: starEach es X.env := by rfl) (hpl : (backTo pos (starEach es X.env)).any (·.1) = false := by rfl) :
    DP Γ X W (.Call (.Name x p) (e :: es) [] pos) (pCall od u) :=
  let ⟨_, p1, q1⟩ := ha.run; ⟨_, pe_callTy hc hg hm hv p1 hn hdb he hpl, run_call br q1⟩
end
end Sw

/-! The data layer, 5: operators by data. -/
namespace Sw
open PySem L2
/-! ### ints of a common size -/
def Sm (i : Int) : Prop := i.natAbs < 2 ^ 1024
theorem Sm.of {i : Int} (h1 : -(10 ^ 200) < i) (h2 : i < 10 ^ 200) : Sm i := by
  have e : (10 : Int) ^ 200 = ((10 ^ 200 : Nat) : Int) := by decide +kernel
  rw [e] at h1 h2
  have h : i.natAbs < 10 ^ 200 := by omega
  exact Nat.lt_of_lt_of_le h (by decide +kernel)
def MulOk (i j : Int) : Prop := (-(2 ^ 64) < i ∧ i < 2 ^ 64) ∨ (-(2 ^ 64) < j ∧ j < 2 ^ 64) ∨ (Sm i ∧ Sm j)
def DivOk (j : Int) : Prop := 0 < j ∧ Sm j
def PowOk (i j : Int) : Prop := 0 ≤ j ∧ j ≤ 1000000 ∧ i.natAbs < 2 ^ 64
def nums (ns : List Int) : List Dat := ns.map Dat.int
/-! ### two operands -/
def oI (g : Int → Int → Dat) : OD := fun x y R => match x, y with
  | .int i, .int j => R 0 (g i j)
  | _, _ => False
def oIc (c : Int → Int → Prop) (g : Int → Int → Dat) : OD := fun x y R => match x, y with
  | .int i, .int j => c i j ∧ R 0 (g i j)
  | _, _ => False
def oAdd : OD := fun x y R => match x, y with
  | .int i, .int j => R 0 (.int (i + j))
  | .str a, .str b => a.length + b.length ≤ 16777216 ∧ R 0 (.str (a ++ b))
  | .lst a, .lst b => a.length + b.length ≤ 16777216 ∧ R 1 (.lst (a ++ b))
  | .tup a, .tup b => a.length + b.length ≤ 16777216 ∧ R 0 (.tup (a ++ b))
  | _, _ => False
def oMul : OD := fun x y R => match x, y with
  | .int i, .int j => MulOk i j ∧ R 0 (.int (i * j))
  | .lst a, .int j => (0 ≤ j ∧ j ≤ 16777216) ∧ a.length * j.toNat ≤ 16777216 ∧ R 1 (.lst (List.replicate j.toNat a).flatten)
  | _, _ => False
abbrev oSub : OD := oI fun i j => .int (i - j)
abbrev oDiv : OD := oIc (fun _ j => DivOk j) fun i j => .int (i / j)
abbrev oMod : OD := oIc (fun _ j => 0 < j) fun i j => .int (i % j)
abbrev oPow : OD := oIc PowOk fun i j => .int (i ^ j.toNat)
abbrev oShl : OD := oIc PowOk fun i j => .int (i * 2 ^ j.toNat)
abbrev oShr : OD := oIc (fun _ j => 0 ≤ j) fun i j => .int (i / 2 ^ j.toNat)
abbrev oAnd : OD := oI fun i j => .int (Builtin.bitAnd i j)
abbrev oOr : OD := oI fun i j => .int (Builtin.bitOr i j)
abbrev oXor : OD := oI fun i j => .int (Builtin.bitXor i j)
abbrev oLt : OD := oI fun i j => .bl (decide (i < j))
abbrev oLe : OD := oI fun i j => .bl (decide (i ≤ j))
abbrev oGt : OD := oI fun i j => .bl (decide (j < i))
abbrev oGe : OD := oI fun i j => .bl (decide (j ≤ i))

section
variable {Γ : Gm}
theorem br_I {r : R2} {g : Int → Int → Dat} {g' : Int → Int → V} (hr : r = rI0 g') (h : ∀ S i j, Is Γ.T Γ.K S (g' i j) (g i j)) : Br Γ r (oI g) := by
  subst hr
  intro S H x y dx dy Q Qh e hx hy q p
  cases dx with
  | int i => cases dy with
    | int j => exact ⟨i, j, hx.int, hy.int, p.sc e (h S i j) q⟩
    | _ => exact q.elim
  | _ => exact q.elim
theorem br_Ic {r : R2} {c c' : Int → Int → Prop} {g : Int → Int → Dat} {g' : Int → Int → V} (hr : r = rI c' g') (hc : ∀ i j, c i j → c' i j) (h : ∀ S i j, Is Γ.T Γ.K S (g' i j) (g i j)) : Br Γ r (oIc c g) := by
  subst hr
  intro S H x y dx dy Q Qh e hx hy q p
  cases dx with
  | int i => cases dy with
    | int j => exact ⟨i, j, hx.int, hy.int, hc i j q.1, p.sc e (h S i j) q.2⟩
    | _ => exact q.elim
  | _ => exact q.elim
theorem br_sub : Br Γ (rI0 fun i j => .int (i - j)) oSub := br_I rfl fun _ _ _ => .int
theorem br_mod : Br Γ (rI (fun _ j => 0 < j) fun i j => .int (i % j)) oMod := br_Ic rfl (fun _ _ h => h) fun _ _ _ => .int
theorem log2_of {n : Nat} (h : n < 2 ^ 1024) : n.log2 < 1024 := by
  by_cases z : n = 0
  · rw [z]; decide
  · exact (Nat.log2_lt z).mpr h
theorem br_div : Br Γ (rI CDivW fun i j => .int (i / j)) oDiv := br_Ic rfl (fun i j h => ⟨h.1, Nat.lt_trans (log2_of h.2) (by decide)⟩) fun _ _ _ => .int
theorem br_pow : Br Γ (rI CPow fun i j => .int (i ^ j.toNat)) oPow := br_Ic rfl (fun _ _ h => h) fun _ _ _ => .int
theorem br_shl : Br Γ (rI CPow fun i j => .int (i * 2 ^ j.toNat)) oShl := br_Ic rfl (fun _ _ h => h) fun _ _ _ => .int
theorem br_shr : Br Γ (rI (fun _ j => 0 ≤ j) fun i j => .int (i / 2 ^ j.toNat)) oShr := br_Ic rfl (fun _ _ h => h) fun _ _ _ => .int
theorem br_and : Br Γ (rI0 fun i j => .int (Builtin.bitAnd i j)) oAnd := br_I rfl fun _ _ _ => .int
theorem br_or : Br Γ (rI0 fun i j => .int (Builtin.bitOr i j)) oOr := br_I rfl fun _ _ _ => .int
theorem br_xor : Br Γ (rI0 fun i j => .int (Builtin.bitXor i j)) oXor := br_I rfl fun _ _ _ => .int
theorem br_lt : Br Γ (rI0 fun i j => .bl (decide (i < j))) oLt := br_I rfl fun _ _ _ => .bl
theorem br_le : Br Γ (rI0 fun i j => .bl (decide (i ≤ j))) oLe := br_I rfl fun _ _ _ => .bl
theorem br_gt : Br Γ (rI0 fun i j => .bl (decide (j < i))) oGt := br_I rfl fun _ _ _ => .bl
theorem br_ge : Br Γ (rI0 fun i j => .bl (decide (j ≤ i))) oGe := br_I rfl fun _ _ _ => .bl
/-- +, of any kind -/
def rAddU (K : PySem.W.Frag) : R2 := fun x y H Q => (∃ i j, x = .int i ∧ y = .int j ∧ Q (.int (i + j)) H) ∨ (∃ i j, x = .str i ∧ y = .str j ∧ i.length + j.length ≤ sizeLine ∧ Q (.str (i ++ j)) H) ∨ rCat x y H Q ∨ rCatA K x y H Q
theorem op_addU {X : Cx} : OpR X (binaryOp .Add) (rAddU X.K) := op_add.or (op_add_str.or (op_cat.or op_catA))
theorem sz {n : Nat} (h : n ≤ 16777216) : n ≤ sizeLine := by rw [sizeLine_eq]; exact h
theorem br_add : Br Γ (rAddU Γ.K) oAdd := by
  intro S H x y dx dy Q Qh e hx hy q p
  cases dx with
  | int i => cases dy with
    | int j => exact .inl ⟨i, j, hx.int, hy.int, p.sc e .int q⟩
    | _ => exact q.elim
  | str i => cases dy with
    | str j => exact .inr (.inl ⟨i, j, hx.str, hy.str, sz q.1, p.sc e .str q.2⟩)
    | _ => exact q.elim
  | lst i => cases dy with
    | lst j =>
      obtain ⟨a, vs, e1, h1, l1⟩ := hx.lst e
      obtain ⟨b, ws, e2, h2, l2⟩ := hy.lst e
      exact .inr (.inr (.inl ⟨a, b, vs, ws, e1, e2, h1, h2, sz (by rw [l1.len, l2.len]; exact q.1), fun z n => p.lst e n (l1.app l2) q.2⟩))
    | _ => exact q.elim
  | tup i => cases dy with
    | tup j =>
      obtain ⟨a, vs, e1, h1, l1⟩ := hx.tup
      obtain ⟨b, ws, e2, h2, l2⟩ := hy.tup
      refine .inr (.inr (.inr ⟨a, b, vs, ws, e1, e2, e.stp h1, e.stp h2, sz (by rw [l1.len, l2.len]; exact q.1), fun z => ?_, fun z z2 => ?_, fun z z2 a n => p.tup e n (l1.app l2) q.2⟩))
      · subst z
        cases l1
        exact p.sc e (.tup h2 l2) q.2
      · subst z2
        cases l2
        have q2 := q.2
        rw [List.append_nil] at q2
        exact p.sc e (.tup h1 l1) q2
    | _ => exact q.elim
  | _ => exact q.elim
def rMulU : R2 := fun x y H Q => (∃ i j, x = .int i ∧ y = .int j ∧ CMul i j ∧ Q (.int (i * j)) H) ∨ (∃ i j, x = .int i ∧ y = .int j ∧ CMulW i j ∧ Q (.int (i * j)) H) ∨ rRep x y H Q
theorem op_mulU {X : Cx} : OpR X (binaryOp .Mult) rMulU := op_mul.or (op_mulW.or op_rep)
theorem isL_rep {T K S} {vs : List V} {ds : List Dat} (h : IsL T K S vs ds) : ∀ n, IsL T K S (List.replicate n vs).flatten (List.replicate n ds).flatten
  | 0 => .nil
  | n + 1 => by
    rw [List.replicate_succ, List.replicate_succ, List.flatten_cons, List.flatten_cons]
    exact h.app (isL_rep h n)
theorem br_mul : Br Γ rMulU oMul := by
  intro S H x y dx dy Q Qh e hx hy q p
  cases dx with
  | int i => cases dy with
    | int j =>
      obtain ⟨c, q⟩ := q
      rcases c with c | c | ⟨c1, c2⟩
      · exact .inl ⟨i, j, hx.int, hy.int, .inl c, p.sc e .int q⟩
      · exact .inl ⟨i, j, hx.int, hy.int, .inr c, p.sc e .int q⟩
      · refine .inr (.inl ⟨i, j, hx.int, hy.int, ?_, p.sc e .int q⟩)
        have h1 := log2_of c1
        have h2 := log2_of c2
        unfold CMulW
        omega
    | _ => exact q.elim
  | lst i => cases dy with
    | int j =>
      obtain ⟨a, vs, e1, h1, l1⟩ := hx.lst e
      obtain ⟨q1, q2, q3⟩ := q
      exact .inr (.inr ⟨a, j, vs, e1, hy.int, h1, by omega, by omega, sz (by rw [l1.len]; exact q2), fun z n => p.lst e n (isL_rep l1 _) q3⟩)
    | _ => exact q.elim
  | _ => exact q.elim

/-! ### == and != of data without objects of one's own -/
mutual
def py : Dat → PyData
  | .non => .none
  | .bl b => .bool b
  | .int i => .int i
  | .str x => .str x
  | .tup xs => .tuple (pyL xs)
  | .lst xs => .list (pyL xs)
  | .ty _ | .obj _ _ | .set _ | .scr _ | .cls _ | .ext _ _ => .none
def pyL : List Dat → List PyData
  | [] => []
  | x :: xs => py x :: pyL xs
end
mutual
/-- may be compared so -/
def plain : Dat → Bool
  | .non | .bl _ | .int _ | .str _ => true
  | .tup xs | .lst xs => plainL xs
  | .ty _ | .obj _ _ | .set _ | .scr _ | .cls _ | .ext _ _ => false
def plainL : List Dat → Bool
  | [] => true
  | x :: xs => plain x && plainL xs
end
def eqOk (d : Dat) : Prop := plain d = true ∧ SeqAt.shaped (py d) = true
def flat : Dat → Bool
  | .non | .bl _ | .int _ | .str _ => true
  | _ => false
/-- Python's == -/
def deq (x y : Dat) : Bool := PyData.eqv (py x) (py y)
def oEq : OD := fun x y R => eqOk x ∧ eqOk y ∧ R 0 (.bl (deq x y))
def oNe : OD := fun x y R => eqOk x ∧ eqOk y ∧ R 0 (.bl (!deq x y))
mutual
theorem dp_is {S H : Hp} (e : Ex S H) : ∀ {v d}, Is Γ.T Γ.K S v d → plain d = true → Dp Γ.K H v (py d)
  | _, _, .non, _ => by unfold py; exact .non
  | _, _, .bl, _ => by unfold py; exact .bl _
  | _, _, .int, _ => by unfold py; exact .int _
  | _, _, .str, _ => by unfold py; exact .str _
  | _, _, .tup h l, p => by unfold py; unfold plain at p; exact .tup (e.stp h) (dp_isL e l p)
  | _, _, .lst h l, p => by unfold py; unfold plain at p; exact .lst (.of (e _ _ h)) (dp_isL e l p)
  | _, _, .ty, p => by unfold plain at p; cases p
  | _, _, .scr _, p => by unfold plain at p; cases p
  | _, _, .obj _ _ _, p => by unfold plain at p; cases p
  | _, _, .set _ _, p => by unfold plain at p; cases p
  | _, _, .cls, p => by unfold plain at p; cases p
  | _, _, .ext _ _, p => by unfold plain at p; cases p
theorem dp_isL {S H : Hp} (e : Ex S H) : ∀ {vs ds}, IsL Γ.T Γ.K S vs ds → plainL ds = true → DpAll Γ.K H vs (pyL ds)
  | _, _, .nil, _ => by unfold pyL; exact .nil
  | _, _, .cons h l, p => by
    unfold plainL at p
    unfold pyL
    exact .cons (dp_is e h (Bool.and_eq_true_iff.mp p).1) (dp_isL e l (Bool.and_eq_true_iff.mp p).2)
end
theorem dp_rb {S H : Hp} {v : V} {d : Dat} (e : Ex S H) (h : Rb Γ S H v d) (p : plain d = true) : Dp Γ.K H v (py d) := by
  obtain ⟨k, f, hk, o⟩ := h
  cases k with
  | zero => cases o with | s o => exact dp_is e o p
  | succ k =>
    have hk0 : k = 0 := by omega
    subst hk0
    cases o with
    | l o _ l => unfold py; unfold plain at p; exact .lst (.of o) (dp_isL e l.is0.1 p)
    | set o _ _ => unfold plain at p; cases p
    | ext o _ _ => unfold plain at p; cases p
    | obj o _ _ _ => unfold plain at p; cases p
theorem br_eq : Br Γ (rEqD Γ.K) oEq := fun S H x y dx dy Q Qh e hx hy q p =>
  ⟨py dx, py dy, dp_rb e hx q.1.1, dp_rb e hy q.2.1.1, q.1.2, q.2.1.2, p.sc e .bl q.2.2⟩
theorem br_ne : Br Γ (rNeD Γ.K) oNe := fun S H x y dx dy Q Qh e hx hy q p =>
  ⟨py dx, py dy, dp_rb e hx q.1.1, dp_rb e hy q.2.1.1, q.1.2, q.2.1.2, p.sc e .bl q.2.2⟩
/-! ### is None, is not None -/
def oIsN : OD := fun x y R => y = .non ∧ (match x with | .non => R 0 (.bl true) | _ => R 0 (.bl false))
def oNotN : OD := fun x y R => y = .non ∧ (match x with | .non => R 0 (.bl false) | _ => R 0 (.bl true))
theorem rb_non {S H : Hp} {v : V} {d : Dat} (h : Rb Γ S H v d) (n : d ≠ .non) : v ≠ .non := by
  rintro rfl
  obtain ⟨k, f, _, o⟩ := h
  cases o with
  | s o => cases o; exact n rfl
theorem br_isN : Br Γ (fun x y H Q => y = .non ∧ Q (.bl (decide (x = .non))) H) oIsN := by
  intro S H x y dx dy Q Qh e hx hy q p
  obtain ⟨rfl, q⟩ := q
  refine ⟨hy.non, ?_⟩
  cases dx with
  | non => rw [hx.non]; exact p.sc e .bl q
  | _ => rw [decide_eq_false (rb_non hx (by intro z; cases z))]; exact p.sc e .bl q
theorem br_notN : Br Γ (fun x y H Q => y = .non ∧ Q (.bl (!decide (x = .non))) H) oNotN := by
  intro S H x y dx dy Q Qh e hx hy q p
  obtain ⟨rfl, q⟩ := q
  refine ⟨hy.non, ?_⟩
  cases dx with
  | non => rw [hx.non]; exact p.sc e .bl q
  | _ => rw [decide_eq_false (rb_non hx (by intro z; cases z))]; exact p.sc e .bl q
/-! ### x in xs -/
def dflat : Dat → V
  | .bl b => .bl b
  | .int i => .int i
  | .str x => .str x
  | _ => .non
def din (x : Dat) (xs : List Dat) : Bool := xs.any fun y => deq y x
def oIn (neg : Bool) : OD := fun x y R => flat x = true ∧ (match y with
  | .lst ys => ys.all flat = true ∧ R 0 (.bl (if neg then !din x ys else din x ys))
  | .tup ys => ys.all flat = true ∧ R 0 (.bl (if neg then !din x ys else din x ys))
  | _ => False)
theorem flat_is {S : Hp} {v : V} {d : Dat} (h : Is Γ.T Γ.K S v d) (f : flat d = true) : v = dflat d ∧ flatV v = true := by
  cases h <;> first | exact ⟨rfl, rfl⟩ | cases f
theorem eqV_deq {x y : Dat} (fx : flat x = true) (fy : flat y = true) : eqV (dflat x) (dflat y) = deq x y := by
  cases x <;> cases y <;> first | exact absurd fx Bool.false_ne_true | exact absurd fy Bool.false_ne_true | (simp [deq, py, PyData.eqv, eqV, dflat]; done)
theorem flat_all {S : Hp} : ∀ {vs ds}, IsL Γ.T Γ.K S vs ds → ds.all flat = true → vs = ds.map dflat ∧ vs.all flatV = true
  | _, _, .nil, _ => ⟨rfl, rfl⟩
  | _, _, .cons h l, f => by
    rw [List.all_cons] at f
    obtain ⟨f1, f2⟩ := Bool.and_eq_true_iff.mp f
    obtain ⟨e1, e2⟩ := flat_is h f1
    obtain ⟨e3, e4⟩ := flat_all l f2
    exact ⟨by rw [List.map_cons, ← e1, ← e3], by rw [List.all_cons, e2, e4]; rfl⟩
theorem inV_din {x : Dat} (fx : flat x = true) : ∀ {ds : List Dat}, ds.all flat = true → inV (dflat x) (ds.map dflat) = din x ds
  | [], _ => rfl
  | d :: ds, f => by
    rw [List.all_cons] at f
    obtain ⟨f1, f2⟩ := Bool.and_eq_true_iff.mp f
    have ih := inV_din fx f2
    unfold inV din at ih ⊢
    rw [List.map_cons, List.any_cons, List.any_cons, ih, eqV_deq f1 fx]
theorem rb_flat {S H : Hp} {v : V} {d : Dat} (h : Rb Γ S H v d) (f : flat d = true) : v = dflat d ∧ flatV v = true := by
  obtain ⟨k, g, _, o⟩ := h
  cases o with
  | s o => exact flat_is o f
  | l _ _ _ => cases f
  | set _ _ _ => cases f
  | ext _ _ _ => cases f
  | obj _ _ _ _ => cases f
theorem br_in (neg : Bool) : Br Γ (rIn Γ.K neg) (oIn neg) := by
  intro S H x y dx dy Q Qh e hx hy q p
  obtain ⟨f, q⟩ := q
  obtain ⟨e1, e2⟩ := rb_flat hx f
  cases dy with
  | lst ys =>
    obtain ⟨a, vs, e3, h, l⟩ := hy.lst e
    obtain ⟨e4, e5⟩ := flat_all l q.1
    refine ⟨a, vs, e3, .inl (.of h), e2, e5, ?_⟩
    rw [e1, e4, inV_din f q.1]
    exact p.sc e .bl q.2
  | tup ys =>
    obtain ⟨a, vs, e3, h, l⟩ := hy.tup
    obtain ⟨e4, e5⟩ := flat_all l q.1
    refine ⟨a, vs, e3, .inr (e.stp h), e2, e5, ?_⟩
    rw [e1, e4, inV_din f q.1]
    exact p.sc e .bl q.2
  | _ => exact q.elim
/-! ### xs[i] -/
def oIx : OD := fun x y R => match y with
  | .int i => (match x with
    | .lst xs => (match atI xs i with | some d => R 0 d | none => False)
    | .tup xs => (match atI xs i with | some d => R 0 d | none => False)
    | .scr ns => (match atI ns i with | some n => R 0 (.int n) | none => False)
    | .str z => z.length ≤ 16777216 ∧ (match atI z.cps.toList i with | some c => R 0 (.str ⟨#[c]⟩) | none => False)
    | _ => False)
  | _ => False
theorem atI_is {S : Hp} {vs : List V} {ds : List Dat} {i : Int} {d : Dat} (l : IsL Γ.T Γ.K S vs ds) (h : atI ds i = some d) : ∃ v, atI vs i = some v ∧ Is Γ.T Γ.K S v d := by
  unfold atI at h ⊢
  rw [← l.len] at h
  cases e : ixN vs.length i with
  | none => rw [e] at h; cases h
  | some j =>
    rw [e] at h
    exact l.get h
theorem br_ix : Br Γ (fun x y H Q => rIxL Γ.K x y H Q ∨ rIxT Γ.K x y H Q ∨ rIxS x y H Q) oIx := by
  intro S H x y dx dy Q Qh e hx hy q p
  cases dy with
  | int i =>
    cases dx with
    | lst xs =>
      obtain ⟨a, vs, e1, h, l⟩ := hx.lst e
      have q : (match atI xs i with | some d => Q 0 d | none => False) := q
      split at q
      · rename_i d hd
        obtain ⟨v, hv, is⟩ := atI_is l hd
        exact .inl ⟨a, vs, i, v, e1, hy.int, .of h, hv, p.sc e is q⟩
      · exact q.elim
    | tup xs =>
      obtain ⟨a, vs, e1, h, l⟩ := hx.tup
      have q : (match atI xs i with | some d => Q 0 d | none => False) := q
      split at q
      · rename_i d hd
        obtain ⟨v, hv, is⟩ := atI_is l hd
        exact .inr (.inl ⟨a, vs, i, v, e1, hy.int, e.stp h, hv, p.sc e is q⟩)
      · exact q.elim
    | scr ns =>
      obtain ⟨a, e1, h⟩ := hx.scr e
      have q : (match atI ns i with | some n => Q 0 (.int n) | none => False) := q
      split at q
      · rename_i n hn
        refine .inl ⟨a, _, i, .int n, e1, hy.int, h, ?_, p.sc e .int q⟩
        unfold atI at hn ⊢
        rw [List.length_map]
        cases e2 : ixN ns.length i with
        | none => rw [e2] at hn; cases hn
        | some j =>
          rw [e2] at hn
          show (ns.map V.int)[j]? = _
          rw [List.getElem?_map, show ns[j]? = some n from hn]; rfl
      · exact q.elim
    | str z =>
      obtain ⟨q1, q⟩ := q
      split at q
      · rename_i c hc
        exact .inr (.inr ⟨z, i, c, hx.str, hy.int, sz q1, hc, p.sc e .str q⟩)
      · exact q.elim
    | _ => exact q.elim
  | _ => exact q.elim
/-! ### one argument -/
def uLen : LD := fun xs R => match xs with
  | [.lst ds] => R 0 (.int ds.length)
  | [.tup ds] => R 0 (.int ds.length)
  | [.scr ns] => R 0 (.int ns.length)
  | [.str z] => z.length ≤ 16777216 ∧ R 0 (.int z.length)
  | _ => False
theorem rb1 {S H : Hp} {vs : List V} {d : Dat} (h : RbL Γ S H vs [d]) : ∃ v, vs = [v] ∧ Rb Γ S H v d := by
  cases h with | cons h l => cases l; exact ⟨_, rfl, h⟩
theorem rb2 {S H : Hp} {vs : List V} {d e : Dat} (h : RbL Γ S H vs [d, e]) : ∃ v w, vs = [v, w] ∧ Rb Γ S H v d ∧ Rb Γ S H w e := by
  cases h with | cons h l => cases l with | cons h2 l => cases l; exact ⟨_, _, rfl, h, h2⟩
def rLenU (K : PySem.W.Frag) : List V → Hp → VK → Prop := fun xs H Q => (∃ p ys, xs = [.ref p] ∧ (SqL K H p ys ∨ SqT K H p ys) ∧ Q (.int ys.length) H) ∨ ∃ z, xs = [.str z] ∧ z.length ≤ sizeLine ∧ Q (.int z.length) H
theorem call_lenU {X : Cx} : CallR X (.builtin "len") (rLenU X.K) := call_len_seq.or call_len_str
theorem br_len : BrC Γ (rLenU Γ.K) uLen := by
  intro S H vs ds Q Qh e r q p
  unfold uLen at q
  split at q
  · rename_i ds'
    obtain ⟨v, rfl, h⟩ := rb1 r
    obtain ⟨a, us, rfl, h1, l⟩ := h.lst e
    refine .inl ⟨a, us, rfl, .inl (.of h1), ?_⟩
    rw [l.len]; exact p.sc e .int q
  · obtain ⟨v, rfl, h⟩ := rb1 r
    obtain ⟨a, us, rfl, h1, l⟩ := h.tup
    refine .inl ⟨a, us, rfl, .inr (e.stp h1), ?_⟩
    rw [l.len]; exact p.sc e .int q
  · rename_i ns
    obtain ⟨v, rfl, h⟩ := rb1 r
    obtain ⟨a, rfl, h1⟩ := h.scr e
    refine .inl ⟨a, _, rfl, .inl h1, ?_⟩
    rw [List.length_map]; exact p.sc e .int q
  · rename_i z
    obtain ⟨v, rfl, h⟩ := rb1 r
    rw [h.str]
    exact .inr ⟨z, rfl, sz q.1, p.sc e .int q.2⟩
  · exact q.elim
end
end Sw

/-! The data layer, 6: statements. -/
namespace Sw
open PySem L2
structure DEnds where
  nx : DEnv → Prop
  rt : DEnv → Sl → Prop
  bk : DEnv → Prop := fun _ => False
  ct : DEnv → Prop := fun _ => False
  ex : DEx
abbrev TSD := DEnds → DEnv → Prop
abbrev Fx := List (Option V × Option Sl)
structure LE (Γ : Gm) (F : Fx) (D : DEnds) (Dh : Ends) : Prop where
  nx : ∀ S H σ ρ, StOk Γ S H σ ρ F → D.nx ρ → Dh.nx σ H
  rt : ∀ S H σ ρ v sl, StOk Γ S H σ ρ ((some v, some sl) :: F) → D.rt ρ sl → Dh.rt v H
  bk : ∀ S H σ ρ, StOk Γ S H σ ρ F → D.bk ρ → Dh.bk σ H
  ct : ∀ S H σ ρ, StOk Γ S H σ ρ F → D.ct ρ → Dh.ct σ H
def RunS (Γ : Gm) (W : WX) (ts : TS) (t : TSD) : Prop := ∀ S H σ ρ F D Dh, StOk Γ S H σ ρ F → LE Γ F D Dh → LW Γ F D.ex W → t D ρ → ts Dh σ H
structure DS (Γ : Gm) (X : Cx) (W : WX) (st : Stmt) (t : TSD) : Prop where
  run : ∃ ts, PS X st ts ∧ RunS Γ W ts t
structure DSs (Γ : Gm) (X : Cx) (W : WX) (st : List Stmt) (t : TSD) : Prop where
  run : ∃ ts, PSs X st ts ∧ RunS Γ W ts t
def Gm.free (Γ : Gm) (i : Nat) : Prop := ∀ v, Γ.me ≠ some (i, v)
section
variable {Γ : Gm} {X : Cx} {W : WX} {e a b : Expr} {st : Stmt} {sts : List Stmt} {es : List Expr} {pos : Pos} {t u : TSD} {ta tb : TPD}
theorem LE.more {F : Fx} {D : DEnds} {Dh : Ends} (l : LE Γ F D Dh) (F' : Fx) : LE Γ (F' ++ F) D Dh where
  nx S H σ ρ o := l.nx S H σ ρ (o.sub (List.sublist_append_right _ _))
  rt S H σ ρ v sl o := l.rt S H σ ρ v sl (o.sub (List.Sublist.cons_cons _ (List.sublist_append_right _ _)))
  bk S H σ ρ o := l.bk S H σ ρ (o.sub (List.sublist_append_right _ _))
  ct S H σ ρ o := l.ct S H σ ρ (o.sub (List.sublist_append_right _ _))
def sNext : TSD := fun D ρ => D.nx ρ
def sSeq (t u : TSD) : TSD := fun D ρ => t { D with nx := u D } ρ
theorem dss_nil : DSs Γ X W [] sNext := ⟨_, pss_nil, fun S H σ ρ F D Dh o l w q => l.nx S H σ ρ o q⟩
theorem dss_cons (h1 : DS Γ X W st t) (h2 : DSs Γ X W sts u) : DSs Γ X W (st :: sts) (sSeq t u) :=
  let ⟨_, p1, q1⟩ := h1.run; let ⟨ts2, p2, q2⟩ := h2.run
  ⟨_, pss_cons p1 p2, fun S H σ ρ F D Dh o l w q => q1 S H σ ρ F { D with nx := u D } { Dh with nx := ts2 Dh } o ⟨fun S' H' σ' ρ' o' x => q2 S' H' σ' ρ' F D Dh o' l w x, l.rt, l.bk, l.ct⟩ w q⟩
theorem dss_one (h1 : DS Γ X W st t) : DSs Γ X W [st] t := let ⟨_, p1, q1⟩ := h1.run; ⟨_, pss_one p1, q1⟩
def sNever : TSD := fun _ _ => False
theorem ds_never : DS Γ X W st sNever := ⟨_, ps_never, fun _ _ _ _ _ _ _ _ _ _ q => q⟩
theorem dss_never : DSs Γ X W sts sNever := ⟨_, pss_never, fun _ _ _ _ _ _ _ _ _ _ q => q⟩
theorem ds_pass : DS Γ X W (.Pass pos) sNext := ⟨_, ps_pass, fun S H σ ρ F D Dh o l w q => l.nx S H σ ρ o q⟩
theorem ds_doc {x j p} : DS Γ X W (.Expr (.Constant (.str x) j p) pos) sNext := ⟨_, ps_doc, fun S H σ ρ F D Dh o l w q => l.nx S H σ ρ o q⟩
def sBreak : TSD := fun D ρ => D.bk ρ
def sCont : TSD := fun D ρ => D.ct ρ
theorem ds_break : DS Γ X W (.Break pos) sBreak := ⟨_, ps_break, fun S H σ ρ F D Dh o l w q => l.bk S H σ ρ o q⟩
theorem ds_cont : DS Γ X W (.Continue pos) sCont := ⟨_, ps_continue, fun S H σ ρ F D Dh o l w q => l.ct S H σ ρ o q⟩
def sDrop (ta : TPD) : TSD := fun D ρ => ta D.ex ρ fun ρ1 _ => D.nx ρ1
theorem ds_expr (h : DP Γ X W e ta) (hs : swapsWith e none pos.line X.env = pure false := by rfl) : DS Γ X W (.Expr e pos) (sDrop ta) :=
  let ⟨_, p1, q1⟩ := h.run
  ⟨_, ps_expr p1 hs, fun S H σ ρ F D Dh o l w q => q1 S H σ ρ F D.ex _ _ o w q fun v S' H' ρ' pl hp o' x => l.nx S' H' σ ρ' o'.dropP x⟩
/-- what is handed back: a list of one's own goes along -/
def retP (ρ : DEnv) (p : Pl) (Q : DEnv → Sl → Prop) : Prop := match p with
  | .t sl => Q ρ sl
  | .s i => match ρ[i]? with
    | some (some (.v k d)) => Q (ρ.set i none) (.v k d)
    | _ => False
def sRet (ta : TPD) : TSD := fun D ρ => ta D.ex ρ fun ρ1 p => retP ρ1 p D.rt
theorem StOk.move {S H : Hp} {σ : L2.St} {ρ : DEnv} {F : Fx} {i : Nat} {v : V} {sl : Sl} (o : StOk Γ S H σ ρ F) (hv : σ[i]? = some (some v)) (hd : ρ[i]? = some (some sl)) :
    StOk Γ S H σ (ρ.set i none) ((some v, some sl) :: F) := by
  obtain ⟨A, B, e1, e2, _⟩ := zip_at hv hd
  refine ⟨by rw [List.length_set]; exact o.len, ?_, o.me⟩
  have o1 := o.ok
  rw [e1, List.append_assoc, List.cons_append] at o1
  rw [e2, List.append_assoc, List.cons_append]
  -- A ++ (v, none) :: (B ++ (v, sl) :: F)
  obtain ⟨fs, s, n, z⟩ := (o1.perm List.perm_middle).sep
  cases s with
  | cons he hl =>
    have o2 : Ok Γ S H ((some v, none) :: (some v, some sl) :: (A ++ (B ++ F))) := ⟨o1.ex0, o1.ex, o1.fr, [] :: _ :: _, .cons rfl (.cons he hl), by simpa using n, by simpa using z⟩
    refine o2.perm ?_
    refine List.Perm.trans ?_ List.perm_middle.symm
    refine List.Perm.cons _ ?_
    rw [← List.append_assoc, ← List.append_assoc]
    exact List.perm_middle.symm
theorem ds_ret (h : DP Γ X W e ta) : DS Γ X W (.Return (some e) pos) (sRet ta) :=
  let ⟨_, p1, q1⟩ := h.run
  ⟨_, ps_ret p1, fun S H σ ρ F D Dh o l w q => q1 S H σ ρ F D.ex _ _ o w q fun v S' H' ρ' pl hp o' x => by
    cases pl with
    | t sl => exact l.rt S' H' σ ρ' v sl o' x
    | s i =>
      unfold retP at x
      cases r : ρ'[i]? with
      | none => simp only [r] at x
      | some os =>
        cases os with
        | none => simp only [r] at x
        | some sl =>
          cases sl with
          | b d => simp only [r] at x
          | v k d =>
            simp only [r] at x
            exact l.rt S' H' σ _ v _ (StOk.move o' hp r) x⟩
def sRetN : TSD := fun D ρ => D.rt ρ (.v 0 .non)
theorem ds_retN : DS Γ X W (.Return none pos) sRetN := ⟨_, ps_retN, fun S H σ ρ F D Dh o l w q => l.rt S H σ ρ .non _ (o.pushS .non) q⟩
def sIf (c : TTD) (t u : TSD) : TSD := fun D ρ => c D.ex ρ fun ρ1 b => if b = true then t D ρ1 else u D ρ1
theorem ds_if {c : Expr} {tc : TTD} {as bs : List Stmt} (hc : DT Γ X W c tc) (h1 : DSs Γ X W as t) (h2 : DSs Γ X W bs u) : DS Γ X W (.If c as bs pos) (sIf tc t u) :=
  let ⟨_, p, q⟩ := hc.run; let ⟨_, p1, q1⟩ := h1.run; let ⟨_, p2, q2⟩ := h2.run
  ⟨_, ps_if p p1 p2, fun S H σ ρ F D Dh o l w x => q S H σ ρ F D.ex _ _ o w x fun b S' H' ρ' o' x' => by
    cases b with
    | true => exact q1 S' H' σ ρ' F D Dh o' l w x'
    | false => exact q2 S' H' σ ρ' F D Dh o' l w x'⟩
/-! ### targets -/
abbrev TGD := Sl → DEnv → (DEnv → Prop) → Prop
def RunG (Γ : Gm) (g' : TG) (g : TGD) : Prop := ∀ S H σ ρ F v sl Q Qh, StOk Γ S H σ ρ ((some v, some sl) :: F) → g sl ρ Q →
  (∀ S' H' σ' ρ', StOk Γ S' H' σ' ρ' F → Q ρ' → Qh σ' H') → g' v σ H Qh
structure DG (Γ : Gm) (X : Cx) (e : Expr) (g : TGD) : Prop where
  run : ∃ g', PG X e g' ∧ RunG Γ g' g
def gdName (i : Nat) : TGD := fun sl ρ Q => Q (ρ.set i (some sl))
theorem StOk.store {S H : Hp} {σ : L2.St} {ρ : DEnv} {F : Fx} {i : Nat} {v : V} {sl : Sl} (o : StOk Γ S H σ ρ ((some v, some sl) :: F)) (hf : Γ.free i) : StOk Γ S H (σ.set i (some v)) (ρ.set i (some sl)) F := by
  refine ⟨by rw [List.length_set, List.length_set]; exact o.len, ?_, fun j w h => ?_⟩
  · by_cases hi : i < σ.length
    · have hi2 : i < ρ.length := by rw [← o.len]; exact hi
      obtain ⟨A, B, e1, _, e3⟩ := zip_at (List.getElem?_eq_getElem hi) (List.getElem?_eq_getElem hi2)
      have o1 := o.ok
      rw [e1, List.append_assoc, List.cons_append] at o1
      rw [e3, List.append_assoc, List.cons_append]
      have o2 := (o1.perm List.perm_middle).sub (List.sublist_cons_self _ _)
      -- A ++ (B ++ (v, sl) :: F)
      refine o2.perm ?_
      rw [← List.append_assoc]
      refine List.perm_middle.trans ?_
      rw [List.append_assoc]
      exact List.perm_middle.symm
    · rw [List.set_eq_of_length_le (by omega), List.set_eq_of_length_le (by rw [← o.len]; omega)]
      exact o.drop.ok
  · by_cases q : j = i
    · subst q
      exact absurd h (hf w)
    · rw [List.getElem?_set_ne (Ne.symm q)]
      exact o.me j w h
theorem run_gname {i : Nat} (hf : Γ.free i) : RunG Γ (gName i) (gdName i) := fun S H σ ρ F v sl Q Qh o q k => k S H _ _ (o.store hf) q
theorem dg_name {i : Nat} (h : PG X e (gName i)) (hf : Γ.free i := by (intro v z; cases z)) : DG Γ X e (gdName i) := ⟨_, h, run_gname hf⟩
abbrev TGsD := List Dat → DEnv → (DEnv → Prop) → Prop
def gdNil : TGsD := fun ds ρ Q => ds = [] ∧ Q ρ
def gdCons (g : TGD) (u : TGsD) : TGsD := fun ds ρ Q => match ds with
  | d :: r => g (.v 0 d) ρ fun ρ' => u r ρ' Q
  | [] => False
def zipE : List V → List Dat → Fx
  | v :: vs, d :: ds => (some v, some (.v 0 d)) :: zipE vs ds
  | _, _ => []
theorem StOk.pushL {S H : Hp} {σ : L2.St} {ρ : DEnv} {F : Fx} (o : StOk Γ S H σ ρ F) : ∀ {vs ds}, IsL Γ.T Γ.K S vs ds → StOk Γ S H σ ρ (zipE vs ds ++ F)
  | _, _, .nil => o
  | _, _, .cons h l => (o.pushL l).pushS h
def RunGs (Γ : Gm) (g' : TGs) (g : TGsD) : Prop := ∀ S H σ ρ F vs ds Q Qh, vs.length = ds.length → StOk Γ S H σ ρ (zipE vs ds ++ F) → g ds ρ Q →
  (∀ S' H' σ' ρ', StOk Γ S' H' σ' ρ' F → Q ρ' → Qh σ' H') → g' vs σ H Qh
structure DGs (Γ : Gm) (X : Cx) (es : List Expr) (g : TGsD) : Prop where
  run : ∃ g', PGs X es g' ∧ RunGs Γ g' g
theorem dgs_nil : DGs Γ X [] gdNil := ⟨_, pgs_nil, fun S H σ ρ F vs ds Q Qh hl o q k => by
  obtain ⟨rfl, q⟩ := q
  cases vs with
  | nil => exact ⟨rfl, k S H σ ρ o q⟩
  | cons _ _ => simp at hl⟩
theorem dgs_cons {g : TGD} {u : TGsD} (h1 : DG Γ X e g) (h2 : DGs Γ X es u) (hs : (assignEach (e :: es) X.env).map (·.2) = assign e X.env :: (assignEach es X.env).map (·.2) := by rfl) : DGs Γ X (e :: es) (gdCons g u) :=
  let ⟨_, p1, q1⟩ := h1.run; let ⟨_, p2, q2⟩ := h2.run
  ⟨_, pgs_cons p1 p2 hs, fun S H σ ρ F vs ds Q Qh hl o q k => by
    cases ds with
    | nil => exact q.elim
    | cons d ds =>
      cases vs with
      | nil => simp at hl
      | cons v vs =>
        refine ⟨v, vs, rfl, q1 S H σ ρ (zipE vs ds ++ F) v (.v 0 d) _ _ o q fun S' H' σ' ρ' o' q' => ?_⟩
        exact q2 S' H' σ' ρ' F vs ds Q Qh (by simpa using hl) o' q' k⟩
def gdTup (n : Nat) (u : TGsD) : TGD := fun sl ρ Q => match sl with
  | .v 0 (.tup ds) => ds.length = n ∧ u ds ρ Q
  | _ => False
theorem run_gtup {K : PySem.W.Frag} {n : Nat} {u' : TGs} {u : TGsD} (hK : Γ.K = K) (h : RunGs Γ u' u) : RunG Γ (gTup K n u') (gdTup n u) := fun S H σ ρ F v sl Q Qh o q k => by
  subst hK
  unfold gdTup at q
  split at q
  · rename_i ds
    have is := (o.ok.perm (L' := (some v, some (.v 0 (.tup ds))) :: (σ.zip ρ ++ F)) List.perm_middle).is0
    cases is with
    | tup h1 l1 => exact ⟨_, _, rfl, o.ok.ex.stp h1, l1.len.trans q.1, h S H σ ρ F _ ds Q Qh l1.len (o.drop.pushL l1) q.2 k⟩
  · exact q.elim
theorem dg_tup {k n : Nat} {u : TGsD} (hc : X.calm = true) (h : DGs Γ X es u) (hn : (assignEach es X.env).length = n := by rfl) (hst : (assignEach es X.env).findIdx? (·.1) = none := by rfl) (hK : Γ.K = X.K := by rfl) : DG Γ X (.Tuple es k pos) (gdTup n u) :=
  let ⟨_, p1, q1⟩ := h.run; ⟨_, pg_tup hc p1 hn hst, run_gtup hK q1⟩
/-- target = value -/
def sAsg (ta : TPD) (g : TGD) : TSD := fun D ρ => ta D.ex ρ fun ρ1 p => takeP ρ1 p fun ρ2 p2 => match p2 with
  | .t sl => g sl ρ2 D.nx
  | .s _ => False
theorem run_asg {te : TE} {g' : TG} {g : TGD} (h : RunP Γ W te ta) (hg : RunG Γ g' g) : RunS Γ W (tAsg te g') (sAsg ta g) := fun S H σ ρ F D Dh o l w q =>
  h S H σ ρ F D.ex _ _ o w q fun v S' H' ρ' pl hp o' x => by
    obtain ⟨S2, ρ2, sl, o2, x2⟩ := take_ok o' hp x
    exact hg S2 H' σ ρ2 F v sl _ _ o2 x2 fun S3 H3 σ3 ρ3 o3 x3 => l.nx S3 H3 σ3 ρ3 o3 x3
theorem ds_asg {tg : Expr} {g : TGD} (he : DP Γ X W e ta) (hg : DG Γ X tg g) (hs : swapsWithSole [tg] e pos.line X.env = pure false := by rfl) (hw : swappedStores [tg] e X.env = pure none := by rfl)
    (h1 : (assignEach [tg] X.env).map (·.2) = [assign tg X.env] := by rfl) : DS Γ X W (.Assign [tg] e pos) (sAsg ta g) :=
  let ⟨_, p, q⟩ := he.run; let ⟨_, p1, q1⟩ := hg.run; ⟨_, ps_asg p p1 hs hw h1, run_asg q q1⟩
/-- name = value -/
theorem ds_set {i : Nat} {x : Str} {pos' : Pos} (hN : X.N.Nodup) (hi : X.N[i]? = some x) (hx : Loc X.env.scope x) (he : DP Γ X W e ta) (hs : swapsWith e (some (.Name x pos')) pos.line X.env = pure false := by rfl)
    (hf : X.fn x = true ∨ X.env.scope.names.lookup x = some .local := by first | exact .inl rfl | exact .inr rfl | assumption) (hm : Γ.free i := by (intro v z; cases z)) : DS Γ X W (.Assign [.Name x pos'] e pos) (sAsg ta (gdName i)) :=
  let ⟨_, p, q⟩ := he.run; ⟨_, ps_set hN hi hx p hs hf, run_asg q (run_gname hm)⟩
/-- a, b = x, y -/
def sPar (i j : Nat) (ta : TAD) : TSD := fun D ρ => ta D.ex ρ fun ρ1 ps => match datL ρ1 ps with
  | some [d, e] => flat d = true ∧ flat e = true ∧ D.nx ((ρ1.set i (some (.v 0 d))).set j (some (.v 0 e)))
  | _ => False
theorem is_flat {S H : Hp} {v : V} {d : Dat} (h : Rb Γ S H v d) (f : flat d = true) : Is Γ.T Γ.K S v d := by
  obtain ⟨k, g, _, o⟩ := h
  cases o with
  | s o => exact o
  | l _ _ _ => cases f
  | set _ _ _ => cases f
  | ext _ _ _ => cases f
  | obj _ _ _ _ => cases f
theorem ds_par {i j : Nat} {x y : Str} {px py pt : Pos} {kt k2 pt2} {u : TAD} (hc : X.calm = true) (hN : X.N.Nodup) (hi : X.N[i]? = some x) (hj : X.N[j]? = some y) (hij : i ≠ j)
    (hx : X.env.scope.names.lookup x = some .local) (hy : X.env.scope.names.lookup y = some .local) (ha : DA Γ X W [a, b] u)
    (hw : swappedStores [.Tuple [.Name x px, .Name y py] kt pt] (.Tuple [a, b] k2 pt2) X.env = pure (some [x, y]))
    (hs : swapsWithSole [.Tuple [.Name x px, .Name y py] kt pt] (.Tuple [a, b] k2 pt2) pos.line X.env = pure false := by rfl) (hm : Γ.free i := by (intro v z; cases z)) (hm2 : Γ.free j := by (intro v z; cases z)) :
    DS Γ X W (.Assign [.Tuple [.Name x px, .Name y py] kt pt] (.Tuple [a, b] k2 pt2) pos) (sPar i j u) :=
  let ⟨_, p, q⟩ := ha.run
  ⟨_, ps_par hc hN hi hj hij hx hy p hw hs, fun S H σ ρ F D Dh o l w x => q S H σ ρ F D.ex _ _ o w x fun vs S' H' ρ' ps hp o' x' => by
    split at x'
    · rename_i d e ed
      have r := rbL_of hp o' (List.sublist_append_left _ _) ed
      obtain ⟨v1, v2, rfl, r1, r2⟩ := rb2 r
      have o1 := o'.sub (F' := F) (List.sublist_append_right _ _)
      have o2 := ((o1.pushS (is_flat r2 x'.2.1)).pushS (is_flat r1 x'.1)).store hm
      exact ⟨v1, v2, rfl, l.nx S' H' _ _ (o2.store hm2) x'.2.2⟩
    · exact x'.elim⟩
/-- name op= e -/
def sAug (od : OD) (i : Nat) (ta : TPD) : TSD := fun D ρ => match Sl.rd ((ρ[i]?).getD none) with
  | some d => flat d = true ∧ ta D.ex ρ fun ρ1 p => ap2 od (some d) (p.d ρ1) fun k z => D.nx (ρ1.set i (some (.v k z)))
  | none => False
theorem ds_aug {i : Nat} {x : Str} {op : Operator} {ti : TIp} {od : OD} {pos' : Pos} (hN : X.N.Nodup) (hi : X.N[i]? = some x) (hx : Loc X.env.scope x) (he : DP Γ X W e ta) (ho : PIp X op ti) (br : Br Γ ti od)
    (hf : X.fn x = true ∨ X.env.scope.names.lookup x = some .local := by first | exact .inl rfl | exact .inr rfl | assumption) (hm : Γ.free i := by (intro v z; cases z)) : DS Γ X W (.AugAssign (.Name x pos') op e pos) (sAug od i ta) :=
  let ⟨_, p, q⟩ := he.run
  ⟨_, ps_aug hN hi hx p ho hf, fun S H σ ρ F D Dh o l w x => by
    unfold sAug at x
    split at x
    · rename_i d ed
      obtain ⟨fd, x⟩ := x
      cases es : (ρ[i]?).getD none with
      | none => rw [es] at ed; cases ed
      | some sl =>
        have e1 := slot_at es
        have hlen : i < σ.length := by rw [o.len]; exact (List.getElem?_eq_some_iff.mp e1).1
        cases hv : σ[i]? with
        | none => rw [List.getElem?_eq_none_iff] at hv; omega
        | some ov =>
          cases ov with
          | none =>
            obtain ⟨A, B, e2, _⟩ := zip_at hv e1
            obtain ⟨fs, s, _⟩ := o.ok.sep
            rw [e2, List.append_assoc] at s
            exact (sep_no s).elim
          | some v =>
            have r1 : Rb Γ S H v d := o.rb (p := .s i) hv (List.nil_sublist _) ed
            have i1 := is_flat r1 fd
            refine ⟨v, hv, q S H σ ρ ((some v, some (.v 0 d)) :: F) D.ex _ _ (o.pushS i1) (w.more [_]) x fun y S' H' ρ' pl hp o' x' => ?_⟩
            cases e2 : pl.d ρ' with
            | none => rw [e2] at x'; exact x'.elim
            | some dy =>
              rw [e2] at x'
              have r2 := o'.rb hp (List.sublist_append_left _ _) e2
              have r3 : Rb Γ S' H' v d := o'.rb (p := .t (.v 0 d)) trivial (show [(some v, some (Sl.v 0 d))].Sublist _ from ((List.singleton_sublist).mpr (by simp))) rfl
              refine br S' H' v y d dy _ _ o'.ok.ex r3 r2 x' fun S2 H2 n z dz f st ow nd nw qq => ?_
              refine l.nx S2 H2 _ _ ?_ qq
              exact ((o'.dropP.drop).push st ow nd nw).store hm
    · exact x.elim⟩
/-! ### while -/
def sWhile (c : TTD) (t : TSD) : TSD := fun D ρ => ∃ I : Nat → DEnv → Prop, (∃ m, I m ρ) ∧ ∀ m ρ, I m ρ → c D.ex ρ fun ρ1 b =>
  if b = true then t { D with nx := fun ρ' => ∃ m', m' < m ∧ I m' ρ', ct := fun ρ' => ∃ m', m' < m ∧ I m' ρ', bk := D.nx } ρ1 else D.nx ρ1
theorem ds_while {c : Expr} {tc : TTD} {body : List Stmt} (hp : PassesOwn (model X.prog X.w) X.A X.env X.xe) (hc : DT Γ X W c tc) (hb : DSs Γ X W body t) : DS Γ X W (.While c body [] pos) (sWhile tc t) :=
  let ⟨_, p, q⟩ := hc.run; let ⟨_, p1, q1⟩ := hb.run
  ⟨_, ps_while hp p p1, fun S H σ ρ F D Dh o l w x => by
    obtain ⟨I, ⟨m0, h0⟩, step⟩ := x
    refine ⟨fun m σ H => ∃ S ρ, StOk Γ S H σ ρ F ∧ I m ρ, ⟨m0, S, ρ, o, h0⟩, fun m σ H hw => ?_⟩
    obtain ⟨S, ρ, o, hi⟩ := hw
    refine q S H σ ρ F D.ex _ _ o w (step m ρ hi) fun b S' H' ρ' o' x' => ?_
    cases b with
    | true =>
      refine ⟨fun σ H => ∃ S ρ, StOk Γ S H σ ρ F ∧ ∃ m', m' < m ∧ I m' ρ, fun σ H ⟨S, ρ, o, m', h1, h2⟩ => ⟨m', h1, S, ρ, o, h2⟩, ?_⟩
      exact q1 S' H' σ ρ' F { D with nx := fun ρ' => ∃ m', m' < m ∧ I m' ρ', ct := fun ρ' => ∃ m', m' < m ∧ I m' ρ', bk := D.nx } _ o' ⟨fun S H σ ρ o z => ⟨S, ρ, o, z⟩, l.rt, fun S H σ ρ o z => l.nx S H σ ρ o z, fun S H σ ρ o z => ⟨S, ρ, o, z⟩⟩ w x'
    | false => exact l.nx S' H' σ ρ' o' x'⟩
end
end Sw

/-! The data layer, 7: what is walked; for; displays; comprehensions. -/
namespace Sw
open PySem L2
structure Wlk (Γ : Gm) (J : It) (items : List Dat) (F' : Fx) : Prop where
  go : ∀ S H σ ρ G i, StOk Γ S H σ ρ (F' ++ G) → i < items.length → J.go i H
  yld : ∀ S H σ ρ G i x H' d, StOk Γ S H σ ρ (F' ++ G) → J.yld i H x H' → items[i]? = some d → ∃ S', StOk Γ S' H' σ ρ ((some x, some (.v 0 d)) :: (F' ++ G))
  stop : ∀ S H σ ρ G, StOk Γ S H σ ρ (F' ++ G) → J.stop items.length H
abbrev TID := DEx → DEnv → (DEnv → List Dat → Prop) → Prop
def RunI (Γ : Gm) (W : WX) (wi : TI) (t : TID) : Prop := ∀ S H σ ρ F E Q R, StOk Γ S H σ ρ F → LW Γ F E W → t E ρ Q →
  (∀ J H' S' ρ' items F', StOk Γ S' H' σ ρ' (F' ++ F) → Wlk Γ J items F' → Q ρ' items → R J H') → wi σ H R
structure DI (Γ : Gm) (X : Cx) (W : WX) (tg iter : Expr) (t : TID) : Prop where
  run : ∃ wi, PI X tg iter wi ∧ RunI Γ W wi t
section
variable {Γ : Gm} {X : Cx} {W : WX} {tg e a b : Expr} {st : Stmt} {sts : List Stmt} {es : List Expr} {pos : Pos} {ta tb : TPD}
/-- a list or a tuple -/
def iSeq (K : PySem.W.Frag) (tl : TE) : TI := fun σ H R => tl σ H fun x H1 => ∃ a, x = .ref a ∧ (((∃ xs, SqL K H1 a xs) ∧ R (Itl K a) H1) ∨ ((∃ xs, SqT K H1 a xs) ∧ R (Itt K a) H1))
theorem pi_seq {l : Expr} {tl : TE} (hl : PE X l tl) : PI X tg l (iSeq X.K tl) := by
  refine ⟨fun pins s σ H R I h => thn (hl.run pins s σ H _ I h) fun v s1 hh => ?_⟩
  obtain ⟨x, H1, I1, r1, a, e, q1⟩ := hh
  subst e
  cases r1
  have fr : ∀ b ∈ [s1.heap.objs.size], s1.heap.objs.size ≤ b ∧ H1 b = none := fun b hb => by
    rw [List.mem_singleton.mp hb]; exact ⟨Nat.le_refl _, I1.hok.fresh (Nat.le_refl _)⟩
  rcases q1 with ⟨⟨xs, hq⟩, q⟩ | ⟨⟨xs, hq⟩, q⟩
  · obtain ⟨its, rv, pl, _⟩ := I1.list hq
    exact wpAny_pyIter_list pl.isList ⟨_, [s1.heap.objs.size], _, _, H1, rfl, I1.kept (t' := s1.toks) fun b o e => Heap.get?_push_of_some _ e, turn_list a _, ⟨_, Heap.get?_push_size _ rfl, rfl, rfl⟩, fun b hb => I1.fpOk (fr b hb).1 (fr b hb).2, q⟩
  · obtain ⟨its, rv, pl, _⟩ := I1.tuple hq
    exact wpAny_pyIter_tuple (show s1.heap.IsTuple a its.toArray from pl) ⟨_, [s1.heap.objs.size], _, _, H1, rfl, I1.kept (t' := s1.toks) fun b o e => Heap.get?_push_of_some _ e, turn_tuple a _, ⟨_, Heap.get?_push_size _ rfl, rfl, rfl⟩, fun b hb => I1.fpOk (fr b hb).1 (fr b hb).2, q⟩
theorem wlk_list {K : PySem.W.Frag} {a : Addr} {ds : List Dat} : Wlk Γ (Itl Γ.K a) ds [(some (.ref a), some (.v 0 (.lst ds)))] := by
  have get : ∀ S H σ ρ G, StOk Γ S H σ ρ ([(some (V.ref a), some (Sl.v 0 (.lst ds)))] ++ G) → ∃ vs, S a = some (.lst vs) ∧ IsL Γ.T Γ.K S vs ds ∧ Ex S H := fun S H σ ρ G o => by
    have is := (o.ok.perm (L' := (some (.ref a), some (.v 0 (.lst ds))) :: (σ.zip ρ ++ G)) List.perm_middle).is0
    cases is with
    | lst h l => exact ⟨_, h, l, o.ok.ex⟩
  refine ⟨fun S H σ ρ G i o hi => ?_, fun S H σ ρ G i x H' d o y hd => ?_, fun S H σ ρ G o => ?_⟩
  · obtain ⟨vs, h, l, e⟩ := get S H σ ρ G o
    have hv : i < vs.length := by rw [l.len]; exact hi
    exact ⟨vs, vs[i], .of (e _ _ h), List.getElem?_eq_getElem hv⟩
  · obtain ⟨vs, h, l, e⟩ := get S H σ ρ G o
    obtain ⟨rfl, y⟩ := y
    obtain ⟨v, hv, is⟩ := l.get hd
    have z := y vs (.of (e _ _ h))
    rw [hv] at z
    cases z
    exact ⟨S, o.pushS is⟩
  · obtain ⟨vs, h, l, e⟩ := get S H σ ρ G o
    exact ⟨vs, .of (e _ _ h), Nat.le_of_eq l.len⟩
theorem wlk_tup {a : Addr} {vs0 : List V} {ds : List Dat} : Wlk Γ (Itt Γ.K a) ds [(some (.ref a), some (.v 0 (.tup ds)))] := by
  have get : ∀ S H σ ρ G, StOk Γ S H σ ρ ([(some (V.ref a), some (Sl.v 0 (.tup ds)))] ++ G) → ∃ vs, SqT Γ.K H a vs ∧ IsL Γ.T Γ.K S vs ds := fun S H σ ρ G o => by
    have is := (o.ok.perm (L' := (some (.ref a), some (.v 0 (.tup ds))) :: (σ.zip ρ ++ G)) List.perm_middle).is0
    cases is with
    | tup h l => exact ⟨_, o.ok.ex.stp h, l⟩
  refine ⟨fun S H σ ρ G i o hi => ?_, fun S H σ ρ G i x H' d o y hd => ?_, fun S H σ ρ G o => ?_⟩
  · obtain ⟨vs, h, l⟩ := get S H σ ρ G o
    have hv : i < vs.length := by rw [l.len]; exact hi
    exact ⟨vs, vs[i], h, List.getElem?_eq_getElem hv⟩
  · obtain ⟨vs, h, l⟩ := get S H σ ρ G o
    obtain ⟨rfl, y⟩ := y
    obtain ⟨v, hv, is⟩ := l.get hd
    have z := y vs h
    rw [hv] at z
    cases z
    exact ⟨S, o.pushS is⟩
  · obtain ⟨vs, h, l⟩ := get S H σ ρ G o
    exact ⟨vs, h, Nat.le_of_eq l.len⟩
def idSeq (ta : TPD) : TID := fun E ρ Q => ta E ρ fun ρ1 p => stillP ρ1 p fun ρ2 p2 => match p2 with
  | .t (.v 0 (.lst ds)) => Q ρ2 ds
  | .t (.v 0 (.tup ds)) => Q ρ2 ds
  | _ => False
theorem di_seq (h : DP Γ X W e ta) (hK : Γ.K = X.K := by rfl) : DI Γ X W tg e (idSeq ta) :=
  let ⟨te, p, q⟩ := h.run
  ⟨_, pi_seq p, fun S H σ ρ F E Q R o l x k => by
    refine q S H σ ρ F E _ _ o l x fun v S' H' ρ' pl hp o' x' => ?_
    obtain ⟨S2, ρ2, d, o2, x2⟩ := still_ok o' hp x'
    have is := (o2.ok.perm (L' := (some v, some (.v 0 d)) :: (σ.zip ρ2 ++ F)) List.perm_middle).is0
    rw [← hK]
    cases is with
    | lst h1 l1 => exact ⟨_, rfl, .inl ⟨⟨_, .of (o2.ok.ex _ _ h1)⟩, k _ H' S2 ρ2 _ [_] o2 (wlk_list (K := Γ.K)) x2⟩⟩
    | tup h1 l1 => exact ⟨_, rfl, .inr ⟨⟨_, o2.ok.ex.stp h1⟩, k _ H' S2 ρ2 _ [_] o2 (wlk_tup (vs0 := [])) x2⟩⟩
    | _ => exact x2.elim⟩
/-! ### range -/
def rng (lo hi : Int) : List Dat := (List.range (hi - lo).toNat).map fun k => Dat.int (lo + (k : Nat))
theorem wlk_rng {lo : Int} {n : Nat} : Wlk Γ (Itr lo n) ((List.range n).map fun k => Dat.int (lo + (k : Nat))) [] := by
  refine ⟨fun S H σ ρ G i o hi => ?_, fun S H σ ρ G i x H' d o y hd => ?_, fun S H σ ρ G o => ?_⟩
  · show i < n
    simpa using hi
  · obtain ⟨rfl, rfl⟩ := y
    rw [List.getElem?_map] at hd
    cases e : (List.range n)[i]? with
    | none => rw [e] at hd; cases hd
    | some j =>
      rw [e] at hd
      have hj : j = i := by
        obtain ⟨h1, h2⟩ := List.getElem?_eq_some_iff.mp e
        rw [← h2]; simp
      subst hj
      cases hd
      exact ⟨S, o.pushS .int⟩
  · show n ≤ _
    simp
def idRng1 (ta : TAD) : TID := fun E ρ Q => ta E ρ fun ρ1 ps => match datL ρ1 ps with
  | some [.int n] => (-(2 ^ 62) ≤ n ∧ n < 2 ^ 62) ∧ Q ρ1 (rng 0 n)
  | _ => False
def idRng2 (ta : TAD) : TID := fun E ρ Q => ta E ρ fun ρ1 ps => match datL ρ1 ps with
  | some [.int a, .int b] => (-(2 ^ 62) ≤ a ∧ a < 2 ^ 62 ∧ -(2 ^ 62) ≤ b ∧ b < 2 ^ 62) ∧ Q ρ1 (rng a b)
  | _ => False
theorem di_rng1 {u : TAD} {p : Pos} (hg : Gl X "range") (hm : X.mg "range" = none) (ha : DA Γ X W [a] u) (hs : starEach [a] X.env = [(false, eval a X.env)] := by rfl) : DI Γ X W tg (.Call (.Name "range" p) [a] [] pos) (idRng1 u) :=
  let ⟨_, p1, q⟩ := ha.run
  ⟨_, pi_range1 hg hm p1 hs, fun S H σ ρ F E Q R o l x k => q S H σ ρ F E _ _ o l x fun vs S' H' ρ' ps hp o' x' => by
    split at x'
    · rename_i n ed
      obtain ⟨v, rfl, h⟩ := rb1 (rbL_of hp o' (List.sublist_append_left _ _) ed)
      refine ⟨n, by rw [h.int], x'.1.1, x'.1.2, ?_⟩
      have e := x'.2
      unfold rng at e
      rw [Int.sub_zero] at e
      exact k _ H' S' ρ' _ [] (o'.sub (List.sublist_append_right _ _)) wlk_rng e
    · exact x'.elim⟩
theorem di_rng2 {u : TAD} {p : Pos} (hg : Gl X "range") (hm : X.mg "range" = none) (ha : DA Γ X W [a, b] u) (hs : starEach [a, b] X.env = [(false, eval a X.env), (false, eval b X.env)] := by rfl) (hs2 : starEach [b] X.env = [(false, eval b X.env)] := by rfl) :
    DI Γ X W tg (.Call (.Name "range" p) [a, b] [] pos) (idRng2 u) :=
  let ⟨_, p1, q⟩ := ha.run
  ⟨_, pi_range2 hg hm p1 hs hs2, fun S H σ ρ F E Q R o l x k => q S H σ ρ F E _ _ o l x fun vs S' H' ρ' ps hp o' x' => by
    split at x'
    · rename_i n m ed
      obtain ⟨v, w, rfl, h, h2⟩ := rb2 (rbL_of hp o' (List.sublist_append_left _ _) ed)
      refine ⟨n, m, by rw [h.int, h2.int], x'.1, ?_⟩
      exact k _ H' S' ρ' _ [] (o'.sub (List.sublist_append_right _ _)) wlk_rng x'.2
    · exact x'.elim⟩
/-! ### for -/
def sFor (t : TID) (g : TGD) (u : TSD) : TSD := fun D ρ => t D.ex ρ fun ρ1 items => ∃ I : Nat → DEnv → Prop, I 0 ρ1 ∧
  (∀ i d ρ2, items[i]? = some d → I i ρ2 → g (.v 0 d) ρ2 fun ρ3 => u { D with nx := I (i + 1), ct := I (i + 1), bk := D.nx } ρ3) ∧ ∀ ρ2, I items.length ρ2 → D.nx ρ2
theorem ds_for {iter : Expr} {body : List Stmt} {t : TID} {g : TGD} {u : TSD} (hp : PassesOwn (model X.prog X.w) X.A X.env X.xe) (hc : X.calm = true) (hi : DI Γ X W tg iter t) (hg : DG Γ X tg g) (hb : DSs Γ X W body u)
    (hs : ∀ x, foldedSetIterable iter X.env x = pure x := by intro _; rfl) : DS Γ X W (.For tg iter body [] pos) (sFor t g u) :=
  let ⟨_, p, q⟩ := hi.run; let ⟨_, p1, q1⟩ := hg.run; let ⟨_, p2, q2⟩ := hb.run
  ⟨_, ps_for hp hc p p1 p2 hs, fun S H σ ρ F D Dh o l w x => by
    refine q S H σ ρ F D.ex _ _ o w x fun J H' S' ρ' items F' o' wk x' => ?_
    obtain ⟨I, h0, step, fin⟩ := x'
    refine ⟨fun i m σ H => m = items.length - i ∧ i ≤ items.length ∧ ∃ S ρ, StOk Γ S H σ ρ (F' ++ F) ∧ I i ρ, ⟨items.length, by simp, Nat.zero_le _, S', ρ', o', h0⟩, fun i m σ H hw => ?_⟩
    obtain ⟨rfl, hi, S, ρ, o, hI⟩ := hw
    by_cases hlt : i < items.length
    · refine .inr ⟨wk.go S H σ ρ F i o hlt, fun σ H => ∃ S ρ, StOk Γ S H σ ρ (F' ++ F) ∧ I (i + 1) ρ, fun σ H ⟨S, ρ, o, h⟩ => ⟨items.length - (i + 1), by omega, rfl, hlt, S, ρ, o, h⟩, fun v H2 y => ?_⟩
      have hd := List.getElem?_eq_getElem hlt
      obtain ⟨S2, o2⟩ := wk.yld S H σ ρ F i v H2 _ o y hd
      refine q1 S2 H2 σ ρ (F' ++ F) v _ _ _ o2 (step i _ ρ hd hI) fun S3 H3 σ3 ρ3 o3 x3 => ?_
      have l' := l.more F'
      exact q2 S3 H3 σ3 ρ3 (F' ++ F) { D with nx := I (i + 1), ct := I (i + 1), bk := D.nx } _ o3 ⟨fun S H σ ρ o z => ⟨S, ρ, o, z⟩, l'.rt, l'.nx, fun S H σ ρ o z => ⟨S, ρ, o, z⟩⟩ (w.more F') x3
    · have e : i = items.length := by omega
      subst e
      exact .inl ⟨wk.stop S H σ ρ F o, (l.more F').nx S H σ ρ o (fin ρ hI)⟩⟩
end
end Sw

/-! The data layer, 8: displays, attributes, calls. -/
namespace Sw
open PySem L2
section
variable {Γ : Gm} {X : Cx} {W : WX} {e o a b : Expr} {es : List Expr} {pos : Pos} {ta tb : TPD} {u : TAD}
theorem dp_take (h : DP Γ X W e ta) : DP Γ X W e (pTake ta) :=
  let ⟨_, p, q⟩ := h.run
  ⟨_, p, fun S H σ ρ F E Q Qh o l x k => q S H σ ρ F E _ _ o l x fun v S' H' ρ' pl hp o' x' => by
    obtain ⟨S2, ρ2, sl, o2, x2⟩ := take_ok o' hp x'
    exact k v S2 H' ρ2 (.t sl) trivial o2 x2⟩
theorem dp_still (h : DP Γ X W e ta) : DP Γ X W e (pStill ta) :=
  let ⟨_, p, q⟩ := h.run
  ⟨_, p, fun S H σ ρ F E Q Qh o l x k => q S H σ ρ F E _ _ o l x fun v S' H' ρ' pl hp o' x' => by
    obtain ⟨S2, ρ2, d, o2, x2⟩ := still_ok o' hp x'
    exact k v S2 H' ρ2 (.t (.v 0 d)) trivial o2 x2⟩
/-! ### displays -/
/-- values on the way, all of them still -/
def stL : List Pl → Option (List Dat)
  | [] => some []
  | .t (.v 0 d) :: ps => match stL ps with
    | some ds => some (d :: ds)
    | none => none
  | _ => none
theorem StOk.isE {S H : Hp} {σ : L2.St} {ρ : DEnv} {F : Fx} {v : V} {d : Dat} (o : StOk Γ S H σ ρ F) (m : (some v, some (Sl.v 0 d)) ∈ F) : Is Γ.T Γ.K S v d := by
  obtain ⟨A, B, e⟩ := List.append_of_mem m
  rw [e] at o
  have o2 := o.ok.perm (L' := (some v, some (.v 0 d)) :: (σ.zip ρ ++ A ++ B)) (by
    rw [← List.append_assoc]; exact List.perm_middle)
  exact o2.is0
theorem stL_of {S H : Hp} {σ : L2.St} {ρ : DEnv} {F : Fx} (o : StOk Γ S H σ ρ F) : ∀ {ps vs ds}, Ats σ vs ps → (tmps vs ps).Sublist F → stL ps = some ds → IsL Γ.T Γ.K S vs ds
  | [], _, _, .nil, _, e => by cases e; exact .nil
  | p :: ps, _, _, .cons (v := v) h r, s, e => by
    cases p with
    | s i => cases e
    | t sl =>
      cases sl with
      | b d => cases e
      | v k d =>
        cases k with
        | succ k => cases e
        | zero =>
          have e' : (match stL ps with | some ds => some (d :: ds) | none => none) = some _ := e
          split at e'
          · rename_i ds' e2
            cases e'
            exact .cons (o.isE (s.subset (List.mem_append_right _ (List.mem_singleton.mpr rfl)))) (stL_of o r ((List.sublist_append_left _ _).trans s) e2)
          · cases e'
def pTup (u : TAD) : TPD := fun E ρ Q => u E ρ fun ρ1 ps => match stL ps with
  | some ds => ds.length ≤ 16777216 ∧ Q ρ1 (.t (.v 0 (.tup ds)))
  | none => False
def pLst (u : TAD) : TPD := fun E ρ Q => u E ρ fun ρ1 ps => match stL ps with
  | some ds => ds.length ≤ 16777216 ∧ Q ρ1 (.t (.v 1 (.lst ds)))
  | none => False
theorem dp_tup {x1} (h : DA Γ X W es u) : DP Γ X W (.Tuple es x1 pos) (pTup u) :=
  let ⟨_, p, q⟩ := h.run
  ⟨_, pe_tup p, fun S H σ ρ F E Q Qh o l x k => q S H σ ρ F E _ _ o l x fun vs S' H' ρ' ps hp o' x' => by
    split at x'
    · rename_i ds ed
      have il := stL_of o' hp (List.sublist_append_left _ _) ed
      refine ⟨sz (by rw [il.len]; exact x'.1), fun z n => ?_⟩
      exact k _ _ _ ρ' (.t (.v 0 (.tup ds))) trivial (((o'.sub (List.sublist_append_right _ _)).step (Stp.new o'.ok.ex n)).pushS (.tup (.of upd_same) (il.mono (Stp.new (o := .tup vs) o'.ok.ex n).s))) x'.2
    · exact x'.elim⟩
theorem dp_lst (h : DA Γ X W es u) : DP Γ X W (.List es pos) (pLst u) :=
  let ⟨_, p, q⟩ := h.run
  ⟨_, pe_lst p, fun S H σ ρ F E Q Qh o l x k => q S H σ ρ F E _ _ o l x fun vs S' H' ρ' ps hp o' x' => by
    split at x'
    · rename_i ds ed
      have il := stL_of o' hp (List.sublist_append_left _ _) ed
      refine ⟨sz (by rw [il.len]; exact x'.1), fun z n => ?_⟩
      exact k _ _ _ ρ' (.t (.v 1 (.lst ds))) trivial ((o'.sub (List.sublist_append_right _ _)).push (Stp.newOwn o'.ok.ex n) (.l upd_same (o'.ok.ex.none n) (.of0 il)) (by simp) fun b hb => by rw [List.mem_singleton.mp hb]; exact n) x'.2
    · exact x'.elim⟩
/-! ### attributes -/
theorem zip_look {f : Str} {v : V} : ∀ {fs : List Str} {vs : List V} {i : Nat}, fs.Nodup → fs[i]? = some f → vs[i]? = some v → (fs.zip vs).lookup f = some v
  | [], _, _, _, h, _ => by simp at h
  | _ :: _, [], _, _, _, h => by simp at h
  | g :: fs, w :: vs, 0, _, h1, h2 => by
    have e1 : g = f := by simpa using h1
    have e2 : w = v := by simpa using h2
    subst e1 e2
    simp [List.lookup]
  | g :: fs, w :: vs, i + 1, n, h1, h2 => by
    have h1' : fs[i]? = some f := by simpa using h1
    have ne : (f == g) = false := by
      rw [beq_eq_false_iff_ne]
      rintro rfl
      exact (List.nodup_cons.mp n).1 (List.mem_of_getElem? h1')
    show List.lookup f ((g, w) :: fs.zip vs) = some v
    rw [List.lookup_cons, ne]
    exact zip_look (List.nodup_cons.mp n).2 h1' (by simpa using h2)
/-- what is known of an attribute: c's i-th -/
structure FldOk (T : Tb) (K : PySem.W.Frag) (c i : Nat) (f : Str) : Prop where
  cl : Cls K (T c).C
  na : NoAttr K (T c).C f
  ix : (T c).fs[i]? = some f
  nd : (T c).fs.Nodup
def pFld (c i : Nat) (ta : TPD) : TPD := fun E ρ Q => ta E ρ fun ρ1 p => match p.d ρ1 with
  | some (.obj k ds) => k = c ∧ (match ds[i]? with
    | some d => Q ρ1 (.t (.v 0 d))
    | none => False)
  | _ => False
theorem dp_fld {f : Str} {c i : Nat} (k : FldOk Γ.T Γ.K c i f) (h : DP Γ X W e ta) (hb : attributeBase e f X.env (eval e X.env) = eval e X.env := by rfl) (hK : Γ.K = X.K := by rfl) : DP Γ X W (.Attribute e f pos) (pFld c i ta) :=
  let ⟨_, p, q⟩ := h.run
  ⟨_, pe_fld p hb, fun S H σ ρ F E Q Qh o l x kk => q S H σ ρ F E _ _ o l x fun v S' H' ρ' pl hp o' x' => by
    split at x'
    · rename_i c' ds ed
      obtain ⟨rfl, x'⟩ := x'
      split at x'
      · rename_i d hd
        obtain ⟨a, dx, vs, rfl, h1, h2, l1⟩ := (o'.rb hp (List.sublist_append_left _ _) ed).obj o'.ok.ex
        obtain ⟨w, hw, is⟩ := l1.get hd
        exact ⟨a, _, dx, _, w, rfl, h1, hK ▸ k.cl, hK ▸ k.na, zip_look k.nd k.ix hw, kk w S' H' ρ' (.t (.v 0 d)) trivial (o'.dropP.pushS is) x'⟩
      · exact x'.elim
    · exact x'.elim⟩
/-! ### what a def does, by data -/
abbrev DSp := List Dat → (Nat → Dat → Prop) → (Exn → Prop) → Prop
inductive ArgsOk (Γ : Gm) (S H : Hp) : List Bool → List V → List Dat → Prop
  | nil : ArgsOk Γ S H [] [] []
  | still {ms v d vs ds} : Is Γ.T Γ.K S v d → ArgsOk Γ S H ms vs ds → ArgsOk Γ S H (true :: ms) (v :: vs) (d :: ds)
  | read {ms v d vs ds} : Rb Γ S H v d → ArgsOk Γ S H ms vs ds → ArgsOk Γ S H (false :: ms) (v :: vs) (d :: ds)
def PostE (Γ : Gm) (S H : Hp) (E1 : Exn → Prop) (E : XK) : Prop := ∀ S' H' x cls dd, Stp S H S' H' → ExAt Γ S' H' cls dd x → E1 x → E cls dd H'
def lift (Γ : Gm) (ms : List Bool) (dsp : DSp) : Sp := fun vs H Q E => ∃ S ds Q1 E1, Ex S H ∧ ArgsOk Γ S H ms vs ds ∧ dsp ds Q1 E1 ∧ Post Γ S H Q1 Q ∧ PostE Γ S H E1 E
/-- the context of a def that was entered at S, H -/
def Gm.in_ (Γ : Gm) (S H : Hp) : Gm := { Γ with S0 := S, H0 := H, me := none }
theorem ArgsOk.len {S H : Hp} : ∀ {ms vs ds}, ArgsOk Γ S H ms vs ds → vs.length = ms.length ∧ ds.length = ms.length
  | _, _, _, .nil => ⟨rfl, rfl⟩
  | _, _, _, .still _ r => ⟨by simp [r.len.1], by simp [r.len.2]⟩
  | _, _, _, .read _ r => ⟨by simp [r.len.1], by simp [r.len.2]⟩
/-- the arguments' data: true: still, false: read alone -/
def argL (ρ : DEnv) : List Bool → List Pl → Option (List Dat)
  | [], [] => some []
  | true :: ms, p :: ps => match p.sl ρ, argL ρ ms ps with
    | some (.v 0 d), some ds => some (d :: ds)
    | _, _ => none
  | false :: ms, p :: ps => match p.d ρ, argL ρ ms ps with
    | some d, some ds => some (d :: ds)
    | _, _ => none
  | _, _ => none
theorem StOk.isP {S H : Hp} {σ : L2.St} {ρ : DEnv} {F : Fx} {p : Pl} {v : V} {d : Dat} (o : StOk Γ S H σ ρ F) (ha : p.at_ σ v) (hs : (p.tmp v).Sublist F) (h : p.sl ρ = some (.v 0 d)) : Is Γ.T Γ.K S v d := by
  cases p with
  | s i =>
    obtain ⟨A, B, e1, _⟩ := zip_at (show σ[i]? = some (some v) from ha) (slot_at h)
    have o1 := o.ok
    rw [e1, List.append_assoc, List.cons_append] at o1
    exact (o1.perm List.perm_middle).is0
  | t sl =>
    have h : sl = .v 0 d := Option.some.inj h
    subst h
    exact o.isE (hs.subset (List.mem_singleton.mpr rfl))
theorem argL_of {S H : Hp} {σ : L2.St} {ρ : DEnv} {F : Fx} (o : StOk Γ S H σ ρ F) : ∀ {ms ps vs ds}, Ats σ vs ps → (tmps vs ps).Sublist F → argL ρ ms ps = some ds → ArgsOk Γ S H ms vs ds
  | [], [], _, _, .nil, _, e => by cases e; exact .nil
  | [], _ :: _, _, _, _, _, e => by cases e
  | true :: ms, [], _, _, _, _, e => by cases e
  | false :: ms, [], _, _, _, _, e => by cases e
  | true :: ms, p :: ps, _, _, .cons h r, s, e => by
    unfold argL at e
    split at e
    · rename_i d ds e1 e2
      cases e
      exact .still (o.isP h ((List.sublist_append_right _ _).trans s) e1) (argL_of o r ((List.sublist_append_left _ _).trans s) e2)
    · cases e
  | false :: ms, p :: ps, _, _, .cons h r, s, e => by
    unfold argL at e
    split at e
    · rename_i d ds e1 e2
      cases e
      exact .read (o.rb h ((List.sublist_append_right _ _).trans s) e1) (argL_of o r ((List.sublist_append_left _ _).trans s) e2)
    · cases e
def pFn (ms : List Bool) (dsp : DSp) (ex : List Dat) (u : TAD) : TPD := fun E ρ Q => u E ρ fun ρ1 ps => match argL ρ1 ms ps with
  | some ds => dsp (ds ++ ex) (fun k d => Q ρ1 (.t (.v k d))) fun x => E x ρ1
  | none => False
/-- what stands behind the top -/
structure Wd where
  P : Program
  w : World
  K : PySem.W.Frag
  mg : Str → Option Value
  base : Heap
abbrev wd (X : Cx) : Wd := ⟨X.prog, X.w, X.K, X.mg, X.base⟩
/-- a def of the module, its promise -/
structure FnG (M : Wd) (Γ : Gm) (name : Str) (k : Nat) (ps : List Str) (ex : List (V × Dat)) (ms : List Bool) (dsp : DSp) : Prop where
  ok : ∃ f fd ds, M.mg name = some (.ref f) ∧ PySem.W.keepIn M.K (.ref f) = true ∧ Binds M.K fd ps ds ∧ Vals (ex.map (·.1)) ds ∧ FnOk M.P M.w M.K M.mg M.base (L2.CX M.P M.w) k f fd ps (lift Γ ms dsp)
  sc : ∀ x ∈ ex, ∀ S, Is Γ.T Γ.K S x.1 x.2
theorem ArgsOk.more {S H : Hp} {ex : List (V × Dat)} (h : ∀ x ∈ ex, ∀ S, Is Γ.T Γ.K S x.1 x.2) : ∀ {ms vs ds}, ArgsOk Γ S H ms vs ds → ArgsOk Γ S H (ms ++ ex.map fun _ => true) (vs ++ ex.map (·.1)) (ds ++ ex.map (·.2))
  | _, _, _, .nil => by
    induction ex with
    | nil => exact .nil
    | cons x r ih => exact .still (h x (List.mem_cons_self ..) S) (ih fun y hy => h y (List.mem_cons_of_mem _ hy))
  | _, _, _, .still g r => .still g (r.more h)
  | _, _, _, .read g r => .read g (r.more h)
theorem lift_in {Γ Γ' : Gm} (hT : Γ'.T = Γ.T) (hX : Γ'.X = Γ.X) (hK : Γ'.K = Γ.K) (ms : List Bool) (dsp : DSp) : lift Γ' ms dsp = lift Γ ms dsp := by
  obtain ⟨T, X, K, a, b, c⟩ := Γ
  obtain ⟨T', X', K', a', b', c'⟩ := Γ'
  simp only at hT hX hK
  subst hT hX hK
  have h1 : ∀ S H ms vs ds, ArgsOk ⟨T', X', K', a', b', c'⟩ S H ms vs ds ↔ ArgsOk ⟨T', X', K', a, b, c⟩ S H ms vs ds := fun S H ms vs ds => by
    constructor
    all_goals
      intro h
      induction h with
      | nil => exact .nil
      | still g _ ih => exact .still g ih
      | read g _ ih => exact .read g ih
  funext vs H Q E
  unfold lift
  simp only [h1]
  rfl
theorem dp_call {Γ' : Gm} {x : Str} {k : Nat} {ps : List Str} {ms ms1 : List Bool} {ex : List (V × Dat)} {exd : List Dat} {dsp : DSp} {p : Pos} (c : FnG (wd X) Γ' x k ps ex ms dsp) (hr : Room k X.A) (tk : Takes X W) (hg : Gl X x) (ha : DA Γ X W (e :: es) u)
    (hn : ms = ms1 ++ ex.map fun _ => true) (hx : exd = ex.map (·.2) := by rfl) (hT : Γ'.T = Γ.T := by rfl) (hX : Γ'.X = Γ.X := by rfl) (hK : Γ'.K = Γ.K := by rfl)
    (hdb : (x == ("__debug__" : Str)) = false := by decide) (he : starEach (e :: es) X.env = (false, eval e X.env) :: starEach es X.env := by rfl) (hpl : (backTo pos (starEach es X.env)).any (·.1) = false := by rfl) :
    DP Γ X W (.Call (.Name x p) (e :: es) [] pos) (pFn ms1 dsp exd u) := by
  subst hx
  obtain ⟨f, fd, ds0, hm, hk, hb, hd, F⟩ := c.ok
  obtain ⟨te, p1, q⟩ := ha.run
  rw [lift_in hT hX hK] at F
  have sc := c.sc
  rw [hT, hK] at sc
  refine ⟨_, pe_callSD F hr hg hm hk hb hd (fun σ => passAt tk σ) p1 hdb he hpl, fun S H σ ρ F E Q Qh o l x kk => ?_⟩
  refine q S H σ ρ F E _ _ o l x fun vs S' H' ρ' ps hp o' x' => ?_
  split at x'
  · rename_i ds ed
    have o2 := o'.sub (F' := F) (List.sublist_append_right _ _)
    have a1 := argL_of o' hp (List.sublist_append_left _ _) ed
    have a2 := a1.more sc
    rw [← hn] at a2
    refine ⟨S', _, _, _, o'.ok.ex, a2, x', fun S2 H2 k z dz f st ow nd nw qq => kk z S2 H2 ρ' (.t (.v k dz)) trivial (o2.push st ow nd nw) qq, fun S2 H2 y cls dd st ea ey => l S2 H2 σ ρ' y cls dd (o2.step st) ea ey⟩
  · exact x'.elim
end
end Sw

/-! The data layer, 9: methods, instances, properties; a def's promise from its body. -/
namespace Sw
open PySem L2
section
variable {X : Cx} {k : Nat} {f C : Addr} {fd : FuncData} {ps : List Str} {sp : Sp} {dvs : List V} {ds : List Value} {W : WX}
/-! ### by values, what is raised wished for at the caller's slots -/
theorem ran {CX : CXT} {R : CXT} {pins : List (Addr × Obj)} {σ : L2.St} {H : Hp} {s : Shared} {Q : VK} {E : XK} {r : Result} {s' : Shared}
    (hx : PassesAt CX X σ E) (I : Inv X pins σ H s) (hq : CR CX X.stack X.prog X.w H s Q E r s') :
    (match r with | .ok (.ret u) => EP X pins σ Q u s' | .error e => X.xe e s' | _ => False) := by
  cases r with
  | error e => exact hx pins H s e s' I hq
  | ok fl =>
    cases fl with
    | ret u => exact I.after hq
    | _ => exact False.elim hq
def tMethE (C : Addr) (m : Str) (sp : Sp) (dvs : List V) (W : WX) (ta : TE) (t : TA) : TE := fun σ H Q =>
  ta σ H fun x H1 => ∃ a dx fs, x = .ref a ∧ H1 a = some (.ins C dx fs) ∧ fs.lookup m = none ∧ t σ H1 fun vs H2 => sp (x :: (vs ++ dvs)) H2 Q (WE W σ)
variable {m x : Str} {o e : Expr} {es : List Expr} {pos apos p : Pos} {ta : TE} {t : TA} {pl : Sem Bool}
theorem pe_methE (he : PE X o ta) (c : Cls X.K C) (hm : Meth X.K C m f) (F : FnOk X.prog X.w X.K X.mg X.base (L2.CX X.prog X.w) k f fd ps sp) (hr : Room k X.A) (hb : Binds X.K fd ps ds) (hd : Vals dvs ds) (tk : Takes X W)
    (ha : PA X (e :: es) t) (hst : starEach (e :: es) X.env = (false, eval e X.env) :: starEach es X.env) (hpl : (backTo pos (starEach es X.env)).any (·.1) = false)
    (ht : eval (.Call (.Attribute o m apos) (e :: es) [] pos) X.env = (eval o X.env >>= fun ov => standAt apos.atName >>= fun _ => holding [ov] (getMethod ov m pl) >>= fun r =>
      callWith pos r.1 r.2 (backTo pos (starEach (e :: es) X.env)) (backToKw pos (keywordEach [] X.env)))) :
    PE X (.Call (.Attribute o m apos) (e :: es) [] pos) (tMethE C m sp dvs W ta t) := by
  refine ⟨fun pins s σ H Q I h => PySem.W.methodCall_KW (pl := pl) (thn (he.run pins s σ H _ I h) fun u s1 hh => ?_) ht⟩
  obtain ⟨x, H1, I1, rx, a, dx, fs, ex, ea, l, q⟩ := hh
  subst ex
  obtain rfl : u = Value.ref a := rx
  refine getmeth_ok I1 ea c hm l (PySem.W.callWith_K (first := [.ref a]) (h₀ := X.base) I.ok.mod.kin hm.kp (thn (ha.run pos pins s1 σ H1 _ I1 q) fun us s2 h2 => ?_) hst hpl)
  obtain ⟨vs, H2, I2, r, q2⟩ := h2
  have r2 : Vals (V.ref a :: (vs ++ dvs)) (Value.ref a :: (us ++ ds)) := .cons rfl (r.append hd)
  have hl : (Value.ref a :: us ++ ds).length = ps.length := by
    rw [show Value.ref a :: us ++ ds = Value.ref a :: (us ++ ds) from rfl, ← r2.length]
    exact F.len _ _ _ _ q2
  refine ⟨I2.kIn, wpAny_call (codeAny_mono (F.run X.A X.stack s2 H2 _ _ _ Q _ hr I2.env0 (hb s2 _ I2.kIn hl) r2 q2) fun r s' hq => ?_)⟩
  have z := ran (R := L2.CX X.prog X.w) (passAt tk σ) I2 hq
  split at z <;> first | exact z | exact z.elim
theorem pe_methE0 (he : PE X o ta) (c : Cls X.K C) (hm : Meth X.K C m f) (F : FnOk X.prog X.w X.K X.mg X.base (L2.CX X.prog X.w) k f fd ps sp) (hr : Room k X.A) (hb : Binds X.K fd ps ds) (hd : Vals dvs ds) (tk : Takes X W)
    (ht : eval (.Call (.Attribute o m apos) [] [] pos) X.env = (eval o X.env >>= fun ov => standAt apos.atName >>= fun _ => holding [ov] (getMethod ov m pl) >>= fun r =>
      callWith pos r.1 r.2 (backTo pos (starEach [] X.env)) (backToKw pos (keywordEach [] X.env)))) :
    PE X (.Call (.Attribute o m apos) [] [] pos) (tMethE C m sp dvs W ta tNil) := by
  refine ⟨fun pins s σ H Q I h => PySem.W.methodCall_KW (pl := pl) (thn (he.run pins s σ H _ I h) fun u s1 hh => ?_) ht⟩
  obtain ⟨x, H1, I1, rx, a, dx, fs, ex, ea, l, q⟩ := hh
  subst ex
  obtain rfl : u = Value.ref a := rx
  have r2 : Vals (V.ref a :: ([] ++ dvs)) (Value.ref a :: ([] ++ ds)) := .cons rfl hd
  have hl : ([Value.ref a] ++ ds).length = ps.length := by
    rw [show [Value.ref a] ++ ds = Value.ref a :: ([] ++ ds) from rfl, ← r2.length]
    exact F.len _ _ _ _ q
  refine getmeth_ok I1 ea c hm l (PySem.W.callWith_K0 (first := [.ref a]) I1.kIn hm.kp (wpAny_call (codeAny_mono (F.run X.A X.stack s1 H1 _ _ _ Q _ hr I1.env0 (hb s1 _ I1.kIn hl) r2 q) fun r s' hq => ?_)))
  have z := ran (R := L2.CX X.prog X.w) (passAt tk σ) I1 hq
  split at z <;> first | exact z | exact z.elim
/-- C(..) -/
def tMakeE (C : Addr) (sp : Sp) (dvs : List V) (W : WX) (t : TA) : TE := fun σ H Q => t σ H fun vs H1 => ∀ x dx, H1 x = none → H1 dx = none → dx ≠ x →
  sp (.ref x :: (vs ++ dvs)) (upd (upd H1 dx (.own x)) x (.ins C dx [])) (fun v H2 => v = .non ∧ Q (.ref x) H2) (WE W σ)
theorem pe_makeE (M : Mk X.K C f) (F : FnOk X.prog X.w X.K X.mg X.base (L2.CX X.prog X.w) k f fd ps sp) (hr : Room (k + 1) X.A) (hg : Gl X x) (hm : X.mg x = some (.ref C)) (hb : Binds X.K fd ps ds) (hd : Vals dvs ds) (tk : Takes X W)
    (ha : PA X (e :: es) t) (hdb : (x == ("__debug__" : Str)) = false) (he : starEach (e :: es) X.env = (false, eval e X.env) :: starEach es X.env) (hpl : (backTo pos (starEach es X.env)).any (·.1) = false) :
    PE X (.Call (.Name x p) (e :: es) [] pos) (tMakeE C sp dvs W t) := by
  refine ⟨fun pins s σ H Q I h => wpAny_Call_Name_kw (ld_glob I hg hm (PySem.W.callWith_K (h₀ := X.base) I.ok.mod.kin M.kp (thn (ha.run pos pins s σ H _ I h) fun us s1 hh => ?_) he hpl) hdb)⟩
  obtain ⟨vs, H1, I1, r, q⟩ := hh
  refine ⟨I1.kIn, ?_⟩
  have n1 : H1 (s1.heap.objs.size + 1) = none := I1.hok.fresh (Nat.le_succ _)
  have n2 : H1 s1.heap.objs.size = none := I1.hok.fresh (Nat.le_refl _)
  have hq := q _ _ n1 n2 (Nat.ne_of_lt (Nat.lt_succ_self _))
  have I2 := Inv.made (C := C) I1
  have r2 : Vals (V.ref (s1.heap.objs.size + 1) :: (vs ++ dvs)) (Value.ref (s1.heap.objs.size + 1) :: (us ++ ds)) := .cons rfl (r.append hd)
  have hl : (Value.ref (s1.heap.objs.size + 1) :: us ++ ds).length = ps.length := by
    rw [show Value.ref (s1.heap.objs.size + 1) :: us ++ ds = Value.ref (s1.heap.objs.size + 1) :: (us ++ ds) from rfl, ← r2.length]
    exact F.len _ _ _ _ hq
  refine wpAny_call (make_map (f := f) I1.kIn M.makes M.init (beq_iff_eq.mp M.fn) (codeAny_mono (F.run _ X.stack _ _ _ _ _ _ _ (hr.make C us []) (I2.env0.make C us []) (hb _ _ I2.kIn hl) r2 hq) fun r s' hq' => ?_))
  cases r with
  | error e => exact passAt tk σ pins _ _ e s' I2 hq'
  | ok fl =>
    cases fl with
    | ret u =>
      obtain ⟨v, H', I3, rv, ev, q3⟩ := I2.after hq'
      subst ev
      exact ⟨rv, V.ref (s1.heap.objs.size + 1), H', I3, rfl, q3⟩
    | _ => exact False.elim hq'
end
section
variable {Γ : Gm} {X : Cx} {W : WX} {e o a b : Expr} {es : List Expr} {pos apos p : Pos} {ta tb : TPD} {u : TAD}
/-- a method of the class c, its promise -/
structure MeG (M : Wd) (Γ : Gm) (c : Nat) (m : Str) (k : Nat) (ps : List Str) (ex : List (V × Dat)) (ms : List Bool) (dsp : DSp) : Prop where
  ok : ∃ f fd ds, Meth M.K (Γ.T c).C m f ∧ Binds M.K fd ps ds ∧ Vals (ex.map (·.1)) ds ∧ FnOk M.P M.w M.K M.mg M.base (L2.CX M.P M.w) k f fd ps (lift Γ ms dsp)
  sc : ∀ x ∈ ex, ∀ S, Is Γ.T Γ.K S x.1 x.2
  cl : Cls M.K (Γ.T c).C
  no : m ∉ (Γ.T c).fs
theorem zip_none {m : Str} : ∀ {fs : List Str} {vs : List V}, m ∉ fs → (fs.zip vs).lookup m = none
  | [], _, _ => rfl
  | _ :: _, [], _ => rfl
  | g :: fs, v :: vs, h => by
    have ne : (m == g) = false := by
      rw [beq_eq_false_iff_ne]
      rintro rfl
      exact h (List.mem_cons_self ..)
    show List.lookup m ((g, v) :: fs.zip vs) = none
    rw [List.lookup_cons, ne]
    exact zip_none fun z => h (List.mem_cons_of_mem _ z)
def pMe (c : Nat) (ms : List Bool) (dsp : DSp) (ex : List Dat) (ta : TPD) (u : TAD) : TPD := fun E ρ Q => ta E ρ fun ρ1 po => match po.d ρ1 with
  | some (.obj k _) => k = c ∧ u E ρ1 fun ρ2 ps => (match argL ρ2 ms (po :: ps) with
    | some ds => dsp (ds ++ ex) (fun k d => Q ρ2 (.t (.v k d))) fun x => E x ρ2
    | none => False)
  | _ => False
theorem dp_meth {Γ' : Gm} {c k : Nat} {m : Str} {ps : List Str} {ms ms1 : List Bool} {ex : List (V × Dat)} {exd : List Dat} {dsp : DSp} {pl : Sem Bool} (g : MeG (wd X) Γ' c m k ps ex ms dsp) (hr : Room k X.A) (tk : Takes X W) (ho : DP Γ X W o ta) (ha : DA Γ X W (e :: es) u)
    (hn : ms = ms1 ++ ex.map fun _ => true) (hx : exd = ex.map (·.2) := by rfl) (hT : Γ'.T = Γ.T := by rfl) (hX : Γ'.X = Γ.X := by rfl) (hK : Γ'.K = Γ.K := by rfl)
    (hst : starEach (e :: es) X.env = (false, eval e X.env) :: starEach es X.env := by rfl) (hpl : (backTo pos (starEach es X.env)).any (·.1) = false := by rfl)
    (ht : eval (.Call (.Attribute o m apos) (e :: es) [] pos) X.env = (eval o X.env >>= fun ov => standAt apos.atName >>= fun _ => holding [ov] (getMethod ov m pl) >>= fun r =>
      callWith pos r.1 r.2 (backTo pos (starEach (e :: es) X.env)) (backToKw pos (keywordEach [] X.env))) := by rfl) :
    DP Γ X W (.Call (.Attribute o m apos) (e :: es) [] pos) (pMe c ms1 dsp exd ta u) := by
  subst hx
  obtain ⟨f, fd, ds0, hm, hb, hd, F⟩ := g.ok
  obtain ⟨_, p1, q1⟩ := ho.run
  obtain ⟨_, p2, q2⟩ := ha.run
  rw [lift_in hT hX hK] at F
  have sc := g.sc
  have cl := g.cl
  have no := g.no
  rw [hT] at hm cl no
  rw [hT, hK] at sc
  refine ⟨_, pe_methE p1 cl hm F hr hb hd tk p2 hst hpl ht, fun S H σ ρ F E Q Qh o l x kk => q1 S H σ ρ F E _ _ o l x fun v S' H' ρ' po hp o' x' => ?_⟩
  split at x'
  · rename_i c' fsd ed
    obtain ⟨rfl, x'⟩ := x'
    obtain ⟨a, dx, vs0, rfl, h1, h2, l1⟩ := (o'.rb hp (List.sublist_append_left _ _) ed).obj o'.ok.ex
    refine ⟨a, dx, _, rfl, h1, zip_none no, q2 S' H' σ ρ' (po.tmp (.ref a) ++ F) E _ _ o' l.tmp x' fun vs S2 H2 ρ2 ps hps o2 x2 => ?_⟩
    have o2' : StOk Γ S2 H2 σ ρ2 (tmps (.ref a :: vs) (po :: ps) ++ F) := by
      show StOk Γ S2 H2 σ ρ2 ((tmps vs ps ++ po.tmp (.ref a)) ++ F)
      rw [List.append_assoc]; exact o2
    split at x2
    · rename_i ds ed2
      have o3 := o2'.sub (F' := F) (List.sublist_append_right _ _)
      have a2 := (argL_of o2' (.cons hp hps) (List.sublist_append_left _ _) ed2).more sc
      rw [← hn] at a2
      exact ⟨S2, _, _, _, o2'.ok.ex, a2, x2, fun S3 H3 k z dz f st ow nd nw qq => kk z S3 H3 ρ2 (.t (.v k dz)) trivial (o3.push st ow nd nw) qq, fun S3 H3 y cls dd st ea ey => l S3 H3 σ ρ2 y cls dd (o3.step st) ea ey⟩
    · exact x2.elim
  · exact x'.elim
theorem dp_meth0 {Γ' : Gm} {c k : Nat} {m : Str} {ps : List Str} {ms ms1 : List Bool} {ex : List (V × Dat)} {exd : List Dat} {dsp : DSp} {pl : Sem Bool} (g : MeG (wd X) Γ' c m k ps ex ms dsp) (hr : Room k X.A) (tk : Takes X W) (ho : DP Γ X W o ta)
    (hn : ms = ms1 ++ ex.map fun _ => true) (hx : exd = ex.map (·.2) := by rfl) (hT : Γ'.T = Γ.T := by rfl) (hX : Γ'.X = Γ.X := by rfl) (hK : Γ'.K = Γ.K := by rfl)
    (ht : eval (.Call (.Attribute o m apos) [] [] pos) X.env = (eval o X.env >>= fun ov => standAt apos.atName >>= fun _ => holding [ov] (getMethod ov m pl) >>= fun r =>
      callWith pos r.1 r.2 (backTo pos (starEach [] X.env)) (backToKw pos (keywordEach [] X.env))) := by rfl) :
    DP Γ X W (.Call (.Attribute o m apos) [] [] pos) (pMe c ms1 dsp exd ta aNil) := by
  subst hx
  obtain ⟨f, fd, ds0, hm, hb, hd, F⟩ := g.ok
  obtain ⟨_, p1, q1⟩ := ho.run
  rw [lift_in hT hX hK] at F
  have sc := g.sc
  have cl := g.cl
  have no := g.no
  rw [hT] at hm cl no
  rw [hT, hK] at sc
  refine ⟨_, pe_methE0 p1 cl hm F hr hb hd tk ht, fun S H σ ρ F E Q Qh o l x kk => q1 S H σ ρ F E _ _ o l x fun v S' H' ρ' po hp o' x' => ?_⟩
  split at x'
  · rename_i c' fsd ed
    obtain ⟨rfl, x'⟩ := x'
    obtain ⟨a, dx, vs0, rfl, h1, h2, l1⟩ := (o'.rb hp (List.sublist_append_left _ _) ed).obj o'.ok.ex
    have x' : (match argL ρ' ms1 [po] with | some ds => dsp (ds ++ ex.map (·.2)) (fun k d => Q ρ' (.t (.v k d))) fun x => E x ρ' | none => False) := x'
    refine ⟨a, dx, _, rfl, h1, zip_none no, ?_⟩
    split at x'
    · rename_i ds ed2
      have o3 := o'.dropP
      have a2 := (argL_of (vs := [.ref a]) o' (.cons hp .nil) (show (tmps [V.ref a] [po]).Sublist _ from List.sublist_append_left _ _) ed2).more sc
      rw [← hn] at a2
      exact ⟨S', _, _, _, o'.ok.ex, a2, x', fun S3 H3 k z dz f st ow nd nw qq => kk z S3 H3 ρ' (.t (.v k dz)) trivial (o3.push st ow nd nw) qq, fun S3 H3 y cls dd st ea ey => l S3 H3 σ ρ' y cls dd (o3.step st) ea ey⟩
    · exact x'.elim
  · exact x'.elim
/-- e.f, a property -/
structure PrG (M : Wd) (Γ : Gm) (c : Nat) (f : Str) (k : Nat) (m : Bool) (dsp : DSp) : Prop where
  ok : ∃ p g fd, PropOf M.K (Γ.T c).C f p g ∧ Binds M.K fd ["self"] [] ∧ FnOk M.P M.w M.K M.mg M.base (L2.CX M.P M.w) k g fd ["self"] (lift Γ [m] dsp)
  cl : Cls M.K (Γ.T c).C
def pProp (c : Nat) (m : Bool) (dsp : DSp) (ta : TPD) : TPD := fun E ρ Q => ta E ρ fun ρ1 po => match po.d ρ1 with
  | some (.obj k _) => k = c ∧ (match argL ρ1 [m] [po] with
    | some ds => dsp ds (fun k d => Q ρ1 (.t (.v k d))) fun _ => False
    | none => False)
  | _ => False
theorem dp_prop {Γ' : Gm} {c k : Nat} {m : Bool} {f : Str} {dsp : DSp} (g : PrG (wd X) Γ' c f k m dsp) (hr : Room (k + 1) X.A) (ho : DP Γ X W e ta) (hT : Γ'.T = Γ.T := by rfl) (hX : Γ'.X = Γ.X := by rfl) (hK : Γ'.K = Γ.K := by rfl)
    (hab : attributeBase e f X.env (eval e X.env) = eval e X.env := by rfl) : DP Γ X W (.Attribute e f pos) (pProp c m dsp ta) := by
  obtain ⟨p, g0, fd, hm, hb, F⟩ := g.ok
  obtain ⟨_, p1, q1⟩ := ho.run
  rw [lift_in hT hX hK] at F
  have cl := g.cl
  rw [hT] at hm cl
  refine ⟨_, pe_prop p1 cl hm F hr hb .nil passL hab, fun S H σ ρ F E Q Qh o l x kk => q1 S H σ ρ F E _ _ o l x fun v S' H' ρ' po hp o' x' => ?_⟩
  split at x'
  · rename_i c' fsd ed
    obtain ⟨rfl, x'⟩ := x'
    obtain ⟨a, dx, vs0, rfl, h1, h2, l1⟩ := (o'.rb hp (List.sublist_append_left _ _) ed).obj o'.ok.ex
    refine ⟨a, dx, _, rfl, h1, ?_⟩
    split at x'
    · rename_i ds ed2
      have a2 := argL_of (vs := [.ref a]) o' (.cons hp .nil) (show (tmps [V.ref a] [po]).Sublist _ from List.sublist_append_left _ _) ed2
      exact ⟨S', _, _, _, o'.ok.ex, a2, x', fun S3 H3 k z dz f st ow nd nw qq => kk z S3 H3 ρ' (.t (.v k dz)) trivial (o'.dropP.push st ow nd nw) qq, fun S3 H3 y cls dd st ea ey => ey.elim⟩
    · exact x'.elim
  · exact x'.elim
end
end Sw

/-! The data layer, 10: a def's promise from its body; __init__ and what makes an instance. -/
namespace Sw
open PySem L2 PySem.Calls PyProof.Rows
/-- the tables over what stands behind the top -/
abbrev gm (M : Wd) (T : Tb) (XT : Nat → Cl) : Gm := ⟨T, XT, M.K, fun _ => none, fun _ => none, none⟩
def dargs : List Bool → List Dat → DEnv
  | true :: ms, d :: ds => some (.v 0 d) :: dargs ms ds
  | false :: ms, d :: ds => some (.b d) :: dargs ms ds
  | _, _ => []
def dstart (n : Nat) (ms : List Bool) (ds : List Dat) : DEnv := dargs ms ds ++ List.replicate (n - ds.length) none
def rtOk (Q : Nat → Dat → Prop) : Sl → Prop
  | .v k d => Q k d
  | .b _ => False
def fnEnds (Q : Nat → Dat → Prop) (E : Exn → Prop) : DEnds where
  nx := fun _ => Q 0 .non
  rt := fun _ sl => rtOk Q sl
  ex := fun x _ => E x
theorem ArgsOk.conv {Γ Γ' : Gm} {S H H' : Hp} (h1 : ∀ v d, Is Γ.T Γ.K S v d → Is Γ'.T Γ'.K S v d) (h2 : ∀ v d, Rb Γ S H v d → Rb Γ' S H' v d) : ∀ {ms vs ds}, ArgsOk Γ S H ms vs ds → ArgsOk Γ' S H' ms vs ds
  | _, _, _, .nil => .nil
  | _, _, _, .still g r => .still (h1 _ _ g) (r.conv h1 h2)
  | _, _, _, .read g r => .read (h2 _ _ g) (r.conv h1 h2)
theorem Sep.conv {Γ Γ' : Gm} {S H : Hp} (h : ∀ e f, Ent Γ S H e f → Ent Γ' S H e f) : ∀ {L fs}, Sep Γ S H L fs → Sep Γ' S H L fs
  | _, _, .nil => .nil
  | _, _, .cons g r => .cons (h _ _ g) (r.conv h)
section
variable {Γ : Gm} {S H : Hp}
theorem args_sep {ms vs ds} (h : ArgsOk Γ S H ms vs ds) (e : Ex Γ.S0 S) (hh : ∀ p o, S p = none → H p = some o → ∃ u, Γ.H0 p = some u) : ∃ fs : List (List Addr), Sep Γ S H ((vs.map some).zip (dargs ms ds)) fs ∧ fs.flatten = [] := by
  induction h with
  | nil => exact ⟨[], .nil, rfl⟩
  | still h _ ih =>
    obtain ⟨fs, s, e⟩ := ih
    exact ⟨[] :: fs, .cons (.s h) s, by simpa using e⟩
  | read h _ ih =>
    obtain ⟨fs, s, e⟩ := ih
    obtain ⟨k, f, hk, ow⟩ := h
    refine ⟨[] :: fs, .cons ⟨rfl, k, f, hk, ow, fun p hp => ?_⟩ s, by simpa using e⟩
    obtain ⟨h1, o, h2⟩ := ow.own p hp
    exact hh p o h1 h2
theorem dargs_len {ms vs ds} (h : ArgsOk Γ S H ms vs ds) : (dargs ms ds).length = vs.length := by
  induction h with
  | nil => rfl
  | still _ _ ih => simp [dargs, ih]
  | read _ _ ih => simp [dargs, ih]
theorem zip_app {α β : Type} : ∀ {a : List α} {b : List β} {a' b'}, a.length = b.length → (a ++ a').zip (b ++ b') = a.zip b ++ a'.zip b'
  | [], [], _, _, _ => rfl
  | _ :: _, [], _, _, h => by simp at h
  | [], _ :: _, _, _, h => by simp at h
  | x :: a, y :: b, a', b', h => by
    show (x, y) :: (a ++ a').zip (b ++ b') = (x, y) :: (a.zip b ++ a'.zip b')
    rw [zip_app (by simpa using h)]
theorem sep_nones : ∀ n m : Nat, ∃ fs : List (List Addr), Sep Γ S H ((List.replicate n (none : Option V)).zip (List.replicate m (none : Option Sl))) fs ∧ fs.flatten = []
  | 0, _ => ⟨[], .nil, rfl⟩
  | _ + 1, 0 => ⟨[], .nil, rfl⟩
  | n + 1, m + 1 => by
    obtain ⟨fs, s, e⟩ := sep_nones n m
    exact ⟨[] :: fs, .cons rfl s, by simpa using e⟩
theorem Sep.app : ∀ {L fs L' fs'}, Sep Γ S H L fs → Sep Γ S H L' fs' → Sep Γ S H (L ++ L') (fs ++ fs')
  | _, _, _, _, .nil, k => k
  | _, _, _, _, .cons h l, k => .cons h (l.app k)
theorem start_sep {ms vs ds} (n : Nat) (h : ArgsOk Γ S H ms vs ds) (e : Ex Γ.S0 S) (hh : ∀ p o, S p = none → H p = some o → ∃ u, Γ.H0 p = some u) :
    ∃ fs : List (List Addr), Sep Γ S H ((vs.map some ++ List.replicate (n - vs.length) none).zip (dstart n ms ds)) fs ∧ fs.flatten = [] := by
  obtain ⟨f1, s1, e1⟩ := args_sep h e hh
  obtain ⟨f2, s2, e2⟩ := sep_nones (Γ := Γ) (S := S) (H := H) (n - vs.length) (n - ds.length)
  unfold dstart
  rw [zip_app (by rw [List.length_map, dargs_len h])]
  exact ⟨f1 ++ f2, s1.app s2, by simp [e1, e2]⟩
end
section
variable {P : Program} {w : World} {K : PySem.W.Frag} {mg : Str → Option Value} {base : Heap} {Γ : Gm} {x qual : Str} {params : Arguments} {body : List Stmt} {scope : Scope} {dvs : List V} {kws : List (Str × V)} {f : Addr} {fd : FuncData} {N ps : List Str} {k : Nat} {ms : List Bool} {dsp : DSp} {t : TSD}
theorem ps_le (S : FnScope N ps scope) : ps.length ≤ N.length := by
  have := congrArg List.length S.pre
  rw [List.length_take] at this
  omega
/-- THE RULE for a def -/
theorem fnD (F : FunD K x qual params body scope dvs kws f fd) (S : FnScope N ps scope) (hl : ms.length = ps.length)
    (hb : ∀ cdv A outer s H E S', Room k (A.deeper (envOfC qual scope s.heap.objs.size f cdv)) → DSs (Γ.in_ S' H) (cxOf (L2.CX P w) P w K mg base N qual scope f cdv A outer s H E) (fun cls d _ H => E cls d H) body t)
    (hp : ∀ ds Q E, dsp ds Q E → ds.length = ms.length → t (fnEnds Q E) (dstart N.length ms ds)) : FnOk P w K mg base (L2.CX P w) (k + 1) f fd ps (lift Γ ms dsp) := by
  refine F.ok S (fun vs H Q E h => ?_) (fun cdv A outer s H vs Q E hr h => ?_)
  · obtain ⟨_, _, _, _, _, a, _⟩ := h
    rw [a.len.1, hl]
  · obtain ⟨S', ds, Q1, E1, ex, a, sp, po, pe⟩ := h
    obtain ⟨ts, p1, run⟩ := (hb cdv A outer s H E S' hr).run
    have a' : ArgsOk (Γ.in_ S' H) S' H ms vs ds := ArgsOk.conv (Γ := Γ) (Γ' := Γ.in_ S' H) (fun _ _ h => h) (fun _ _ h => h) a
    obtain ⟨fs, sep, e⟩ := start_sep (Γ := Γ.in_ S' H) N.length a' (fun _ _ h => h) (fun p o _ h => ⟨o, h⟩)
    have ok : StOk (Γ.in_ S' H) S' H (L2.start N vs) (dstart N.length ms ds) [] := by
      refine ⟨?_, ⟨fun _ _ h => h, ex, fun _ _ h1 h2 => ⟨h1, h2⟩, fs, by rw [List.append_nil]; exact sep, by rw [e]; exact List.nodup_nil, fun p hp => by rw [e] at hp; cases hp⟩, fun i v h => by cases h⟩
      unfold L2.start dstart
      rw [List.length_append, List.length_append, dargs_len a', List.length_map, List.length_replicate, List.length_replicate, a.len.1, a.len.2]
    have st : ∀ {S2 H2 σ ρ F}, StOk (Γ.in_ S' H) S2 H2 σ ρ F → Stp S' H S2 H2 := fun o => ⟨o.ok.ex0, o.ok.ex, o.ok.fr⟩
    refine ⟨ts, p1, run S' H _ _ [] (fnEnds Q1 E1) _ ok ⟨fun S2 H2 σ ρ o q => ?_, fun S2 H2 σ ρ v sl o q => ?_, fun _ _ _ _ _ q => q, fun _ _ _ _ _ q => q⟩ (fun S2 H2 σ ρ y cls dd o ea q => pe S2 H2 y cls dd (st o) ea q) (hp ds Q1 E1 sp a.len.2)⟩
    · exact po S2 H2 0 .non .non [] (st o) (.s .non) List.nodup_nil (fun _ h => by cases h) q
    · cases sl with
      | b d => exact q.elim
      | v n d =>
        have o1 := o.ok.perm (L' := (some v, some (.v n d)) :: (σ.zip ρ)) (by
          have := @List.perm_middle _ (some v, some (Sl.v n d)) (σ.zip ρ) []
          rw [List.append_nil] at this; exact this)
        obtain ⟨gs, s2, nd, z⟩ := o1.sep
        cases s2 with
        | @cons _ g _ gs' he hl =>
          rw [List.flatten_cons] at nd z
          exact po S2 H2 n v d g (st o) he (List.nodup_append.mp nd).1 (fun p hp => z p (List.mem_append_left _ hp)) q
/-! ### __init__ -/
/-- by data: the arguments behind self, then what the attributes hold in the end -/
abbrev DSi := List Dat → (List Dat → Prop) → (Exn → Prop) → Prop
def liftI (Γ : Gm) (c : Nat) (ms : List Bool) (dsp : DSi) : Sp := fun vs H Q E => ∃ S Hm a dx us ds Q1 E1, vs = .ref a :: us ∧ H = upd Hm a (.ins (Γ.T c).C dx []) ∧ Hm a = none ∧ Ex S Hm ∧ ArgsOk Γ S Hm ms us ds ∧ dsp ds Q1 E1 ∧
  (∀ S' H' fs, Stp S Hm S' H' → Own Γ.T Γ.K S' H' 1 (.ref a) (.obj c fs) [a] → Q1 fs → Q .non H') ∧ PostE Γ S Hm E1 E
def Gm.new (Γ : Gm) (S Hm : Hp) (a : Addr) : Gm := { Γ with S0 := S, H0 := Hm, me := some (0, .ref a) }
def inEnds (c : Nat) (Q : List Dat → Prop) (E : Exn → Prop) : DEnds where
  nx := fun ρ => ∃ fs, ρ[0]? = some (some (.v 1 (.obj c fs))) ∧ Q fs
  rt := fun _ _ => False
  ex := fun x _ => E x
theorem own_obj {T : Tb} {S' H' : Hp} {a : Addr} {c : Nat} {fs : List Dat} {g : List Addr} (h : Own T K S' H' 1 (.ref a) (.obj c fs) g) : g = [a] := by
  cases h with
  | obj h1 h2 h3 h4 => rw [h4.is0.2]
/-- THE RULE for an __init__ -/
theorem fnI {dsi : DSi} {c : Nat} (hK : Γ.K = K) (F : FunD K x qual params body scope dvs kws f fd) (S : FnScope N ps scope) (hl : ms.length + 1 = ps.length)
    (hb : ∀ cdv A outer s H E S' Hm a, Room k (A.deeper (envOfC qual scope s.heap.objs.size f cdv)) → DSs (Γ.new S' Hm a) (cxOf (L2.CX P w) P w K mg base N qual scope f cdv A outer s H E) (fun cls d _ H => E cls d H) body t)
    (hp : ∀ ds Q E, dsi ds Q E → ds.length = ms.length → t (inEnds c Q E) (some (.v 1 (.obj c [])) :: dstart (N.length - 1) ms ds)) : FnOk P w K mg base (L2.CX P w) (k + 1) f fd ps (liftI Γ c ms dsi) := by
  refine F.ok S (fun vs H Q E h => ?_) (fun cdv A outer s H vs Q E hr h => ?_)
  · obtain ⟨_, _, _, _, us, _, _, _, rfl, _, _, _, a, _⟩ := h
    rw [List.length_cons, a.len.1, hl]
  · obtain ⟨S', Hm, a, dx, us, ds, Q1, E1, rfl, rfl, na, ex, ar, sp, po, pe⟩ := h
    obtain ⟨ts, p1, run⟩ := (hb cdv A outer s (upd Hm a (.ins (Γ.T c).C dx [])) E S' Hm a hr).run
    have nS : S' a = none := ex.none na
    have gr : ∀ {d v}, Rb Γ S' Hm v d → Rb (Γ.new S' Hm a) S' (upd Hm a (.ins (Γ.T c).C dx [])) v d := fun {d v} h => by
      obtain ⟨n, g, hn, ow⟩ := h
      refine ⟨n, g, hn, Own.mono (fun _ _ h => h) ow fun p hp => ?_⟩
      obtain ⟨h1, o, h2⟩ := ow.own p hp
      exact ⟨h1, upd_ne (ne_of_none h2 na)⟩
    have ar' : ArgsOk (Γ.new S' Hm a) S' (upd Hm a (.ins (Γ.T c).C dx [])) ms us ds := ArgsOk.conv (Γ := Γ) (Γ' := Γ.new S' Hm a) (fun _ _ h => h) (fun _ _ h => gr h) ar
    have sepA : ∃ fs : List (List Addr), Sep (Γ.new S' Hm a) S' (upd Hm a (.ins (Γ.T c).C dx [])) ((us.map some ++ List.replicate (N.length - 1 - us.length) none).zip (dstart (N.length - 1) ms ds)) fs ∧ fs.flatten = [] := by
      have a0 : ArgsOk (Γ.in_ S' Hm) S' Hm ms us ds := ArgsOk.conv (Γ := Γ) (Γ' := Γ.in_ S' Hm) (fun _ _ h => h) (fun _ _ h => h) ar
      obtain ⟨fs, s, e⟩ := start_sep (Γ := Γ.in_ S' Hm) (N.length - 1) a0 (fun _ _ h => h) (fun p o _ h => ⟨o, h⟩)
      refine ⟨fs, ?_, e⟩
      have s2 := Sep.mono (S' := S') (H' := upd Hm a (.ins (Γ.T c).C dx [])) (fun _ _ h => h) (fun p o h1 h2 => ⟨h2, upd_ne (ne_of_none (show Hm p = some o from h1) na)⟩) s (fun p hp => by rw [e] at hp; cases hp)
      refine s2.conv fun en f he => ?_
      obtain ⟨ov, os⟩ := en
      cases os with
      | none => exact he
      | some sl => cases ov with
        | none => cases sl <;> exact he
        | some v => cases sl <;> exact he
    obtain ⟨fs, sep, e⟩ := sepA
    have hN : 1 ≤ N.length := Nat.le_trans (by omega) (ps_le S)
    have own : Own Γ.T Γ.K S' (upd Hm a (.ins (Γ.T c).C dx [])) 1 (.ref a) (.obj c []) [a] := .obj (vs := []) (by rw [upd_same, List.zip_nil_right]) nS (Nat.zero_le _) .nil
    have hst : L2.start N (.ref a :: us) = some (.ref a) :: (us.map some ++ List.replicate (N.length - 1 - us.length) none) := by
      unfold L2.start
      rw [List.map_cons, List.cons_append, List.length_cons, Nat.add_comm, Nat.sub_add_eq]
    have ok : StOk (Γ.new S' Hm a) S' (upd Hm a (.ins (Γ.T c).C dx [])) (L2.start N (.ref a :: us)) (some (.v 1 (.obj c [])) :: dstart (N.length - 1) ms ds) [] := by
      rw [hst]
      refine ⟨?_, ⟨fun _ _ h => h, (Stp.newOwn ex na).h, fun p o h1 h2 => ⟨h1, by rw [upd_ne (ne_of_none (show Hm p = some o from h2) na)]; exact h2⟩, [a] :: fs, by rw [List.append_nil]; exact .cons own sep, by rw [List.flatten_cons, e]; simp, fun p hp => by
        rw [List.flatten_cons, e] at hp
        have e3 : p = a := by simpa using hp
        rw [e3]; exact na⟩, fun i v h => by cases h; rfl⟩
      unfold dstart
      rw [List.length_cons, List.length_cons, List.length_append, List.length_append, dargs_len ar', List.length_map, List.length_replicate, List.length_replicate, ar.len.1, ar.len.2]
    have st : ∀ {S2 H2 σ ρ F}, StOk (Γ.new S' Hm a) S2 H2 σ ρ F → Stp S' Hm S2 H2 := fun o => ⟨o.ok.ex0, o.ok.ex, o.ok.fr⟩
    refine ⟨ts, p1, run S' _ _ _ [] (inEnds c Q1 E1) _ ok ⟨fun S2 H2 σ ρ o q => ?_, fun S2 H2 σ ρ v sl o q => q.elim, fun _ _ _ _ _ q => q.elim, fun _ _ _ _ _ q => q.elim⟩ (fun S2 H2 σ ρ y cls dd o ea q => pe S2 H2 y cls dd (st o) ea q) (hp ds Q1 E1 sp ar.len.2)⟩
    obtain ⟨gs, hr0, q⟩ := q
    have hv := o.me 0 (.ref a) rfl
    obtain ⟨A, B, e1, _⟩ := zip_at hv hr0
    have o1 := o.ok
    rw [e1, List.append_assoc, List.cons_append] at o1
    obtain ⟨g, ow⟩ := (o1.perm List.perm_middle).own0
    have eg := own_obj ow
    subst eg
    exact po S2 H2 gs (st o) ow q
end
section
variable {Γ : Gm} {X : Cx} {W : WX} {e : Expr} {es : List Expr} {pos p : Pos} {u : TAD}
/-- a class that is made, its __init__'s promise -/
structure MkG (M : Wd) (Γ : Gm) (name : Str) (c : Nat) (k : Nat) (ps : List Str) (ex : List (V × Dat)) (ms : List Bool) (dsi : DSi) : Prop where
  ok : ∃ f fd ds, Mk M.K (Γ.T c).C f ∧ M.mg name = some (.ref (Γ.T c).C) ∧ Binds M.K fd ps ds ∧ Vals (ex.map (·.1)) ds ∧ FnOk M.P M.w M.K M.mg M.base (L2.CX M.P M.w) k f fd ps (liftI Γ c ms dsi)
  sc : ∀ x ∈ ex, ∀ S, Is Γ.T Γ.K S x.1 x.2
/-- n: 0 where the instance will not change any more, 1 where it may -/
def pMk (n c : Nat) (ms : List Bool) (dsi : DSi) (ex : List Dat) (u : TAD) : TPD := fun E ρ Q => u E ρ fun ρ1 ps => match argL ρ1 ms ps with
  | some ds => dsi (ds ++ ex) (fun fs => Q ρ1 (.t (.v n (.obj c fs)))) fun x => E x ρ1
  | none => False
theorem liftI_in {Γ Γ' : Gm} (hT : Γ'.T = Γ.T) (hX : Γ'.X = Γ.X) (hK : Γ'.K = Γ.K) (c : Nat) (ms : List Bool) (dsi : DSi) : liftI Γ' c ms dsi = liftI Γ c ms dsi := by
  obtain ⟨T, X, K, a, b, c⟩ := Γ
  obtain ⟨T', X', K', a', b', c'⟩ := Γ'
  simp only at hT hX hK
  subst hT hX hK
  have h1 : ∀ S H ms vs ds, ArgsOk ⟨T', X', K', a', b', c'⟩ S H ms vs ds ↔ ArgsOk ⟨T', X', K', a, b, c⟩ S H ms vs ds := fun S H ms vs ds => by
    constructor
    all_goals
      intro h
      induction h with
      | nil => exact .nil
      | still g _ ih => exact .still g ih
      | read g _ ih => exact .read g ih
  funext vs H Q E
  unfold liftI
  simp only [h1]
  rfl
theorem dp_make {Γ' : Gm} {x : Str} {k n c : Nat} {ps : List Str} {ms ms1 : List Bool} {ex : List (V × Dat)} {exd : List Dat} {dsi : DSi} (g : MkG (wd X) Γ' x c k ps ex ms dsi) (hr : Room (k + 1) X.A) (tk : Takes X W) (hg : Gl X x) (ha : DA Γ X W (e :: es) u) (hn1 : n ≤ 1)
    (hn : ms = ms1 ++ ex.map fun _ => true) (hx : exd = ex.map (·.2) := by rfl) (hT : Γ'.T = Γ.T := by rfl) (hX : Γ'.X = Γ.X := by rfl) (hK : Γ'.K = Γ.K := by rfl)
    (hdb : (x == ("__debug__" : Str)) = false := by decide) (he : starEach (e :: es) X.env = (false, eval e X.env) :: starEach es X.env := by rfl) (hpl : (backTo pos (starEach es X.env)).any (·.1) = false := by rfl) :
    DP Γ X W (.Call (.Name x p) (e :: es) [] pos) (pMk n c ms1 dsi exd u) := by
  subst hx
  obtain ⟨f, fd, ds0, M, hm, hb, hd, F⟩ := g.ok
  obtain ⟨_, p1, q⟩ := ha.run
  rw [liftI_in hT hX hK] at F
  have sc := g.sc
  rw [hT] at M hm
  rw [hT, hK] at sc
  refine ⟨_, pe_makeE M F hr hg hm hb hd tk p1 hdb he hpl, fun S H σ ρ F E Q Qh o l x kk => q S H σ ρ F E _ _ o l x fun vs S' H' ρ' ps hp o' x' => ?_⟩
  split at x'
  · rename_i ds ed
    intro a dx na nd ne
    have o2 := o'.sub (F' := F) (List.sublist_append_right _ _)
    have st0 : Stp S' H' S' (upd H' dx (.own a)) := Stp.newOwn o'.ok.ex nd
    have na' : (upd H' dx (.own a)) a = none := by rw [upd_ne (Ne.symm ne)]; exact na
    have o3 := o'.step st0
    have a2 := (argL_of o3 hp (List.sublist_append_left _ _) ed).more sc
    rw [← hn] at a2
    refine ⟨S', upd H' dx (.own a), a, dx, _, _, _, _, rfl, rfl, na', st0.h, a2, x', fun S2 H2 fs st ow q2 => ⟨rfl, ?_⟩, fun S2 H2 y cls dd st ea ey => l S2 H2 σ ρ' y cls dd (o2.step (st0.trans st)) ea ey⟩
    have o4 := o2.push (st0.trans st) ow (by simp) (fun b hb => by rw [List.mem_singleton.mp hb]; exact na)
    match n, hn1, q2 with
    | 1, _, q2 => exact kk (.ref a) S2 H2 ρ' (.t (.v 1 (.obj c fs))) trivial o4 q2
    | 0, _, q2 =>
      obtain ⟨S3, e3, o5, _⟩ := StOk.frzT (F := F) o4
      exact kk (.ref a) S3 H2 ρ' (.t (.v 0 (.obj c fs))) trivial o5 q2
  · exact x'.elim
/-- self.f = e, the next attribute -/
def sFldNew (c i : Nat) (ta : TPD) : TSD := fun D ρ => ta D.ex ρ fun ρ1 p => stillP ρ1 p fun ρ2 p2 => match p2 with
  | .t (.v 0 d) => ∃ fs, ρ2[0]? = some (some (.v 1 (.obj c fs))) ∧ fs.length = i ∧ D.nx (ρ2.set 0 (some (.v 1 (.obj c (fs ++ [d])))))
  | _ => False
theorem putF_zip {f : Str} {v : V} : ∀ {fs : List Str} {vs : List V}, fs.Nodup → fs[vs.length]? = some f → putF f v (fs.zip vs) = fs.zip (vs ++ [v])
  | [], _, _, h => by simp at h
  | g :: fs, [], _, h => by
    have e : g = f := by simpa using h
    subst e
    show [(g, v)] = (g, v) :: fs.zip []
    rw [List.zip_nil_right]
  | g :: fs, w :: vs, n, h => by
    have h' : fs[vs.length]? = some f := by simpa using h
    have ne : ¬ g = f := by
      rintro rfl
      exact (List.nodup_cons.mp n).1 (List.mem_of_getElem? h')
    show (if g = f then (g, v) :: fs.zip vs else (g, w) :: putF f v (fs.zip vs)) = (g, w) :: fs.zip (vs ++ [v])
    rw [if_neg ne, putF_zip (List.nodup_cons.mp n).2 h']
theorem ds_fldNew {o value : Expr} {f : Str} {c i : Nat} {pos' : Pos} {ta : TPD} (k : FldOk Γ.T Γ.K c i f) (ho : PE X o (tVar 0)) (hv : DP Γ X W value ta) (hsz : i < 1000) (hs : swapsWith value (some (.Attribute o f pos')) pos.line X.env = pure false := by rfl) (hK : Γ.K = X.K := by rfl) :
    DS Γ X W (.Assign [.Attribute o f pos'] value pos) (sFldNew c i ta) :=
  let ⟨_, p, q⟩ := hv.run
  ⟨_, ps_fld ho p hs, fun S H σ ρ F D Dh o1 l w x => q S H σ ρ F D.ex _ _ o1 w x fun v S' H' ρ' pl hp o' x' => by
    obtain ⟨S2, ρ2, d, o2, fs, e0, el, x2⟩ := still_ok (Q := fun ρ2 p2 => match p2 with
      | .t (.v 0 d) => ∃ fs, ρ2[0]? = some (some (.v 1 (.obj c fs))) ∧ fs.length = i ∧ D.nx (ρ2.set 0 (some (.v 1 (.obj c (fs ++ [d])))))
      | _ => False) o' hp x'
    have iv := o2.isE (List.mem_cons_self ..)
    have o3 := o2.drop
    have hlen : 0 < σ.length := by rw [o3.len]; exact (List.getElem?_eq_some_iff.mp e0).1
    cases hv0 : σ[0]? with
    | none => rw [List.getElem?_eq_none_iff] at hv0; omega
    | some ov =>
      obtain ⟨A, B, e1, e2, _⟩ := zip_at hv0 e0
      have ok := o3.ok
      rw [e1, List.append_assoc, List.cons_append] at ok
      have ok2 := ok.perm List.perm_middle
      obtain ⟨gs, sep, nd, z⟩ := ok2.sep
      cases sep with
      | @cons _ g _ gs' he hl =>
        cases ov with
        | none => exact he.elim
        | some v0 =>
          have he : Own Γ.T Γ.K S2 H' 1 v0 (.obj c fs) g := he
          cases he with
          | @obj _ a _ dx vs _ g0 h1 h2 h3 h4 =>
            obtain ⟨il, rfl⟩ := h4.is0
            have lv : vs.length = i := by rw [il.len, el]
            have zf : (Γ.T c).fs[vs.length]? = some f := by rw [lv]; exact k.ix
            refine ⟨.ref a, hv0, a, _, dx, _, rfl, h1, hK ▸ k.cl, hK ▸ k.na, ?_, ?_⟩
            · rw [List.length_zip]; omega
            · rw [putF_zip k.nd zf]
              refine l.nx S2 _ σ _ ⟨by rw [List.length_set]; exact o3.len, ?_, o3.me⟩ x2
              rw [e2, List.append_assoc, List.cons_append]
              refine Ok.perm ?_ List.perm_middle.symm
              rw [List.flatten_cons] at nd z
              obtain ⟨n1, n2, n3⟩ := List.nodup_append.mp nd
              have hz : Γ.H0 a = none := z a (List.mem_append_left _ (List.mem_cons_self ..))
              refine ⟨ok.ex0, fun b u h => ?_, fun b u h k => ?_, [a] :: gs', .cons (.obj (vs := vs ++ [v]) upd_same h2 ?_ (.of0 (il.app (.cons iv .nil)))) ?_, nd, z⟩
              · have ne : b ≠ a := ne_of_none h h2
                rw [upd_ne ne]; exact ok.ex b u h
              · have ne : b ≠ a := fun e => by rw [e, hz] at k; cases k
                rw [upd_ne ne]; exact ok.fr b u h k
              · have := (List.getElem?_eq_some_iff.mp zf).1
                rw [List.length_append]; exact this
              · refine hl.mono (fun _ _ h => h) (fun b u h k => ?_) fun b hb => ?_
                · have ne : b ≠ a := fun e => by rw [e, hz] at h; cases h
                  exact ⟨k, upd_ne ne⟩
                · have ne : b ≠ a := fun e => n3 a (List.mem_cons_self ..) b hb e.symm
                  exact ⟨(hl.own b hb).1, upd_ne ne⟩⟩
end
end Sw

/-! The data layer, 11: built-ins. -/
namespace Sw
open PySem L2
section
variable {Γ : Gm} {X : Cx} {W : WX} {e : Expr} {ta : TPD}
def uNeg : UD := fun x R => match x with
  | .int i => R 0 (.int (-i))
  | _ => False
theorem br_neg : BrU Γ (rU fun i => .int (-i)) uNeg := by
  intro S H x dx Q Qh e hx q p
  cases dx with
  | int i => exact ⟨i, hx.int, p.sc e .int q⟩
  | _ => exact q.elim
/-- truth of a value -/
def truD : Dat → Option Bool
  | .non => some false
  | .bl b => some b
  | .int i => some (decide (i ≠ 0))
  | .lst xs => some (!xs.isEmpty)
  | .tup xs => some (!xs.isEmpty)
  | _ => none
def tdTru (t : TPD) : TTD := fun E ρ Q => t E ρ fun ρ1 p => match (p.d ρ1).bind truD with
  | some b => Q ρ1 b
  | none => False
theorem dt_truth (h : DP Γ X W e ta) (he : ∀ whole, isTrue e X.env whole = (do let v ← whole; standAt e.pos; holding [v] (truthy v)) := by intro _; rfl) (hK : Γ.K = X.K := by rfl) : DT Γ X W e (tdTru ta) := by
  obtain ⟨_, p, q⟩ := h.run
  refine ⟨_, pt_truth p he, fun S H σ ρ F E Q Qh o l x k => q S H σ ρ F E _ _ o l x fun v S' H' ρ' pl hp o' x' => ?_⟩
  cases ed : pl.d ρ' with
  | none => rw [ed] at x'; exact x'.elim
  | some d =>
    rw [ed] at x'
    have rb := o'.rb hp (List.sublist_append_left _ _) ed
    have x' : (match truD d with | some b => Q ρ' b | none => False) := x'
    rw [← hK]
    cases d with
    | non => rw [rb.non]; exact ⟨false, rfl, k _ S' H' ρ' o'.dropP x'⟩
    | bl b => rw [rb.bl]; exact ⟨b, rfl, k _ S' H' ρ' o'.dropP x'⟩
    | int i =>
      rw [rb.int]
      refine ⟨decide (i ≠ 0), ?_, k _ S' H' ρ' o'.dropP x'⟩
      show decide (i ≠ 0) = (i != 0)
      by_cases z : i = 0 <;> simp [z]
    | lst xs =>
      obtain ⟨a, vs, rfl, h, l1⟩ := rb.lst o'.ok.ex
      have e2 : vs.isEmpty = xs.isEmpty := by
        cases l1 <;> rfl
      exact ⟨_, .inl ⟨vs, .of h, by rw [e2]⟩, k _ S' H' ρ' o'.dropP x'⟩
    | tup xs =>
      obtain ⟨a, vs, rfl, h, l1⟩ := rb.tup
      have e2 : vs.isEmpty = xs.isEmpty := by
        cases l1 <;> rfl
      exact ⟨_, .inr (.inl ⟨vs, o'.ok.ex.stp h, by rw [e2]⟩), k _ S' H' ρ' o'.dropP x'⟩
    | _ => exact x'.elim
/-! ### int(x), abs(x), isinstance(x, T) -/
def uInt : LD := fun xs R => match xs with
  | [.int i] => R 0 (.int i)
  | [.bl b] => R 0 (.int (if b then 1 else 0))
  | _ => False
theorem br_int1 : BrC Γ (fun xs H Q => (∃ i, xs = [V.int i] ∧ Q (.int i) H) ∨ ∃ k, xs = [V.bl k] ∧ Q (.int (if k then 1 else 0)) H) uInt := by
  intro S H vs ds Q Qh e r q p
  unfold uInt at q
  split at q
  · obtain ⟨v, rfl, h⟩ := rb1 r
    exact .inl ⟨_, by rw [h.int], p.sc e .int q⟩
  · obtain ⟨v, rfl, h⟩ := rb1 r
    exact .inr ⟨_, by rw [h.bl], p.sc e .int q⟩
  · exact q.elim
def uAbs : LD := fun xs R => match xs with
  | [.int i] => R 0 (.int (if i < 0 then -i else i))
  | _ => False
theorem br_abs : BrC Γ (fun xs H Q => ∃ i, xs = [V.int i] ∧ Q (.int (if i < 0 then -i else i)) H) uAbs := by
  intro S H vs ds Q Qh e r q p
  unfold uAbs at q
  split at q
  · obtain ⟨v, rfl, h⟩ := rb1 r
    exact ⟨_, by rw [h.int], p.sc e .int q⟩
  · exact q.elim
/-- a built-in type's name as a value -/
theorem dp_ty {x : Str} {n : String} {pos : Pos} (hg : Gl X x) (hm : X.mg x = none) (hv : bootBuiltins x = some (.type n)) (hn : x ≠ "__name__" := by decide) (hd : (x == ("__debug__" : Str)) = false := by decide) : DP Γ X W (.Name x pos) (pC (.ty n)) :=
  dp_of_c (pe_bltn (v := .ty n) hg hm hv rfl hn hd) fun _ => .ty
def tyD : Dat → Option String
  | .non => some "NoneType"
  | .bl _ => some "bool"
  | .int _ => some "int"
  | .str _ => some "str"
  | .tup _ => some "tuple"
  | .lst _ => some "list"
  | _ => none
/-- isinstance(x, T), T a built-in class -/
def uIsi : LD := fun xs R => match xs with
  | [d, .ty n] => (match tyD d with
    | some t => (n = "int" ∨ n = "bool" ∨ n = "str" ∨ n = "tuple" ∨ n = "list") ∧ R 0 (.bl (t == n || (t == "bool" && n == "int")))
    | none => False)
  | _ => False
theorem kit_of2 {K : PySem.W.Frag} (t n : String) (ht : t = "NoneType" ∨ t = "bool" ∨ t = "int" ∨ t = "str" ∨ t = "tuple" ∨ t = "list" ∨ t = "set") (hn : n = "int" ∨ n = "bool" ∨ n = "str" ∨ n = "tuple" ∨ n = "list") : PySem.W.kitOne K (.type t) (.type n) = some (t == n || (t == "bool" && n == "int")) := by
  rcases ht with rfl | rfl | rfl | rfl | rfl | rfl | rfl <;> rcases hn with rfl | rfl | rfl | rfl | rfl <;> exact L2.kit_ty (by decide +kernel)
theorem br_isi : BrC Γ (rIsi Γ.K) uIsi := by
  intro S H vs ds Q Qh e r q p
  unfold uIsi at q
  split at q
  · rename_i d n
    obtain ⟨v, c, rfl, h, h2⟩ := rb2 r
    have hc : c = .ty n := by
      obtain ⟨k, f, _, o⟩ := h2
      cases o with | s o => cases o; rfl
    subst hc
    cases d with
    | non =>
      rw [h.non]
      exact ⟨_, _, .type "NoneType", .type n, _, rfl, .ty n, .base .non, kit_of2 _ _ (by simp) q.1, p.sc e .bl q.2⟩
    | bl b =>
      rw [h.bl]
      exact ⟨_, _, .type "bool", .type n, _, rfl, .ty n, .base (.bl _), kit_of2 _ _ (by simp) q.1, p.sc e .bl q.2⟩
    | int b =>
      rw [h.int]
      exact ⟨_, _, .type "int", .type n, _, rfl, .ty n, .base (.int _), kit_of2 _ _ (by simp) q.1, p.sc e .bl q.2⟩
    | str b =>
      rw [h.str]
      exact ⟨_, _, .type "str", .type n, _, rfl, .ty n, .base (.str _), kit_of2 _ _ (by simp) q.1, p.sc e .bl q.2⟩
    | tup b =>
      obtain ⟨a, us, rfl, h1, l1⟩ := h.tup
      have ty : TyX Γ.K H (.ref a) (.type "tuple") := by
        rcases e.stp h1 with (h1 | ⟨o, h1⟩) | h1
        · exact .base (.tup h1)
        · exact .fTuple h1
        · obtain ⟨o, its, n, k1, k2, _⟩ := h1
          exact .kTuple k1 k2
      exact ⟨_, _, .type "tuple", .type n, _, rfl, .ty n, ty, kit_of2 _ _ (by simp) q.1, p.sc e .bl q.2⟩
    | lst b =>
      obtain ⟨a, us, rfl, h1, l1⟩ := h.lst e
      exact ⟨_, _, .type "list", .type n, _, rfl, .ty n, .base (.lst h1), kit_of2 _ _ (by simp) q.1, p.sc e .bl q.2⟩
    | _ => exact q.elim
  · exact q.elim
end
end Sw

/-! The data layer, 12: list comprehensions. -/
namespace Sw
open PySem L2
def wipeD (ρ : DEnv) : List Nat → DEnv
  | [] => ρ
  | v :: vs => (wipeD ρ vs).set v none
section
variable {Γ : Gm} {X : Cx} {W : WX} {tg iter elt e : Expr} {ifs es : List Expr} {pos : Pos} {ta : TPD}
theorem StOk.forget {S H : Hp} {σ : L2.St} {ρ : DEnv} {F : Fx} (o : StOk Γ S H σ ρ F) (i : Nat) (ov : Option V) (hf : Γ.free i) : StOk Γ S H (σ.set i ov) (ρ.set i none) F := by
  refine ⟨by rw [List.length_set, List.length_set]; exact o.len, ?_, fun j w h => ?_⟩
  · by_cases hi : i < σ.length
    · have hi2 : i < ρ.length := by rw [← o.len]; exact hi
      obtain ⟨A, B, e1, _, e3⟩ := zip_at (List.getElem?_eq_getElem hi) (List.getElem?_eq_getElem hi2)
      have o1 := o.ok
      rw [e1, List.append_assoc, List.cons_append] at o1
      rw [e3, List.append_assoc, List.cons_append]
      obtain ⟨gs, s, nd, z⟩ := (o1.perm List.perm_middle).sep
      cases s with
      | @cons _ g _ gs' he hl =>
        rw [List.flatten_cons] at nd z
        have o2 : Ok Γ S H ((ov, none) :: (A ++ (B ++ F))) := ⟨o1.ex0, o1.ex, o1.fr, [] :: gs', .cons rfl hl, by rw [List.flatten_cons]; exact (List.nodup_append.mp nd).2.1, fun p hp => z p (List.mem_append_right _ (by rw [List.flatten_cons] at hp; exact hp))⟩
        exact o2.perm List.perm_middle.symm
    · rw [List.set_eq_of_length_le (by omega), List.set_eq_of_length_le (by rw [← o.len]; omega)]
      exact o.ok
  · by_cases q : j = i
    · subst q
      exact absurd h (hf w)
    · rw [List.getElem?_set_ne (Ne.symm q)]
      exact o.me j w h
theorem StOk.forgets {S H : Hp} {σ : L2.St} {ρ : DEnv} {F : Fx} (o : StOk Γ S H σ ρ F) : ∀ {vs : List Nat}, (∀ i ∈ vs, Γ.free i) → StOk Γ S H (wipe σ vs) (wipeD ρ vs) F
  | [], _ => o
  | v :: vs, h => (o.forgets (vs := vs) fun i hi => h i (List.mem_cons_of_mem _ hi)).forget v none (h v (List.mem_cons_self ..))
/-- the slots of σ back again, those of vs forgotten by data -/
theorem StOk.wiped {S H : Hp} {σ σ2 : L2.St} {ρ : DEnv} {F : Fx} {vs : List Nat} (o : StOk Γ S H σ2 ρ F) (hw : wipe σ2 vs = wipe σ vs) (hf : ∀ i ∈ vs, Γ.free i) (hl : σ.length = ρ.length) (hm : ∀ i v, Γ.me = some (i, v) → σ[i]? = some (some v)) :
    StOk Γ S H σ (wipeD ρ vs) F := by
  have o1 := o.forgets hf
  rw [hw] at o1
  -- now put the slots of σ back, one by one
  have back : ∀ (us : List Nat) {ρ' : DEnv}, (∀ i ∈ us, ρ'[i]? = some none ∨ ρ'[i]? = none) → StOk Γ S H (wipe σ us) ρ' F → StOk Γ S H σ ρ' F := by
    intro us
    induction us with
    | nil => intro ρ' _ o; exact o
    | cons u us ih =>
      intro ρ' hn o
      refine ih (fun i hi => hn i (List.mem_cons_of_mem _ hi)) ?_
      have hu := hn u (List.mem_cons_self ..)
      have o : StOk Γ S H ((wipe σ us).set u none) ρ' F := o
      have fu : ∀ w, Γ.me = some (u, w) → (wipe σ us)[u]? = some (some w) ∨ u ∈ us := fun w h => by
        have := o.me u w h
        by_cases hlt : u < (wipe σ us).length
        · rw [List.getElem?_set_self hlt] at this; cases this
        · rw [List.getElem?_eq_none (by rw [List.length_set]; omega)] at this; cases this
      refine ⟨by have := o.len; rwa [List.length_set] at this, ?_, fun j w h => ?_⟩
      · have hlen := o.len
        rw [List.length_set] at hlen
        by_cases hi : u < (wipe σ us).length
        · have hi2 : u < ρ'.length := by rw [← hlen]; exact hi
          have e0 : ρ'[u]? = some none := by
            rcases hu with h | h
            · exact h
            · rw [List.getElem?_eq_none_iff] at h; omega
          obtain ⟨A, B, e1, _, e3⟩ := zip_at (List.getElem?_eq_getElem hi) e0
          have ok := o.ok
          have e4 : ρ'.set u none = ρ' := by
            have h := (List.getElem?_eq_some_iff.mp e0).2
            rw [← h]; exact List.set_getElem_self hi2
          have e5 := e3 none none
          rw [e4] at e5
          rw [e5, List.append_assoc, List.cons_append] at ok
          rw [e1, List.append_assoc, List.cons_append]
          obtain ⟨gs, s, nd, z⟩ := (ok.perm List.perm_middle).sep
          cases s with
          | @cons _ g _ gs' he hl =>
            have o2 : Ok Γ S H (((wipe σ us)[u], none) :: (A ++ (B ++ F))) := ⟨ok.ex0, ok.ex, ok.fr, g :: gs', .cons he hl, nd, z⟩
            exact o2.perm List.perm_middle.symm
        · have ok := o.ok
          rw [List.set_eq_of_length_le (by omega)] at ok
          exact ok
      · by_cases q : j = u
        · subst q
          have := o.me j w h
          by_cases hlt : j < (wipe σ us).length
          · rw [List.getElem?_set_self hlt] at this; cases this
          · rw [List.getElem?_eq_none (by rw [List.length_set]; omega)] at this; cases this
        · have := o.me j w h
          rwa [List.getElem?_set_ne (Ne.symm q)] at this
  refine back vs (fun i hi => ?_) o1
  clear o o1 hw hf hl hm back
  induction vs with
  | nil => cases hi
  | cons u us ih =>
    show ((wipeD ρ us).set u none)[i]? = some none ∨ ((wipeD ρ us).set u none)[i]? = none
    by_cases q : u = i
    · subst q
      by_cases hlt : u < (wipeD ρ us).length
      · rw [List.getElem?_set_self hlt]; exact .inl rfl
      · rw [List.getElem?_eq_none (by rw [List.length_set]; omega)]; exact .inr rfl
    · rw [List.getElem?_set_ne q]
      exact ih ((List.mem_cons.mp hi).resolve_left (Ne.symm q))
/-- the conditions of a comprehension -/
structure DTs (Γ : Gm) (X : Cx) (W : WX) (es : List Expr) (t : TTD) : Prop where
  run : ∃ te, PTs X es te ∧ RunT Γ W te t
def tdYes : TTD := fun _ ρ Q => Q ρ true
theorem dts_nil : DTs Γ X W [] tdYes := ⟨_, pts_nil, fun S H σ ρ F E Q Qh o l q k => k true S H ρ o q⟩
theorem dts_one {t : TTD} (h : DT Γ X W e t) : DTs Γ X W [e] t := let ⟨_, p, q⟩ := h.run; ⟨_, pts_one p, q⟩
/-! ### one reading for all blocks -/
theorem all_P {ι : Type} {Y : ι → Cx} {t : TPD} (h : ∀ c, DP Γ (Y c) W e t) (c0 : ι) : ∃ te, (∀ c, PE (Y c) e te) ∧ RunP Γ W te t := by
  have h' := fun c => (h c).run
  refine ⟨fun σ H Q => ∀ c, Classical.choose (h' c) σ H Q, fun c => ⟨fun pins s σ H Q I q => (Classical.choose_spec (h' c)).1.run pins s σ H Q I (q c)⟩, fun S H σ ρ F E Q Qh o l q k c => (Classical.choose_spec (h' c)).2 S H σ ρ F E Q Qh o l q k⟩
theorem all_T {ι : Type} {Y : ι → Cx} {t : TTD} (h : ∀ c, DTs Γ (Y c) W es t) : ∃ te, (∀ c, PTs (Y c) es te) ∧ RunT Γ W te t := by
  have h' := fun c => (h c).run
  exact ⟨fun σ H Q => ∀ c, Classical.choose (h' c) σ H Q, fun c => ⟨fun pins s σ H Q I q => (Classical.choose_spec (h' c)).1.run pins s σ H Q I (q c)⟩, fun S H σ ρ F E Q Qh o l q k c => (Classical.choose_spec (h' c)).2 S H σ ρ F E Q Qh o l q k⟩
/-- only the slots vs are stored -/
def Only (vs : List Nat) (σ σ' : L2.St) : Prop := wipe σ' vs = wipe σ vs
def GOnly (g' : TG) (vs : List Nat) : Prop := ∀ v σ H Q Q', g' v σ H Q → (∀ σ' H', Only vs σ σ' → Q σ' H' → Q' σ' H') → g' v σ H Q'
structure DGo (Γ : Gm) (X : Cx) (e : Expr) (vs : List Nat) (g : TGD) : Prop where
  run : ∃ g', PG X e g' ∧ RunG Γ g' g ∧ GOnly g' vs
theorem wipe_set {σ : L2.St} {j : Nat} {a : Option V} : ∀ {vs : List Nat}, j ∈ vs → wipe (σ.set j a) vs = wipe σ vs
  | [], h => by cases h
  | v :: vs, h => by
    show (wipe (σ.set j a) vs).set v none = (wipe σ vs).set v none
    by_cases q : j ∈ vs
    · rw [wipe_set q]
    · have e : v = j := ((List.mem_cons.mp h).resolve_right q).symm
      subst e
      have c : ∀ us : List Nat, v ∉ us → wipe (σ.set v a) us = (wipe σ us).set v a := by
        intro us
        induction us with
        | nil => intro _; rfl
        | cons u us ih =>
          intro hn
          show (wipe (σ.set v a) us).set u none = ((wipe σ us).set u none).set v a
          rw [ih fun z => hn (List.mem_cons_of_mem _ z)]
          exact List.set_comm _ _ (fun z => hn (by rw [z]; exact List.mem_cons_self ..))
      rw [c vs q, List.set_set]
theorem wipe_wipe {σ : L2.St} : ∀ {us vs : List Nat}, (∀ u ∈ us, u ∈ vs) → wipe (wipe σ us) vs = wipe σ vs
  | [], _, _ => rfl
  | u :: us, vs, h => by
    show wipe ((wipe σ us).set u none) vs = wipe σ vs
    rw [wipe_set (h u (List.mem_cons_self ..)), wipe_wipe fun z hz => h z (List.mem_cons_of_mem _ hz)]
theorem dgo_name {i : Nat} {vs : List Nat} (h : PG X e (gName i)) (hv : i ∈ vs := by simp) (hf : Γ.free i := by (intro v z; cases z)) : DGo Γ X e vs (gdName i) :=
  ⟨_, h, run_gname hf, fun v σ H Q Q' q k => k _ _ (wipe_set hv) q⟩
theorem all_G {ι : Type} {Y : ι → Cx} {vs : List Nat} {g : TGD} (h : ∀ c, DGo Γ (Y c) e vs g) (c0 : ι) : ∃ g', (∀ c, PG (Y c) e g') ∧ RunG Γ g' g ∧ GOnly g' vs := by
  have h' := fun c => (h c).run
  exact ⟨fun v σ H Q => ∀ c, Classical.choose (h' c) v σ H Q, fun c => ⟨fun pins s σ H v u Q I r q => (Classical.choose_spec (h' c)).1.run pins s σ H v u Q I r (q c)⟩,
    fun S H σ ρ F v sl Q Qh o q k c => (Classical.choose_spec (h' c)).2.1 S H σ ρ F v sl Q Qh o q k, fun v σ H Q Q' q k c => (Classical.choose_spec (h' c)).2.2 v σ H Q Q' (q c) k⟩
def noEx : DEx := fun _ _ => False
def W0 : WX := fun _ _ _ _ => False
/-- [elt for target in iter if ..] -/
def pLc (t : TID) (g : TGD) (tt : TTD) (te : TPD) (vs : List Nat) : TPD := fun E ρ Q => t E ρ fun ρ1 items => ∃ I : Nat → DEnv → List Dat → Prop, I 0 (wipeD ρ1 vs) [] ∧
  (∀ i d ρ2 acc, items[i]? = some d → I i ρ2 acc → g (.v 0 d) ρ2 fun ρ3 => tt noEx ρ3 fun ρ4 b => if b = true then te noEx ρ4 (fun ρ5 p => stillP ρ5 p fun ρ6 p6 => match p6 with
    | .t (.v 0 y) => acc.length < 16777216 ∧ I (i + 1) (wipeD ρ6 vs) (acc ++ [y])
    | _ => False) else I (i + 1) (wipeD ρ4 vs) acc) ∧
  ∀ ρ2 acc, I items.length ρ2 acc → Q (wipeD ρ2 vs) (.t (.v 1 (.lst acc)))
abbrev Bl := Shared × Hp × Addr × List (Str × Addr) × List Addr
theorem lw0 {F : Fx} : LW Γ F noEx W0 := fun _ _ _ _ _ _ _ _ _ h => h.elim
theorem szlt {n : Nat} (h : n < 16777216) : n < sizeLine := by rw [sizeLine_eq]; exact h
theorem run_lc {wi : TI} {t : TID} {g' : TG} {g : TGD} {tt' : TT} {tt : TTD} {te' : TE} {te : TPD} {vs : List Nat} (hi : RunI Γ W wi t) (hg : RunG Γ g' g) (go : GOnly g' vs) (ht : RunT Γ W0 tt' tt) (he : RunP Γ W0 te' te) (hf : ∀ i ∈ vs, Γ.free i) :
    RunP Γ W (tLc wi g' tt' te' vs) (pLc t g tt te vs) := by
  intro S H σ ρ F E Q Qh o l x k
  refine hi S H σ ρ F E _ _ o l x fun J H1 S1 ρ1 items F' o1 wk x1 => ?_
  obtain ⟨I, h0, step, fin⟩ := x1
  intro D hD
  have o2 : StOk Γ S1 (upd H1 D (.lst [])) (wipe σ vs) (wipeD ρ1 vs) (F' ++ ((some (.ref D), some (.v 1 (.lst []))) :: F)) := by
    have p1 := o1.push (Stp.newOwn (o := .lst []) o1.ok.ex hD) (.l (k := 0) (vs := []) (ds := []) (f := []) upd_same (o1.ok.ex.none hD) .nil) (by simp) (fun b hb => by rw [List.mem_singleton.mp hb]; exact hD)
    have p2 := p1.forgets hf
    exact ⟨p2.len, p2.ok.perm (List.Perm.append_left _ List.perm_middle.symm), p2.me⟩
  refine ⟨fun i m H => m = items.length - i ∧ i ≤ items.length ∧ ∃ S ρ acc, StOk Γ S H (wipe σ vs) ρ (F' ++ ((some (.ref D), some (.v 1 (.lst acc))) :: F)) ∧ I i ρ acc, ⟨items.length, by simp, Nat.zero_le _, S1, _, [], o2, h0⟩, fun i m H hw => ?_⟩
  obtain ⟨rfl, hi, S, ρ, acc, o, hI⟩ := hw
  by_cases hlt : i < items.length
  · refine .inr ⟨wk.go S H _ ρ _ i o hlt, fun H => ∃ S ρ acc, StOk Γ S H (wipe σ vs) ρ (F' ++ ((some (.ref D), some (.v 1 (.lst acc))) :: F)) ∧ I (i + 1) ρ acc, fun H ⟨S, ρ, acc, o, h⟩ => ⟨items.length - (i + 1), by omega, rfl, hlt, S, ρ, acc, o, h⟩, fun v H2 y => ?_⟩
    have hd := List.getElem?_eq_getElem hlt
    obtain ⟨S2, o2⟩ := wk.yld S H _ ρ _ i v H2 _ o y hd
    refine go v _ _ (fun σ3 H3 => ∃ S3 ρ3, StOk Γ S3 H3 σ3 ρ3 (F' ++ ((some (.ref D), some (.v 1 (.lst acc))) :: F)) ∧ tt noEx ρ3 fun ρ4 b => if b = true then te noEx ρ4 (fun ρ5 p => stillP ρ5 p fun ρ6 p6 => match p6 with
      | .t (.v 0 y) => acc.length < 16777216 ∧ I (i + 1) (wipeD ρ6 vs) (acc ++ [y])
      | _ => False) else I (i + 1) (wipeD ρ4 vs) acc) _ (hg S2 H2 _ ρ _ v _ _ _ o2 (step i _ ρ acc hd hI) fun S3 H3 σ3 ρ3 o3 x3 => ⟨S3, ρ3, o3, x3⟩) fun σ3 H3 on hh => ?_
    obtain ⟨S3, ρ3, o3, x3⟩ := hh
    have ew : wipe σ3 vs = wipe σ vs := by
      have on' : wipe σ3 vs = wipe (wipe σ vs) vs := on
      rw [on', wipe_wipe fun _ h => h]
    refine ⟨ew, ht S3 H3 σ3 ρ3 _ noEx _ _ o3 lw0 x3 fun b S4 H4 ρ4 o4 x4 => ?_⟩
    cases b with
    | false =>
      have o5 := o4.forgets hf
      rw [ew] at o5
      exact ⟨S4, _, acc, o5, x4⟩
    | true =>
      refine he S4 H4 σ3 ρ4 _ noEx _ _ o4 lw0 x4 fun y S5 H5 ρ5 pl hp o5 x5 => ?_
      obtain ⟨S6, ρ6, d, o6, hz, x6⟩ := still_ok o5 hp x5
      have iy := o6.isE (List.mem_cons_self ..)
      have o7 := o6.drop
      have o8 := o7.ok.perm (L' := (some (.ref D), some (.v 1 (.lst acc))) :: (σ3.zip ρ6 ++ (F' ++ F))) (by
        rw [← List.append_assoc, ← List.append_assoc]; exact List.perm_middle)
      obtain ⟨f, ow⟩ := o8.own0
      cases ow with
      | l h1 h2 h3 =>
        rename_i us f
        obtain ⟨il, rfl⟩ := h3.is0
        refine ⟨us, h1, szlt (by rw [il.len]; exact hz), S6, wipeD ρ6 vs, acc ++ [d], ?_, x6⟩
        have o9 := (o8.chg (vs' := us ++ [y]) (ds' := acc ++ [d]) (il.app (.cons iy .nil))).perm (L' := σ3.zip ρ6 ++ (F' ++ ((some (.ref D), some (.v 1 (.lst (acc ++ [d])))) :: F))) (by
          rw [← List.append_assoc, ← List.append_assoc]; exact List.perm_middle.symm)
        have o10 : StOk Γ S6 _ σ3 ρ6 _ := ⟨o7.len, o9, o7.me⟩
        have o11 := o10.forgets hf
        rw [ew] at o11
        exact o11
  · have e : i = items.length := by omega
    subst e
    refine .inl ⟨wk.stop S H _ ρ _ o, ?_⟩
    have o3 := o.wiped (σ := σ) (wipe_wipe fun _ h => h) hf (by have := o.len; rwa [wipe_length] at this) o1.me
    exact k (.ref D) S H (wipeD ρ vs) (.t (.v 1 (.lst acc))) trivial (o3.sub (List.sublist_append_right _ _)) (fin ρ acc hI)
theorem dp_lc {scope : Scope} {own : List (Str × Nat)} {vs : List Nat} {t : TID} {g : TGD} {tt : TTD} {te : TPD} (hc : X.calm = true) (hN : X.N.Nodup) (hi : DI Γ X W tg iter t) (ok : BlkOk X.N X.env.scope scope own)
    (hg : ∀ s H C cl fp, DGo Γ (X.blk s H scope (compEnvC scope cl C X.env) fp) tg (own.map (·.2)) g) (ht : ∀ s H C cl fp, DTs Γ (X.blk s H scope (compEnvC scope cl C X.env) fp) W0 ifs tt)
    (he : ∀ s H C cl fp, DP Γ (X.blk s H scope (compEnvC scope cl C X.env) fp) W0 elt te) (hs : ∀ x, foldedSetIterable iter X.env x = pure x := by intro _; rfl) (hf : ∀ i ∈ own.map (·.2), Γ.free i := by intro i _ v z; cases z) (hvs : vs = own.map (·.2) := by rfl) :
    DP Γ X W (.ListComp elt [⟨tg, iter, ifs, 0⟩] scope pos) (pLc t g tt te vs) := by
  subst hvs
  obtain ⟨wi, pi, qi⟩ := hi.run
  have c0 : Bl := (X.s_0, X.H_0, 0, [], [])
  obtain ⟨g', pg, qg, og⟩ := all_G (ι := Bl) (Y := fun c => X.blk c.1 c.2.1 scope (compEnvC scope c.2.2.2.1 c.2.2.1 X.env) c.2.2.2.2) (fun c => hg c.1 c.2.1 c.2.2.1 c.2.2.2.1 c.2.2.2.2) c0
  obtain ⟨tt', pt, qt⟩ := all_T (ι := Bl) (Y := fun c => X.blk c.1 c.2.1 scope (compEnvC scope c.2.2.2.1 c.2.2.1 X.env) c.2.2.2.2) (fun c => ht c.1 c.2.1 c.2.2.1 c.2.2.2.1 c.2.2.2.2)
  obtain ⟨te', pe, qe⟩ := all_P (ι := Bl) (Y := fun c => X.blk c.1 c.2.1 scope (compEnvC scope c.2.2.2.1 c.2.2.1 X.env) c.2.2.2.2) (fun c => he c.1 c.2.1 c.2.2.1 c.2.2.2.1 c.2.2.2.2) c0
  exact ⟨_, pe_lc hc hN pi ok (fun s H C cl fp => pg (s, H, C, cl, fp)) (fun s H C cl fp => pt (s, H, C, cl, fp)) (fun s H C cl fp => pe (s, H, C, cl, fp)) hs, run_lc qi qg og qt qe hf⟩
/-- name = [..] -/
theorem ds_setLc {i : Nat} {y : Str} {py spos : Pos} {scope : Scope} {own : List (Str × Nat)} {vs : List Nat} {t : TID} {g : TGD} {tt : TTD} {te : TPD} (hc : X.calm = true) (hN : X.N.Nodup) (hy : X.N[i]? = some y) (hyl : X.env.scope.names.lookup y = some .local)
    (hsw : swapsWith (.ListComp elt [⟨tg, iter, ifs, 0⟩] scope pos) (some (.Name y py)) spos.line X.env = pure true) (hi : DI Γ X W tg iter t) (ok : BlkOk X.N X.env.scope scope own)
    (hg : ∀ s H C cl fp, DGo Γ (X.blk s H scope (compEnvC scope cl C X.env) fp) tg (own.map (·.2)) g) (ht : ∀ s H C cl fp, DTs Γ (X.blk s H scope (compEnvC scope cl C X.env) fp) W0 ifs tt)
    (he : ∀ s H C cl fp, DP Γ (X.blk s H scope (compEnvC scope cl C X.env) fp) W0 elt te) (hs : ∀ x, foldedSetIterable iter X.env x = pure x := by intro _; rfl) (hf : ∀ i ∈ own.map (·.2), Γ.free i := by intro i _ v z; cases z) (hvs : vs = own.map (·.2) := by rfl) (hm : Γ.free i := by (intro v z; cases z)) :
    DS Γ X W (.Assign [.Name y py] (.ListComp elt [⟨tg, iter, ifs, 0⟩] scope pos) spos) (sAsg (pLc t g tt te vs) (gdName i)) := by
  subst hvs
  obtain ⟨wi, pi, qi⟩ := hi.run
  have c0 : Bl := (X.s_0, X.H_0, 0, [], [])
  obtain ⟨g', pg, qg, og⟩ := all_G (ι := Bl) (Y := fun c => X.blk c.1 c.2.1 scope (compEnvC scope c.2.2.2.1 c.2.2.1 X.env) c.2.2.2.2) (fun c => hg c.1 c.2.1 c.2.2.1 c.2.2.2.1 c.2.2.2.2) c0
  obtain ⟨tt', pt, qt⟩ := all_T (ι := Bl) (Y := fun c => X.blk c.1 c.2.1 scope (compEnvC scope c.2.2.2.1 c.2.2.1 X.env) c.2.2.2.2) (fun c => ht c.1 c.2.1 c.2.2.1 c.2.2.2.1 c.2.2.2.2)
  obtain ⟨te', pe, qe⟩ := all_P (ι := Bl) (Y := fun c => X.blk c.1 c.2.1 scope (compEnvC scope c.2.2.2.1 c.2.2.1 X.env) c.2.2.2.2) (fun c => he c.1 c.2.1 c.2.2.1 c.2.2.2.1 c.2.2.2.2) c0
  exact ⟨_, ps_setLc hc hN hy hyl hsw pi ok (fun s H C cl fp => pg (s, H, C, cl, fp)) (fun s H C cl fp => pt (s, H, C, cl, fp)) (fun s H C cl fp => pe (s, H, C, cl, fp)) hs, run_asg (run_lc qi qg og qt qe hf) (run_gname hm)⟩
end
end Sw

/-! The data layer, 13: lemmas for the readings' evaluation. -/
namespace Sw
open PySem L2
theorem toNat_lit (n : Nat) : Int.toNat (OfNat.ofNat n : Int) = n := rfl
theorem toNat_0 : Int.toNat 0 = 0 := rfl
theorem toNat_1 : Int.toNat 1 = 1 := rfl
section
variable {α : Type} {a b c d e f : α} {l : List α}
theorem at_0 : atI (a :: l) 0 = some a := by simp [atI, ixN]
theorem at_n {n : Nat} {x : α} {xs : List α} (h : xs[n]? = some x) : atI xs (n : Int) = some x := atI_nat h
theorem at_1 : atI (a :: b :: l) 1 = some b := atI_nat (j := 1) rfl
theorem at_2 : atI (a :: b :: c :: l) 2 = some c := atI_nat (j := 2) rfl
theorem at_3 : atI (a :: b :: c :: d :: l) 3 = some d := atI_nat (j := 3) rfl
theorem at_4 : atI (a :: b :: c :: d :: e :: l) 4 = some e := atI_nat (j := 4) rfl
theorem at_5 : atI (a :: b :: c :: d :: e :: f :: l) 5 = some f := atI_nat (j := 5) rfl
end
theorem pow_ok {n : Nat} (h : n ≤ 1000000 := by decide) : PowOk 10 (OfNat.ofNat n) := ⟨by show (0 : Int) ≤ (n : Int); omega, by show (n : Int) ≤ 1000000; omega, by decide⟩
theorem deq_int (i j : Int) : deq (.int i) (.int j) = decide (i = j) := by
  unfold deq py PyData.eqv
  by_cases h : i = j <;> simp [h]
theorem deq_str (i j : Str) : deq (.str i) (.str j) = decide (i = j) := by
  unfold deq py PyData.eqv
  by_cases h : i = j <;> simp [h]
theorem deq_bl (i j : Bool) : deq (.bl i) (.bl j) = decide (i = j) := by
  unfold deq py PyData.eqv
  by_cases h : i = j <;> simp [h]
def deqL (xs ys : List Dat) : Bool := PyData.eqvAll (pyL xs) (pyL ys)
theorem deq_tup (xs ys : List Dat) : deq (.tup xs) (.tup ys) = deqL xs ys := by unfold deq deqL py; rw [PyData.eqv]
theorem deq_lst (xs ys : List Dat) : deq (.lst xs) (.lst ys) = deqL xs ys := by unfold deq deqL py; rw [PyData.eqv]
theorem deqL_nil : deqL [] [] = true := by unfold deqL pyL PyData.eqvAll; rfl
theorem deqL_cons (x y : Dat) (xs ys : List Dat) : deqL (x :: xs) (y :: ys) = (deq x y && deqL xs ys) := by
  unfold deqL deq
  rw [pyL, pyL, PyData.eqvAll]
theorem deqL_nc (y : Dat) (ys : List Dat) : deqL [] (y :: ys) = false := by unfold deqL; rw [pyL, pyL, PyData.eqvAll]
theorem deqL_cn (x : Dat) (xs : List Dat) : deqL (x :: xs) [] = false := by unfold deqL; rw [pyL, pyL, PyData.eqvAll]
theorem deqL_ints : ∀ (ns ms : List Int), deqL (nums ns) (nums ms) = decide (ns = ms)
  | [], [] => by rw [show nums [] = [] from rfl, deqL_nil]; simp
  | [], m :: ms => by rw [show nums [] = [] from rfl, show nums (m :: ms) = .int m :: nums ms from rfl, deqL_nc]; simp
  | n :: ns, [] => by rw [show nums [] = [] from rfl, show nums (n :: ns) = .int n :: nums ns from rfl, deqL_cn]; simp
  | n :: ns, m :: ms => by
    rw [show nums (n :: ns) = .int n :: nums ns from rfl, show nums (m :: ms) = .int m :: nums ms from rfl, deqL_cons, deq_int, deqL_ints ns ms]
    by_cases h1 : n = m <;> by_cases h2 : ns = ms <;> simp [h1, h2]
theorem eqOk_int (i : Int) : eqOk (.int i) := by
  constructor
  · unfold plain; rfl
  · unfold py SeqAt.shaped PyData.canLay0 PyData.depth; rfl
theorem eqOk_bl (i : Bool) : eqOk (.bl i) := by
  constructor
  · unfold plain; rfl
  · unfold py SeqAt.shaped PyData.canLay0 PyData.depth; rfl
theorem eqOk_non : eqOk .non := by
  constructor
  · unfold plain; rfl
  · unfold py SeqAt.shaped PyData.canLay0 PyData.depth; rfl
theorem eqOk_str (x : Str) (h : (py (.str x)).canLay0 = true) : eqOk (.str x) := by
  constructor
  · unfold plain; rfl
  · unfold SeqAt.shaped; rw [h]; unfold py PyData.depth; rfl
/-- depth at most n -/
def eqN (n : Nat) (d : Dat) : Prop := plain d = true ∧ (py d).canLay0 = true ∧ (py d).depth ≤ n
def eqNL (n : Nat) (ds : List Dat) : Prop := plainL ds = true ∧ PyData.canLayAll0 (pyL ds) = true ∧ PyData.depthAll (pyL ds) ≤ n
theorem eqN.ok {n : Nat} {d : Dat} (h : eqN n d) (hn : n ≤ 64 := by decide) : eqOk d := ⟨h.1, by
  unfold SeqAt.shaped
  rw [h.2.1, decide_eq_true (Nat.le_trans h.2.2 hn)]; rfl⟩
theorem eqN.mono {n m : Nat} {d : Dat} (h : eqN n d) (hn : n ≤ m) : eqN m d := ⟨h.1, h.2.1, Nat.le_trans h.2.2 hn⟩
theorem eqN_int (i : Int) : eqN 0 (.int i) := by
  unfold eqN plain py PyData.canLay0 PyData.depth
  exact ⟨rfl, rfl, Nat.le_refl _⟩
theorem eqN_bl (i : Bool) : eqN 0 (.bl i) := by
  unfold eqN plain py PyData.canLay0 PyData.depth
  exact ⟨rfl, rfl, Nat.le_refl _⟩
theorem eqN_non : eqN 0 .non := by
  unfold eqN plain py PyData.canLay0 PyData.depth
  exact ⟨rfl, rfl, Nat.le_refl _⟩
theorem eqN_str (x : Str) (h : (py (.str x)).canLay0 = true) : eqN 0 (.str x) := by
  refine ⟨by unfold plain; rfl, h, ?_⟩
  unfold py PyData.depth
  exact Nat.le_refl _
theorem eqNL_nil (n : Nat) : eqNL n [] := by
  unfold eqNL plainL pyL PyData.canLayAll0 PyData.depthAll
  exact ⟨rfl, rfl, Nat.zero_le _⟩
theorem eqNL_cons {n : Nat} {d : Dat} {ds : List Dat} (h : eqN n d) (l : eqNL n ds) : eqNL n (d :: ds) := by
  obtain ⟨a, b, c⟩ := h
  obtain ⟨a', b', c'⟩ := l
  unfold eqNL
  rw [plainL, pyL, PyData.canLayAll0, PyData.depthAll, a, b, a', b']
  exact ⟨rfl, rfl, Nat.max_le.mpr ⟨c, c'⟩⟩
theorem eqN_tup {n : Nat} {ds : List Dat} (l : eqNL n ds) : eqN (n + 1) (.tup ds) := by
  obtain ⟨a', b', c'⟩ := l
  unfold eqN
  rw [plain, py, PyData.canLay0, PyData.depth]
  exact ⟨a', b', Nat.succ_le_succ c'⟩
theorem eqN_lst {n : Nat} {ds : List Dat} (l : eqNL n ds) : eqN (n + 1) (.lst ds) := by
  obtain ⟨a', b', c'⟩ := l
  unfold eqN
  rw [plain, py, PyData.canLay0, PyData.depth]
  exact ⟨a', b', Nat.succ_le_succ c'⟩
theorem eqNL_ints : ∀ ns : List Int, eqNL 0 (nums ns)
  | [] => eqNL_nil 0
  | n :: ns => eqNL_cons (eqN_int n) (eqNL_ints ns)
theorem eqNL_all {n : Nat} : ∀ {ds : List Dat}, (∀ d ∈ ds, eqN n d) → eqNL n ds
  | [], _ => eqNL_nil n
  | d :: ds, h => eqNL_cons (h d (List.mem_cons_self ..)) (eqNL_all fun x hx => h x (List.mem_cons_of_mem _ hx))
end Sw

/-! The data layer, 14: the readings' equations with named continuations, so that an evaluation stays lazy. -/
namespace Sw
open PySem L2
section
variable (od : OD) (ud : UD) (ld : LD) (ta tb : TPD) (tc tt : TTD) (u : TAD) (t s : TSD) (g : TGD) (gu : TGsD) (ti : TID) (E : DEx) (ρ : DEnv) (Q : DEnv → Pl → Prop) (QT : DEnv → Bool → Prop) (QA : DEnv → List Pl → Prop) (QI : DEnv → List Dat → Prop) (QG : DEnv → Prop) (D : DEnds) (p : Pl) (i j c n : Nat) (ms : List Bool) (dsp : DSp) (dsi : DSi) (ex : List Dat) (b : Bool) (d : Dat) (vs : List Nat)
def kv (Q : DEnv → Pl → Prop) (ρ : DEnv) (k : Nat) (d : Dat) : Prop := Q ρ (.t (.v k d))
def kx (E : DEx) (ρ : DEnv) (x : Exn) : Prop := E x ρ
def kF (_ : Exn) : Prop := False
def kOp2 (ρ2 : DEnv) (q : Pl) : Prop := ap2 od (p.d ρ2) (q.d ρ2) (kv Q ρ2)
def kOp1 (ρ1 : DEnv) (p : Pl) : Prop := tb E ρ1 (kOp2 od Q p)
theorem e_pOp : pOp od ta tb E ρ Q = ta E ρ (kOp1 od tb E Q) := rfl
def kVal (ρ1 : DEnv) (p : Pl) : Prop := match p.d ρ1 with
  | some (.bl b) => QT ρ1 b
  | _ => False
theorem e_tdVal : tdVal ta E ρ QT = ta E ρ (kVal QT) := rfl
def kNot (ρ1 : DEnv) (b : Bool) : Prop := QT ρ1 (!b)
theorem e_tdNot : tdNot tc E ρ QT = tc E ρ (kNot QT) := rfl
def kAnd (ρ1 : DEnv) (b : Bool) : Prop := if b = true then tt E ρ1 QT else QT ρ1 false
theorem e_tdAnd : tdAnd tc tt E ρ QT = tc E ρ (kAnd tt E QT) := rfl
def kOr (ρ1 : DEnv) (b : Bool) : Prop := if b = true then QT ρ1 true else tt E ρ1 QT
theorem e_tdOr : tdOr tc tt E ρ QT = tc E ρ (kOr tt E QT) := rfl
def kpB (ρ1 : DEnv) (p : Pl) : Prop := match p.d ρ1 with
  | some (.bl b) => Q ρ1 (.t (.v 0 (.bl b)))
  | _ => False
theorem e_pB : pB ta E ρ Q = ta E ρ (kpB Q) := rfl
def kpAnd (ρ1 : DEnv) (p : Pl) : Prop := match p.d ρ1 with
  | some (.bl b) => if b = true then tb E ρ1 Q else Q ρ1 (.t (.v 0 (.bl false)))
  | _ => False
theorem e_pAnd : pAnd ta tb E ρ Q = ta E ρ (kpAnd tb E Q) := rfl
def kpOr (ρ1 : DEnv) (p : Pl) : Prop := match p.d ρ1 with
  | some (.bl b) => if b = true then Q ρ1 (.t (.v 0 (.bl true))) else tb E ρ1 Q
  | _ => False
theorem e_pOr : pOr ta tb E ρ Q = ta E ρ (kpOr tb E Q) := rfl
def kpNot (ρ1 : DEnv) (p : Pl) : Prop := match p.d ρ1 with
  | some (.bl b) => Q ρ1 (.t (.v 0 (.bl (!b))))
  | _ => False
theorem e_pNot : pNot ta E ρ Q = ta E ρ (kpNot Q) := rfl
def kpIf (ρ1 : DEnv) (b : Bool) : Prop := if b = true then ta E ρ1 Q else tb E ρ1 Q
theorem e_pIf : pIf tc ta tb E ρ Q = tc E ρ (kpIf ta tb E Q) := rfl
def kUn (ρ1 : DEnv) (p : Pl) : Prop := ap1 ud (p.d ρ1) (kv Q ρ1)
theorem e_pUn : pUn ud ta E ρ Q = ta E ρ (kUn ud Q) := rfl
def kC2 (ρ2 : DEnv) (ps : List Pl) : Prop := QA ρ2 (p :: ps)
def kC1 (ρ1 : DEnv) (p : Pl) : Prop := u E ρ1 (kC2 QA p)
theorem e_aCons : aCons ta u E ρ QA = ta E ρ (kC1 u E QA) := rfl
def kCall (ρ1 : DEnv) (ps : List Pl) : Prop := apL ld (datL ρ1 ps) (kv Q ρ1)
theorem e_pCall : pCall ld u E ρ Q = u E ρ (kCall ld Q) := rfl
def kTake (ρ1 : DEnv) (p : Pl) : Prop := takeP ρ1 p Q
theorem e_pTake : pTake ta E ρ Q = ta E ρ (kTake Q) := rfl
def kStill (ρ1 : DEnv) (p : Pl) : Prop := stillP ρ1 p Q
theorem e_pStill : pStill ta E ρ Q = ta E ρ (kStill Q) := rfl
def kDrop (ρ1 : DEnv) (_ : Pl) : Prop := D.nx ρ1
theorem e_sDrop : sDrop ta D ρ = ta D.ex ρ (kDrop D) := rfl
def kRet (ρ1 : DEnv) (p : Pl) : Prop := retP ρ1 p D.rt
theorem e_sRet : sRet ta D ρ = ta D.ex ρ (kRet D) := rfl
def kSIf (ρ1 : DEnv) (b : Bool) : Prop := if b = true then t D ρ1 else s D ρ1
theorem e_sIf : sIf tc t s D ρ = tc D.ex ρ (kSIf t s D) := rfl
def kAs2 (ρ2 : DEnv) (p2 : Pl) : Prop := match p2 with
  | .t sl => g sl ρ2 D.nx
  | .s _ => False
def kAs1 (ρ1 : DEnv) (p : Pl) : Prop := takeP ρ1 p (kAs2 g D)
theorem e_sAsg : sAsg ta g D ρ = ta D.ex ρ (kAs1 g D) := rfl
def kPar (ρ1 : DEnv) (ps : List Pl) : Prop := match datL ρ1 ps with
  | some [d, e] => flat d = true ∧ flat e = true ∧ D.nx ((ρ1.set i (some (.v 0 d))).set j (some (.v 0 e)))
  | _ => False
theorem e_sPar : sPar i j u D ρ = u D.ex ρ (kPar D i j) := rfl
def kAug2 (ρ1 : DEnv) (k : Nat) (z : Dat) : Prop := D.nx (ρ1.set i (some (.v k z)))
def kAug1 (ρ1 : DEnv) (p : Pl) : Prop := ap2 od (some d) (p.d ρ1) (kAug2 D i ρ1)
theorem e_sAug : sAug od i ta D ρ = match Sl.rd ((ρ[i]?).getD none) with
  | some d => flat d = true ∧ ta D.ex ρ (kAug1 od D i d)
  | none => False := rfl
def kIs2 (ρ2 : DEnv) (p2 : Pl) : Prop := match p2 with
  | .t (.v 0 (.lst ds)) => QI ρ2 ds
  | .t (.v 0 (.tup ds)) => QI ρ2 ds
  | _ => False
def kIs1 (ρ1 : DEnv) (p : Pl) : Prop := stillP ρ1 p (kIs2 QI)
theorem e_idSeq : idSeq ta E ρ QI = ta E ρ (kIs1 QI) := rfl
def kR1 (ρ1 : DEnv) (ps : List Pl) : Prop := match datL ρ1 ps with
  | some [.int n] => (-(2 ^ 62) ≤ n ∧ n < 2 ^ 62) ∧ QI ρ1 (rng 0 n)
  | _ => False
theorem e_idRng1 : idRng1 u E ρ QI = u E ρ (kR1 QI) := rfl
def kR2 (ρ1 : DEnv) (ps : List Pl) : Prop := match datL ρ1 ps with
  | some [.int a, .int b] => (-(2 ^ 62) ≤ a ∧ a < 2 ^ 62 ∧ -(2 ^ 62) ≤ b ∧ b < 2 ^ 62) ∧ QI ρ1 (rng a b)
  | _ => False
theorem e_idRng2 : idRng2 u E ρ QI = u E ρ (kR2 QI) := rfl
/-- what is left of a for: stays folded -/
def kFor (ρ1 : DEnv) (items : List Dat) : Prop := ∃ I : Nat → DEnv → Prop, I 0 ρ1 ∧
  (∀ i d ρ2, items[i]? = some d → I i ρ2 → g (.v 0 d) ρ2 fun ρ3 => t { D with nx := I (i + 1), ct := I (i + 1), bk := D.nx } ρ3) ∧ ∀ ρ2, I items.length ρ2 → D.nx ρ2
theorem e_sFor : sFor ti g t D ρ = ti D.ex ρ (kFor t g D) := rfl
def ktup (ρ1 : DEnv) (ps : List Pl) : Prop := match stL ps with
  | some ds => ds.length ≤ 16777216 ∧ Q ρ1 (.t (.v 0 (.tup ds)))
  | none => False
theorem e_pTup : pTup u E ρ Q = u E ρ (ktup Q) := rfl
def klst (ρ1 : DEnv) (ps : List Pl) : Prop := match stL ps with
  | some ds => ds.length ≤ 16777216 ∧ Q ρ1 (.t (.v 1 (.lst ds)))
  | none => False
theorem e_pLst : pLst u E ρ Q = u E ρ (klst Q) := rfl
def kFld (ρ1 : DEnv) (p : Pl) : Prop := match p.d ρ1 with
  | some (.obj k ds) => k = c ∧ (match ds[i]? with
    | some d => Q ρ1 (.t (.v 0 d))
    | none => False)
  | _ => False
theorem e_pFld : pFld c i ta E ρ Q = ta E ρ (kFld Q i c) := rfl
def kFn (ρ1 : DEnv) (ps : List Pl) : Prop := match argL ρ1 ms ps with
  | some ds => dsp (ds ++ ex) (kv Q ρ1) (kx E ρ1)
  | none => False
theorem e_pFn : pFn ms dsp ex u E ρ Q = u E ρ (kFn E Q ms dsp ex) := rfl
def kMe2 (ρ2 : DEnv) (ps : List Pl) : Prop := match argL ρ2 ms (p :: ps) with
  | some ds => dsp (ds ++ ex) (kv Q ρ2) (kx E ρ2)
  | none => False
def kMe1 (ρ1 : DEnv) (po : Pl) : Prop := match po.d ρ1 with
  | some (.obj k _) => k = c ∧ u E ρ1 (kMe2 E Q po ms dsp ex)
  | _ => False
theorem e_pMe : pMe c ms dsp ex ta u E ρ Q = ta E ρ (kMe1 u E Q c ms dsp ex) := rfl
def kProp (m : Bool) (ρ1 : DEnv) (po : Pl) : Prop := match po.d ρ1 with
  | some (.obj k _) => k = c ∧ (match argL ρ1 [m] [po] with
    | some ds => dsp ds (kv Q ρ1) kF
    | none => False)
  | _ => False
theorem e_pProp (m : Bool) : pProp c m dsp ta E ρ Q = ta E ρ (kProp Q c dsp m) := rfl
def kmk (ρ1 : DEnv) (fs : List Dat) : Prop := Q ρ1 (.t (.v n (.obj c fs)))
def kMk (ρ1 : DEnv) (ps : List Pl) : Prop := match argL ρ1 ms ps with
  | some ds => dsi (ds ++ ex) (kmk Q c n ρ1) (kx E ρ1)
  | none => False
theorem e_pMk : pMk n c ms dsi ex u E ρ Q = u E ρ (kMk E Q c n ms dsi ex) := rfl
def kFN2 (ρ2 : DEnv) (p2 : Pl) : Prop := match p2 with
  | .t (.v 0 d) => (match (ρ2[0]? : Option (Option Sl)) with
    | some (some (.v 1 (.obj k fs))) => k = c ∧ fs.length = i ∧ D.nx (ρ2.set 0 (some (.v 1 (.obj c (fs ++ [d])))))
    | _ => False)
  | _ => False
def kFN1 (ρ1 : DEnv) (p : Pl) : Prop := stillP ρ1 p (kFN2 D i c)
theorem e_sFldNew : sFldNew c i ta D ρ = ta D.ex ρ (kFN1 D i c) := by
  unfold sFldNew
  congr 1
  funext ρ1 p
  unfold kFN1
  congr 1
  funext ρ2 p2
  unfold kFN2
  cases p2 with
  | s i => rfl
  | t sl =>
    cases sl with
    | b d => rfl
    | v k d =>
      cases k with
      | succ k => rfl
      | zero =>
        apply propext
        constructor
        · rintro ⟨fs, e, h⟩
          simp only [e]
          exact ⟨trivial, h⟩
        · intro h
          have h' : (match (ρ2[0]? : Option (Option Sl)) with
            | some (some (.v 1 (.obj k fs))) => k = c ∧ fs.length = i ∧ D.nx (ρ2.set 0 (some (.v 1 (.obj c (fs ++ [d])))))
            | _ => False) := h
          split at h'
          · rename_i k fs e
            obtain ⟨rfl, h'⟩ := h'
            exact ⟨fs, e, h'⟩
          · exact h'.elim
def kTru (ρ1 : DEnv) (p : Pl) : Prop := match (p.d ρ1).bind truD with
  | some b => QT ρ1 b
  | none => False
theorem e_tdTru : tdTru ta E ρ QT = ta E ρ (kTru QT) := rfl
/-- what is left of a comprehension: stays folded -/
def kLc (te : TPD) (ρ1 : DEnv) (items : List Dat) : Prop := ∃ I : Nat → DEnv → List Dat → Prop, I 0 (wipeD ρ1 vs) [] ∧
  (∀ i d ρ2 acc, items[i]? = some d → I i ρ2 acc → g (.v 0 d) ρ2 fun ρ3 => tt noEx ρ3 fun ρ4 b => if b = true then te noEx ρ4 (fun ρ5 p => stillP ρ5 p fun ρ6 p6 => match p6 with
    | .t (.v 0 y) => acc.length < 16777216 ∧ I (i + 1) (wipeD ρ6 vs) (acc ++ [y])
    | _ => False) else I (i + 1) (wipeD ρ4 vs) acc) ∧
  ∀ ρ2 acc, I items.length ρ2 acc → Q (wipeD ρ2 vs) (.t (.v 1 (.lst acc)))
theorem e_pLc (te : TPD) : pLc ti g tt te vs E ρ Q = ti E ρ (kLc tt g Q vs te) := rfl
def kGC (gu : TGsD) (r : List Dat) (QG : DEnv → Prop) (ρ' : DEnv) : Prop := gu r ρ' QG
theorem e_gdCons (d : Dat) (r : List Dat) : gdCons g gu (d :: r) ρ QG = g (.v 0 d) ρ (kGC gu r QG) := rfl
theorem e_fnNx (Q : Nat → Dat → Prop) (X : Exn → Prop) : (fnEnds Q X).nx ρ = Q 0 .non := rfl
theorem e_fnRt (Q : Nat → Dat → Prop) (X : Exn → Prop) (k : Nat) : (fnEnds Q X).rt ρ (.v k d) = Q k d := rfl
theorem e_fnEx (Q : Nat → Dat → Prop) (X : Exn → Prop) (x : Exn) : (fnEnds Q X).ex x ρ = X x := rfl
theorem e_inNx (Q : List Dat → Prop) (X : Exn → Prop) (fs : List Dat) (r : DEnv) : (inEnds c Q X).nx (some (.v 1 (.obj c fs)) :: r) = Q fs := by
  apply propext
  constructor
  · rintro ⟨fs', e, h⟩
    have : some (some (Sl.v 1 (Dat.obj c fs))) = some (some (Sl.v 1 (Dat.obj c fs'))) := e
    simp only [Option.some.injEq, Sl.v.injEq, Dat.obj.injEq, true_and] at this
    rw [this]; exact h
  · intro h
    exact ⟨fs, rfl, h⟩
end
end Sw

/-! The data layer, 15: the head's look: facts (tests of the heap's part) and functions by paths, getters too. -/
namespace SwH
open PySem PySem.Spec PyProof.Rows L2
/-- where a function stands: the module's name; a class and its method; a class and its getter -/
inductive Pth where
  | g (x : Str)
  | m (x f : Str)
  | p (x f : Str)
  | s (x f : Str)
def getterOf (K : PySem.W.Frag) (a : Addr) : Addr := match PySem.W.recIn K a "property" with
  | some (.ref b :: _) => b
  | _ => 0
def staticOf (K : PySem.W.Frag) (a : Addr) : Addr := match PySem.W.recIn K a "staticmethod" with
  | some (.ref b :: _) => b
  | _ => 0
def Pth.ad (K : PySem.W.Frag) : Pth → Addr
  | .g x => He.ga K x
  | .m x f => He.ma K (He.ga K x) f
  | .p x f => getterOf K (He.ma K (He.ga K x) f)
  | .s x f => staticOf K (He.ma K (He.ga K x) f)
structure Dn where
  at_ : Pth
  name : Str
  qual : Str
  params : Arguments
  body : List Stmt
  scope : Scope
  dfl : List He.Dv := []
  kwd : List (Str × He.Dv) := []
  sup : Option (Str × Str) := none
def imgF (b : Bool) (fd : FuncData) : He.FnW := some (fd.name, fd.qualname, fd.params, fd.body, fd.scope, fd.globals, if b then [] else fd.closure, fd.builtins)
def imgO (b : Bool) : Option Obj → He.FnW
  | some ⟨_, _, .func fd, _⟩ => imgF b fd
  | _ => none
def Dn.img (K : PySem.W.Frag) (d : Dn) : He.FnW := imgO d.sup.isSome (K.lookup (d.at_.ad K))
def fileB (file : Str) : Option Value → Bool
  | some (.str f _) => decide (f = file)
  | _ => false
def codeB (file : Str) : Option Obj → Bool
  | some ⟨_, _, .fields vs, _⟩ => fileB file (vs[2]?)
  | _ => false
def cellB (D : Addr) : Option Obj → Bool
  | some ⟨_, _, .cell (some (.ref E)), _⟩ => decide (E = D)
  | _ => false
/-- a def that says super(): its cell, its code object's file -/
def supB (K : PySem.W.Frag) (x file : Str) (fd : FuncData) : Bool := match fd.closure, fd.code, fd.defaults, fd.kwdefaults, fd.annotations with
  | [(n, cc)], .ref cda, .none, .none, none => decide (n = "__class__") && (cellB (He.ga K x) (K.lookup cc) && (codeB file (K.lookup cda) && (PySem.W.clsIn K (He.ga K x)).isSome))
  | _, _, _, _, _ => false
def Dn.want (d : Dn) : He.FnW := some (d.name, d.qual, d.params, .stmts d.body, d.scope, mainGlobals, [], builtinsNs)
def Dn.vs (K : PySem.W.Frag) (d : Dn) : List V := d.dfl.map (He.Dv.v K)
def Dn.ks (K : PySem.W.Frag) (d : Dn) : List (Str × V) := d.kwd.map fun z => (z.1, z.2.v K)
def okF (K : PySem.W.Frag) (d : Dn) (fd : FuncData) : Bool := PySem.W.codeIn K fd.code d.qual && ((He.dflB K fd.defaults (d.vs K) && He.kwdB K fd.kwdefaults (d.ks K)) && (match d.sup with
  | none => true
  | some (x, file) => supB K x file fd))
def okO (K : PySem.W.Frag) (d : Dn) : Option Obj → Bool
  | some ⟨_, _, .func fd, _⟩ => okF K d fd
  | _ => false
def Dn.ok (K : PySem.W.Frag) (d : Dn) : Bool := PySem.W.keepIn K (.ref (d.at_.ad K)) && okO K d (K.lookup (d.at_.ad K))
theorem Dn.funD {K : PySem.W.Frag} {d : Dn} (hs : d.sup = none) (e : d.img K = d.want) (c : d.ok K = true) : ∃ fd, FunD K d.name d.qual d.params d.body d.scope (d.vs K) (d.ks K) (d.at_.ad K) fd := by
  have c1 := Bool.and_eq_true_iff.mp c
  unfold Dn.img at e
  rw [hs] at e
  generalize hk : K.lookup (d.at_.ad K) = ob at e c1
  match ob, e, c1, hk with
  | some ⟨oc, od, .func fd, osl⟩, e, c1, hk =>
    have c2 : okF K d fd = true := c1.2
    have c3 := Bool.and_eq_true_iff.mp c2
    have c4 := Bool.and_eq_true_iff.mp (Bool.and_eq_true_iff.mp c3.2).1
    refine ⟨fd, ⟨oc, od, fd.defaults, fd.kwdefaults, ?_⟩, c1.1⟩
    have e1 : imgF false fd = d.want := e
    rcases fd with ⟨a1, a2, a3, a4, a5, a6, a7, a8, a9, b1, b2, b3, b4, b5, b6⟩
    unfold imgF Dn.want at e1
    simp only [Option.some.injEq, Prod.mk.injEq, Bool.false_eq_true, if_false] at e1
    rcases e1 with ⟨z1, z2, z3, z4, z5, z6, z7, z8⟩
    exact ⟨b1, b2, b3, b4, b5, osl, by rw [z1, z2, z3, z4, z5, z6, z7, z8], hk, c3.1, He.dflB_ok c4.1, He.kwdB_ok c4.2⟩
abbrev Ft : Type := PySem.W.Frag → Bool
def look (fs : List Ft) (ds : List Dn) (K : PySem.W.Frag) : He.AlD := (fs.all (fun f => f K) && ds.all (fun d => d.ok K), ds.map fun d => d.img K)
def good (ds : List Dn) : He.AlD := (true, ds.map Dn.want)
def Says (fs : List Ft) (ds : List Dn) (K : PySem.W.Frag) : Prop := look fs ds K = good ds
def cellsO : Option Obj → List Addr
  | some ⟨_, _, .func fd, _⟩ => fd.closure.map (·.2)
  | _ => []
def withC (g : Addr → Option Obj) : List Addr → List Addr
  | [] => [cStatics]
  | a :: r => a :: (cellsO (g a) ++ withC g r)
/-- the addresses that are reached in n steps, each once (the seen ones as the bits of a number) -/
def addL : List Addr → List Addr → Nat → List Addr × Nat
  | [], nw, m => (nw, m)
  | r :: rs, nw, m => match Nat.testBit m r with
    | true => addL rs nw m
    | false => addL rs (r :: nw) (m ||| (1 <<< r))
def refsG (g : Addr → Option Obj) (a : Addr) : List Addr := match g a with
  | some o => He.refsD o
  | none => []
def stepF (g : Addr → Option Obj) : List Addr → List Addr → Nat → List Addr × Nat
  | [], nw, m => (nw, m)
  | a :: fr, nw, m => match addL (refsG g a) nw m with
    | (nw', m') => stepF g fr nw' m'
def growF (g : Addr → Option Obj) : Nat → List Addr → Nat → List Addr
  | 0, fr, _ => fr
  | n + 1, fr, m => match stepF g fr [] m with
    | (nw, m') => fr ++ growF g n nw.reverse m'
def asF (g : Addr → Option Obj) (n : Nat) : List Addr := growF g n [mainGlobals] (1 <<< mainGlobals)
def lookG (n : Nat) (fs : List Ft) (ds : List Dn) (g : Addr → Option Obj) : He.AlD := look fs ds (He.frG g (withC g (asF g n)))
def hook (n : Nat) (fs : List Ft) (ds : List Dn) : PySem.W.Hook where
  α := He.AlD
  obs := fun s => lookG n fs ds s.heap.get?
  val := fun _ => good ds
  says := fun _ h => ∃ K : PySem.W.Frag, K.In h ∧ Says fs ds K
  of := fun _ _ e => ⟨_, He.frG_in, e⟩
  keeps := fun _ _ _ y k => y.elim fun K z => ⟨K, PySem.W.Frag.In.keeps z.1 k, z.2⟩
theorem look_eq {n : Nat} {fs : List Ft} {ds : List Dn} {g : Addr → Option Obj} {s : Shared} (h : ∀ a, g a = s.heap.get? a) : lookG n fs ds g = (hook n fs ds).obs s := by
  rw [show g = s.heap.get? from funext h]; rfl
theorem Says.ft {fs : List Ft} {ds : List Dn} {K : PySem.W.Frag} (c : Says fs ds K) (i : Nat) {f : Ft} (h : fs[i]? = some f := by rfl) : f K = true := by
  have c1 := Bool.and_eq_true_iff.mp (congrArg Prod.fst c)
  exact (List.all_eq_true.mp c1.1) f (List.mem_of_getElem? h)
theorem Says.fn {fs : List Ft} {ds : List Dn} {K : PySem.W.Frag} (c : Says fs ds K) (i : Nat) {d : Dn} (h : ds[i]? = some d := by rfl) (hs : d.sup = none := by rfl) : ∃ fd, FunD K d.name d.qual d.params d.body d.scope (d.vs K) (d.ks K) (d.at_.ad K) fd := by
  have c1 := Bool.and_eq_true_iff.mp (congrArg Prod.fst c)
  have c2 : (ds.map fun d => d.img K)[i]? = (ds.map Dn.want)[i]? := congrArg (·[i]?) (congrArg Prod.snd c)
  rw [List.getElem?_map, List.getElem?_map, h] at c2
  exact Dn.funD hs (Option.some.inj c2) ((List.all_eq_true.mp c1.2) d (List.mem_of_getElem? h))
/-- a property -/
def propB (x f : Str) (K : PySem.W.Frag) : Bool :=
  He.eqO (PySem.W.findIn K (.ref (He.ga K x)) f) (some (some (.ref (He.ma K (He.ga K x) f)))) &&
  (He.eqO (PySem.W.specialIn K (.ref (He.ma K (He.ga K x) f)) "__get__") (some (some (.builtin "property.__get__"))) &&
  (decide (PySem.W.takesIn K (.ref (He.ma K (He.ga K x) f)) = some true) &&
  (match PySem.W.recIn K (He.ma K (He.ga K x) f) "property" with
    | some (.ref b :: _) => true
    | _ => false)))
theorem propB_ok {x f : Str} {K : PySem.W.Frag} (h : propB x f K = true) : PropOf K (He.ga K x) f (He.ma K (He.ga K x) f) (Pth.ad K (.p x f)) := by
  have h1 := Bool.and_eq_true_iff.mp h
  have h2 := Bool.and_eq_true_iff.mp h1.2
  have h3 := Bool.and_eq_true_iff.mp h2.2
  refine ⟨He.eqO_ok h1.1, He.eqO_ok h2.1, of_decide_eq_true h3.1, ?_⟩
  have h4 := h3.2
  show ∃ rest, PySem.W.recIn K (He.ma K (He.ga K x) f) "property" = some (Value.ref (getterOf K (He.ma K (He.ga K x) f)) :: rest)
  unfold getterOf
  generalize PySem.W.recIn K (He.ma K (He.ga K x) f) "property" = r at h4 ⊢
  match r, h4 with
  | some (.ref b :: rest), _ => exact ⟨rest, rfl⟩
theorem cx_no (P : Program) (w : World) (H : Hp) (s : Shared) (e : Value) (s' : Shared) (h : L2.CX P w [] H s (fun _ _ _ => False) e s') : False := by
  rcases h with ⟨_, _, _, _, _, _, _, _, _, _, _, _, z⟩
  exact z
/-- the end -/
theorem walk_sw {l : PySem.W.OpenLaw} {n k : Nat} {q : Program} {loose : List Str} {XP : (Str → Option Value) → Heap → Prop} {YP : World → Heap → Prop} {d : DefRec} {x : Str}
    (h1 : l.most = some n) (h2 : n ≤ sizeLine) (h3 : d.params.defaults = []) (h4 : Room k callerA)
    (h5 : ∀ (w : World) (mg : Str → Option Value) (f : Addr) (h : Heap), YP w h → h.Ns mainGlobals mg → mg d.name = some (.ref f) →
      ∃ (K : PySem.W.Frag) (fd : FuncData) (sp : Sp), K.In h ∧ (∀ (s : Shared) (u : Value), BindsTo s fd ⟨[u], []⟩ [(x, u)]) ∧
        (∀ (H : Hp) (a : Addr) (ns : List Int), ns.length ≤ n → Only H → SqL K H a (ns.map V.int) → sp [.ref a] H (fun v _ => v = .bl true) fun _ _ _ => False) ∧
        ∀ base : Heap, K.In base → base.Ns mainGlobals mg → FnOk l.prog w K mg base (L2.CX l.prog w) k f fd [x] sp) :
    PySem.W.WalkO q loose XP YP l.row.toRowW d [] (fun f vs => PySem.call f vs) := by
  refine Att.attach_callB h1 h3 fun w s0 s1 mg mb f ob pm cd doc a us ns Gr y b1 b2 b3 b4 b5 b6 b7 _ b9 => ?_
  rcases h5 w mg f _ y Gr.T.g b4 with ⟨K, fd, sp, kin, bnd, prm, ok⟩
  exact law_call kin Gr.T.g Gr.T.b Gr.T.builtins Gr.T.nolimit b9 b5 b6 (Nat.le_trans b7 h2) h4 ok bnd (fun H c1 c2 => prm H a ns b7 c1 c2) fun H e s' => cx_no l.prog w H s1 e s'
/-- the law's promise at the script -/
theorem end_sw {Γ : Sw.Gm} {dsp : Sw.DSp} {H : Hp} {a : Addr} {ns : List Int} (h : dsp [.scr ns] (fun _ d => d = .bl true) (fun _ => False)) (hS : SqL Γ.K H a (ns.map V.int)) :
    Sw.lift Γ [true] dsp [.ref a] H (fun v _ => v = .bl true) fun _ _ _ => False := by
  refine ⟨H, [.scr ns], _, _, Sw.Ex.rfl, .still (.scr hS) .nil, h, ?_, ?_⟩
  · intro S' H' k z dz f _ ow _ _ e
    subst e
    cases ow with
    | s i => cases i; rfl
  · intro _ _ _ _ _ _ _ e
    exact e.elim
def fa (f : He.Fa) : Ft := fun K => f.ok K
end SwH

/-! The data layer, 16: lists that change, methods of texts. -/
namespace Sw
open PySem L2
section
variable {Γ : Gm} {X : Cx} {W : WX} {e o : Expr} {es : List Expr} {pos : Pos} {ta tb : TPD} {u : TAD}
/-- a name's own list -/
theorem StOk.lst {S H : Hp} {σ : L2.St} {ρ : DEnv} {F : Fx} {i : Nat} {ds : List Dat} (o : StOk Γ S H σ ρ F) (e : ρ[i]? = some (some (.v 1 (.lst ds)))) :
    ∃ l vs, σ[i]? = some (some (.ref l)) ∧ H l = some (.lst vs) ∧ S l = none ∧ IsL Γ.T Γ.K S vs ds ∧
      ∀ vs' ds', IsL Γ.T Γ.K S vs' ds' → StOk Γ S (upd H l (.lst vs')) σ (ρ.set i (some (.v 1 (.lst ds')))) F := by
  have hlen : i < σ.length := by rw [o.len]; exact (List.getElem?_eq_some_iff.mp e).1
  cases hv0 : σ[i]? with
  | none => rw [List.getElem?_eq_none_iff] at hv0; omega
  | some ov =>
    obtain ⟨A, B, e1, e2, _⟩ := zip_at hv0 e
    have ok := o.ok
    rw [e1, List.append_assoc, List.cons_append] at ok
    have ok2 := ok.perm List.perm_middle
    obtain ⟨gs, sep, nd, z⟩ := ok2.sep
    cases sep with
    | @cons _ g _ gs' he hl =>
      cases ov with
      | none => exact he.elim
      | some v0 =>
        have he : Own Γ.T Γ.K S H 1 v0 (.lst ds) g := he
        cases he with
        | @l _ l vs _ g0 h1 h2 h3 =>
          obtain ⟨il, rfl⟩ := h3.is0
          refine ⟨l, vs, rfl, h1, h2, il, fun vs' ds' h' => ⟨by rw [List.length_set]; exact o.len, ?_, o.me⟩⟩
          rw [e2, List.append_assoc, List.cons_append]
          exact (ok2.chg h').perm List.perm_middle.symm
/-- xs.append(e) -/
def sApp (i : Nat) (u : TAD) : TSD := fun D ρ => match ρ[i]? with
  | some (some (.v 1 (.lst _))) => u D.ex ρ fun ρ1 ps => match ps with
    | [p] => stillP ρ1 p fun ρ2 p2 => match p2 with
      | .t (.v 0 d) => (match (ρ2[i]? : Option (Option Sl)) with
        | some (some (.v 1 (.lst ds))) => ds.length < 16777216 ∧ D.nx (ρ2.set i (some (.v 1 (.lst (ds ++ [d])))))
        | _ => False)
      | _ => False
    | _ => False
  | _ => False
theorem IsL.len2 {T : Tb} {K : PySem.W.Frag} {S : Hp} {vs : List V} {ds : List Dat} (h : IsL T K S vs ds) : vs.length = ds.length := h.len
theorem ds_app {i : Nat} {x : Str} {px apos cpos : Pos} (hx : PE X (.Name x px) (tVar i)) (ha : DA Γ X W [e] u)
    (hs : swapsWith (.Call (.Attribute (.Name x px) "append" apos) [e] [] cpos) none pos.line X.env = pure false := by rfl)
    (hbase : attributeBase (.Name x px) "append" X.env (eval (.Name x px) X.env) = eval (.Name x px) X.env := by rfl)
    (hfew : ((backTo cpos (starEach [e] X.env)).all (fun x => !x.1) && (backToKw cpos (keywordEach [] X.env)).all (fun x => x.1.isSome)
      && decide (([e] : List Expr).length + ([] : List Keyword).length + (if ([] : List Keyword).isEmpty then 0 else 1) < 30)) = true := by rfl)
    (hline : (apos.endLine == cpos.line) = true := by rfl) (hst : starEach [e] X.env = (false, eval e X.env) :: starEach [] X.env := by rfl) :
    DS Γ X W (.Expr (.Call (.Attribute (.Name x px) "append" apos) [e] [] cpos) pos) (sApp i u) :=
  let ⟨_, p2, q⟩ := ha.run
  ⟨_, ps_expr (pe_bm PySem.F.plainAttrs_list PySem.F.slot_list_append PySem.F.type_list_append mt_append hx p2 hbase hfew hline hst rfl) hs, fun S H σ ρ F D Dh o1 l w x => by
    unfold sApp at x
    split at x
    · rename_i ds0 e0
      obtain ⟨a, vs0, hv, h1, h2, il, _⟩ := o1.lst e0
      refine ⟨.ref a, hv, Or.inl ⟨rfl, vs0, .inl (.inl h1)⟩, q S H σ ρ F D.ex _ _ o1 w x fun vs S' H' ρ' ps hp o' x' => ?_⟩
      match ps, vs, hp, x' with
      | [pl], [v], .cons hp _, x' =>
        have o'' : StOk Γ S' H' σ ρ' (pl.tmp v ++ F) := o'
        obtain ⟨S2, ρ2, d, o2, x2⟩ := still_ok o'' hp x'
        have x3 : (match (ρ2[i]? : Option (Option Sl)) with
          | some (some (.v 1 (.lst ds))) => ds.length < 16777216 ∧ D.nx (ρ2.set i (some (.v 1 (.lst (ds ++ [d])))))
          | _ => False) := x2
        split at x3
        · rename_i ds e2
          obtain ⟨a', vs2, hv2, h3, h4, il2, up⟩ := o2.drop.lst e2
          have ea : a' = a := by rw [hv] at hv2; injection hv2 with z; injection z with z; injection z with z; exact z.symm
          subst ea
          refine ⟨a', vs2, v, rfl, rfl, h3, by rw [il2.len]; exact x3.1, ?_⟩
          exact l.nx S2 _ σ _ (up _ _ (il2.app (.cons (o2.isE (List.mem_cons_self ..)) .nil))) x3.2
        · exact x3.elim
    · exact x.elim⟩
abbrev oIAdd : OD := oI fun i j => .int (i + j)
abbrev oISub : OD := oI fun i j => .int (i - j)
theorem br_ipadd : Br Γ (ipI fun i j => i + j) oIAdd := br_I rfl fun _ _ _ => .int
theorem br_ipsub : Br Γ (ipI fun i j => i - j) oISub := br_I rfl fun _ _ _ => .int
end
section
variable (D : DEnds) (i : Nat) (u : TAD) (ρ : DEnv)
def kApp2 (ρ2 : DEnv) (p2 : Pl) : Prop := match p2 with
  | .t (.v 0 d) => (match (ρ2[i]? : Option (Option Sl)) with
    | some (some (.v 1 (.lst ds))) => ds.length < 16777216 ∧ D.nx (ρ2.set i (some (.v 1 (.lst (ds ++ [d])))))
    | _ => False)
  | _ => False
def kApp1 (ρ1 : DEnv) (ps : List Pl) : Prop := match ps with
  | [p] => stillP ρ1 p (kApp2 D i)
  | _ => False
theorem e_sApp : sApp i u D ρ = match (ρ[i]? : Option (Option Sl)) with
  | some (some (.v 1 (.lst _))) => u D.ex ρ (kApp1 D i)
  | _ => False := rfl
end
end Sw

/-! The data layer, 17: o[..] of an own class, methods of texts and lists by values. -/
namespace Sw
open PySem L2 PySem.Calls PyProof.Rows
section
variable {X : Cx} {k : Nat} {f C : Addr} {fd : FuncData} {ps : List Str} {sp : Sp} {dvs : List V} {ds : List Value} {W : WX}
theorem fn_in {K : PySem.W.Frag} {x qual : Str} {params : Arguments} {body : List Stmt} {scope : Scope} {dv : List V} {kws : List (Str × V)} (F : FunD K x qual params body scope dv kws f fd) : PySem.W.fnIn K f = true := by
  rcases F.ex with ⟨_, _, _, _, _, _, _, _, _, _, rfl, lk, _⟩
  unfold PySem.W.fnIn; rw [lk]
theorem own_item {P : Program} {w : World} {A : Around} {Ev : Value → Shared → Prop} {s : Shared} {K : PySem.W.Frag} {x : Addr} {ox : Obj} {od : Option Obj} {value slice : Expr} {i : Value} {Q : Value → Shared → Prop}
    (kin : K.In s.heap) (J : PySem.W.InstAt s.heap x ox C od) (m : Meth K C "__getitem__" f) (fi : PySem.W.fnIn K f = true) (h : wpAny (model P w) A.in1 (call (.ref f) [.ref x, i]) Q Ev s)
    (sl : subscripted slice true (.ref x) i = runValue (.builtin "lifetime.subscript" ⟨[.ref x, i], []⟩)) : wpAny (model P w) A (subscriptTail value slice (.ref x) i) Q Ev s := by
  have fin : wpAny (model P w) A (runValue (.builtin "lifetime.subscript" ⟨[.ref x, i], []⟩)) (fun v s' => wpAny (model P w) A (letTemporaryGo value (.ref x) v >>= fun _ => pure v) Q Ev s') Ev s :=
    wpAny_runValue (codeAny_builtin PySem.W.entry_sub (by
      unfold Builtin.«lifetime.subscript»
      exact wpAny_bind (PySem.W.special_fn kin J m.at_ (beq_iff_eq.mp m.fn) (wpAny_mono h (fun v s' z => wpAny_pure (wpAny_bind (wpAny_letTemporaryGo (wpAny_pure z)))) fun _ _ z => z))))
  cases lk : K.lookup f with
  | none => unfold PySem.W.fnIn at fi; rw [lk] at fi; cases fi
  | some ob =>
    rcases ob with ⟨c1, c2, dt, c3⟩
    cases dt with
    | func fd =>
      unfold subscriptTail
      unfold getitemInPython
      exact wpAny_bind (wpAny_bind (wpAny_bind (J.type.here ((PySem.W.looks_findIn kin m.at_).here (wpAny_bind (wpAny_load (kin _ _ lk) (wpAny_pure (by
        show wpAny (model P w) A (subscripted slice true (.ref x) i >>= _) Q Ev s
        rw [sl]; exact wpAny_bind fin))))))))
    | _ => unfold PySem.W.fnIn at fi; rw [lk] at fi; cases fi
variable {a b : Expr} {pos : Pos} {ta tb : TE}
def tItemE (C : Addr) (sp : Sp) (dvs : List V) (W : WX) (ta tb : TE) : TE := fun σ H Q =>
  ta σ H fun x H1 => tb σ H1 fun y H2 => ∃ o dx fs, x = .ref o ∧ H2 o = some (.ins C dx fs) ∧ sp (x :: y :: dvs) H2 Q (WE W σ)
theorem pe_itemE (ha : PE X a ta) (hb : PE X b tb) (c : Cls X.K C) (m : Meth X.K C "__getitem__" f) (fi : PySem.W.fnIn X.K f = true) (F : FnOk X.prog X.w X.K X.mg X.base (L2.CX X.prog X.w) k f fd ps sp) (hr : Room (k + 1) X.A) (bn : Binds X.K fd ps ds) (hd : Vals dvs ds) (tk : Takes X W)
    (sl : ∀ o i, subscripted b true o i = runValue (.builtin "lifetime.subscript" ⟨[o, i], []⟩)) : PE X (.Subscript a b pos) (tItemE C sp dvs W ta tb) := by
  refine ⟨fun pins s σ H Q I h => Subscript_ (binT ha hb I h fun v u s2 x y H2 I2 rx ry q => ?_)⟩
  rcases q with ⟨o, dx, fs, ex, ea, q2⟩
  subst ex
  obtain rfl : v = Value.ref o := rx
  rcases ins_get I2.hok ea with ⟨mA, O, _⟩
  rcases O.look with ⟨od, J, _⟩
  have r2 : Vals (V.ref o :: y :: dvs) (Value.ref o :: u :: ds) := .cons rfl (.cons ry hd)
  have hl : (Value.ref o :: u :: ds).length = ps.length := by rw [← r2.length]; exact F.len _ _ _ _ q2
  refine own_item I2.kIn J m fi (wpAny_call (codeAny_mono (F.run X.A.in1 X.stack s2 H2 _ (Value.ref o :: u :: ds) _ Q _ hr.in1 I2.env0.in1 (bn s2 [.ref o, u] I2.kIn hl) r2 q2) fun r s' hq => ?_)) (sl _ _)
  have z := ran (R := L2.CX X.prog X.w) (passAt tk σ) I2 hq
  split at z <;> first | exact z | exact z.elim
end
section
variable {Γ : Gm} {X : Cx} {W : WX} {e o a b : Expr} {es : List Expr} {pos apos p : Pos} {ta tb : TPD} {u : TAD}
/-- __getitem__ of the class c -/
structure GiG (M : Wd) (Γ : Gm) (c : Nat) (k : Nat) (ps : List Str) (ms : List Bool) (dsp : DSp) : Prop where
  ok : ∃ f fd, Meth M.K (Γ.T c).C "__getitem__" f ∧ PySem.W.fnIn M.K f = true ∧ Binds M.K fd ps [] ∧ FnOk M.P M.w M.K M.mg M.base (L2.CX M.P M.w) k f fd ps (lift Γ ms dsp)
  cl : Cls M.K (Γ.T c).C
/-- o[i] -/
def pItem (c : Nat) (ms : List Bool) (dsp : DSp) (ta tb : TPD) : TPD := fun E ρ Q => ta E ρ fun ρ1 po => tb E ρ1 fun ρ2 pi => match po.d ρ2 with
  | some (.obj k _) => k = c ∧ (match argL ρ2 ms [po, pi] with
    | some ds => dsp ds (fun k d => Q ρ2 (.t (.v k d))) fun x => E x ρ2
    | none => False)
  | _ => False
theorem dp_item {Γ' : Gm} {c k : Nat} {ps : List Str} {ms : List Bool} {dsp : DSp} (g : GiG (wd X) Γ' c k ps ms dsp) (hr : Room (k + 1) X.A) (tk : Takes X W) (ho : DP Γ X W a ta) (hi : DP Γ X W b tb)
    (hT : Γ'.T = Γ.T := by rfl) (hX : Γ'.X = Γ.X := by rfl) (hK : Γ'.K = Γ.K := by rfl) (sl : ∀ o i, subscripted b true o i = runValue (.builtin "lifetime.subscript" ⟨[o, i], []⟩) := by intro _ _; rfl) :
    DP Γ X W (.Subscript a b pos) (pItem c ms dsp ta tb) := by
  obtain ⟨f, fd, hm, fi, hb, F⟩ := g.ok
  obtain ⟨_, p1, q1⟩ := ho.run
  obtain ⟨_, p2, q2⟩ := hi.run
  rw [lift_in hT hX hK] at F
  have cl := g.cl
  rw [hT] at hm cl
  refine ⟨_, pe_itemE p1 p2 cl hm fi F hr hb .nil tk sl, fun S H σ ρ F E Q Qh o l x kk => q1 S H σ ρ F E _ _ o l x fun v S' H' ρ' po hp o' x' => ?_⟩
  refine q2 S' H' σ ρ' (po.tmp v ++ F) E _ _ o' l.tmp x' fun v2 S2 H2 ρ2 pi hpi o2 x2 => ?_
  have o2' : StOk Γ S2 H2 σ ρ2 (tmps [v, v2] [po, pi] ++ F) := by
    show StOk Γ S2 H2 σ ρ2 (((tmps [] [] ++ pi.tmp v2) ++ po.tmp v) ++ F)
    rw [List.append_assoc]; exact o2
  split at x2
  · rename_i c' fsd ed
    obtain ⟨rfl, x2⟩ := x2
    have rb : Rb Γ S2 H2 v _ := o2.rb hp ((List.sublist_append_left _ F).trans (List.sublist_append_right _ _)) ed
    obtain ⟨a, dx, vs0, rfl, h1, h2, l1⟩ := rb.obj o2.ok.ex
    refine ⟨a, dx, _, rfl, h1, ?_⟩
    split at x2
    · rename_i ds ed2
      have o3 := o2'.sub (F' := F) (List.sublist_append_right _ _)
      have a2 := argL_of o2' (.cons hp (.cons hpi .nil)) (List.sublist_append_left _ _) ed2
      exact ⟨S2, _, _, _, o2'.ok.ex, a2, x2, fun S3 H3 k z dz f st ow nd nw qq => kk z S3 H3 ρ2 (.t (.v k dz)) trivial (o3.push st ow nd nw) qq, fun S3 H3 y cls dd st ea ey => l S3 H3 σ ρ2 y cls dd (o3.step st) ea ey⟩
    · exact x2.elim
  · exact x2.elim
end
end Sw

/-! The data layer, 18: methods of built-in types by values. -/
namespace Sw
open PySem L2
abbrev MD := Dat → List Dat → (Nat → Dat → Prop) → Prop
section
variable {Γ : Gm} {X : Cx} {W : WX} {e o : Expr} {es : List Expr} {pos apos : Pos} {ta : TPD} {u : TAD}
def isStr : Dat → Bool
  | .str _ => true
  | _ => false
def isLst : Dat → Bool
  | .lst _ => true
  | _ => false
def BrM (Γ : Gm) (r : V → List V → Hp → VK → Prop) (md : MD) : Prop := ∀ S H x d vs ds Q Qh, Ex S H → Rb Γ S H x d → RbL Γ S H vs ds → md d ds Q → Post Γ S H Q Qh → r x vs H Qh
def TyD (Γ : Gm) (T : String) (t : Dat → Bool) : Prop := ∀ S H x d, Ex S H → Rb Γ S H x d → t d = true → tyV Γ.K T x H
theorem ty_str : TyD Γ "str" isStr := by
  intro S H x d _ r t
  cases d with
  | str z => rw [r.str]; rfl
  | _ => cases t
theorem ty_lst : TyD Γ "list" isLst := by
  intro S H x d ex r t
  cases d with
  | lst zs =>
    obtain ⟨a, vs, rfl, h, _⟩ := r.lst ex
    exact .inl ⟨rfl, vs, .inl (.inl h)⟩
  | _ => cases t
def pBm (t : Dat → Bool) (md : MD) (ta : TPD) (u : TAD) : TPD := fun E ρ Q => ta E ρ fun ρ1 po => match po.d ρ1 with
  | some d => t d = true ∧ u E ρ1 fun ρ2 ps => (match po.d ρ2, datL ρ2 ps with
    | some d2, some ds => md d2 ds fun k z => Q ρ2 (.t (.v k z))
    | _, _ => False)
  | none => False
theorem dp_bm {T id : String} {name : Str} {r : V → List V → Hp → VK → Prop} {t : Dat → Bool} {md : MD} (pa : PlainAttrs T) (slot : Slot T name id) (hty : typeOf (.builtin id) = pure (.type "method_descriptor")) (hm : MtR X id r) (ht : TyD Γ T t) (br : BrM Γ r md)
    (ho : DP Γ X W o ta) (ha : DA Γ X W (e :: es) u) (hK : Γ.K = X.K := by rfl)
    (hbase : attributeBase o name X.env (eval o X.env) = eval o X.env := by rfl)
    (hfew : ((backTo pos (starEach (e :: es) X.env)).all (fun x => !x.1) && (backToKw pos (keywordEach [] X.env)).all (fun x => x.1.isSome)
      && decide ((e :: es).length + ([] : List Keyword).length + (if ([] : List Keyword).isEmpty then 0 else 1) < 30)) = true := by rfl)
    (hline : (apos.endLine == pos.line) = true := by rfl) (hs : starEach (e :: es) X.env = (false, eval e X.env) :: starEach es X.env := by rfl) (hplain : (backTo pos (starEach es X.env)).any (·.1) = false := by rfl) :
    DP Γ X W (.Call (.Attribute o name apos) (e :: es) [] pos) (pBm t md ta u) := by
  obtain ⟨_, p1, q1⟩ := ho.run
  obtain ⟨_, p2, q2⟩ := ha.run
  refine ⟨_, pe_bm pa slot hty hm p1 p2 hbase hfew hline hs hplain, fun S H σ ρ F E Q Qh o l x kk => q1 S H σ ρ F E _ _ o l x fun v S' H' ρ' po hp o' x' => ?_⟩
  cases ed : po.d ρ' with
  | none => rw [ed] at x'; exact x'.elim
  | some d =>
    rw [ed] at x'
    obtain ⟨td, x'⟩ := x'
    refine ⟨hK ▸ ht S' H' v d o'.ok.ex (o'.rb hp (List.sublist_append_left _ _) ed) td, q2 S' H' σ ρ' (po.tmp v ++ F) E _ _ o' l.tmp x' fun vs S2 H2 ρ2 ps hps o2 x2 => ?_⟩
    cases e2 : po.d ρ2 with
    | none => rw [e2] at x2; exact x2.elim
    | some d2 =>
      cases e3 : datL ρ2 ps with
      | none => rw [e2, e3] at x2; exact x2.elim
      | some ds =>
        rw [e2, e3] at x2
        have r1 : Rb Γ S2 H2 v d2 := o2.rb hp ((List.sublist_append_left _ F).trans (List.sublist_append_right _ _)) e2
        have r2 := rbL_of hps o2 (List.sublist_append_left _ _) e3
        have o3 : StOk Γ S2 H2 σ ρ2 F := o2.sub ((List.sublist_append_right _ F).trans (List.sublist_append_right _ _))
        exact br S2 H2 v d2 vs ds _ _ o2.ok.ex r1 r2 x2 fun S3 H3 k z dz f st ow nd nw qq => kk z S3 H3 ρ2 (.t (.v k dz)) trivial (o3.push st ow nd nw) qq
/-- ''.join(..) -/
def mJoin : MD := fun d ds R => match d, ds with
  | .str a, [.lst zs] => ∃ ys : List Str, zs = ys.map Dat.str ∧ (ys.map (·.length)).sum + ys.length * a.length ≤ 16777216 ∧ R 0 (.str (Txt.join a ys))
  | _, _ => False
theorem isl_strs {T : Tb} {K : PySem.W.Frag} {S : Hp} : ∀ {vs : List V} {ys : List Str}, IsL T K S vs (ys.map Dat.str) → vs = ys.map V.str
  | _, [], .nil => rfl
  | _, _ :: _, .cons h l => by
    cases h
    rw [isl_strs l]; rfl
theorem br_join : BrM Γ (fun x xs H Q => ∃ a p, ∃ ys : List Str, x = .str a ∧ xs = [.ref p] ∧ (SqL Γ.K H p (ys.map V.str) ∨ SqT Γ.K H p (ys.map V.str)) ∧
    (ys.map (·.length)).sum + ys.length * a.length ≤ 16777216 ∧ Q (.str (Txt.join a ys)) H) mJoin := by
  intro S H x d vs ds Q Qh ex r1 rl m po
  unfold mJoin at m
  split at m
  · rename_i a zs
    obtain ⟨ys, rfl, hz, q⟩ := m
    cases rl with
    | cons r2 rl =>
      cases rl
      obtain ⟨p, ws, rfl, hw, il⟩ := r2.lst ex
      refine ⟨a, p, ys, r1.str, rfl, .inl (.inl (.inl ?_)), hz, po.sc ex .str q⟩
      rw [← isl_strs il]; exact hw
  · exact m.elim
/-- x.count(y) -/
def mCount : MD := fun d ds R => match d, ds with
  | .str a, [.str b] => R 0 (.int (Txt.count a b))
  | _, _ => False
theorem br_count : BrM Γ (fun x xs H Q => ∃ a b, x = .str a ∧ xs = [.str b] ∧ Q (.int (Txt.count a b)) H) mCount := by
  intro S H x d vs ds Q Qh ex r1 rl m po
  unfold mCount at m
  split at m
  · rename_i a b
    cases rl with
    | cons r2 rl =>
      cases rl
      exact ⟨a, b, r1.str, by rw [r2.str], po.sc ex .int m⟩
  · exact m.elim
end
section
variable (t : Dat → Bool) (md : MD) (ta tb : TPD) (u : TAD) (E : DEx) (ρ : DEnv) (Q : DEnv → Pl → Prop) (po : Pl) (c : Nat) (ms : List Bool) (dsp : DSp)
def kBm2 (ρ2 : DEnv) (ps : List Pl) : Prop := match po.d ρ2, datL ρ2 ps with
  | some d2, some ds => md d2 ds (kv Q ρ2)
  | _, _ => False
def kBm1 (ρ1 : DEnv) (po : Pl) : Prop := match po.d ρ1 with
  | some d => t d = true ∧ u E ρ1 (kBm2 md Q po)
  | none => False
theorem e_pBm : pBm t md ta u E ρ Q = ta E ρ (kBm1 t md u E Q) := rfl
def kIt2 (ρ2 : DEnv) (pi : Pl) : Prop := match po.d ρ2 with
  | some (.obj k _) => k = c ∧ (match argL ρ2 ms [po, pi] with
    | some ds => dsp ds (kv Q ρ2) (kx E ρ2)
    | none => False)
  | _ => False
def kIt1 (ρ1 : DEnv) (po : Pl) : Prop := tb E ρ1 (kIt2 E Q po c ms dsp)
theorem e_pItem : pItem c ms dsp ta tb E ρ Q = ta E ρ (kIt1 tb E Q c ms dsp) := rfl
end
end Sw

/-! The data layer, 19: sum, list(), tuple targets in comprehensions, xs[i] = e, xs[::-1]. -/
namespace Sw
open PySem L2
section
variable {Γ : Gm} {X : Cx} {W : WX} {e o a b : Expr} {es : List Expr} {pos apos : Pos} {ta tb : TPD} {u : TAD}
theorem isl_ints {T : Tb} {K : PySem.W.Frag} {S : Hp} : ∀ {vs : List V} {ns : List Int}, IsL T K S vs (nums ns) → vs = ns.map V.int
  | _, [], .nil => rfl
  | _, _ :: _, .cons h l => by
    cases h
    rw [isl_ints l]; rfl
theorem rb_ints {S H : Hp} {v : V} {ns : List Int} (ex : Ex S H) (r : Rb Γ S H v (.lst (nums ns))) : ∃ a, v = .ref a ∧ SqL Γ.K H a (ns.map V.int) := by
  obtain ⟨p, ws, rfl, hw, il⟩ := r.lst ex
  exact ⟨p, rfl, .inl (.inl (by rw [← isl_ints il]; exact hw))⟩
/-- sum(xs) -/
def uSum : LD := fun xs R => match xs with
  | [.lst zs] => ∃ ns : List Int, zs = nums ns ∧ R 0 (.int ns.sum)
  | _ => False
theorem br_sum : BrC Γ (rSum Γ.K) uSum := by
  intro S H vs ds Q Qh ex r q p
  unfold uSum at q
  split at q
  · obtain ⟨ns, rfl, q⟩ := q
    cases r with
    | cons r1 r =>
      cases r
      obtain ⟨a, rfl, h⟩ := rb_ints ex r1
      exact ⟨a, ns, rfl, h, p.sc ex .int q⟩
  · exact q.elim
/-- list(xs) -/
def uList : LD := fun xs R => match xs with
  | [.lst zs] => R 1 (.lst zs)
  | [.tup zs] => R 1 (.lst zs)
  | _ => False
theorem br_list : BrC Γ (fun xs H Q => ∃ p ys, xs = [.ref p] ∧ (SqL Γ.K H p ys ∨ SqT Γ.K H p ys) ∧ ∀ l, H l = none → Q (.ref l) (upd H l (.lst ys))) uList := by
  intro S H vs ds Q Qh ex r q p
  unfold uList at q
  split at q
  · cases r with
    | cons r1 r =>
      cases r
      obtain ⟨a, ws, rfl, h, il⟩ := r1.lst ex
      exact ⟨a, ws, rfl, .inl (.inl (.inl h)), fun l n => p.lst ex n il q⟩
  · cases r with
    | cons r1 r =>
      cases r
      obtain ⟨a, ws, rfl, h, il⟩ := r1.tup
      exact ⟨a, ws, rfl, .inr (ex.stp h), fun l n => p.lst ex n il q⟩
  · exact q.elim
/-! ### tuple targets of a comprehension -/
def GsOnly (g' : TGs) (vs : List Nat) : Prop := ∀ us σ H Q Q', g' us σ H Q → (∀ σ' H', Only vs σ σ' → Q σ' H' → Q' σ' H') → g' us σ H Q'
structure DGsO (Γ : Gm) (X : Cx) (es : List Expr) (vs : List Nat) (g : TGsD) : Prop where
  run : ∃ g', PGs X es g' ∧ RunGs Γ g' g ∧ GsOnly g' vs
theorem dgo_nil {vs : List Nat} : DGsO Γ X [] vs gdNil :=
  let ⟨_, p, q⟩ := (dgs_nil (Γ := Γ) (X := X)).run
  ⟨_, pgs_nil, fun S H σ ρ F ws ds Q Qh hl o q k => by
    obtain ⟨rfl, q⟩ := q
    cases ws with
    | nil => exact ⟨rfl, k S H σ ρ o q⟩
    | cons _ _ => simp at hl, fun us σ H Q Q' h k => ⟨h.1, k _ _ rfl h.2⟩⟩
theorem dgo_cons {g : TGD} {gu : TGsD} {vs : List Nat} (h1 : DGo Γ X e vs g) (h2 : DGsO Γ X es vs gu) (hs : (assignEach (e :: es) X.env).map (·.2) = assign e X.env :: (assignEach es X.env).map (·.2) := by rfl) : DGsO Γ X (e :: es) vs (gdCons g gu) :=
  let ⟨_, p1, q1, o1⟩ := h1.run; let ⟨_, p2, q2, o2⟩ := h2.run
  ⟨_, pgs_cons p1 p2 hs, fun S H σ ρ F ws ds Q Qh hl o q k => by
    cases ds with
    | nil => exact q.elim
    | cons d ds =>
      cases ws with
      | nil => simp at hl
      | cons v ws =>
        refine ⟨v, ws, rfl, q1 S H σ ρ (zipE ws ds ++ F) v (.v 0 d) _ _ o q fun S' H' σ' ρ' o' q' => ?_⟩
        exact q2 S' H' σ' ρ' F ws ds Q Qh (by simpa using hl) o' q' k,
    fun us σ H Q Q' h k => by
      obtain ⟨v, ws, e, h⟩ := h
      exact ⟨v, ws, e, o1 _ _ _ _ _ h fun σ' H' z h' => o2 _ _ _ _ _ h' fun σ2 H2 z2 h2 => k _ _ (z2.trans z) h2⟩⟩
theorem dgo_tup {k n : Nat} {gu : TGsD} {vs : List Nat} (hc : X.calm = true) (h : DGsO Γ X es vs gu) (hn : (assignEach es X.env).length = n := by rfl) (hst : (assignEach es X.env).findIdx? (·.1) = none := by rfl) (hK : Γ.K = X.K := by rfl) : DGo Γ X (.Tuple es k pos) vs (gdTup n gu) :=
  let ⟨_, p1, q1, o1⟩ := h.run; ⟨_, pg_tup hc p1 hn hst, run_gtup hK q1, fun v σ H Q Q' h k => by
    obtain ⟨a, xs, e, hs, hl, h⟩ := h
    exact ⟨a, xs, e, hs, hl, o1 _ _ _ _ _ h k⟩⟩
/-! ### xs[i] = e -/
/-- xs[j] = e, xs a name's own list -/
def kSI2 (i : Nat) (D : DEnds) (d : Dat) (ρ3 : DEnv) (pj : Pl) : Prop := match (ρ3[i]? : Option (Option Sl)), pj.d ρ3 with
  | some (some (.v 1 (.lst ds))), some (.int j) => (match ixN ds.length j with
    | some n => D.nx (ρ3.set i (some (.v 1 (.lst (ds.set n d)))))
    | none => False)
  | _, _ => False
def kSI1 (i : Nat) (tj : TPD) (D : DEnds) (ρ2 : DEnv) (p2 : Pl) : Prop := match p2, (ρ2[i]? : Option (Option Sl)) with
  | .t (.v 0 d), some (some (.v 1 (.lst _))) => tj D.ex ρ2 (kSI2 i D d)
  | _, _ => False
def kSI0 (i : Nat) (tj : TPD) (D : DEnds) (ρ1 : DEnv) (p : Pl) : Prop := stillP ρ1 p (kSI1 i tj D)
def sSetI (i : Nat) (ta tj : TPD) : TSD := fun D ρ => ta D.ex ρ (kSI0 i tj D)
theorem ds_setI {i : Nat} {x : Str} {px ps : Pos} {tj : TPD} (hx : PE X (.Name x px) (tVar i)) (hj : DP Γ X W b tj) (hv : DP Γ X W e ta)
    (hs : swapsWithSole [.Subscript (.Name x px) b ps] e pos.line X.env = pure false := by rfl) (hw : swappedStores [.Subscript (.Name x px) b ps] e X.env = pure none := by rfl)
    (h1 : (assignEach [.Subscript (.Name x px) b ps] X.env).map (·.2) = [assign (.Subscript (.Name x px) b ps) X.env] := by rfl)
    (hasg : ∀ v, assign (.Subscript (.Name x px) b ps) X.env v = (do
      let ov ← holding [v] (eval (.Name x px) X.env)
      let iv ← holding [v, ov] (eval b X.env)
      standAt ps
      holding [v, ov, iv] (setItem ov iv v)
      release [v, ov, iv] []) := by intro _; rfl) :
    DS Γ X W (.Assign [.Subscript (.Name x px) b ps] e pos) (sSetI i ta tj) :=
  let ⟨_, p1, q1⟩ := hv.run; let ⟨_, p2, q2⟩ := hj.run
  ⟨_, ps_asg p1 (pg_sub hx p2 set_list hasg) hs hw h1, fun S H σ ρ F D Dh o1 l w x => q1 S H σ ρ F D.ex _ _ o1 w x fun v S' H' ρ' pl hp o' x' => by
    obtain ⟨S2, ρ2, d, o2, x2⟩ := still_ok o' hp x'
    unfold kSI1 at x2
    split at x2
    · rename_i d' ds0 ed e0
      cases ed
      obtain ⟨l0, vs0, hv0, _⟩ := o2.lst e0
      refine ⟨.ref l0, hv0, q2 S2 H' σ ρ2 _ D.ex _ _ o2 (w.more [_]) x2 fun v3 S3 H3 ρ3 pj hpj o3 x3 => ?_⟩
      unfold kSI2 at x3
      split at x3
      · rename_i ds j e3 ej
        split at x3
        · rename_i n hn
          have r3 : Rb Γ S3 H3 v3 (.int j) := o3.rb hpj (List.sublist_append_left _ _) ej
          have o4 : StOk Γ S3 H3 σ ρ3 ((some v, some (.v 0 d)) :: F) := o3.sub (List.sublist_append_right _ _)
          obtain ⟨l1, vs1, hv1, h3, h4, il, up⟩ := o4.drop.lst e3
          have ea : l1 = l0 := by rw [hv0] at hv1; injection hv1 with z; injection z with z; injection z with z; exact z.symm
          subst ea
          refine ⟨l1, vs1, j, n, rfl, r3.int, h3, by rw [il.len]; exact hn, ?_⟩
          exact l.nx S3 _ σ _ (up _ _ (il.set (o4.isE (List.mem_cons_self ..)))) x3
        · exact x3.elim
      · exact x3.elim
    · exact x2.elim⟩
theorem e_sSetI (i : Nat) (ta tj : TPD) (D : DEnds) (ρ : DEnv) : sSetI i ta tj D ρ = ta D.ex ρ (kSI0 i tj D) := rfl
/-! ### is True, in a list of data -/
def oIsB (neg : Bool) : OD := fun x y R => match x, y with
  | .bl a, .bl b => R 0 (.bl (if neg then !decide (a = b) else decide (a = b)))
  | _, _ => False
theorem br_isB : Br Γ rIsB (oIsB false) := by
  intro S H x y dx dy Q Qh e hx hy q p
  unfold oIsB at q
  split at q
  · exact ⟨_, _, hx.bl, hy.bl, p.sc e .bl q⟩
  · exact q.elim
theorem br_notB : Br Γ rNotB (oIsB true) := by
  intro S H x y dx dy Q Qh e hx hy q p
  unfold oIsB at q
  split at q
  · exact ⟨_, _, hx.bl, hy.bl, p.sc e .bl q⟩
  · exact q.elim
def oInD (neg : Bool) : OD := fun x y R => match y with
  | .lst ys => eqOk x ∧ eqOk (.lst ys) ∧ R 0 (.bl (if neg then !din x ys else din x ys))
  | _ => False
theorem any_py (x : Dat) : ∀ ys : List Dat, ((pyL ys).any fun z => PyData.eqv z (py x)) = din x ys
  | [] => by unfold pyL din; rfl
  | y :: ys => by
    have ih := any_py x ys
    unfold din at ih ⊢
    rw [pyL, List.any_cons, List.any_cons, ih]; rfl
theorem py_lst (ys : List Dat) : py (.lst ys) = .list (pyL ys) := by rw [py]
theorem br_inD : Br Γ (rInD Γ.K) (oInD false) := fun S H x y dx dy Q Qh e hx hy q p => by
  unfold oInD at q
  split at q
  · rename_i ys
    refine ⟨py dx, pyL ys, dp_rb e hx q.1.1, by rw [← py_lst]; exact dp_rb e hy q.2.1.1, q.1.2, by rw [← py_lst]; exact q.2.1.2, ?_⟩
    rw [any_py]; exact p.sc e .bl q.2.2
  · exact q.elim
theorem br_notInD : Br Γ (rNotInD Γ.K) (oInD true) := fun S H x y dx dy Q Qh e hx hy q p => by
  unfold oInD at q
  split at q
  · rename_i ys
    refine ⟨py dx, pyL ys, dp_rb e hx q.1.1, by rw [← py_lst]; exact dp_rb e hy q.2.1.1, q.1.2, by rw [← py_lst]; exact q.2.1.2, ?_⟩
    rw [any_py]; exact p.sc e .bl q.2.2
  · exact q.elim
theorem units65 {k : Nat} {A : Around} (hr : Room k A) : A.units + 65 < cLine := by have := hr.un; omega
theorem ix_last {n : Nat} : ixN (n + 1) (-1) = some n := by
  unfold ixN
  rw [if_neg (by decide), if_pos (by omega)]
  congr 1
  omega
theorem at_last {α : Type} {xs : List α} {x : α} : atI (xs ++ [x]) (-1) = some x := by
  unfold atI
  rw [List.length_append, List.length_singleton, ix_last]
  show (xs ++ [x])[xs.length]? = some x
  rw [List.getElem?_append_right (Nat.le_refl _), Nat.sub_self]; rfl
theorem set_last {α : Type} {xs : List α} {x y : α} : (xs ++ [x]).set xs.length y = xs ++ [y] := by
  rw [List.set_append_right _ _ (Nat.le_refl _)]
  simp
end
end Sw

/-! The data layer, 20: {'x': 'y', 'y': 'x'}[e], e a name or a subscript of names. -/
namespace Sw
open PySem L2
section
variable {Γ : Gm} {X : Cx} {W : WX} {e o a b : Expr} {es : List Expr} {pos apos : Pos} {ta tb : TPD} {u : TAD}
theorem units1 {k : Nat} {A : Around} (hr : Room k A) : A.units + 1 < cLine := by have := hr.un; omega
/-- the heap stays -/
def Pur (te : TE) : Prop := ∀ σ H Q, te σ H Q → ∃ v, Q v H ∧ ∀ Q' : VK, Q' v H → te σ H Q'
structure DPp (Γ : Gm) (X : Cx) (W : WX) (e : Expr) (t : TPD) : Prop where
  run : ∃ te, PE X e te ∧ RunP Γ W te t ∧ Pur te
theorem pur_var {i : Nat} : Pur (tVar i) := fun σ H Q h => h.elim fun v h => ⟨v, h.2, fun Q' h' => ⟨v, h.1, h'⟩⟩
theorem dpp_name {i : Nat} (h : PE X e (tVar i)) : DPp Γ X W e (pName i) := by
  refine ⟨tVar i, h, fun S H σ ρ F E Q Qh o l q k => ?_, pur_var⟩
  unfold pName at q
  split at q
  · rename_i sl hr
    have hlen : i < σ.length := by rw [o.len]; exact (List.getElem?_eq_some_iff.mp hr).1
    cases hv : σ[i]? with
    | none => rw [List.getElem?_eq_none_iff] at hv; omega
    | some ov =>
      obtain ⟨A, B, e1, _⟩ := zip_at hv hr
      cases ov with
      | none =>
        obtain ⟨fs, s, _⟩ := o.ok.sep
        rw [e1, List.append_assoc] at s
        exact (sep_no s).elim
      | some v => exact ⟨v, hv, k v S H ρ (.s i) hv o q⟩
  · exact q.elim
theorem dpp_int {i : Int} {k : Nat} : DPp Γ X W (.Constant (.int i) k pos) (pC (.int i)) :=
  ⟨tC (.int i), pe_int, fun S H σ ρ F E Q Qh o l q k => k _ S H ρ (.t (.v 0 (.int i))) trivial (o.pushS .int) q, fun _ _ _ h => ⟨_, h, fun _ h' => h'⟩⟩
theorem pur_ix {K : PySem.W.Frag} {x y : TE} (hx : Pur x) (hy : Pur y) : Pur (tOp (rIx K) x y) := fun σ H Q h => by
  obtain ⟨v, h1, k1⟩ := hx σ H _ h
  obtain ⟨w, h2, k2⟩ := hy σ H _ h1
  have r : ∃ z, Q z H ∧ ∀ Q' : VK, Q' z H → rIx K v w H Q' := by
    rcases h2 with ⟨p, xs, i, z, e1, e2, e3, e4, q⟩ | ⟨p, xs, i, z, e1, e2, e3, e4, q⟩ | ⟨p, xs, i, e1, e2, e3, e4, q⟩
    · exact ⟨_, q, fun Q' q' => .inl ⟨p, xs, i, z, e1, e2, e3, e4, q'⟩⟩
    · exact ⟨_, q, fun Q' q' => .inr (.inl ⟨p, xs, i, z, e1, e2, e3, e4, q'⟩)⟩
    · exact ⟨_, q, fun Q' q' => .inr (.inr ⟨p, xs, i, e1, e2, e3, e4, q'⟩)⟩
  obtain ⟨z, qz, kz⟩ := r
  exact ⟨z, qz, fun Q' q' => k1 _ (k2 _ (kz Q' q'))⟩
theorem dpp_ix (ha : DPp Γ X W a ta) (hb : DPp Γ X W b tb) (hs : PlainIx b) (hK : Γ.K = X.K := by rfl) : DPp Γ X W (.Subscript a b pos) (pOp oIx ta tb) :=
  let ⟨_, p1, q1, u1⟩ := ha.run; let ⟨_, p2, q2, u2⟩ := hb.run
  ⟨_, pe_ix ix_seq p1 p2 hs, run_op (hK ▸ br_ix) q1 q2, pur_ix u1 u2⟩
/-- {k1: v1, k2: v2}[e] -/
def kSel (k1 v1 k2 v2 : Str) (Q : DEnv → Pl → Prop) (ρ1 : DEnv) (p : Pl) : Prop := match p.d ρ1 with
  | some (.str k) => if k = k1 then Q ρ1 (.t (.v 0 (.str v1))) else if k = k2 then Q ρ1 (.t (.v 0 (.str v2))) else False
  | _ => False
def pSel (k1 v1 k2 v2 : Str) (tb : TPD) : TPD := fun E ρ Q => tb E ρ (kSel k1 v1 k2 v2 Q)
theorem e_pSel (k1 v1 k2 v2 : Str) (tb : TPD) (E : DEx) (ρ : DEnv) (Q : DEnv → Pl → Prop) : pSel k1 v1 k2 v2 tb E ρ Q = tb E ρ (kSel k1 v1 k2 v2 Q) := rfl
theorem dp_sel {k1 v1 k2 v2 : Str} {n1 n2 n3 n4 : Nat} {p1 p2 p3 p4 p5 : Pos} (hu : X.A.units + 1 < cLine) (hb : DPp Γ X W b tb) (hs : NoSl b) (hne : k1 ≠ k2) :
    DP Γ X W (.Subscript (.Dict [some (.Constant (.str k1) n1 p1), some (.Constant (.str k2) n2 p2)] [.Constant (.str v1) n3 p3, .Constant (.str v2) n4 p4] p5) b pos) (pSel k1 v1 k2 v2 tb) := by
  obtain ⟨te, pb, qb, ub⟩ := hb.run
  refine ⟨_, pe_dget hu (pe_disp (pps_cons pe_str pe_str (pps_cons pe_str pe_str pps_nil)) rfl rfl (by simp) (by simp)) pb hs, fun S H σ ρ F E Q Qh o l x kk => ?_⟩
  intro p hp
  have kvs : List (Key × V) := [(Sum.inr k1, .str v1), (Sum.inr k2, .str v2)]
  refine ⟨upd_same, [(Sum.inr k1, .str v1), (Sum.inr k2, .str v2)], rfl, by simp, ?_⟩
  rw [upd_upd]
  have o1 := o.step (Stp.newOwn (o := .dK (mergeK [] [(Sum.inr k1, V.str v1), (Sum.inr k2, V.str v2)])) o.ok.ex hp)
  have hm : mergeK [] [((Sum.inr k1 : Key), V.str v1), (Sum.inr k2, V.str v2)] = [(Sum.inr k1, .str v1), (Sum.inr k2, .str v2)] := by
    unfold mergeK
    simp [putK, hne]
  obtain ⟨y, hy, ky⟩ := ub σ _ _ (qb S _ σ ρ F E _ (fun v H1 => ∃ z : Str, v = .str (if z = k1 then k1 else k2) ∧ (z = k1 ∨ z = k2) ∧ Qh (.str (if z = k1 then v1 else v2)) H1) o1 l x fun v S' H' ρ' pl hpl o' x' => by
    unfold kSel at x'
    split at x'
    · rename_i z ed
      have r := o'.rb hpl (List.sublist_append_left _ _) ed
      have o2 := o'.dropP
      by_cases h1 : z = k1
      · subst h1
        rw [if_pos rfl] at x'
        refine ⟨z, by rw [if_pos rfl, r.str], .inl rfl, ?_⟩
        rw [if_pos rfl]
        exact kk _ S' H' ρ' (.t (.v 0 (.str v1))) trivial (o2.pushS .str) x'
      · rw [if_neg h1] at x'
        by_cases h2 : z = k2
        · subst h2
          rw [if_pos rfl] at x'
          refine ⟨z, by rw [if_neg h1, r.str], .inr rfl, ?_⟩
          rw [if_neg h1]
          exact kk _ S' H' ρ' (.t (.v 0 (.str v2))) trivial (o2.pushS .str) x'
        · rw [if_neg h2] at x'
          exact x'.elim
    · exact x'.elim)
  obtain ⟨z, rfl, hz, hq⟩ := hy
  refine ky _ ⟨p, _, rfl, ?_, hq⟩
  have g : DGet (upd H p (.dK (mergeK [] [(Sum.inr k1, V.str v1), (Sum.inr k2, V.str v2)]))) p (kV (Sum.inr (if z = k1 then k1 else k2))) (valV (mergeK [] [((Sum.inr k1 : Key), V.str v1), (Sum.inr k2, V.str v2)]) (Sum.inr (if z = k1 then k1 else k2))) := DGet.k upd_same
  have e : valV (mergeK [] [((Sum.inr k1 : Key), V.str v1), (Sum.inr k2, V.str v2)]) (Sum.inr (if z = k1 then k1 else k2)) = some (.str (if z = k1 then v1 else v2)) := by
    rw [hm]
    unfold valV
    by_cases h1 : z = k1
    · simp [h1]
    · simp [h1, hne]
  rw [e] at g
  exact g
end
end Sw

/-! The data layer, 21: slices, xs[::-1] of a list. -/
namespace Sw
open PySem L2
abbrev TOD := DEx → DEnv → (DEnv → Option Int → Prop) → Prop
def RunO (Γ : Gm) (W : WX) (te : TO) (t : TOD) : Prop := ∀ S H σ ρ F E Q Qh, StOk Γ S H σ ρ F → LW Γ F E W → t E ρ Q →
    (∀ v S' H' ρ', StOk Γ S' H' σ ρ' F → Q ρ' v → Qh v H') → te σ H Qh
structure DPo (Γ : Gm) (X : Cx) (W : WX) (e : Option Expr) (t : TOD) : Prop where
  run : ∃ te, PO X e te ∧ RunO Γ W te t
section
variable {Γ : Gm} {X : Cx} {W : WX} {e : Expr} {lo hi : Option Expr} {pos p2 : Pos} {ta : TPD} {tl tu : TOD}
def poNone : TOD := fun _ ρ Q => Q ρ none
def kSome (Q : DEnv → Option Int → Prop) (ρ1 : DEnv) (p : Pl) : Prop := match p.d ρ1 with
  | some (.int i) => Q ρ1 (some i)
  | _ => False
def poSome (ta : TPD) : TOD := fun E ρ Q => ta E ρ (kSome Q)
theorem dpo_none : DPo Γ X W none poNone := ⟨_, po_none, fun S H σ ρ F E Q Qh o l q k => k none S H ρ o q⟩
theorem dpo_some (h : DP Γ X W e ta) : DPo Γ X W (some e) (poSome ta) :=
  let ⟨_, p, q⟩ := h.run
  ⟨_, po_some p, fun S H σ ρ F E Q Qh o l x k => q S H σ ρ F E _ _ o l x fun v S' H' ρ' pl hp o' x' => by
    unfold kSome at x'
    split at x'
    · rename_i i ed
      exact ⟨i, (o'.rb hp (List.sublist_append_left _ _) ed).int, k (some i) S' H' ρ' o'.dropP x'⟩
    · exact x'.elim⟩
abbrev SD := Dat → Option Int → Option Int → (Nat → Dat → Prop) → Prop
def BrS (Γ : Gm) (r : V → Option Int → Option Int → Hp → VK → Prop) (sd : SD) : Prop := ∀ S H x d lo hi Q Qh, Ex S H → Rb Γ S H x d → sd d lo hi Q → Post Γ S H Q Qh → r x lo hi H Qh
def kSl3 (sd : SD) (Q : DEnv → Pl → Prop) (p : Pl) (lo : Option Int) (ρ3 : DEnv) (hi : Option Int) : Prop := match p.d ρ3 with
  | some d => sd d lo hi (kv Q ρ3)
  | none => False
def kSl2 (sd : SD) (tu : TOD) (E : DEx) (Q : DEnv → Pl → Prop) (p : Pl) (ρ2 : DEnv) (lo : Option Int) : Prop := tu E ρ2 (kSl3 sd Q p lo)
def kSl1 (sd : SD) (tl tu : TOD) (E : DEx) (Q : DEnv → Pl → Prop) (ρ1 : DEnv) (p : Pl) : Prop := tl E ρ1 (kSl2 sd tu E Q p)
def pSl (sd : SD) (ta : TPD) (tl tu : TOD) : TPD := fun E ρ Q => ta E ρ (kSl1 sd tl tu E Q)
theorem e_pSl (sd : SD) (ta : TPD) (tl tu : TOD) (E : DEx) (ρ : DEnv) (Q : DEnv → Pl → Prop) : pSl sd ta tl tu E ρ Q = ta E ρ (kSl1 sd tl tu E Q) := rfl
theorem e_poSome (ta : TPD) (E : DEx) (ρ : DEnv) (Q : DEnv → Option Int → Prop) : poSome ta E ρ Q = ta E ρ (kSome Q) := rfl
theorem dp_slice {r : V → Option Int → Option Int → Hp → VK → Prop} {sd : SD} (hr : SlR X r) (br : BrS Γ r sd) (he : DP Γ X W e ta) (hl : DPo Γ X W lo tl) (hu : DPo Γ X W hi tu) :
    DP Γ X W (.Subscript e (.Slice lo hi none p2) pos) (pSl sd ta tl tu) := by
  obtain ⟨_, p1, q1⟩ := he.run
  obtain ⟨_, p2, q2⟩ := hl.run
  obtain ⟨_, p3, q3⟩ := hu.run
  refine ⟨_, pe_slice hr p1 p2 p3, fun S H σ ρ F E Q Qh o l x kk => q1 S H σ ρ F E _ _ o l x fun v S' H' ρ' po hp o' x' => ?_⟩
  refine q2 S' H' σ ρ' (po.tmp v ++ F) E _ _ o' l.tmp x' fun lo S2 H2 ρ2 o2 x2 => ?_
  refine q3 S2 H2 σ ρ2 (po.tmp v ++ F) E _ _ o2 l.tmp x2 fun hi S3 H3 ρ3 o3 x3 => ?_
  unfold kSl3 at x3
  split at x3
  · rename_i d ed
    exact br S3 H3 v d lo hi _ _ o3.ok.ex (o3.rb hp (List.sublist_append_left _ _) ed) x3 fun S4 H4 k z dz f st ow nd nw qq => kk z S4 H4 ρ3 (.t (.v k dz)) trivial (o3.dropP.push st ow nd nw) qq
  · exact x3.elim
/-- a text or a list -/
def cutD (xs : List Dat) (lo hi : Option Int) : List Dat := (xs.drop (HT.sIx xs.length 0 lo)).take (HT.sIx xs.length xs.length hi - HT.sIx xs.length 0 lo)
def uSl : SD := fun d lo hi R => match d with
  | .str z => z.length ≤ 16777216 ∧ R 0 (.str (cutS z lo hi))
  | .lst xs => R 1 (.lst (cutD xs lo hi))
  | .tup xs => R 0 (.tup (cutD xs lo hi))
  | _ => False
theorem isl_drop {T : Tb} {K : PySem.W.Frag} {S : Hp} : ∀ {vs : List V} {ds : List Dat} (n : Nat), IsL T K S vs ds → IsL T K S (vs.drop n) (ds.drop n)
  | _, _, 0, h => h
  | _, _, _ + 1, .nil => .nil
  | _, _, n + 1, .cons _ l => isl_drop n l
theorem isl_take {T : Tb} {K : PySem.W.Frag} {S : Hp} : ∀ {vs : List V} {ds : List Dat} (n : Nat), IsL T K S vs ds → IsL T K S (vs.take n) (ds.take n)
  | _, _, 0, _ => .nil
  | _, _, _ + 1, .nil => .nil
  | _, _, n + 1, .cons h l => .cons h (isl_take n l)
theorem isl_cut {T : Tb} {K : PySem.W.Frag} {S : Hp} {vs : List V} {ds : List Dat} (lo hi : Option Int) (h : IsL T K S vs ds) : IsL T K S (cutV vs lo hi) (cutD ds lo hi) := by
  unfold cutV cutD
  rw [h.len]
  exact isl_take _ (isl_drop _ h)
theorem sl_U : SlR X (fun x lo hi H Q => rSlS x lo hi H Q ∨ (rSlL X.K x lo hi H Q ∨ rSlA X.K x lo hi H Q)) := sl_str.or (sl_list.or sl_tupA)
theorem br_slU : BrS Γ (fun x lo hi H Q => rSlS x lo hi H Q ∨ (rSlL Γ.K x lo hi H Q ∨ rSlA Γ.K x lo hi H Q)) uSl := by
  intro S H x d lo hi Q Qh ex r q p
  unfold uSl at q
  split at q
  · rename_i z
    exact .inl ⟨z, r.str, sz q.1, p.sc ex .str q.2⟩
  · rename_i xs
    obtain ⟨a, ws, rfl, h, il⟩ := r.lst ex
    exact .inr (.inl ⟨a, ws, rfl, .inl (.inl h), fun l n => p.lst ex n (isl_cut lo hi il) q⟩)
  · rename_i xs
    obtain ⟨a, ws, rfl, h, il⟩ := r.tup
    refine .inr (.inr ⟨a, ws, rfl, ex.stp h, fun hw => ?_, fun _ l n => p.tup ex n (isl_cut lo hi il) q⟩)
    have e : cutD xs lo hi = xs := by
      unfold cutD
      rw [← il.len, hw.1, hw.2, List.drop_zero, Nat.sub_zero, il.len, List.take_length]
    rw [e] at q
    exact p.sc ex (.tup h il) q
  · exact q.elim
/-- xs[::-1], a list -/
def kRev (Q : DEnv → Pl → Prop) (ρ1 : DEnv) (p : Pl) : Prop := match p.d ρ1 with
  | some (.lst xs) => Q ρ1 (.t (.v 1 (.lst xs.reverse)))
  | _ => False
def pRev (ta : TPD) : TPD := fun E ρ Q => ta E ρ (kRev Q)
theorem e_pRev (ta : TPD) (E : DEx) (ρ : DEnv) (Q : DEnv → Pl → Prop) : pRev ta E ρ Q = ta E ρ (kRev Q) := rfl
theorem isl_rev {T : Tb} {K : PySem.W.Frag} {S : Hp} : ∀ {vs : List V} {ds : List Dat}, IsL T K S vs ds → IsL T K S vs.reverse ds.reverse
  | _, _, .nil => .nil
  | _, _, .cons h l => by rw [List.reverse_cons, List.reverse_cons]; exact (isl_rev l).app (.cons h .nil)
theorem dp_rev {k : Nat} {p1 p3 p4 : Pos} (he : DP Γ X W e ta) (hK : Γ.K = X.K := by rfl) : DP Γ X W (.Subscript e (.Slice none none (some (.UnaryOp .USub (.Constant (.int 1) k p1) p3)) p4) pos) (pRev ta) := by
  obtain ⟨_, p1, q1⟩ := he.run
  refine ⟨_, pe_revL p1, fun S H σ ρ F E Q Qh o l x kk => q1 S H σ ρ F E _ _ o l x fun v S' H' ρ' po hp o' x' => ?_⟩
  unfold kRev at x'
  split at x'
  · rename_i xs ed
    obtain ⟨a, ws, rfl, h, il⟩ := (o'.rb hp (List.sublist_append_left _ _) ed).lst o'.ok.ex
    refine ⟨a, ws, rfl, .inl (.inl h), fun z n => ?_⟩
    have pst : Post Γ S' H' (fun k d => Q ρ' (.t (.v k d))) Qh := fun S4 H4 k z dz f st ow nd nw qq => kk z S4 H4 ρ' (.t (.v k dz)) trivial (o'.dropP.push st ow nd nw) qq
    exact pst.lst o'.ok.ex n (isl_rev il) x'
  · exact x'.elim
end
end Sw

/-! The data layer, 22: list(range(..)). -/
namespace Sw
open PySem L2 PyProof.Rows
section
variable {X : Cx}
def intsR (lo : Int) (n : Nat) : List Int := (List.range n).map fun (k : Nat) => lo + (k : Int)
theorem cr_rng1 : CallR X (.type "range") (fun vs H Q => ∃ j, vs = [V.int j] ∧ ∀ p, H p = none → Q (.ref p) (upd H p (.rng 0 j))) := by
  intro pins s σ H vs us Q I r h
  rcases h with ⟨j, rfl, q⟩
  rcases r.one with ⟨u, rfl, ru⟩
  rcases ru with ⟨t, rfl⟩
  refine call_range_1 ⟨.ref s.heap.objs.size, _, I.laid (t' := s.toks + 1 + 1) (o := .rng 0 j) (fun b o e => Heap.get?_push_of_some _ e) (Nat.le_refl _) ?_, rfl, q _ (I.hok.fresh (Nat.le_refl _))⟩
  exact ⟨s.toks, t, s.toks + 1, Heap.get?_push_size _ rfl⟩
theorem vals_items {lo : Int} : ∀ (n : Nat) (l : List Value) (i0 : Nat), l.length = n → (∀ j v, l[j]? = some v → ∃ t, v = Value.int (lo + ((i0 + j : Nat) : Int) * 1) t) → Vals ((intsR (lo + i0) n).map V.int) l
  | 0, [], _, _, _ => .nil
  | n + 1, v :: l, i0, hl, h => by
    have h0 := h 0 v rfl
    have ih := vals_items n l (i0 + 1) (by simpa using hl) fun j w e => by
      have := h (j + 1) w e
      rw [show i0 + 1 + j = i0 + (j + 1) by omega]; exact this
    have e : intsR (lo + (i0 : Int)) (n + 1) = (lo + i0) :: intsR (lo + ((i0 + 1 : Nat) : Int)) n := by
      unfold intsR
      rw [List.range_succ_eq_map, List.map_cons, List.map_map]
      congr 1
      · show lo + (i0 : Int) + ((0 : Nat) : Int) = _; omega
      · refine List.map_congr_left fun k _ => ?_
        show lo + (i0 : Int) + ((k + 1 : Nat) : Int) = lo + ((i0 + 1 : Nat) : Int) + (k : Int)
        omega
    rw [e, List.map_cons]
    refine .cons ?_ ih
    rcases h0 with ⟨t, rfl⟩
    exact ⟨t, by rw [Nat.add_zero, Int.mul_one]⟩
theorem call_list_rng (hc : X.calm = true) : CallR X (.type "list") (fun vs H Q => ∃ p lo hi, vs = [V.ref p] ∧ H p = some (.rng lo hi) ∧ Builtin.Range.small lo hi 1 = true ∧ Builtin.Range.rangeSize lo hi 1 = ((hi - lo).toNat : Int) ∧ (hi - lo).toNat ≤ 16777216 ∧
    ∀ l, H l = none → Q (.ref l) (upd H l (.lst ((intsR lo (hi - lo).toNat).map V.int)))) := by
  intro pins s σ H vs us Q I r h
  rcases h with ⟨p, lo, hi, rfl, hp, sm, rs, hz, q⟩
  rcases r.one with ⟨u, rfl, ru⟩
  cases ru
  rcases I.hok p _ hp with ⟨t, u, v, ho⟩
  refine call_list_range (I.ok.hd hc) ho sm rs (by have : (2:Nat)^24 = 16777216 := by decide
                                                   omega) fun h' tk acc c k hs it => ?_
  refine ⟨.ref s.heap.objs.size, _, I.laid (t' := tk) (o := .lst ((intsR lo (hi - lo).toNat).map V.int)) k (Nat.le_refl _) ?_, rfl, q _ (I.hok.fresh (Nat.le_refl _))⟩
  have vv := vals_items (lo := lo) (hi - lo).toNat acc.toList 0 (by rw [Array.length_toList]; exact it.1) fun j w e => by
    have := it.2 j w (by rw [← Array.getElem?_toList]; exact e)
    rw [Nat.zero_add]; exact this
  rw [show lo + ((0 : Nat) : Int) = lo by omega] at vv
  exact ⟨by rw [List.length_map]; unfold intsR; rw [List.length_map, List.length_range]; exact sz hz, acc.toList, c, vv, by rw [Array.toArray_toList]; exact hs⟩
end
section
variable {Γ : Gm} {X : Cx} {W : WX} {e e1 e2 : Expr} {pos pos1 p0 p1 : Pos} {u : TAD}
def kRngL (Q : DEnv → Pl → Prop) (ρ1 : DEnv) (ps : List Pl) : Prop := match datL ρ1 ps with
  | some [.int n] => n ≤ 16777216 ∧ -(2 ^ 62) ≤ n ∧ Q ρ1 (.t (.v 1 (.lst (nums (intsR 0 n.toNat)))))
  | _ => False
/-- list(range(n)) -/
def pRngL (u : TAD) : TPD := fun E ρ Q => u E ρ (kRngL Q)
theorem e_pRngL (u : TAD) (E : DEx) (ρ : DEnv) (Q : DEnv → Pl → Prop) : pRngL u E ρ Q = u E ρ (kRngL Q) := rfl
theorem isl_nums {T : Tb} {K : PySem.W.Frag} {S : Hp} : ∀ ns : List Int, IsL T K S (ns.map V.int) (nums ns)
  | [] => .nil
  | _ :: ns => .cons .int (isl_nums ns)
theorem dp_rngL (hc : X.calm = true) (hgL : Gl X "list") (hmL : X.mg "list" = none) (hgR : Gl X "range") (hmR : X.mg "range" = none) (ha : DA Γ X W [e] u)
    (hvL : bootBuiltins "list" = some (.type "list") := by decide +kernel) (hvR : bootBuiltins "range" = some (.type "range") := by decide +kernel)
    (he1 : starEach [Expr.Call (.Name "range" p1) [e] [] pos1] X.env = (false, eval (Expr.Call (.Name "range" p1) [e] [] pos1) X.env) :: starEach [] X.env := by rfl)
    (he2 : starEach [e] X.env = (false, eval e X.env) :: starEach [] X.env := by rfl) :
    DP Γ X W (.Call (.Name "list" p0) [.Call (.Name "range" p1) [e] [] pos1] [] pos) (pRngL u) := by
  obtain ⟨_, pa, qa⟩ := ha.run
  refine ⟨_, pe_callTy (call_list_rng hc) hgL hmL hvL (pa_cons (pe_callTy cr_rng1 hgR hmR hvR pa (by decide) (by decide) he2 rfl) pa_nil he1) (by decide) (by decide) he1 rfl, fun S H σ ρ F E Q Qh o l x kk => ?_⟩
  refine qa S H σ ρ F E _ _ o l x fun vs S' H' ρ' ps hp o' x' => ?_
  unfold kRngL at x'
  split at x'
  · rename_i n ed
    have r := rbL_of hp o' (List.sublist_append_left _ _) ed
    have o2 := o'.sub (F' := F) (List.sublist_append_right _ _)
    cases r with
    | cons r1 r =>
      cases r
      refine ⟨n, by rw [r1.int], fun p hn => ?_⟩
      have o3 := o2.step (Stp.newOwn (o := .rng 0 n) o2.ok.ex hn)
      have small : Builtin.Range.small 0 n 1 = true := small_one (by decide) (by decide) x'.2.1 (by have := x'.1; omega)
      have size : Builtin.Range.rangeSize 0 n 1 = ((n - 0).toNat : Int) := by rw [rangeSize_one]; split <;> omega
      refine ⟨p, 0, n, rfl, upd_same, small, size, by have := x'.1; omega, fun l2 hl2 => ?_⟩
      rw [Int.sub_zero]
      have pst : Post Γ S' (upd H' p (.rng 0 n)) (fun k d => Q ρ' (.t (.v k d))) Qh := fun S4 H4 k z dz f st ow nd nw qq => kk z S4 H4 ρ' (.t (.v k dz)) trivial (o3.push st ow nd nw) qq
      exact pst.lst o3.ok.ex hl2 (isl_nums _) x'.2.2
  · exact x'.elim
end
end Sw

/-! The data layer, 23: xs.pop(i). -/
namespace Sw
open PySem L2
section
variable {Γ : Gm} {X : Cx} {W : WX} {e : Expr} {pos : Pos} {u : TAD}
theorem isl_erase {T : Tb} {K : PySem.W.Frag} {S : Hp} : ∀ {vs : List V} {ds : List Dat} (n : Nat), IsL T K S vs ds → IsL T K S (vs.eraseIdx n) (ds.eraseIdx n)
  | _, _, _, .nil => .nil
  | _, _, 0, .cons _ l => l
  | _, _, n + 1, .cons h l => .cons h (isl_erase n l)
theorem isl_at {T : Tb} {K : PySem.W.Frag} {S : Hp} : ∀ {vs : List V} {ds : List Dat} {n : Nat} {d : Dat}, IsL T K S vs ds → ds[n]? = some d → ∃ v, vs[n]? = some v ∧ Is T K S v d
  | _, _, 0, _, .cons h _, e => by cases e; exact ⟨_, rfl, h⟩
  | _, _, n + 1, _, .cons _ l, e => isl_at (n := n) l e
def kPop (i : Nat) (Q : DEnv → Pl → Prop) (ρ1 : DEnv) (ps : List Pl) : Prop := match datL ρ1 ps, (ρ1[i]? : Option (Option Sl)) with
  | some [.int j], some (some (.v 1 (.lst ds))) => (match ixN ds.length j with
    | some n => (match ds[n]? with
      | some d => ds.length ≤ 16777216 ∧ Q (ρ1.set i (some (.v 1 (.lst (ds.eraseIdx n))))) (.t (.v 0 d))
      | none => False)
    | none => False)
  | _, _ => False
def pPop (i : Nat) (u : TAD) : TPD := fun E ρ Q => match (ρ[i]? : Option (Option Sl)) with
  | some (some (.v 1 (.lst _))) => u E ρ (kPop i Q)
  | _ => False
theorem e_pPop (i : Nat) (u : TAD) (E : DEx) (ρ : DEnv) (Q : DEnv → Pl → Prop) : pPop i u E ρ Q = match (ρ[i]? : Option (Option Sl)) with
  | some (some (.v 1 (.lst _))) => u E ρ (kPop i Q)
  | _ => False := rfl
theorem dp_pop {i : Nat} {x : Str} {px apos cpos : Pos} (hx : PE X (.Name x px) (tVar i)) (ha : DA Γ X W [e] u)
    (hbase : attributeBase (.Name x px) "pop" X.env (eval (.Name x px) X.env) = eval (.Name x px) X.env := by rfl)
    (hfew : ((backTo cpos (starEach [e] X.env)).all (fun x => !x.1) && (backToKw cpos (keywordEach [] X.env)).all (fun x => x.1.isSome)
      && decide (([e] : List Expr).length + ([] : List Keyword).length + (if ([] : List Keyword).isEmpty then 0 else 1) < 30)) = true := by rfl)
    (hline : (apos.endLine == cpos.line) = true := by rfl) (hst : starEach [e] X.env = (false, eval e X.env) :: starEach [] X.env := by rfl) :
    DP Γ X W (.Call (.Attribute (.Name x px) "pop" apos) [e] [] cpos) (pPop i u) := by
  obtain ⟨_, p2, q⟩ := ha.run
  refine ⟨_, pe_bm PySem.F.plainAttrs_list PySem.F.slot_list_pop PySem.F.type_list_pop mt_popAt hx p2 hbase hfew hline hst rfl, fun S H σ ρ F E Q Qh o1 l w kk => ?_⟩
  unfold pPop at w
  split at w
  · rename_i ds0 e0
    obtain ⟨a, vs0, hv, h1, h2, il, _⟩ := o1.lst e0
    refine ⟨.ref a, hv, Or.inl ⟨rfl, vs0, .inl (.inl h1)⟩, q S H σ ρ F E _ _ o1 l w fun vs S' H' ρ' ps hp o' x' => ?_⟩
    unfold kPop at x'
    split at x'
    · rename_i j ds ed e2
      split at x'
      · rename_i n hn
        split at x'
        · rename_i d hd
          have r := rbL_of hp o' (List.sublist_append_left _ _) ed
          have o2 := o'.sub (F' := F) (List.sublist_append_right _ _)
          cases r with
          | cons r1 r =>
            cases r
            obtain ⟨a', vs2, hv2, h3, h4, il2, up⟩ := o2.lst e2
            have ea : a' = a := by rw [hv] at hv2; injection hv2 with z; injection z with z; injection z with z; exact z.symm
            subst ea
            obtain ⟨v, hvn, iv⟩ := isl_at il2 hd
            have sq := ixN_seq hn
            have hl := il2.len
            refine ⟨a', vs2, j, n, v, rfl, by rw [r1.int], h3, by have := x'.1; have := sq.2.2.1; omega, by have := x'.1; have := sq.2.2.2; omega, by rw [hl]; exact sq.1, hvn, ?_⟩
            exact kk v S' _ _ (.t (.v 0 d)) trivial ((up _ _ (isl_erase n il2)).pushS iv) x'.2
        · exact x'.elim
      · exact x'.elim
    · exact x'.elim
  · exact w.elim
end
end Sw

/-! The data layer, 24: constants and static methods of a class, own operators, isinstance of own classes. -/
namespace Sw
open PySem L2 PyProof.Rows
section
variable {Γ : Gm} {X : Cx} {W : WX} {pos p : Pos}
/-- C.f, a whole number -/
structure CInt (M : Wd) (x f : Str) (i : Int) : Prop where
  ok : ∃ C mc u, M.mg x = some (.ref C) ∧ ClX.CRead M.K C mc ∧ ClX.CVal M.K C mc f (.int i) u
theorem dp_cval {x f : Str} {i : Int} (c : CInt (wd X) x f i) (hg : Gl X x) (hd : (x == ("__debug__" : Str)) = false := by decide)
    (hb : attributeBase (.Name x p) f X.env (eval (.Name x p) X.env) = eval (.Name x p) X.env := by rfl) : DP Γ X W (.Attribute (.Name x p) f pos) (pC (.int i)) := by
  obtain ⟨C, mc, u, hm, r, k⟩ := c.ok
  exact ⟨_, ClX.pe_cval (pe_glob (v := .ref C) hg hm rfl hd) hb, fun S H σ ρ F E Q Qh o l q kk => ⟨C, mc, .int i, u, rfl, r, k, kk _ S H ρ (.t (.v 0 (.int i))) trivial (o.pushS .int) q⟩⟩
end
/-- the head's test for it -/
def cintB (x f : Str) (i : Int) (K : PySem.W.Frag) : Bool :=
  PySem.W.readsIn K (He.ga K x) (.type "type") && (He.eqO (PySem.W.specialIn K (.ref (He.ga K x)) "__getattribute__") (some (some (.builtin "type.__getattribute__"))) &&
  (match PySem.W.findCls K (.ref (He.ga K x)) (.type "type") f with
    | some (.val (.int j _)) => decide (j = i)
    | _ => false))
theorem cintB_ok {M : Wd} {x f : Str} {i : Int} (hm : M.mg x = some (.ref (He.ga M.K x))) (h : cintB x f i M.K = true) : CInt M x f i := by
  have h1 := Bool.and_eq_true_iff.mp h
  have h2 := Bool.and_eq_true_iff.mp h1.2
  have h1' := h1.1
  have h2' := He.eqO_ok h2.1
  have h3 := h2.2
  clear h h1 h2
  split at h3
  · rename_i j t e
    have ej : j = i := of_decide_eq_true h3
    subst ej
    exact ⟨_, _, _, hm, ⟨h1', h2'⟩, ⟨e, ⟨t, rfl⟩⟩⟩
  · exact absurd h3 Bool.false_ne_true
/-! ### static methods -/
structure SMet (K : PySem.W.Frag) (C : Addr) (mc : Value) (m : Str) (p f : Addr) : Prop where
  at_ : PySem.W.findCls K (.ref C) mc m = some (.get (.builtin "staticmethod.__get__") (.ref p) .none (.ref C))
  rc : ∃ rest, PySem.W.recIn K p "staticmethod" = some (.ref f :: rest)
  kp : PySem.W.keepIn K (.ref f) = true
section
variable {X : Cx} {pins : List (Addr × Obj)} {σ : L2.St} {H : Hp} {s : Shared} {C p f : Addr} {mc : Value} {m : Str} {A : Around} {E : Value → Shared → Prop}
theorem getsm_ok {b : Bool} {Q : Value → Shared → Prop} (I : Inv X pins σ H s) (r : ClX.CRead X.K C mc) (k : SMet X.K C mc m p f) (h : ∀ s', Inv X pins σ H s' → Q (.ref f) s') : wpAny (model X.prog X.w) A (getAttr (.ref C) m b) Q E s := by
  obtain ⟨rest, hp⟩ := k.rc
  refine PySem.W.cls_bind I.kIn r.rd k.at_ ?_
  refine wpAny_call (PySem.W.sm_get (s := { s with toks := s.toks + 1 }) I.kIn hp (PySem.W.handed_on rfl ?_))
  exact h _ (I.tok _)
theorem getmethsm_ok {pl : Sem Bool} {Q : Value × List Value → Shared → Prop} (I : Inv X pins σ H s) (r : ClX.CRead X.K C mc) (k : SMet X.K C mc m p f) (h : ∀ s', Inv X pins σ H s' → Q (.ref f, []) s') : wpAny (model X.prog X.w) A (getMethod (.ref C) m pl) Q E s :=
  PySem.W.method_cls I.kIn r.ga (getsm_ok I r k h)
end
section
variable {X : Cx} {k : Nat} {C p f : Addr} {fd : FuncData} {ps : List Str} {mc : Value} {sp : Sp} {dvs : List V} {ds : List Value} {W : WX} {o e : Expr} {es : List Expr} {m : Str} {pos apos : Pos} {ta : TE} {t : TA} {pl : Sem Bool}
def tSMeth (C : Addr) (sp : Sp) (dvs : List V) (W : WX) (ta : TE) (t : TA) : TE := fun σ H Q => ta σ H fun x H1 => x = .ref C ∧ t σ H1 fun vs H2 => sp (vs ++ dvs) H2 Q (WE W σ)
theorem pe_smeth (he : PE X o ta) (r : ClX.CRead X.K C mc) (c : SMet X.K C mc m p f) (F : FnOk X.prog X.w X.K X.mg X.base (L2.CX X.prog X.w) k f fd ps sp) (hr : Room k X.A) (hb : Binds X.K fd ps ds) (hd : Vals dvs ds) (tk : Takes X W) (ha : PA X (e :: es) t)
    (hst : starEach (e :: es) X.env = (false, eval e X.env) :: starEach es X.env) (hpl : (backTo pos (starEach es X.env)).any (·.1) = false)
    (ht : eval (.Call (.Attribute o m apos) (e :: es) [] pos) X.env = (eval o X.env >>= fun ov => standAt apos.atName >>= fun _ => holding [ov] (getMethod ov m pl) >>= fun r =>
      callWith pos r.1 r.2 (backTo pos (starEach (e :: es) X.env)) (backToKw pos (keywordEach [] X.env)))) :
    PE X (.Call (.Attribute o m apos) (e :: es) [] pos) (tSMeth C sp dvs W ta t) := by
  refine ⟨fun pins s σ H Q I h => PySem.W.methodCall_KW (pl := pl) (thn (he.run pins s σ H _ I h) fun u s1 hh => ?_) ht⟩
  obtain ⟨x, H1, I1, rx, ex, q⟩ := hh
  subst ex
  obtain rfl : u = Value.ref C := rx
  refine getmethsm_ok I1 r c fun s2 I2 => ?_
  refine PySem.W.callWith_K (first := []) (h₀ := X.base) I.ok.mod.kin c.kp (thn (ha.run pos pins s2 σ H1 _ I2 q) fun us s3 h2 => ?_) hst hpl
  obtain ⟨vs, H2, I3, rv, q2⟩ := h2
  exact ⟨I3.kIn, run_fnSD (E := fun σ => WE W σ) F hr hb hd (passAt tk σ) I3 rv q2⟩
end
section
variable {Γ : Gm} {X : Cx} {W : WX} {e o a b : Expr} {es : List Expr} {pos apos p : Pos} {ta tb : TPD} {u : TAD}
/-- a static method of a class of the module -/
structure SmG (M : Wd) (Γ : Gm) (x m : Str) (k : Nat) (ps : List Str) (ms : List Bool) (dsp : DSp) : Prop where
  ok : ∃ C mc p f fd, M.mg x = some (.ref C) ∧ ClX.CRead M.K C mc ∧ SMet M.K C mc m p f ∧ Binds M.K fd ps [] ∧ FnOk M.P M.w M.K M.mg M.base (L2.CX M.P M.w) k f fd ps (lift Γ ms dsp)
theorem dp_smeth {Γ' : Gm} {x m : Str} {k : Nat} {ps : List Str} {ms : List Bool} {dsp : DSp} {pl : Sem Bool} (g : SmG (wd X) Γ' x m k ps ms dsp) (hr : Room k X.A) (tk : Takes X W) (hg : Gl X x) (ha : DA Γ X W (e :: es) u)
    (hT : Γ'.T = Γ.T := by rfl) (hX : Γ'.X = Γ.X := by rfl) (hK : Γ'.K = Γ.K := by rfl) (hdb : (x == ("__debug__" : Str)) = false := by decide)
    (hst : starEach (e :: es) X.env = (false, eval e X.env) :: starEach es X.env := by rfl) (hpl : (backTo pos (starEach es X.env)).any (·.1) = false := by rfl)
    (ht : eval (.Call (.Attribute (.Name x p) m apos) (e :: es) [] pos) X.env = (eval (.Name x p) X.env >>= fun ov => standAt apos.atName >>= fun _ => holding [ov] (getMethod ov m pl) >>= fun r =>
      callWith pos r.1 r.2 (backTo pos (starEach (e :: es) X.env)) (backToKw pos (keywordEach [] X.env))) := by rfl) :
    DP Γ X W (.Call (.Attribute (.Name x p) m apos) (e :: es) [] pos) (pFn ms dsp [] u) := by
  obtain ⟨C, mc, p', f, fd, hm, r, c, hb, F⟩ := g.ok
  obtain ⟨_, p1, q⟩ := ha.run
  rw [lift_in hT hX hK] at F
  refine ⟨_, pe_smeth (pe_glob (v := .ref C) hg hm rfl hdb) r c F hr hb .nil tk p1 hst hpl ht, fun S H σ ρ F E Q Qh o l x kk => ⟨rfl, ?_⟩⟩
  refine q S H σ ρ F E _ _ o l x fun vs S' H' ρ' ps hp o' x' => ?_
  split at x'
  · rename_i ds ed
    have o2 := o'.sub (F' := F) (List.sublist_append_right _ _)
    have a1 := argL_of o' hp (List.sublist_append_left _ _) ed
    rw [List.append_nil] at x' ⊢
    exact ⟨S', _, _, _, o'.ok.ex, a1, x', fun S2 H2 k z dz f st ow nd nw qq => kk z S2 H2 ρ' (.t (.v k dz)) trivial (o2.push st ow nd nw) qq, fun S2 H2 y cls dd st ea ey => l S2 H2 σ ρ' y cls dd (o2.step st) ea ey⟩
  · exact x'.elim
end
def smB (x f : Str) (K : PySem.W.Frag) : Bool :=
  PySem.W.readsIn K (He.ga K x) (.type "type") && (He.eqO (PySem.W.specialIn K (.ref (He.ga K x)) "__getattribute__") (some (some (.builtin "type.__getattribute__"))) &&
  ((match PySem.W.findCls K (.ref (He.ga K x)) (.type "type") f with
    | some (.get g a n c) => decide (g = .builtin "staticmethod.__get__" ∧ a = .ref (He.ma K (He.ga K x) f) ∧ n = .none ∧ c = .ref (He.ga K x))
    | _ => false) && ((match PySem.W.recIn K (He.ma K (He.ga K x) f) "staticmethod" with
    | some (.ref b :: _) => true
    | _ => false) && PySem.W.keepIn K (.ref (SwH.Pth.ad K (.s x f))))))
theorem smB_ok {K : PySem.W.Frag} {x f : Str} (h : smB x f K = true) : ClX.CRead K (He.ga K x) (.type "type") ∧ SMet K (He.ga K x) (.type "type") f (He.ma K (He.ga K x) f) (SwH.Pth.ad K (.s x f)) := by
  have h1 := Bool.and_eq_true_iff.mp h
  have h2 := Bool.and_eq_true_iff.mp h1.2
  have h3 := Bool.and_eq_true_iff.mp h2.2
  have h4 := Bool.and_eq_true_iff.mp h3.2
  refine ⟨⟨h1.1, He.eqO_ok h2.1⟩, ?_, ?_, h4.2⟩
  · have h5 := h3.1
    clear h h1 h2 h3 h4
    split at h5
    · rename_i g a n c e
      obtain ⟨rfl, rfl, rfl, rfl⟩ := of_decide_eq_true h5
      exact e
    · exact absurd h5 Bool.false_ne_true
  · have h5 := h4.1
    show ∃ rest, PySem.W.recIn K (He.ma K (He.ga K x) f) "staticmethod" = some (Value.ref (SwH.staticOf K (He.ma K (He.ga K x) f)) :: rest)
    unfold SwH.staticOf
    clear h h1 h2 h3 h4
    split at h5
    · rename_i b rest e
      rw [e]
      exact ⟨rest, rfl⟩
    · exact absurd h5 Bool.false_ne_true
/-! ### operators whose raising is wished for at the caller's slots -/
abbrev R2W := L2.St → V → V → Hp → VK → Prop
def OpW (X : Cx) (f : Value → Value → Sem Value) (r : R2W) : Prop :=
  ∀ (pins : List (Addr × Obj)) (s : Shared) (σ : L2.St) (H : Hp) (x y : V) (v u : Value) (Q : VK), Inv X pins σ H s → RelV x v → RelV y u → r σ x y H Q →
    wpAny (model X.prog X.w) X.A (f v u) (EP X pins σ Q) X.xe s
def tOpW (r : R2W) (ta tb : TE) : TE := fun σ H Q => ta σ H fun x H1 => tb σ H1 fun y H2 => r σ x y H2 Q
section
variable {X : Cx} {a b : Expr} {pos : Pos} {ta tb : TE} {r : R2W}
theorem pe_opW {op : Operator} (ho : OpW X (binaryOp op) r) (ha : PE X a ta) (hb : PE X b tb) : PE X (.BinOp a op b pos) (tOpW r ta tb) :=
  ⟨fun pins s σ H Q I h => wpAny_BinOp (binT ha hb I h fun v u s2 x y H2 I2 rx ry q => ho pins s2 σ H2 x y v u Q I2 rx ry q)⟩
theorem pe_cmpW {op : CmpOp} (ho : OpW X (compareOp op) r) (ha : PE X a ta) (hb : PE X b tb) (hm : behindInMarks op b = false) : PE X (.Compare a [op] [b] pos) (tOpW r ta tb) :=
  ⟨fun pins s σ H Q I h => wpAny_Compare1 (binT ha hb I h fun v u s2 x y H2 I2 rx ry q => ho pins s2 σ H2 x y v u Q I2 rx ry q) hm⟩
theorem pt_cmpW {op : CmpOp} (ho : OpW X (compareOp op) r) (ha : PE X a ta) (hb : PE X b tb) (hm : behindInMarks op b = false) : PT X (.Compare a [op] [b] pos) (tTest (tOpW r ta tb)) := by
  refine ⟨fun pins s σ H Q I h => ?_⟩
  refine wpAny_isTrue_Compare1 (thn (ha.run pins s σ H _ I h) fun v s1 ⟨x, H1, I1, r1, q1⟩ => thn (hb.run pins s1 σ H1 _ I1 q1) fun u s2 ⟨y, H2, I2, r2, q2⟩ =>
    thn (ho pins s2 σ H2 x y v u _ I2 r1 r2 q2) fun c s3 ⟨z, H3, I3, r3, k, e, q3⟩ => ?_) hm
  subst e
  cases r3
  exact wpAny_truthy_bool ⟨H3, I3, q3⟩
/-- x is an instance of the class at C -/
def InsA (C : Addr) (x : V) (H : Hp) : Prop := ∃ a dx fs, x = .ref a ∧ H a = some (.ins C dx fs)
def rOwn (C : Addr) (sp : Sp) (W : WX) : R2W := fun σ x y H Q => InsA C x H ∧ InsA C y H ∧ sp [x, y] H Q (WE W σ)
theorem back_of {z : V} {u : Value} {Q : Value → Shared → Prop} {s : Shared} (r : RelV z u) (q : Q u s) : PySem.W.CmpBack Q u s := by
  cases u <;> first | exact q | (cases z <;> first | (obtain ⟨_, r⟩ := r; cases r) | cases r)
variable {k : Nat} {C f : Addr} {fd : FuncData} {ps : List Str} {sp : Sp} {W : WX}
theorem own_back {pins : List (Addr × Obj)} {s : Shared} {σ : L2.St} {H : Hp} {Q : VK} {us : List Value} {vs : List V} (F : FnOk X.prog X.w X.K X.mg X.base (L2.CX X.prog X.w) k f fd ps sp) (hr : Room k X.A) (hb : Binds X.K fd ps []) (tk : Takes X W)
    (I : Inv X pins σ H s) (r : Vals vs us) (h : sp vs H Q (WE W σ)) : wpAny (model X.prog X.w) X.A (call (.ref f) us) (PySem.W.CmpBack (EP X pins σ Q)) X.xe s :=
  thn (run_fnSD (E := fun σ => WE W σ) (dvs := []) (ds := []) F hr hb .nil (passAt tk σ) I r (by rw [List.append_nil]; exact h)) fun u s' hq => by
    obtain ⟨z, H', I', rz, q⟩ := id hq
    exact back_of rz hq
theorem opW_bin {op : Operator} (c : Meth X.K C (PySem.dunder op.info.2) f) (sf : PySem.W.selfFirst X.K C = true) (F : FnOk X.prog X.w X.K X.mg X.base (L2.CX X.prog X.w) k f fd ps sp) (hr : Room k X.A) (hb : Binds X.K fd ps []) (tk : Takes X W) :
    OpW X (binaryOp op) (rOwn C sp W) := by
  intro pins s σ H x y v u Q I rx ry h
  obtain ⟨⟨a, dx, fs, rfl, ha⟩, ⟨b, dy, gs, rfl, hb'⟩, q⟩ := h
  obtain rfl : v = Value.ref a := rx
  obtain rfl : u = Value.ref b := ry
  obtain ⟨mA, J, _⟩ := ins_get I.hok ha
  obtain ⟨mB, J', _⟩ := ins_get I.hok hb'
  obtain ⟨od, J, _⟩ := J.look
  obtain ⟨od', J', _⟩ := J'.look
  obtain ⟨m, hF⟩ := I.fr
  exact PySem.W.binop_K hF I.ok.mod.kin J J'.type sf c.at_ c.fn (own_back F hr hb tk I (vs := [.ref a, .ref b]) (.cons rfl (.cons rfl .nil)) q)
theorem opW_eq (c : Meth X.K C "__eq__" f) (F : FnOk X.prog X.w X.K X.mg X.base (L2.CX X.prog X.w) k f fd ps sp) (hr : Room k X.A) (hb : Binds X.K fd ps []) (tk : Takes X W) :
    OpW X (compareOp .Eq) (rOwn C sp W) := by
  intro pins s σ H x y v u Q I rx ry h
  obtain ⟨⟨a, dx, fs, rfl, ha⟩, ⟨b, dy, gs, rfl, hb'⟩, q⟩ := h
  obtain rfl : v = Value.ref a := rx
  obtain rfl : u = Value.ref b := ry
  obtain ⟨mA, J, _⟩ := ins_get I.hok ha
  obtain ⟨mB, J', _⟩ := ins_get I.hok hb'
  obtain ⟨od, J, _⟩ := J.look
  obtain ⟨od', J', _⟩ := J'.look
  obtain ⟨m, hF⟩ := I.fr
  show wpAny (model X.prog X.w) X.A (richCompare .Eq (.ref a) (.ref b)) (EP X pins σ Q) X.xe s
  exact PySem.W.cmp_K (op := .Eq) (tb := .ref C) hr.units0 hF I.ok.mod.kin J J'.type (by simp [PySem.W.notFirst]) c.at_ c.fn (own_back F hr hb tk I (vs := [.ref a, .ref b]) (.cons rfl (.cons rfl .nil)) q)
end
section
variable {Γ : Gm} {X : Cx} {W : WX} {a b e : Expr} {es : List Expr} {pos p : Pos} {ta tb : TPD} {u : TAD}
/-- an operator of the class c: m its method -/
structure OwG (M : Wd) (Γ : Gm) (c : Nat) (m : Str) (k : Nat) (ps : List Str) (ms : List Bool) (dsp : DSp) : Prop where
  ok : ∃ f fd, Meth M.K (Γ.T c).C m f ∧ Binds M.K fd ps [] ∧ FnOk M.P M.w M.K M.mg M.base (L2.CX M.P M.w) k f fd ps (lift Γ ms dsp)
  sf : PySem.W.selfFirst M.K (Γ.T c).C = true
def isObj (c : Nat) : Option Dat → Prop
  | some (.obj k _) => k = c
  | _ => False
def kOw2 (E : DEx) (Q : DEnv → Pl → Prop) (c : Nat) (ms : List Bool) (dsp : DSp) (pa : Pl) (ρ2 : DEnv) (pb : Pl) : Prop := match pa.d ρ2, pb.d ρ2 with
  | some (.obj k _), some (.obj k2 _) => k = c ∧ k2 = c ∧ (match argL ρ2 ms [pa, pb] with
    | some ds => dsp ds (kv Q ρ2) (kx E ρ2)
    | none => False)
  | _, _ => False
def kOw1 (tb : TPD) (E : DEx) (Q : DEnv → Pl → Prop) (c : Nat) (ms : List Bool) (dsp : DSp) (ρ1 : DEnv) (pa : Pl) : Prop := tb E ρ1 (kOw2 E Q c ms dsp pa)
def pOw (c : Nat) (ms : List Bool) (dsp : DSp) (ta tb : TPD) : TPD := fun E ρ Q => ta E ρ (kOw1 tb E Q c ms dsp)
theorem e_pOw (c : Nat) (ms : List Bool) (dsp : DSp) (ta tb : TPD) (E : DEx) (ρ : DEnv) (Q : DEnv → Pl → Prop) : pOw c ms dsp ta tb E ρ Q = ta E ρ (kOw1 tb E Q c ms dsp) := rfl
theorem run_ow {c : Nat} {ms : List Bool} {dsp : DSp} {ta' tb' : TE} (ha : RunP Γ W ta' ta) (hb : RunP Γ W tb' tb) : RunP Γ W (tOpW (rOwn (Γ.T c).C (lift Γ ms dsp) W) ta' tb') (pOw c ms dsp ta tb) := by
  intro S H σ ρ F E Q Qh o l x kk
  refine ha S H σ ρ F E _ _ o l x fun v S' H' ρ' po hp o' x' => ?_
  refine hb S' H' σ ρ' (po.tmp v ++ F) E _ _ o' l.tmp x' fun v2 S2 H2 ρ2 pi hpi o2 x2 => ?_
  have o2' : StOk Γ S2 H2 σ ρ2 (tmps [v, v2] [po, pi] ++ F) := by
    show StOk Γ S2 H2 σ ρ2 (((tmps [] [] ++ pi.tmp v2) ++ po.tmp v) ++ F)
    rw [List.append_assoc]; exact o2
  unfold kOw2 at x2
  split at x2
  · rename_i c1 f1 c2 f2 e1 e2
    obtain ⟨rfl, rfl, x2⟩ := x2
    have rb : Rb Γ S2 H2 v _ := o2.rb hp ((List.sublist_append_left _ F).trans (List.sublist_append_right _ _)) e1
    have rb2 : Rb Γ S2 H2 v2 _ := o2.rb hpi (List.sublist_append_left _ _) e2
    obtain ⟨a, dx, vs0, rfl, h1, _, _⟩ := rb.obj o2.ok.ex
    obtain ⟨b, dy, vs1, rfl, h2, _, _⟩ := rb2.obj o2.ok.ex
    refine ⟨⟨a, dx, _, rfl, h1⟩, ⟨b, dy, _, rfl, h2⟩, ?_⟩
    split at x2
    · rename_i ds ed2
      have o3 := o2'.sub (F' := F) (List.sublist_append_right _ _)
      have a2 := argL_of o2' (.cons hp (.cons hpi .nil)) (List.sublist_append_left _ _) ed2
      exact ⟨S2, _, _, _, o2'.ok.ex, a2, x2, fun S3 H3 k z dz f st ow nd nw qq => kk z S3 H3 ρ2 (.t (.v k dz)) trivial (o3.push st ow nd nw) qq, fun S3 H3 y cls dd st ea ey => l S3 H3 σ ρ2 y cls dd (o3.step st) ea ey⟩
    · exact x2.elim
  · exact x2.elim
theorem dp_bin {Γ' : Gm} {op : Operator} {c k : Nat} {m : Str} {ps : List Str} {ms : List Bool} {dsp : DSp} (g : OwG (wd X) Γ' c m k ps ms dsp) (hr : Room k X.A) (tk : Takes X W) (ha : DP Γ X W a ta) (hb : DP Γ X W b tb)
    (hop : PySem.dunder op.info.2 = m := by rfl) (hT : Γ'.T = Γ.T := by rfl) (hX : Γ'.X = Γ.X := by rfl) (hK : Γ'.K = Γ.K := by rfl) : DP Γ X W (.BinOp a op b pos) (pOw c ms dsp ta tb) := by
  subst hop
  obtain ⟨f, fd, hm, hb', F⟩ := g.ok
  obtain ⟨_, p1, q1⟩ := ha.run
  obtain ⟨_, p2, q2⟩ := hb.run
  have sf := g.sf
  rw [lift_in hT hX hK] at F
  rw [hT] at hm sf
  exact ⟨_, pe_opW (opW_bin hm sf F hr hb' tk) p1 p2, run_ow q1 q2⟩
theorem dp_eqO {Γ' : Gm} {c k : Nat} {ps : List Str} {ms : List Bool} {dsp : DSp} (g : OwG (wd X) Γ' c "__eq__" k ps ms dsp) (hr : Room k X.A) (tk : Takes X W) (ha : DP Γ X W a ta) (hb : DP Γ X W b tb)
    (hT : Γ'.T = Γ.T := by rfl) (hX : Γ'.X = Γ.X := by rfl) (hK : Γ'.K = Γ.K := by rfl) (hmk : behindInMarks .Eq b = false := by rfl) : DP Γ X W (.Compare a [.Eq] [b] pos) (pOw c ms dsp ta tb) := by
  obtain ⟨f, fd, hm, hb', F⟩ := g.ok
  obtain ⟨_, p1, q1⟩ := ha.run
  obtain ⟨_, p2, q2⟩ := hb.run
  rw [lift_in hT hX hK] at F
  rw [hT] at hm
  exact ⟨_, pe_cmpW (opW_eq hm F hr hb' tk) p1 p2 hmk, run_ow q1 q2⟩
theorem dt_eqO {Γ' : Gm} {c k : Nat} {ps : List Str} {ms : List Bool} {dsp : DSp} (g : OwG (wd X) Γ' c "__eq__" k ps ms dsp) (hr : Room k X.A) (tk : Takes X W) (ha : DP Γ X W a ta) (hb : DP Γ X W b tb)
    (hT : Γ'.T = Γ.T := by rfl) (hX : Γ'.X = Γ.X := by rfl) (hK : Γ'.K = Γ.K := by rfl) (hmk : behindInMarks .Eq b = false := by rfl) : DT Γ X W (.Compare a [.Eq] [b] pos) (tdVal (pOw c ms dsp ta tb)) := by
  obtain ⟨f, fd, hm, hb', F⟩ := g.ok
  obtain ⟨_, p1, q1⟩ := ha.run
  obtain ⟨_, p2, q2⟩ := hb.run
  rw [lift_in hT hX hK] at F
  rw [hT] at hm
  exact ⟨_, pt_cmpW (opW_eq hm F hr hb' tk) p1 p2 hmk, run_val (run_ow q1 q2)⟩
/-! ### isinstance(x, C), x an instance of C -/
def uIsC (c : Nat) : LD := fun xs R => match xs with
  | [.obj k _, .cls k2] => k = c ∧ k2 = c ∧ R 0 (.bl true)
  | _ => False
theorem br_isC {c : Nat} : BrC Γ (fun xs H Q => ∃ a dx fs, xs = [.ref a, .ref (Γ.T c).C] ∧ H a = some (.ins (Γ.T c).C dx fs) ∧ Q (.bl true) H) (uIsC c) := by
  intro S H vs ds Q Qh e r q p
  unfold uIsC at q
  split at q
  · obtain ⟨rfl, rfl, q⟩ := q
    obtain ⟨v, w, rfl, h1, h2⟩ := rb2 r
    obtain ⟨a, dx, us, rfl, h, _, _⟩ := h1.obj e
    obtain ⟨k, f, _, ow⟩ := h2
    cases ow with
    | s i =>
      cases i
      exact ⟨a, dx, _, rfl, h, p.sc e .bl q⟩
  · exact q.elim
theorem dp_cls {x : Str} {c : Nat} (hg : Gl X x) (hm : X.mg x = some (.ref (Γ.T c).C)) (hd : (x == ("__debug__" : Str)) = false := by decide) : DP Γ X W (.Name x pos) (pC (.cls c)) :=
  dp_of_c (pe_glob (v := .ref (Γ.T c).C) hg hm rfl hd) fun _ => .cls
theorem dp_isC {c : Nat} (i : C8.InsC X.K (Γ.T c).C) (hg : Gl X "isinstance") (hm : X.mg "isinstance" = none) (ha : DA Γ X W (e :: es) u) (hv : bootBuiltins "isinstance" = some (.builtin "isinstance") := by decide +kernel)
    (hn : ("isinstance" : Str) ≠ "__name__" := by decide) (hdb : (("isinstance" : Str) == ("__debug__" : Str)) = false := by decide) (he : starEach (e :: es) X.env = (false, eval e X.env) :: starEach es X.env := by rfl) (hpl : (backTo pos (starEach es X.env)).any (·.1) = false := by rfl) :
    DP Γ X W (.Call (.Name "isinstance" p) (e :: es) [] pos) (pCall (uIsC c) u) :=
  dp_callB (C8.call_isC i) br_isC hg hm hv ha hn hdb he hpl
end
def insB (x : Str) (K : PySem.W.Frag) : Bool :=
  He.eqO (PySem.W.findIn K (.ref (He.ga K x)) "__class__") (some (some (.builtin "object.__class__"))) &&
  (He.eqO (PySem.W.specialIn K (.builtin "object.__class__") "__get__") (some (some (.builtin "getset_descriptor.__get__"))) &&
  (decide (PySem.W.takesIn K (.builtin "object.__class__") = some true) && (decide (PySem.W.mroIn K (He.ga K x) (.type "object") = some true) && decide (PySem.W.kitOne K (.ref (He.ga K x)) (.ref (He.ga K x)) = some true))))
theorem insB_ok {K : PySem.W.Frag} {x : Str} (c : Cls K (He.ga K x)) (h : insB x K = true) : C8.InsC K (He.ga K x) := by
  have h1 := Bool.and_eq_true_iff.mp h
  have h2 := Bool.and_eq_true_iff.mp h1.2
  have h3 := Bool.and_eq_true_iff.mp h2.2
  have h4 := Bool.and_eq_true_iff.mp h3.2
  exact ⟨c, He.eqO_ok h1.1, He.eqO_ok h2.1, of_decide_eq_true h3.1, of_decide_eq_true h4.1, of_decide_eq_true h4.2⟩
end Sw

/-! The data layer, 25: sets of ints; zip; enumerate of a list. -/
namespace Sw
open PySem L2 PyProof.Rows
section
variable {Γ : Gm} {S S' H H' : Hp} {L : List (Option V × Option Sl)}
/-- the first name's own object changes -/
theorem Ok.chgO {p : Addr} {d d' : Dat} {o' : HO} (o : Ok Γ S H ((some (.ref p), some (.v 1 d)) :: L)) (h1 : ∀ f, Own Γ.T Γ.K S H 1 (.ref p) d f → f = [p] ∧ S p = none) (h2 : Own Γ.T Γ.K S (upd H p o') 1 (.ref p) d' [p]) :
    Ok Γ S (upd H p o') ((some (.ref p), some (.v 1 d')) :: L) := by
  obtain ⟨fs, s, n, z⟩ := o.sep
  cases s with
  | cons he hl =>
    rename_i f fs
    have he : Own Γ.T Γ.K S H 1 (.ref p) d f := he
    obtain ⟨rfl, hS⟩ := h1 f he
    rw [List.flatten_cons] at n z
    obtain ⟨n1, n2, n3⟩ := List.nodup_append.mp n
    have hz : Γ.H0 p = none := z p (List.mem_append_left _ (List.mem_cons_self ..))
    refine ⟨o.ex0, fun a u q => ?_, fun a u q k => ?_, [p] :: fs, .cons h2 ?_, n, z⟩
    · have e : a ≠ p := ne_of_none q hS
      rw [upd_ne e]; exact o.ex a u q
    · have e : a ≠ p := fun e => by rw [e, hz] at k; cases k
      rw [upd_ne e]; exact o.fr a u q k
    · refine hl.mono Ex.rfl (fun a u q k => ?_) fun a hp => ?_
      · have e : a ≠ p := fun e => by rw [e, hz] at q; cases q
        rw [upd_ne e]; exact ⟨k, rfl⟩
      · have e : a ≠ p := fun e => n3 p (List.mem_cons_self ..) a hp e.symm
        rw [upd_ne e]; exact ⟨(hl.own a hp).1, rfl⟩
/-- a name's own set -/
theorem StOk.sett {σ : L2.St} {ρ : DEnv} {F : Fx} {i : Nat} {xs : List Int} (o : StOk Γ S H σ ρ F) (e : ρ[i]? = some (some (.v 1 (.set xs)))) :
    ∃ l, σ[i]? = some (some (.ref l)) ∧ H l = some (setH Γ.T.w l xs) ∧ xs.Nodup ∧
      ∀ xs', xs'.Nodup → StOk Γ S (upd H l (setH Γ.T.w l xs')) σ (ρ.set i (some (.v 1 (.set xs')))) F := by
  have hlen : i < σ.length := by rw [o.len]; exact (List.getElem?_eq_some_iff.mp e).1
  cases hv0 : σ[i]? with
  | none => rw [List.getElem?_eq_none_iff] at hv0; omega
  | some ov =>
    obtain ⟨A, B, e1, e2, _⟩ := zip_at hv0 e
    have ok := o.ok
    rw [e1, List.append_assoc, List.cons_append] at ok
    have ok2 := ok.perm List.perm_middle
    obtain ⟨gs, sep, nd, z⟩ := ok2.sep
    cases sep with
    | @cons _ g _ gs' he hl =>
      cases ov with
      | none => exact he.elim
      | some v0 =>
        have he : Own Γ.T Γ.K S H 1 v0 (.set xs) g := he
        cases he with
        | @set l _ h1 h2 h3 =>
          refine ⟨l, rfl, h1, h3, fun xs' n' => ⟨by rw [List.length_set]; exact o.len, ?_, o.me⟩⟩
          rw [e2, List.append_assoc, List.cons_append]
          refine Ok.perm ?_ List.perm_middle.symm
          refine ok2.chgO (fun f hf => ?_) (.set upd_same h2 n')
          cases hf with
          | set _ hS _ => exact ⟨rfl, hS⟩
end
def insI (k : Int) (xs : List Int) : List Int := if k ∈ xs then xs else xs ++ [k]
theorem insI_nodup {k : Int} {xs : List Int} (h : xs.Nodup) : (insI k xs).Nodup := by
  unfold insI
  split
  · exact h
  · rename_i hk
    exact List.nodup_append.mpr ⟨h, by simp, fun a ha b hb e => hk (by rw [List.mem_singleton.mp hb] at e; rw [← e]; exact ha)⟩
theorem setH_ins {w : World} {a : Addr} {xs : List Int} {k : Int} : SetO w a (fun j => decide (j ∈ xs) || decide (j = k)) (if decide (k ∈ xs) = true then xs.length else xs.length + 1) = setH w a (insI k xs) := by
  unfold setH insI
  by_cases h : k ∈ xs
  · simp only [h, decide_true, if_true]
    congr 1
    funext j
    by_cases q : j = k
    · subst q; simp [h]
    · simp [q]
  · simp only [h, decide_false, if_false, List.length_append, List.length_singleton, Bool.false_eq_true]
    congr 1
    funext j
    simp
section
variable {Γ : Gm} {X : Cx} {W : WX} {e a b : Expr} {es : List Expr} {pos p : Pos} {ta tb : TPD} {u : TAD}
/-- set() -/
def pSet0 : TPD := fun _ ρ Q => Q ρ (.t (.v 1 (.set [])))
theorem dp_set0 (hw : Γ.T.w = X.w) (hg : Gl X "set") (hm : X.mg "set" = none) (hv : bootBuiltins "set" = some (.type "set") := by decide +kernel) : DP Γ X W (.Call (.Name "set" p) [] [] pos) pSet0 := by
  refine ⟨_, pe_callTy0 cr_set0 hg hm hv (by decide) (by decide), fun S H σ ρ F E Q Qh o l x kk => ⟨rfl, fun q n => ?_⟩⟩
  rw [← hw]
  have e : SetO Γ.T.w q (fun _ => false) 0 = setH Γ.T.w q [] := by unfold setH; congr 1
  rw [e]
  exact kk (.ref q) S _ ρ (.t (.v 1 (.set []))) trivial (o.push (Stp.newOwn o.ok.ex n) (.set upd_same (o.ok.ex.none n) List.nodup_nil) (by simp) fun b hb => by rw [List.mem_singleton.mp hb]; exact n) x
def kSAdd1 (D : DEnds) (i : Nat) (ρ1 : DEnv) (ps : List Pl) : Prop := match datL ρ1 ps, (ρ1[i]? : Option (Option Sl)) with
  | some [.int k], some (some (.v 1 (.set xs))) => xs.length < 4000 ∧ D.nx (ρ1.set i (some (.v 1 (.set (insI k xs)))))
  | _, _ => False
/-- s.add(k) -/
def sSAdd (i : Nat) (u : TAD) : TSD := fun D ρ => match (ρ[i]? : Option (Option Sl)) with
  | some (some (.v 1 (.set _))) => u D.ex ρ (kSAdd1 D i)
  | _ => False
theorem e_sSAdd (D : DEnds) (i : Nat) (u : TAD) (ρ : DEnv) : sSAdd i u D ρ = match (ρ[i]? : Option (Option Sl)) with
  | some (some (.v 1 (.set _))) => u D.ex ρ (kSAdd1 D i)
  | _ => False := rfl
theorem ds_sadd {i : Nat} {x : Str} {px apos cpos : Pos} (hw : Γ.T.w = X.w) (hx : PE X (.Name x px) (tVar i)) (ha : DA Γ X W [e] u)
    (hs : swapsWith (.Call (.Attribute (.Name x px) "add" apos) [e] [] cpos) none pos.line X.env = pure false := by rfl)
    (hbase : attributeBase (.Name x px) "add" X.env (eval (.Name x px) X.env) = eval (.Name x px) X.env := by rfl)
    (hfew : ((backTo cpos (starEach [e] X.env)).all (fun x => !x.1) && (backToKw cpos (keywordEach [] X.env)).all (fun x => x.1.isSome)
      && decide (([e] : List Expr).length + ([] : List Keyword).length + (if ([] : List Keyword).isEmpty then 0 else 1) < 30)) = true := by rfl)
    (hline : (apos.endLine == cpos.line) = true := by rfl) (hst : starEach [e] X.env = (false, eval e X.env) :: starEach [] X.env := by rfl) :
    DS Γ X W (.Expr (.Call (.Attribute (.Name x px) "add" apos) [e] [] cpos) pos) (sSAdd i u) :=
  let ⟨_, p2, q⟩ := ha.run
  ⟨_, ps_expr (pe_sadd hx p2 hbase hfew hline hst rfl) hs, fun S H σ ρ F D Dh o1 l w x => by
    unfold sSAdd at x
    split at x
    · rename_i xs0 e0
      obtain ⟨a, hv, h1, n1, _⟩ := o1.sett e0
      rw [hw] at h1
      refine ⟨.ref a, hv, ⟨a, _, _, rfl, h1⟩, q S H σ ρ F D.ex _ _ o1 w x fun vs S' H' ρ' ps hp o' x' => ?_⟩
      unfold kSAdd1 at x'
      split at x'
      · rename_i k xs ed e2
        have r := rbL_of hp o' (List.sublist_append_left _ _) ed
        have o2 := o'.sub (F' := F) (List.sublist_append_right _ _)
        cases r with
        | cons r1 r =>
          cases r
          obtain ⟨a', hv2, h3, n2, up⟩ := o2.sett e2
          have ea : a' = a := by rw [hv] at hv2; injection hv2 with z; injection z with z; injection z with z; exact z.symm
          subst ea
          rw [hw] at h3 up
          refine ⟨a', k, _, _, rfl, by rw [r1.int], h3, by unfold scanBound; have := x'.1; omega, ?_⟩
          rw [setH_ins]
          exact l.nx S' _ σ _ (up _ (insI_nodup n2)) x'.2
      · exact x'.elim
    · exact x.elim⟩
/-- k in s -/
def oInS (neg : Bool) : OD := fun x y R => match x, y with
  | .int k, .set xs => R 0 (.bl (if neg then !decide (k ∈ xs) else decide (k ∈ xs)))
  | _, _ => False
theorem br_inS (hw : Γ.T.w = X.w) : Br Γ (rSIn X.w) (oInS false) := by
  intro S H x y dx dy Q Qh e hx hy q p
  cases dx with
  | int k => cases dy with
    | set xs =>
      obtain ⟨a, rfl, h, _⟩ := hy.set e
      rw [hw] at h
      exact ⟨k, a, _, _, hx.int, rfl, h, p.sc e .bl q⟩
    | _ => exact q.elim
  | _ => exact q.elim
theorem br_notInS (hw : Γ.T.w = X.w) : Br Γ (rSNotIn X.w) (oInS true) := by
  intro S H x y dx dy Q Qh e hx hy q p
  cases dx with
  | int k => cases dy with
    | set xs =>
      obtain ⟨a, rfl, h, _⟩ := hy.set e
      rw [hw] at h
      exact ⟨k, a, _, _, hx.int, rfl, h, p.sc e .bl q⟩
    | _ => exact q.elim
  | _ => exact q.elim
/-! ### zip(a, b), enumerate(l) -/
def zipD (xs ys : List Dat) : List Dat := List.zipWith (fun x y => Dat.tup [x, y]) xs ys
theorem zipD_at {xs ys : List Dat} {i : Nat} {d : Dat} (h : (zipD xs ys)[i]? = some d) : ∃ x y, xs[i]? = some x ∧ ys[i]? = some y ∧ d = .tup [x, y] := by
  unfold zipD at h
  rw [List.getElem?_zipWith] at h
  cases hx : xs[i]? with
  | none => rw [hx] at h; cases h
  | some x =>
    cases hy : ys[i]? with
    | none => rw [hx, hy] at h; cases h
    | some y =>
      rw [hx, hy] at h
      exact ⟨x, y, rfl, rfl, (Option.some.inj h).symm⟩
theorem getL {α : Type} {xs : List α} {i : Nat} (h : i < xs.length) : ∃ x, xs[i]? = some x := ⟨xs[i], List.getElem?_eq_getElem h⟩
theorem StOk.head2 {S H : Hp} {σ : L2.St} {ρ : DEnv} {v w : V} {d e : Dat} {G : Fx} (o : StOk Γ S H σ ρ ([(some v, some (Sl.v 0 d)), (some w, some (Sl.v 0 e))] ++ G)) : Is Γ.T Γ.K S v d ∧ Is Γ.T Γ.K S w e :=
  ⟨o.isE (List.mem_cons_self ..), o.isE (List.mem_cons_of_mem _ (List.mem_cons_self ..))⟩
theorem wlk_zipT {a b : Addr} {xs ys : List Dat} : Wlk Γ (RZ.ItzT Γ.K a b) (zipD xs ys) [(some (.ref b), some (.v 0 (.tup ys))), (some (.ref a), some (.v 0 (.tup xs)))] := by
  have get : ∀ S H σ ρ G, StOk Γ S H σ ρ ([(some (V.ref b), some (Sl.v 0 (.tup ys))), (some (V.ref a), some (Sl.v 0 (.tup xs)))] ++ G) → ∃ vs us, SqT Γ.K H a vs ∧ IsL Γ.T Γ.K S vs xs ∧ SqT Γ.K H b us ∧ IsL Γ.T Γ.K S us ys := fun S H σ ρ G o => by
    obtain ⟨h1, h2⟩ := o.head2
    cases h1 with
    | tup h l => cases h2 with | tup h' l' => exact ⟨_, _, o.ok.ex.stp h', l', o.ok.ex.stp h, l⟩
  refine ⟨fun S H σ ρ G i o hi => ?_, fun S H σ ρ G i x H' d o y hd => ?_, fun S H σ ρ G o => ?_⟩
  · obtain ⟨vs, us, h, l, h', l'⟩ := get S H σ ρ G o
    unfold zipD at hi
    rw [List.length_zipWith] at hi
    obtain ⟨v, hv⟩ := getL (xs := vs) (i := i) (by rw [l.len]; omega)
    obtain ⟨w, hw⟩ := getL (xs := us) (i := i) (by rw [l'.len]; omega)
    exact ⟨vs, us, v, w, h, h', hv, hw⟩
  · obtain ⟨vs, us, h, l, h', l'⟩ := get S H σ ρ G o
    obtain ⟨dx, dy, ex, ey, rfl⟩ := zipD_at hd
    obtain ⟨T, x1, y1, rfl, hT, rfl, f1, f2⟩ := y
    obtain ⟨v, hv, iv⟩ := l.get ex
    obtain ⟨w, hw, iw⟩ := l'.get ey
    have e1 := f1 vs h
    have e2 := f2 us h'
    rw [hv] at e1
    rw [hw] at e2
    cases e1
    cases e2
    have st : Stp S H (upd S T (.tup [x1, y1])) (upd H T (.tup [x1, y1])) := Stp.new o.ok.ex hT
    exact ⟨_, (o.step st).pushS (.tup (.of upd_same) (.cons (iv.mono st.s) (.cons (iw.mono st.s) .nil)))⟩
  · obtain ⟨vs, us, h, l, h', l'⟩ := get S H σ ρ G o
    refine ⟨vs, us, h, h', ?_⟩
    unfold zipD
    rw [List.length_zipWith, l.len, l'.len]
    omega
theorem wlk_zipL {a b : Addr} {xs ys : List Dat} : Wlk Γ (Itz Γ.K a b) (zipD xs ys) [(some (.ref b), some (.v 0 (.lst ys))), (some (.ref a), some (.v 0 (.lst xs)))] := by
  have get : ∀ S H σ ρ G, StOk Γ S H σ ρ ([(some (V.ref b), some (Sl.v 0 (.lst ys))), (some (V.ref a), some (Sl.v 0 (.lst xs)))] ++ G) → ∃ vs us, SqL Γ.K H a vs ∧ IsL Γ.T Γ.K S vs xs ∧ SqL Γ.K H b us ∧ IsL Γ.T Γ.K S us ys := fun S H σ ρ G o => by
    obtain ⟨h1, h2⟩ := o.head2
    cases h1 with
    | lst h l => cases h2 with | lst h' l' => exact ⟨_, _, .of (o.ok.ex _ _ h'), l', .of (o.ok.ex _ _ h), l⟩
  refine ⟨fun S H σ ρ G i o hi => ?_, fun S H σ ρ G i x H' d o y hd => ?_, fun S H σ ρ G o => ?_⟩
  · obtain ⟨vs, us, h, l, h', l'⟩ := get S H σ ρ G o
    unfold zipD at hi
    rw [List.length_zipWith] at hi
    obtain ⟨v, hv⟩ := getL (xs := vs) (i := i) (by rw [l.len]; omega)
    obtain ⟨w, hw⟩ := getL (xs := us) (i := i) (by rw [l'.len]; omega)
    exact ⟨vs, us, v, w, h, h', hv, hw⟩
  · obtain ⟨vs, us, h, l, h', l'⟩ := get S H σ ρ G o
    obtain ⟨dx, dy, ex, ey, rfl⟩ := zipD_at hd
    obtain ⟨T, x1, y1, rfl, hT, rfl, f1, f2⟩ := y
    obtain ⟨v, hv, iv⟩ := l.get ex
    obtain ⟨w, hw, iw⟩ := l'.get ey
    have e1 := f1 vs h
    have e2 := f2 us h'
    rw [hv] at e1
    rw [hw] at e2
    cases e1
    cases e2
    have st : Stp S H (upd S T (.tup [x1, y1])) (upd H T (.tup [x1, y1])) := Stp.new o.ok.ex hT
    exact ⟨_, (o.step st).pushS (.tup (.of upd_same) (.cons (iv.mono st.s) (.cons (iw.mono st.s) .nil)))⟩
  · obtain ⟨vs, us, h, l, h', l'⟩ := get S H σ ρ G o
    refine ⟨vs, us, h, h', ?_⟩
    unfold zipD
    rw [List.length_zipWith, l.len, l'.len]
    omega
def kZip (QI : DEnv → List Dat → Prop) (ρ1 : DEnv) (ps : List Pl) : Prop := match stL ps with
  | some [.lst xs, .lst ys] => QI ρ1 (zipD xs ys)
  | some [.tup xs, .tup ys] => QI ρ1 (zipD xs ys)
  | _ => False
def idZip (u : TAD) : TID := fun E ρ Q => u E ρ (kZip Q)
theorem e_idZip (u : TAD) (E : DEx) (ρ : DEnv) (Q : DEnv → List Dat → Prop) : idZip u E ρ Q = u E ρ (kZip Q) := rfl
theorem stL_pl : ∀ {ps : List Pl} {ds : List Dat}, stL ps = some ds → ps = ds.map fun d => Pl.t (.v 0 d)
  | [], _, e => by cases e; rfl
  | .t (.v 0 d) :: ps, ds, e => by
    have e' : (match stL ps with | some ds => some (d :: ds) | none => none) = some ds := e
    split at e'
    · rename_i ds' e2
      cases e'
      rw [stL_pl e2]; rfl
    · cases e'
  | .t (.v (_ + 1) _) :: _, _, e => by cases e
  | .t (.b _) :: _, _, e => by cases e
  | .s _ :: _, _, e => by cases e
theorem di_zip {elts : List Expr} {kk : Nat} {tpos : Pos} (hg : Gl X "zip") (hm : X.mg "zip" = none) (ha : DA Γ X W [a, b] u) (hs : starEach [a, b] X.env = (false, eval a X.env) :: starEach [b] X.env := by rfl)
    (hpl : (backTo pos (starEach [b] X.env)).any (·.1) = false := by rfl) (hK : Γ.K = X.K := by rfl) : DI Γ X W (.Tuple elts kk tpos) (.Call (.Name "zip" p) [a, b] [] pos) (idZip u) := by
  obtain ⟨_, p1, q⟩ := ha.run
  refine ⟨_, RZ.pi_zipA hg hm p1 hs hpl, fun S H σ ρ F E Q R o l x k => q S H σ ρ F E _ _ o l x fun vs S' H' ρ' ps hp o' x' => ?_⟩
  rw [← hK]
  unfold kZip at x'
  split at x'
  · rename_i xs ys ed
    have il := stL_of o' hp (List.sublist_append_left _ _) ed
    have ep := stL_pl ed
    subst ep
    cases il with
    | cons i1 il =>
      cases il with
      | cons i2 il =>
        cases il
        cases i1 with
        | lst h1 l1 =>
          cases i2 with
          | lst h2 l2 => exact ⟨_, _, _, _, rfl, .inl ⟨.of (o'.ok.ex _ _ h1), .of (o'.ok.ex _ _ h2), k _ H' S' ρ' _ [_, _] o' wlk_zipL x'⟩⟩
  · rename_i xs ys ed
    have il := stL_of o' hp (List.sublist_append_left _ _) ed
    have ep := stL_pl ed
    subst ep
    cases il with
    | cons i1 il =>
      cases il with
      | cons i2 il =>
        cases il
        cases i1 with
        | tup h1 l1 =>
          cases i2 with
          | tup h2 l2 => exact ⟨_, _, _, _, rfl, .inr ⟨o'.ok.ex.stp h1, o'.ok.ex.stp h2, k _ H' S' ρ' _ [_, _] o' wlk_zipT x'⟩⟩
  · exact x'.elim
end
end Sw

/-! The data layer, 26: tuple(), min, max, all, divmod, sorted of whole numbers, str of a number. -/
namespace Sw
open PySem L2 PyProof.Rows
section
variable {Γ : Gm} {X : Cx}
/-- tuple(xs) -/
def uTuple : LD := fun xs R => match xs with
  | [.lst zs] => R 0 (.tup zs)
  | [.tup zs] => R 0 (.tup zs)
  | _ => False
theorem br_tuple : BrC Γ (fun xs H Q => ∃ p ys, xs = [.ref p] ∧ ((SqL Γ.K H p ys ∧ ∀ l, H l = none → Q (.ref l) (upd H l (.tup ys))) ∨ (SqT Γ.K H p ys ∧ Q (.ref p) H))) uTuple := by
  intro S H vs ds Q Qh e r q p
  unfold uTuple at q
  split at q
  · obtain ⟨v, rfl, r1⟩ := rb1 r
    obtain ⟨a, ws, rfl, h, il⟩ := r1.lst e
    exact ⟨a, ws, rfl, .inl ⟨.of h, fun l n => p.tup e n il q⟩⟩
  · obtain ⟨v, rfl, r1⟩ := rb1 r
    obtain ⟨a, ws, rfl, h, il⟩ := r1.tup
    exact ⟨a, ws, rfl, .inr ⟨e.stp h, p.sc e (.tup h il) q⟩⟩
  · exact q.elim
/-- min(i, j), max(i, j) -/
def uMin : LD := fun xs R => match xs with
  | [.int i, .int j] => R 0 (.int (if j < i then j else i))
  | _ => False
def uMax : LD := fun xs R => match xs with
  | [.int i, .int j] => R 0 (.int (if j > i then j else i))
  | _ => False
theorem br_min : BrC Γ (fun xs H Q => ∃ i j, xs = [V.int i, V.int j] ∧ Q (.int (if j < i then j else i)) H) uMin := by
  intro S H vs ds Q Qh e r q p
  unfold uMin at q
  split at q
  · obtain ⟨v, w, rfl, h, h2⟩ := rb2 r
    exact ⟨_, _, by rw [h.int, h2.int], p.sc e .int q⟩
  · exact q.elim
theorem br_max : BrC Γ (fun xs H Q => ∃ i j, xs = [V.int i, V.int j] ∧ Q (.int (if j > i then j else i)) H) uMax := by
  intro S H vs ds Q Qh e r q p
  unfold uMax at q
  split at q
  · obtain ⟨v, w, rfl, h, h2⟩ := rb2 r
    exact ⟨_, _, by rw [h.int, h2.int], p.sc e .int q⟩
  · exact q.elim
def bools (bs : List Bool) : List Dat := bs.map Dat.bl
theorem isl_bools {T : Tb} {K : PySem.W.Frag} {S : Hp} : ∀ {vs : List V} {bs : List Bool}, IsL T K S vs (bools bs) → vs = bs.map V.bl
  | _, [], .nil => rfl
  | _, _ :: _, .cons h l => by
    cases h
    rw [isl_bools l]; rfl
/-- all(list of truth values) -/
def uAll : LD := fun xs R => match xs with
  | [.lst zs] => ∃ bs : List Bool, zs = bools bs ∧ R 0 (.bl (bs.all id))
  | _ => False
theorem br_all : BrC Γ (rAll Γ.K) uAll := by
  intro S H vs ds Q Qh e r q p
  unfold uAll at q
  split at q
  · obtain ⟨bs, rfl, q⟩ := q
    obtain ⟨v, rfl, r1⟩ := rb1 r
    obtain ⟨a, ws, rfl, h, il⟩ := r1.lst e
    exact ⟨a, bs, rfl, .of (by rw [← isl_bools il]; exact h), p.sc e .bl q⟩
  · exact q.elim
/-- divmod(i, j) -/
def uDivmod : LD := fun xs R => match xs with
  | [.int i, .int j] => DivOk j ∧ R 0 (.tup [.int (i / j), .int (i % j)])
  | _ => False
theorem br_divmod : BrC Γ (fun xs H Q => ∃ i j, xs = [V.int i, V.int j] ∧ CDivP i j ∧ ∀ p, H p = none → Q (.ref p) (upd H p (.tup [.int (i / j), .int (i % j)]))) uDivmod := by
  intro S H vs ds Q Qh e r q p
  unfold uDivmod at q
  split at q
  · rename_i i j
    obtain ⟨v, w, rfl, h, h2⟩ := rb2 r
    refine ⟨i, j, by rw [h.int, h2.int], ⟨q.1.1, ?_⟩, fun l n => p.tup e n (.cons .int (.cons .int .nil)) q.2⟩
    have h1 := log2_of q.1.2
    unfold Builtin.divisionGoesByPylong
    simp only [Bool.and_eq_false_iff, decide_eq_false_iff_not]
    left
    split <;> omega
  · exact q.elim
/-- sorted(list of whole numbers) -/
def uSorted : LD := fun xs R => match xs with
  | [.lst zs] => ∃ ns : List Int, zs = nums ns ∧ ∀ ms : List Int, ms.Perm ns → ms.Pairwise (· ≤ ·) → R 1 (.lst (nums ms))
  | _ => False
theorem br_sorted : BrC Γ (rSortedI Γ.K) uSorted := by
  intro S H vs ds Q Qh e r q p
  unfold uSorted at q
  split at q
  · obtain ⟨ns, rfl, q⟩ := q
    obtain ⟨v, rfl, r1⟩ := rb1 r
    obtain ⟨a, rfl, h⟩ := rb_ints e r1
    exact ⟨a, ns, rfl, h, fun ms l h1 h2 n => p.lst e n (isl_nums ms) (q ms h1 h2)⟩
  · exact q.elim
/-- str(i) -/
def uStr : LD := fun xs R => match xs with
  | [.int i] => Sm i ∧ R 0 (.str (toString i))
  | _ => False
theorem br_str : BrC Γ (fun xs H Q => ∃ i : Int, xs = [V.int i] ∧ i.natAbs.log2 < 1920 ∧ Q (.str (toString i)) H) uStr := by
  intro S H vs ds Q Qh e r q p
  unfold uStr at q
  split at q
  · obtain ⟨v, rfl, r1⟩ := rb1 r
    exact ⟨_, by rw [r1.int], Nat.lt_trans (log2_of q.1) (by decide), p.sc e .str q.2⟩
  · exact q.elim
end
end Sw

/-! The data layer, 27: an own __pow__ with a whole number. -/
namespace Sw
open PySem L2 PyProof.Rows PySem.Calls PySem.W
theorem tl_int_pow : typeLookup (.type "int") (PySem.dunder "pow") = (pure (some (.builtin "int.__pow__")) : Sem (Option Value)) := by rw [typeLookup_type, builtinLookup_eq_fast]; kernel_rfl
theorem tl_int_rpow : typeLookup (.type "int") (dunderR "pow") = (pure (some (.builtin "int.__rpow__")) : Sem (Option Value)) := by rw [typeLookup_type, builtinLookup_eq_fast]; kernel_rfl
theorem fill_int_pow : fillsNumberSlot (.type "int") "pow" = pure true := fillsNumberSlot_of tl_int_pow (by decide +kernel) tl_int_rpow
theorem nsip_K {M : Model} {K : Frag} {C f : Addr} {h : Heap} (X : K.In h) (hs : findIn K (.ref C) (PySem.dunder "pow") = some (some (.ref f))) (hr : findIn K (.ref C) (dunderR "pow") = some none) : Looks M h (numberSlotInPython (.ref C) "pow") true := by
  intro A Q E s k q
  unfold numberSlotInPython
  refine wpAny_bind (looks_findIn X hs A _ E s k ?_)
  refine wpAny_bind (wpAny_pure ?_)
  refine wpAny_bind (looks_findIn X hr A _ E s k ?_)
  refine wpAny_bind (wpAny_pure ?_)
  exact wpAny_pure q
theorem pow_K {prog : Program} {w : World} {A : Around} {E : Value → Shared → Prop} {s : Shared} {K : Frag} {x C L f : Addr} {h₀ : Heap} {m : Str → Option Value} {ox : Obj} {od : Option Obj} {j : Int} {t : Tok} {Q : Value → Shared → Prop} (F : Fr h₀ L s.heap m) (X₀ : K.In h₀) (I : InstAt s.heap x ox C od) (hc : selfFirst K C = true)
    (hs : findIn K (.ref C) (PySem.dunder "pow") = some (some (.ref f))) (hr : findIn K (.ref C) (dunderR "pow") = some none) (hsub : subIn K (.type "int") (.ref C) = some false) (hf : isFn K (.ref f) = true)
    (h : wpAny (model prog w) A (call (.ref f) [.ref x, .int j t]) (PySem.W.CmpBack Q) E s) : wpAny (model prog w) A (binaryOp .Pow (.ref x) (.int j t)) Q E s := by
  have X := X₀.keeps F.keep
  obtain ⟨cd, hcd, hm⟩ := any_some hc
  obtain ⟨rest, hm⟩ : ∃ rest, cd.mro = .ref C :: rest := by
    cases q : cd.mro with
    | nil => rw [q] at hm; cases hm
    | cons a r => rw [q] at hm; exact ⟨r, by rw [List.head?_cons] at hm; cases (beq_iff_eq.mp hm); rfl⟩
  unfold binaryOp
  refine wpAny_holding (wpAny_bind ?_)
  show wpAny _ _ (binaryOp1 "pow" (.ref x) (.int j t)) _ _ _
  unfold binaryOp1
  refine wpAny_bind (I.type.here (wpAny_bind (wpAny_typeOf (typeIs_int s j t) (wpAny_bind ((fills_K X hcd hm hs).here ?_)))))
  have ne : ((Value.ref C : Value) == .type "int") = false := rfl
  simp only [ne, Bool.false_eq_true, if_false, fill_int_pow, pure_bind, Bool.and_self, if_true]
  refine wpAny_bind ((looks_subIn X hsub).here ?_)
  simp only [Bool.false_eq_true, if_false]
  simp only [Bool.not_false, Bool.and_self, if_true]
  refine wpAny_bind ((nsip_K X hs hr).here ?_)
  simp only [if_true, show numberSlotInPython (.type "int") "pow" = (pure false : Sem Bool) from rfl, pure_bind, Bool.not_false, tl_int_rpow]
  refine wpAny_bind (m := tryMethod (.ref x) _ (.int j t)) ?_
  unfold tryMethod
  refine wpAny_bind (special_fn X I hs (beq_iff_eq.mp hf) (wpAny_mono h (fun v s' hv => ?_) fun _ _ e => e))
  cases v <;> first | exact hv.elim | exact wpAny_pure (wpAny_pure (wpAny_pure hv))
section
variable {X : Cx} {k : Nat} {C f : Addr} {fd : FuncData} {ps : List Str} {sp : Sp} {W : WX}
def rOwnI (C : Addr) (sp : Sp) (W : WX) : R2W := fun σ x y H Q => InsA C x H ∧ (∃ j, y = .int j) ∧ sp [x, y] H Q (WE W σ)
theorem opW_pow (c : Meth X.K C "__pow__" f) (sf : PySem.W.selfFirst X.K C = true) (hr0 : PySem.W.findIn X.K (.ref C) "__rpow__" = some none) (hsub : PySem.W.subIn X.K (.type "int") (.ref C) = some false) (F : FnOk X.prog X.w X.K X.mg X.base (L2.CX X.prog X.w) k f fd ps sp) (hr : Room k X.A) (hb : Binds X.K fd ps []) (tk : L2.Takes X W) :
    OpW X (binaryOp .Pow) (rOwnI C sp W) := by
  intro pins s σ H x y v u Q I rx ry h
  obtain ⟨⟨a, dx, fs, rfl, ha⟩, ⟨j, rfl⟩, q⟩ := h
  obtain rfl : v = Value.ref a := rx
  obtain ⟨t, rfl⟩ := ry
  obtain ⟨mA, J, _⟩ := ins_get I.hok ha
  obtain ⟨od, J, _⟩ := J.look
  obtain ⟨m, hF⟩ := I.fr
  exact pow_K hF I.ok.mod.kin J sf c.at_ hr0 hsub c.fn (own_back F hr hb tk I (vs := [.ref a, .int j]) (.cons rfl (.cons ⟨t, rfl⟩ .nil)) q)
end
section
variable {Γ : Gm} {X : Cx} {W : WX} {a b : Expr} {pos : Pos} {ta tb : TPD}
/-- o ** i -/
structure PwG (M : Wd) (Γ : Gm) (c : Nat) (k : Nat) (ps : List Str) (ms : List Bool) (dsp : DSp) : Prop where
  ok : OwG M Γ c "__pow__" k ps ms dsp
  r : PySem.W.findIn M.K (.ref (Γ.T c).C) "__rpow__" = some none
  sub : PySem.W.subIn M.K (.type "int") (.ref (Γ.T c).C) = some false
def kOwI2 (E : DEx) (Q : DEnv → Pl → Prop) (c : Nat) (ms : List Bool) (dsp : DSp) (pa : Pl) (ρ2 : DEnv) (pb : Pl) : Prop := match pa.d ρ2, pb.d ρ2 with
  | some (.obj k _), some (.int _) => k = c ∧ (match argL ρ2 ms [pa, pb] with
    | some ds => dsp ds (kv Q ρ2) (kx E ρ2)
    | none => False)
  | _, _ => False
def kOwI1 (tb : TPD) (E : DEx) (Q : DEnv → Pl → Prop) (c : Nat) (ms : List Bool) (dsp : DSp) (ρ1 : DEnv) (pa : Pl) : Prop := tb E ρ1 (kOwI2 E Q c ms dsp pa)
def pOwI (c : Nat) (ms : List Bool) (dsp : DSp) (ta tb : TPD) : TPD := fun E ρ Q => ta E ρ (kOwI1 tb E Q c ms dsp)
theorem e_pOwI (c : Nat) (ms : List Bool) (dsp : DSp) (ta tb : TPD) (E : DEx) (ρ : DEnv) (Q : DEnv → Pl → Prop) : pOwI c ms dsp ta tb E ρ Q = ta E ρ (kOwI1 tb E Q c ms dsp) := rfl
theorem run_owI {c : Nat} {ms : List Bool} {dsp : DSp} {ta' tb' : TE} (ha : RunP Γ W ta' ta) (hb : RunP Γ W tb' tb) : RunP Γ W (tOpW (rOwnI (Γ.T c).C (lift Γ ms dsp) W) ta' tb') (pOwI c ms dsp ta tb) := by
  intro S H σ ρ F E Q Qh o l x kk
  refine ha S H σ ρ F E _ _ o l x fun v S' H' ρ' po hp o' x' => ?_
  refine hb S' H' σ ρ' (po.tmp v ++ F) E _ _ o' l.tmp x' fun v2 S2 H2 ρ2 pi hpi o2 x2 => ?_
  have o2' : StOk Γ S2 H2 σ ρ2 (tmps [v, v2] [po, pi] ++ F) := by
    show StOk Γ S2 H2 σ ρ2 (((tmps [] [] ++ pi.tmp v2) ++ po.tmp v) ++ F)
    rw [List.append_assoc]; exact o2
  unfold kOwI2 at x2
  split at x2
  · rename_i c1 f1 i2 e1 e2
    obtain ⟨rfl, x2⟩ := x2
    have rb : Rb Γ S2 H2 v _ := o2.rb hp ((List.sublist_append_left _ F).trans (List.sublist_append_right _ _)) e1
    have rb2 : Rb Γ S2 H2 v2 _ := o2.rb hpi (List.sublist_append_left _ _) e2
    obtain ⟨a, dx, vs0, rfl, h1, _, _⟩ := rb.obj o2.ok.ex
    refine ⟨⟨a, dx, _, rfl, h1⟩, ⟨_, rb2.int⟩, ?_⟩
    split at x2
    · rename_i ds ed2
      have o3 := o2'.sub (F' := F) (List.sublist_append_right _ _)
      have a2 := argL_of o2' (.cons hp (.cons hpi .nil)) (List.sublist_append_left _ _) ed2
      exact ⟨S2, _, _, _, o2'.ok.ex, a2, x2, fun S3 H3 k z dz f st ow nd nw qq => kk z S3 H3 ρ2 (.t (.v k dz)) trivial (o3.push st ow nd nw) qq, fun S3 H3 y cls dd st ea ey => l S3 H3 σ ρ2 y cls dd (o3.step st) ea ey⟩
    · exact x2.elim
  · exact x2.elim
theorem dp_pow {Γ' : Gm} {c k : Nat} {ps : List Str} {ms : List Bool} {dsp : DSp} (g : PwG (wd X) Γ' c k ps ms dsp) (hr : Room k X.A) (tk : L2.Takes X W) (ha : DP Γ X W a ta) (hb : DP Γ X W b tb)
    (hT : Γ'.T = Γ.T := by rfl) (hX : Γ'.X = Γ.X := by rfl) (hK : Γ'.K = Γ.K := by rfl) : DP Γ X W (.BinOp a .Pow b pos) (pOwI c ms dsp ta tb) := by
  obtain ⟨f, fd, hm, hb', F⟩ := g.ok.ok
  obtain ⟨_, p1, q1⟩ := ha.run
  obtain ⟨_, p2, q2⟩ := hb.run
  have sf := g.ok.sf
  have r0 := g.r
  have s0 := g.sub
  rw [lift_in hT hX hK] at F
  rw [hT] at hm sf r0 s0
  exact ⟨_, pe_opW (opW_pow hm sf r0 s0 F hr hb' tk) p1 p2, run_owI q1 q2⟩
end
end Sw

/-! The data layer, 28: calls with keywords; lists unpacked; xs[-2::-1]. -/
namespace Sw
open PySem L2 PyProof.Rows
/-! ### keywords -/
/-- the parameters' order: the j-th of what is written, or the next default -/
def arl {α : Type} (d : α) : List (Option Nat) → List α → List α → List α
  | [], _, _ => []
  | some j :: r, cs, xs => xs.getD j d :: arl d r cs xs
  | none :: r, c :: cs, xs => c :: arl d r cs xs
  | none :: r, [], xs => d :: arl d r [] xs
theorem vals_getD {xs : List V} {us : List Value} (h : Vals xs us) (j : Nat) : RelV (xs.getD j .non) (us.getD j .none) := by
  rw [List.getD_eq_getElem?_getD, List.getD_eq_getElem?_getD]
  cases e : xs[j]? with
  | some x =>
    obtain ⟨u, hu, r⟩ := h.get e
    rw [hu]; exact r
  | none => rw [Vals.none_of h e]; rfl
theorem arl_vals {xs : List V} {us : List Value} (h : Vals xs us) : ∀ (ar : List (Option Nat)) {cs : List V} {mv : List Value}, Vals cs mv → Vals (arl .non ar cs xs) (arl .none ar mv us)
  | [], _, _, _ => .nil
  | some j :: r, _, _, hc => .cons (vals_getD h j) (arl_vals h r hc)
  | none :: r, _, _, .cons h1 h2 => .cons h1 (arl_vals h r h2)
  | none :: r, _, _, .nil => .cons rfl (arl_vals h r .nil)
section
variable {Γ : Gm} {S H : Hp}
theorem args_get {ms vs ds} (h : ArgsOk Γ S H ms vs ds) : ∀ j, if ms.getD j true = true then Is Γ.T Γ.K S (vs.getD j .non) (ds.getD j .non) else Rb Γ S H (vs.getD j .non) (ds.getD j .non) := by
  induction h with
  | nil => intro j; exact .non
  | still g _ ih => intro j; cases j with
    | zero => exact g
    | succ j => exact ih j
  | read g _ ih => intro j; cases j with
    | zero => exact g
    | succ j => exact ih j
theorem arl_args {ms vs ds} (h : ArgsOk Γ S H ms vs ds) : ∀ (ar : List (Option Nat)) {cs : List (V × Dat)}, (∀ c ∈ cs, Is Γ.T Γ.K S c.1 c.2) →
    ArgsOk Γ S H (arl true ar (cs.map fun _ => true) ms) (arl .non ar (cs.map (·.1)) vs) (arl .non ar (cs.map (·.2)) ds)
  | [], _, _ => .nil
  | some j :: r, _, hc => by
    have g := args_get h j
    have ih := arl_args h r hc
    unfold arl
    cases e : ms.getD j true with
    | true => rw [e] at g; exact .still g ih
    | false => rw [e] at g; exact .read g ih
  | none :: r, c :: cs, hc => .still (hc c (List.mem_cons_self ..)) (arl_args h r fun x hx => hc x (List.mem_cons_of_mem _ hx))
  | none :: r, [], hc => .still .non (arl_args h r hc)
end
section
variable {K : PySem.W.Frag} {x qual : Str} {params : Arguments} {body : List Stmt} {scope : Scope} {kws : List (Str × V)} {f : Addr} {fd : FuncData} {ps : List Str}
/-- f(e, .., k = v, ..), f without defaults but the keyword-only ones -/
theorem kbinds0 (F : FunD K x qual params body scope [] kws f fd) (n : Nat) (ks : List Str) (ms : List (Str × V)) (ar : List (Option Nat)) (hk : kws ≠ []) (hms : ∀ q ∈ ms, q ∈ kws)
    (h : ∀ (D : Addr) (doc pm : Value) (an : Option Addr) (cdv ct : Value) (us mv ws : List Value), us.length = n → mv.length = ms.length → ws.length = ks.length →
      KwChain D ((ms.map (·.1)).zip mv) (bindArgs (PySem.W.fnOf x qual params body scope .none (.ref D) doc pm an cdv ct) ⟨us, ks.zip ws⟩) (ps.zip (arl .none ar mv (us ++ ws)))) :
    ∃ mv : List Value, KBn K fd ps n ks (fun us ws => arl .none ar mv (us ++ ws)) (fun vs zs => arl .non ar (ms.map (·.2)) (vs ++ zs)) := by
  obtain ⟨oc, od, dV, kV, doc, pm, an, cdv, ct, osl, rfl, lk, hcd, hD, hK⟩ := F.ex
  rcases hD with ⟨_, rfl⟩ | ⟨e, _⟩
  · rcases hK with e | ⟨D, rfl, hq⟩
    · exact absurd e hk
    · obtain ⟨mv, hl, rk, hks⟩ := kwd_vals (ms := ms) fun q hm => hq q (hms q hm)
      refine ⟨mv, ⟨fun s us ws X l1 l2 => ?_, fun r1 r2 => arl_vals (r1.append r2) ar rk⟩⟩
      exact BindsTo.of_looks fun M => KwChain.looks X hks (h D doc pm an cdv ct us mv ws l1 hl l2)
  · exact absurd rfl e
end
section
variable {X : Cx} {k n : Nat} {f : Addr} {fd : FuncData} {ps ks : List Str} {sp : Sp} {W : WX} {x : Str} {p pos : Pos} {e : Expr} {es : List Expr} {kws : List Keyword} {t tk : TA} {g : List Value → List Value → List Value} {gV : List V → List V → List V}
def tCallNW (n m : Nat) (sp : Sp) (gV : List V → List V → List V) (W : WX) (t tk : TA) : TE := fun σ H Q => t σ H fun vs H1 => tk σ H1 fun zs H2 => vs.length = n ∧ zs.length = m ∧ sp (gV vs zs) H2 Q (WE W σ)
theorem pe_callNW (F : FnOk X.prog X.w X.K X.mg X.base (L2.CX X.prog X.w) k f fd ps sp) (hr : Room k X.A) (hg : Gl X x) (hm : X.mg x = some (.ref f)) (hk : PySem.W.keepIn X.K (.ref f) = true) (hb : KBn X.K fd ps n ks g gV) (tkk : Takes X W)
    (ha : PA X (e :: es) t) (hkw : PK X kws tk) (hall : (backToKw pos (keywordEach kws X.env)).all (·.1.isSome) = true) (hks : (backToKw pos (keywordEach kws X.env)).filterMap (·.1) = ks)
    (hdb : (x == ("__debug__" : Str)) = false) (he : starEach (e :: es) X.env = (false, eval e X.env) :: starEach es X.env)
    (hpl : ((backTo pos (starEach (e :: es) X.env)).any (·.1) || (backToKw pos (keywordEach kws X.env)).any (·.1.isNone)) = false) :
    PE X (.Call (.Name x p) (e :: es) kws pos) (tCallNW n ks.length sp gV W t tk) := by
  refine ⟨fun pins s σ H Q I h => ?_⟩
  refine wpAny_Call_Name_kw (ld_glob I hg hm ?_ hdb)
  refine PySem.W.callWith_KW (h₀ := X.base) I.ok.mod.kin hk hall (thn (ha.run pos pins s σ H _ I h) fun us s1 ⟨vs, H1, I1, r, q⟩ => ?_) hpl he
  refine thn (hkw.run pos pins s1 σ H1 _ I1 q) fun ws s2 ⟨zs, H2, I2, rz, l1, l2, q2⟩ => ⟨I2.kIn, ?_⟩
  rw [hks]
  have r2 := hb.rel r rz
  refine wpAny_call (codeAny_mono (F.run X.A X.stack s2 H2 ⟨us, ks.zip ws⟩ (g us ws) (gV vs zs) Q (WE W σ) hr I2.env0 (hb.to s2 us ws I2.kIn (r.length.symm.trans l1) (rz.length.symm.trans l2)) r2 q2) fun r s' hq => ?_)
  cases r with
  | error e => exact passAt tkk σ pins H2 s2 e s' I2 hq
  | ok fl =>
    cases fl with
    | ret u => exact I2.after hq
    | next => exact False.elim hq
    | brk => exact False.elim hq
    | cont => exact False.elim hq
end
structure DK (Γ : Gm) (X : Cx) (W : WX) (kws : List Keyword) (t : TAD) : Prop where
  run : ∃ te, PK X kws te ∧ RunA Γ W te t
/-- a def that is called with keywords -/
structure FkG (M : Wd) (Γ : Gm) (name : Str) (k : Nat) (ps : List Str) (n : Nat) (ks : List Str) (ar : List (Option Nat)) (exs : List (V × Dat)) (ms : List Bool) (dsp : DSp) : Prop where
  ok : ∃ f fd, ∃ mv : List Value, M.mg name = some (.ref f) ∧ PySem.W.keepIn M.K (.ref f) = true ∧ KBn M.K fd ps n ks (fun us ws => arl .none ar mv (us ++ ws)) (fun vs zs => arl .non ar (exs.map (·.1)) (vs ++ zs)) ∧
    FnOk M.P M.w M.K M.mg M.base (L2.CX M.P M.w) k f fd ps (lift Γ ms dsp)
  sc : ∀ x ∈ exs, ∀ S, Is Γ.T Γ.K S x.1 x.2
section
variable {Γ : Gm} {X : Cx} {W : WX} {e : Expr} {es : List Expr} {kws : List Keyword} {pos p kpos : Pos} {nm : Option Str} {ta : TPD} {u uk : TAD}
theorem dk_nil : DK Γ X W [] aNil := ⟨_, pk_nil, fun S H σ ρ F E Q Qh o l q k => k [] S H ρ [] .nil o q⟩
theorem dk_cons (h : DP Γ X W e ta) (h2 : DK Γ X W kws u) : DK Γ X W (⟨nm, e, kpos⟩ :: kws) (aCons ta u) :=
  let ⟨_, p, q⟩ := h.run; let ⟨_, p2, q2⟩ := h2.run
  ⟨_, pk_cons p p2, fun S H σ ρ F E Q Qh o l x k => q S H σ ρ F E _ _ o l x fun v S' H' ρ' pl hp o' x' =>
    q2 S' H' σ ρ' (pl.tmp v ++ F) E _ _ o' l.tmp x' fun vs S2 H2 ρ2 ps hps o2 x2 => k (v :: vs) S2 H2 ρ2 (pl :: ps) (.cons (by exact hp) hps) (by
      show StOk Γ S2 H2 σ ρ2 ((tmps vs ps ++ pl.tmp v) ++ F)
      rw [List.append_assoc]; exact o2) x2⟩
theorem ats_app {σ : L2.St} : ∀ {vs ps ws zs}, Ats σ vs ps → Ats σ ws zs → Ats σ (vs ++ ws) (ps ++ zs)
  | _, _, _, _, .nil, k => k
  | _, _, _, _, .cons h r, k => .cons h (ats_app r k)
theorem tmps_app {σ : L2.St} : ∀ {vs ps ws zs}, Ats σ vs ps → tmps (vs ++ ws) (ps ++ zs) = tmps ws zs ++ tmps vs ps
  | _, _, _, _, .nil => by
    show tmps _ _ = tmps _ _ ++ []
    rw [List.append_nil]; rfl
  | _, _, _, _, .cons (v := v) (p := p) h r => by
    show tmps (_ ++ _) (_ ++ _) ++ p.tmp v = _ ++ (tmps _ _ ++ p.tmp v)
    rw [tmps_app r, List.append_assoc]
theorem Ats.len {σ : L2.St} : ∀ {vs ps}, Ats σ vs ps → vs.length = ps.length
  | _, _, .nil => rfl
  | _, _, .cons _ r => by rw [List.length_cons, List.length_cons, r.len]
def kFk2 (E : DEx) (Q : DEnv → Pl → Prop) (n m : Nat) (ms : List Bool) (ar : List (Option Nat)) (exd : List Dat) (dsp : DSp) (ps : List Pl) (ρ2 : DEnv) (zs : List Pl) : Prop :=
  ps.length = n ∧ zs.length = m ∧ (match argL ρ2 ms (ps ++ zs) with
    | some ds => dsp (arl .non ar exd ds) (kv Q ρ2) (kx E ρ2)
    | none => False)
def kFk1 (uk : TAD) (E : DEx) (Q : DEnv → Pl → Prop) (n m : Nat) (ms : List Bool) (ar : List (Option Nat)) (exd : List Dat) (dsp : DSp) (ρ1 : DEnv) (ps : List Pl) : Prop := uk E ρ1 (kFk2 E Q n m ms ar exd dsp ps)
def pFnK (n m : Nat) (ms : List Bool) (ar : List (Option Nat)) (exd : List Dat) (dsp : DSp) (u uk : TAD) : TPD := fun E ρ Q => u E ρ (kFk1 uk E Q n m ms ar exd dsp)
theorem e_pFnK (n m : Nat) (ms : List Bool) (ar : List (Option Nat)) (exd : List Dat) (dsp : DSp) (u uk : TAD) (E : DEx) (ρ : DEnv) (Q : DEnv → Pl → Prop) : pFnK n m ms ar exd dsp u uk E ρ Q = u E ρ (kFk1 uk E Q n m ms ar exd dsp) := rfl
theorem dp_callK {Γ' : Gm} {x : Str} {k n : Nat} {ps ks : List Str} {ar : List (Option Nat)} {exs : List (V × Dat)} {exd : List Dat} {ms ms1 : List Bool} {dsp : DSp} (c : FkG (wd X) Γ' x k ps n ks ar exs ms dsp) (hr : Room k X.A) (tk : Takes X W) (hg : Gl X x)
    (ha : DA Γ X W (e :: es) u) (hk : DK Γ X W kws uk) (hms : ms = arl true ar (exs.map fun _ => true) ms1) (hx : exd = exs.map (·.2) := by rfl) (hT : Γ'.T = Γ.T := by rfl) (hX : Γ'.X = Γ.X := by rfl) (hK : Γ'.K = Γ.K := by rfl)
    (hall : (backToKw pos (keywordEach kws X.env)).all (·.1.isSome) = true := by rfl) (hks : (backToKw pos (keywordEach kws X.env)).filterMap (·.1) = ks := by rfl)
    (hdb : (x == ("__debug__" : Str)) = false := by decide) (he : starEach (e :: es) X.env = (false, eval e X.env) :: starEach es X.env := by rfl)
    (hpl : ((backTo pos (starEach (e :: es) X.env)).any (·.1) || (backToKw pos (keywordEach kws X.env)).any (·.1.isNone)) = false := by rfl) :
    DP Γ X W (.Call (.Name x p) (e :: es) kws pos) (pFnK n ks.length ms1 ar exd dsp u uk) := by
  subst hx hms
  obtain ⟨f, fd, mv, hm, hkp, hb, F⟩ := c.ok
  obtain ⟨_, p1, q1⟩ := ha.run
  obtain ⟨_, p2, q2⟩ := hk.run
  rw [lift_in hT hX hK] at F
  have sc := c.sc
  rw [hT, hK] at sc
  refine ⟨_, pe_callNW F hr hg hm hkp hb tk p1 p2 hall hks hdb he hpl, fun S H σ ρ F E Q Qh o l x kk => ?_⟩
  refine q1 S H σ ρ F E _ _ o l x fun vs S' H' ρ' ps hp o' x' => ?_
  refine q2 S' H' σ ρ' (tmps vs ps ++ F) E _ _ o' (l.more _) x' fun ws S2 H2 ρ2 zs hz o2 x2 => ?_
  obtain ⟨l1, l2, x2⟩ := x2
  refine ⟨hp.len.trans l1, hz.len.trans l2, ?_⟩
  have o2' : StOk Γ S2 H2 σ ρ2 (tmps (vs ++ ws) (ps ++ zs) ++ F) := by
    rw [tmps_app hp, List.append_assoc]; exact o2
  split at x2
  · rename_i ds ed
    have o3 := o2'.sub (F' := F) (List.sublist_append_right _ _)
    have a2 := arl_args (argL_of o2' (ats_app hp hz) (List.sublist_append_left _ _) ed) ar (cs := exs) fun c hc => sc c hc S2
    exact ⟨S2, _, _, _, o2'.ok.ex, a2, x2, fun S3 H3 k z dz f st ow nd nw qq => kk z S3 H3 ρ2 (.t (.v k dz)) trivial (o3.push st ow nd nw) qq, fun S3 H3 y cls dd st ea ey => l S3 H3 σ ρ2 y cls dd (o3.step st) ea ey⟩
  · exact x2.elim
/-! ### a, b = a list or a tuple -/
def gdSeq (n : Nat) (u : TGsD) : TGD := fun sl ρ Q => match sl with
  | .v 0 (.tup ds) => ds.length = n ∧ u ds ρ Q
  | .v 0 (.lst ds) => ds.length = n ∧ u ds ρ Q
  | .v 1 (.lst ds) => ds.length = n ∧ u ds ρ Q
  | _ => False
theorem dg_seq {k n : Nat} {u : TGsD} (hc : X.calm = true) (h : DGs Γ X es u) (hn : (assignEach es X.env).length = n := by rfl) (hst : (assignEach es X.env).findIdx? (·.1) = none := by rfl) (hK : Γ.K = X.K := by rfl) : DG Γ X (.Tuple es k pos) (gdSeq n u) := by
  obtain ⟨u', p1, q1⟩ := h.run
  refine ⟨fun v σ H Q => gTup X.K n u' v σ H Q ∨ gLst X.K n u' v σ H Q, ⟨fun pins s σ H v w Q I r hq => ?_⟩, fun S H σ ρ F v sl Q Qh o q kk => ?_⟩
  · rcases hq with hq | hq
    · exact (pg_tup hc p1 hn hst).run pins s σ H v w Q I r hq
    · exact (pg_lst hc p1 hn hst).run pins s σ H v w Q I r hq
  · rw [← hK]
    unfold gdSeq at q
    split at q
    · exact .inl (run_gtup rfl q1 S H σ ρ F v _ Q Qh o q kk)
    · rename_i ds
      have is := (o.ok.perm (L' := (some v, some (.v 0 (.lst ds))) :: (σ.zip ρ ++ F)) List.perm_middle).is0
      cases is with
      | lst h1 l1 => exact .inr ⟨_, _, rfl, .of (o.ok.ex _ _ h1), l1.len.trans q.1, q1 S H σ ρ F _ ds Q Qh l1.len (o.drop.pushL l1) q.2 kk⟩
    · rename_i ds
      have rb : Rb Γ S H v (.lst ds) := o.rb (p := .t (.v 1 (.lst ds))) trivial (List.singleton_sublist.mpr (List.mem_cons_self ..)) rfl
      obtain ⟨a, vs, rfl, h1, l1⟩ := rb.lst o.ok.ex
      exact .inr ⟨_, _, rfl, .of h1, l1.len.trans q.1, q1 S H σ ρ F _ ds Q Qh l1.len (o.drop.pushL l1) q.2 kk⟩
    · exact q.elim
/-! ### xs[-2::-1] -/
theorem pick_but (items : Array Value) : slicePick items (some (-2)) none (some (-1)) = items.toList.dropLast.reverse.toArray := by
  unfold slicePick
  congr 1
  have hb : sliceBounds (some (-2)) none (some (-1)) items.size = (max (-1) ((items.size : Int) - 2), -1, -1) := by
    unfold sliceBounds
    simp only [Option.getD_some, show ¬ ((-1 : Int) > 0) by decide, show ((-2 : Int) < 0) by decide, if_true, if_false]
    congr 1
    omega
  rw [hb]
  show (sliceRange (max (-1) ((items.size : Int) - 2)) (-1) (-1)).filterMap (items[·]?) = _
  have hr : sliceRange (max (-1) ((items.size : Int) - 2)) (-1) (-1) = (List.range (items.size - 1)).map fun k => items.size - 2 - k := by
    unfold sliceRange
    simp only [show ¬ ((-1 : Int) > 0) by decide, if_false]
    have e : (if max (-1) ((items.size : Int) - 2) > -1 then (max (-1) ((items.size : Int) - 2) - -1 - -1 - 1) / - -1 else 0).toNat = items.size - 1 := by
      split
      · rw [show (- -1 : Int) = 1 by decide, Int.ediv_one]; omega
      · rw [Int.toNat_zero]; omega
    rw [e]
    refine List.map_congr_left fun k hk => ?_
    have := List.mem_range.mp hk
    omega
  rw [hr]
  refine List.ext_getElem? fun i => ?_
  have key : ((List.range (items.size - 1)).map fun k => items.size - 2 - k).filterMap (items[·]?) = (List.range (items.size - 1)).map fun k => items.toList.getD (items.size - 2 - k) default := by
    rw [List.filterMap_map]
    have : ∀ l : List Nat, (∀ k ∈ l, k < items.size - 1) → l.filterMap ((items[·]?) ∘ fun k => items.size - 2 - k) = l.map fun k => items.toList.getD (items.size - 2 - k) default := by
      intro l
      induction l with
      | nil => intro _; rfl
      | cons k l ih =>
        intro h
        have hk := h k (List.mem_cons_self ..)
        have e : items[items.size - 2 - k]? = some (items.toList.getD (items.size - 2 - k) default) := by
          rw [List.getD_eq_getElem?_getD, Array.getElem?_toList]
          rw [Array.getElem?_eq_getElem (by omega)]; rfl
        have e' : ((items[·]?) ∘ fun k => items.size - 2 - k) k = some (items.toList.getD (items.size - 2 - k) default) := e
        rw [List.filterMap_cons, List.map_cons, e', ih fun x hx => h x (List.mem_cons_of_mem _ hx)]
    exact this _ fun k hk => List.mem_range.mp hk
  rw [key]
  by_cases hi : i < items.size - 1
  · have e1 : (List.range (items.size - 1))[i]? = some i := List.getElem?_range hi
    rw [List.getElem?_map, e1, List.getElem?_reverse (by rw [List.length_dropLast, Array.length_toList]; exact hi), List.getElem?_dropLast]
    have l1 : items.toList.dropLast.length = items.size - 1 := by rw [List.length_dropLast, Array.length_toList]
    rw [l1]
    have l2 : items.size - 1 - 1 - i < items.toList.length - 1 := by rw [Array.length_toList]; omega
    rw [if_pos l2]
    show some (items.toList.getD (items.size - 2 - i) default) = _
    rw [List.getD_eq_getElem?_getD, show items.size - 1 - 1 - i = items.size - 2 - i by omega]
    rw [List.getElem?_eq_getElem (by rw [Array.length_toList]; omega)]; rfl
  · rw [List.getElem?_eq_none (by rw [List.length_map, List.length_range]; omega), List.getElem?_eq_none (by rw [List.length_reverse, List.length_dropLast, Array.length_toList]; omega)]
def tBut (K : PySem.W.Frag) (te : TE) : TE := fun σ H Q => te σ H fun x H1 => ∃ a xs, x = .ref a ∧ SqL K H1 a xs ∧ ∀ p, H1 p = none → Q (.ref p) (upd H1 p (.lst xs.dropLast.reverse))
theorem pe_but {te : TE} {k k2 : Nat} {p1 p2 p3 p4 p5 : Pos} (he : PE X e te) : PE X (.Subscript e (.Slice (some (.UnaryOp .USub (.Constant (.int 2) k2 p4) p5)) none (some (.UnaryOp .USub (.Constant (.int 1) k p1) p2)) p3) pos) (tBut X.K te) := by
  refine ⟨fun pins s σ H Q I h => ?_⟩
  refine Subscript_ (thn (he.run pins s σ H _ I h) fun v s1 ⟨x, H1, I1, r1, q1⟩ => ?_)
  obtain ⟨a, xs, ex, hx, q⟩ := q1
  subst ex
  cases r1
  have hst : PO X (some (.UnaryOp .USub (.Constant (.int 1) k p1) p2)) (tPart (tUn (rU fun i => .int (-i)) (tC (.int 1)))) := po_some (pe_un un_neg pe_int)
  have hs2 : PO X (some (.UnaryOp .USub (.Constant (.int 2) k2 p4) p5)) (tPart (tUn (rU fun i => .int (-i)) (tC (.int 2)))) := po_some (pe_un un_neg pe_int)
  refine wpAny_Slice (thn (hs2.run pins s1 σ H1 (fun o H2 => o = some (-2) ∧ H2 = H1) I1 ⟨2, rfl, -2, rfl, rfl, rfl⟩) fun vl s2 ⟨l, H2, I2, pl, el, e2⟩ => ?_)
  subst el e2
  refine thn (po_none.run pins s2 σ H2 (fun o H3 => o = none ∧ H3 = H2) I2 ⟨rfl, rfl⟩) fun vu s3 ⟨u, H3, I3, pu, eu, e3⟩ => ?_
  subst eu e3
  refine thn (hst.run pins s3 σ H3 (fun o H4 => o = some (-1) ∧ H4 = H3) I3 ⟨1, rfl, -1, rfl, rfl, rfl⟩) fun vs s4 ⟨o, H4, I4, ps, eo, e4⟩ => ?_
  subst eo e4
  have I5 : Inv X pins σ H4 { s4 with heap := s4.heap.push { cls := .type "slice", data := .fields #[vl, vu, vs] } } := I4.kept (t' := s4.toks) fun b ob q => Heap.get?_push_of_some _ q
  obtain ⟨its, r, ht, hz⟩ := I5.list hx
  have hlen := r.length
  show wpAny (model X.prog X.w) X.A (subscriptTail e (.Slice (some (.UnaryOp .USub (.Constant (.int 2) k2 p4) p5)) none (some (.UnaryOp .USub (.Constant (.int 1) k p1) p2)) p3) (.ref a) (.ref s4.heap.objs.size)) (EP X pins σ Q) X.xe { s4 with heap := s4.heap.push { cls := .type "slice", data := .fields #[vl, vu, vs] } }
  refine tail_any (ops := [.ref a, .ref s4.heap.objs.size]) ht.isList.typeIs (PySem.slot_list_getitem.lookup) ?_ (by with_unfolding_all rfl)
  refine wpAny_getItem_list_slice ht.isList (Heap.IsSliceOf.new _ vl vu vs) pl pu ps (by decide) ?_ (by rw [List.size_toArray]; omega)
  rw [pick_but]
  refine ⟨.ref _, _, I5.laid (t' := s4.toks) (o := .lst xs.dropLast.reverse) (fun b ob q => Heap.get?_push_of_some _ q) (Nat.le_refl _) ?_, rfl, q _ (I5.hok.fresh (Nat.le_refl _))⟩
  have hd : Vals xs.dropLast its.dropLast := by
    rw [List.dropLast_eq_take, List.dropLast_eq_take, hlen]
    exact Vals.take _ r
  exact ⟨by rw [List.length_reverse, List.length_dropLast]; omega, _, 0, hd.reverse, Heap.get?_push_size _ rfl⟩
def kBut (Q : DEnv → Pl → Prop) (ρ1 : DEnv) (p : Pl) : Prop := match p.d ρ1 with
  | some (.lst xs) => Q ρ1 (.t (.v 1 (.lst xs.dropLast.reverse)))
  | _ => False
def pBut (ta : TPD) : TPD := fun E ρ Q => ta E ρ (kBut Q)
theorem e_pBut (ta : TPD) (E : DEx) (ρ : DEnv) (Q : DEnv → Pl → Prop) : pBut ta E ρ Q = ta E ρ (kBut Q) := rfl
theorem isl_dropLast {T : Tb} {K : PySem.W.Frag} {S : Hp} {vs : List V} {ds : List Dat} (h : IsL T K S vs ds) : IsL T K S vs.dropLast ds.dropLast := by
  rw [List.dropLast_eq_take, List.dropLast_eq_take, h.len]
  exact isl_take _ h
theorem dp_but {k k2 : Nat} {p1 p2 p3 p4 p5 : Pos} (he : DP Γ X W e ta) (hK : Γ.K = X.K := by rfl) : DP Γ X W (.Subscript e (.Slice (some (.UnaryOp .USub (.Constant (.int 2) k2 p4) p5)) none (some (.UnaryOp .USub (.Constant (.int 1) k p1) p2)) p3) pos) (pBut ta) := by
  obtain ⟨_, p1, q1⟩ := he.run
  refine ⟨_, pe_but p1, fun S H σ ρ F E Q Qh o l x kk => q1 S H σ ρ F E _ _ o l x fun v S' H' ρ' po hp o' x' => ?_⟩
  unfold kBut at x'
  split at x'
  · rename_i xs ed
    obtain ⟨a, ws, rfl, h, il⟩ := (o'.rb hp (List.sublist_append_left _ _) ed).lst o'.ok.ex
    refine ⟨a, ws, rfl, .inl (.inl h), fun z n => ?_⟩
    have pst : Post Γ S' H' (fun k d => Q ρ' (.t (.v k d))) Qh := fun S4 H4 k z dz f st ow nd nw qq => kk z S4 H4 ρ' (.t (.v k dz)) trivial (o'.dropP.push st ow nd nw) qq
    exact pst.lst o'.ok.ex n (isl_rev (isl_dropLast il)) x'
  · exact x'.elim
end
end Sw

/-! The data layer, 29: constants of the module. -/
namespace Sw
open PySem L2 PyProof.Rows
section
variable {Γ : Gm} {X : Cx} {W : WX} {pos : Pos}
theorem dp_gint {x : Str} {i : Int} (hg : Gl X x) (hm : ∃ t, X.mg x = some (.int i t)) (hd : (x == ("__debug__" : Str)) = false := by decide) : DP Γ X W (.Name x pos) (pC (.int i)) := by
  obtain ⟨t, hm⟩ := hm
  exact dp_of_c (pe_glob (v := .int i) hg hm ⟨t, rfl⟩ hd) fun _ => .int
theorem dp_gstr {x z : Str} (hg : Gl X x) (hm : ∃ t, X.mg x = some (.str z t)) (hd : (x == ("__debug__" : Str)) = false := by decide) : DP Γ X W (.Name x pos) (pC (.str z)) := by
  obtain ⟨t, hm⟩ := hm
  exact dp_of_c (pe_glob (v := .str z) hg hm ⟨t, rfl⟩ hd) fun _ => .str
end
/-- simple constants -/
def scB : V × Dat → Bool
  | (.non, .non) => true
  | (.int i, .int j) => decide (i = j)
  | (.bl i, .bl j) => decide (i = j)
  | (.str i, .str j) => decide (i = j)
  | _ => false
theorem scs {T : Tb} {K : PySem.W.Frag} {l : List (V × Dat)} (h : l.all scB = true) : ∀ x ∈ l, ∀ S, Is T K S x.1 x.2 := by
  intro x hx S
  have := List.all_eq_true.mp h x hx
  match x, this with
  | (.non, .non), _ => exact .non
  | (.int i, .int j), e =>
    have e : decide (i = j) = true := e
    have e := of_decide_eq_true e
    subst e; exact .int
  | (.bl i, .bl j), e =>
    have e : decide (i = j) = true := e
    have e := of_decide_eq_true e
    subst e; exact .bl
  | (.str i, .str j), e =>
    have e : decide (i = j) = true := e
    have e := of_decide_eq_true e
    subst e; exact .str
end Sw

/-! The data layer, 30: sorted(tuple of whole numbers). -/
namespace SrtO
open PySem PyProof.Rows Srt
section
variable {prog : Program} {w : World} {A : Around} {E : Value → Shared → Prop} {s : Shared}
theorem collectT {l : Addr} {vs : List Value} {o : Obj} {n : Nat} {Q : List Value → Shared → Prop} (ho : s.heap.get? l = some o) (hc : o.cls = .type "tuple") (hd : o.data = .seq vs.toArray n) (hz : vs.length ≤ sizeLine)
    (h : Q vs { s with heap := (s.heap.push (seqObj "list" #[] 0)).update s.heap.objs.size (Obj.mapSeq (· ++ vs.toArray)) }) : wpAny (model prog w) A (collect (.ref l)) Q E s := by
  unfold collect
  refine wpAny_bind (wpAny_runValue (codeAny_builtin entry_proto_collect' ?_))
  show wpAny _ _ (do again (.builtin "list.__iadd__" ⟨[← newList [], .ref l], []⟩)) _ _ s
  refine wpAny_bind (wpAny_newList (wpAny_pure ⟨Code.quiet_builtin _ (by decide +kernel), codeAny_builtin entry_list_iadd' ?_⟩))
  show wpAny _ _ (Builtin.List.listExtendWith (.ref s.heap.objs.size) (.ref l) (.ref s.heap.objs.size)) _ _ { s with heap := s.heap.push (seqObj "list" #[] 0) }
  have hN : (s.heap.push (seqObj "list" #[] 0)).get? s.heap.objs.size = some (seqObj "list" #[] 0) := Heap.get?_push_size _ rfl
  have fin : wpAny (model prog w) A (do
      let o ← load s.heap.objs.size
      match o.data with
      | .seq xs _ => pure xs.toList
      | _ => unsupported "internal:collect") Q E { s with heap := (s.heap.push (seqObj "list" #[] 0)).update s.heap.objs.size (Obj.mapSeq (· ++ vs.toArray)) } := by
    refine wpAny_bind (wpAny_load (get?_update_seq hN _) ?_)
    show wpAny _ _ (pure ((#[] : Array Value) ++ vs.toArray).toList) Q E _
    rw [show ((#[] : Array Value) ++ vs.toArray).toList = vs by simp]
    exact wpAny_pure h
  refine wpAny_mono (wpAny_extend_seq (hsz := by rw [List.size_toArray]; exact hz) (R := fun r t => r = .ok (.ret (.ref s.heap.objs.size)) ∧ t = { s with heap := (s.heap.push (seqObj "list" #[] 0)).update s.heap.objs.size (Obj.mapSeq (· ++ vs.toArray)) })
    (s := { s with heap := s.heap.push (seqObj "list" #[] 0) }) _ l _ 0 (.inr rfl) hN (Heap.get?_push_of_some _ ho) hc hd ⟨rfl, rfl⟩) (fun f t g => ?_) fun e t g => absurd g.1 (by simp)
  cases f with
  | done f =>
    obtain ⟨e, rfl⟩ := g
    cases e
    exact fin
  | again c => exact ⟨g.1, codeAny_mono g.2 fun r u k => by obtain ⟨rfl, rfl⟩ := k; exact fin⟩
theorem sorted_ordT {l : Addr} {vs : List Value} {o : Obj} {n : Nat} {ltv : Value → Value → Bool} {Q : Value → Shared → Prop} (O : Swo ltv) (ho : s.heap.get? l = some o) (hc : o.cls = .type "tuple") (hd : o.data = .seq vs.toArray n) (hz : vs.length ≤ sizeLine)
    (hS : 2 ≤ vs.length → ∀ (h₁ : Heap) (a : Addr), h₁.get? a = some (seqObj "list" vs.toArray 0) → (∀ b o, s.heap.get? b = some o → b ≠ a ∧ h₁.get? b = some o) → SortableO prog w A.in1.in1 { s with heap := h₁ } a vs ltv)
    (h : ∀ out : List Value, Srtd ltv out → Stb ltv out vs → Q (.ref (s.heap.objs.size + 1)) { s with heap := sortedAll s.heap vs out.toArray }) :
    wpAny (model prog w) A (call (.builtin "sorted") [.ref l]) Q E s := by
  refine Calls.call_function_entry kind_sorted plain_sorted entry_sorted (args_sorted1 _) ?_
  unfold Builtin.«sorted»
  refine wpAny_bind (m := checkCount "sorted" 1 1 _) (wpAny_pure ?_)
  refine wpAny_bind (collectT ho hc hd hz ?_)
  refine wpAny_bind (wpAny_newList ?_ hz)
  have hsz : ((s.heap.push (seqObj "list" #[] 0)).update s.heap.objs.size (Obj.mapSeq (· ++ vs.toArray))).objs.size = s.heap.objs.size + 1 := by
    rw [Heap.size_update, size_push']
  have hoL : (((s.heap.push (seqObj "list" #[] 0)).update s.heap.objs.size (Obj.mapSeq (· ++ vs.toArray))).push (seqObj "list" vs.toArray 0)).get? (s.heap.objs.size + 1) = some (seqObj "list" vs.toArray 0) := by
    rw [← hsz]; exact Heap.get?_push_size _ rfl
  have keep : ∀ b o, s.heap.get? b = some o → b ≠ s.heap.objs.size + 1 ∧ (((s.heap.push (seqObj "list" #[] 0)).update s.heap.objs.size (Obj.mapSeq (· ++ vs.toArray))).push (seqObj "list" vs.toArray 0)).get? b = some o := fun b o q => by
    have hlt : b < s.heap.objs.size := Heap.lt_size q
    refine ⟨Nat.ne_of_lt (Nat.lt_succ_of_lt hlt), Heap.get?_push_of_some _ ?_⟩
    rw [Heap.get?_update_ne _ _ _ _ (Nat.ne_of_lt hlt)]
    exact Heap.get?_push_of_some _ q
  show wpAny _ _ _ _ _ { s with heap := ((s.heap.push (seqObj "list" #[] 0)).update s.heap.objs.size (Obj.mapSeq (· ++ vs.toArray))).push (seqObj "list" vs.toArray 0) }
  rw [hsz]
  refine wpAny_bind (wpAny_holding (wpAny_call_entry slot_list_sort ⟨_, hoL, rfl⟩ entry_list_sort (list_sort_ord O hoL hz (fun h2 => hS h2 _ _ hoL keep) fun out hs hb => ⟨_, rfl, ?_⟩) (args_list_sort _)))
  exact wpAny_pure ⟨_, rfl, h out hs hb⟩
end
end SrtO
namespace L2
open PySem PySem.Spec PyProof.Rows
/-- sorted(xs), a list or tuple of ints -/
def rSortedIT (K : PySem.W.Frag) : List V → Hp → VK → Prop := fun vs H Q => ∃ (a : Addr) (ns : List Int), vs = [V.ref a] ∧ (SqL K H a (ns.map V.int) ∨ SqT K H a (ns.map V.int)) ∧
  ∀ (ns' : List Int) (p : Addr), ns'.Perm ns → ns'.Pairwise (· ≤ ·) → H p = none → Q (.ref p) (upd H p (.lst (ns'.map V.int)))
section
variable {X : Cx}
theorem cr_sortedIT : CallR X (.builtin "sorted") (rSortedIT X.K) := by
  intro pins s σ H vs us Q I r h
  obtain ⟨a, ns, rfl, hs | hs, q⟩ := h
  · exact cr_sortedI pins s σ H [V.ref a] us Q I r ⟨a, ns, rfl, hs, q⟩
  obtain ⟨its, rv, ⟨o, ho, hc, n, hd⟩, hz⟩ := I.tuple hs
  rw [Vals.ref1 r]
  have hi := rv.ints
  refine SrtO.sorted_ordT SrtO.swo_int ho hc hd (by rw [← rv.length]; exact hz) (fun h2 h₁ a' _ _ => SrtO.ints_sortable hi h2) fun out h1 h2 => ?_
  obtain ⟨k1, k2, k3⟩ := SrtO.ints_out hi h1 h2
  obtain ⟨ep, he'⟩ := PyProof.Rows.sortedAll_at s.heap its out.toArray
  have hlen : ((out.map SrtO.iv).map V.int).length ≤ sizeLine := by
    rw [List.length_map, k2.length_eq]
    rw [List.length_map] at hz
    exact hz
  exact ⟨.ref _, upd H (s.heap.objs.size + 1) (.lst ((out.map SrtO.iv).map V.int)), I.laid (t' := s.toks) (fun _ _ => PyProof.Rows.sortedAll_old) (Nat.le_succ _) ⟨hlen, out, ep, vals_of_ints k1, he'⟩, rfl, q _ _ k2 k3 (I.hok.fresh (Nat.le_succ _))⟩
end
end L2
namespace Sw
open PySem L2 PyProof.Rows
section
variable {Γ : Gm} {X : Cx} {W : WX} {pos : Pos}
theorem rb_intsT {S H : Hp} {v : V} {ns : List Int} (ex : Ex S H) (r : Rb Γ S H v (.tup (nums ns))) : ∃ a, v = .ref a ∧ SqT Γ.K H a (ns.map V.int) := by
  obtain ⟨p, ws, rfl, hw, il⟩ := r.tup
  exact ⟨p, rfl, by rw [← isl_ints il]; exact ex.stp hw⟩
/-- sorted(list or tuple of whole numbers) -/
def uSortedT : LD := fun xs R => match xs with
  | [.lst zs] => ∃ ns : List Int, zs = nums ns ∧ ∀ ms : List Int, ms.Perm ns → ms.Pairwise (· ≤ ·) → R 1 (.lst (nums ms))
  | [.tup zs] => ∃ ns : List Int, zs = nums ns ∧ ∀ ms : List Int, ms.Perm ns → ms.Pairwise (· ≤ ·) → R 1 (.lst (nums ms))
  | _ => False
theorem br_sortedT : BrC Γ (rSortedIT Γ.K) uSortedT := by
  intro S H vs ds Q Qh e r q p
  unfold uSortedT at q
  split at q
  · obtain ⟨ns, rfl, q⟩ := q
    obtain ⟨v, rfl, r1⟩ := rb1 r
    obtain ⟨a, rfl, h⟩ := rb_ints e r1
    exact ⟨a, ns, rfl, .inl h, fun ms l h1 h2 n => p.lst e n (isl_nums ms) (q ms h1 h2)⟩
  · obtain ⟨ns, rfl, q⟩ := q
    obtain ⟨v, rfl, r1⟩ := rb1 r
    obtain ⟨a, rfl, h⟩ := rb_intsT e r1
    exact ⟨a, ns, rfl, .inr h, fun ms l h1 h2 n => p.lst e n (isl_nums ms) (q ms h1 h2)⟩
  · exact q.elim
/-- a call with keywords -/
theorem dp_callM {e : Expr} {es : List Expr} {kws : List Keyword} {p : Pos} {u uk : TAD} {Γ' : Gm} {x : Str} {k n m : Nat} {ps ks : List Str} {ar : List (Option Nat)} {exs : List (V × Dat)} {exd : List Dat} {ms ms1 : List Bool} {dsp : DSp} (c : FkG (wd X) Γ' x k ps n ks ar exs ms dsp) (hr : Room k X.A) (tk : Takes X W) (hg : Gl X x)
    (ha : DA Γ X W (e :: es) u) (hk : DK Γ X W kws uk) (hm : m = ks.length) (hms : ms = arl true ar (exs.map fun _ => true) ms1) (hx : exd = exs.map (·.2)) (hT : Γ'.T = Γ.T) (hX : Γ'.X = Γ.X) (hK : Γ'.K = Γ.K)
    (hall : (backToKw pos (keywordEach kws X.env)).all (·.1.isSome) = true) (hks : (backToKw pos (keywordEach kws X.env)).filterMap (·.1) = ks)
    (hdb : (x == ("__debug__" : Str)) = false) (he : starEach (e :: es) X.env = (false, eval e X.env) :: starEach es X.env)
    (hpl : ((backTo pos (starEach (e :: es) X.env)).any (·.1) || (backToKw pos (keywordEach kws X.env)).any (·.1.isNone)) = false) :
    DP Γ X W (.Call (.Name x p) (e :: es) kws pos) (pFnK n m ms1 ar exd dsp u uk) := by
  subst hm
  exact dp_callK c hr tk hg ha hk hms hx hT hX hK hall hks hdb he hpl
end
end Sw

/-! The data layer, 31: enumerate of a list or a tuple. -/
namespace Enu
open PySem
open Sem (wp)
open AutoSeq1 (wpAny_loadPart')
theorem meets_new (l : Addr) (items : Array Value) (n : Nat) (dct : Option Addr) (sl : Array (Option Value)) :
    Meets (Builtin.«enumerate.__new__» ⟨[.type "enumerate", .ref l], []⟩) (fun _ R s => s.heap.get? l = some { cls := .type "tuple", dict := dct, data := .seq items n, slots := sl } ∧
      R (.ok (.ret (.ref (s.heap.push { cls := .type "tuple_iterator", data := .fields #[.ref l, .int 0 0] }).objs.size)))
        { s with heap := (s.heap.push { cls := .type "tuple_iterator", data := .fields #[.ref l, .int 0 0] }).push { cls := .type "enumerate", data := .fields #[.none, .bool false, .ref s.heap.objs.size, rawInt 0, .none, .none] } }) :=
  .of_wp fun prog w A R s h => by
    obtain ⟨hp, g, d, tk, os⟩ := s; obtain ⟨hl, h⟩ := h
    have hsub := sub_enumerate
    have hL : Heap.IsTuple (Shared.heap ⟨hp, g, d, tk, os⟩) l items := ⟨_, hl, rfl, n, rfl⟩
    wp_walk using wpAny_loadPart' hl
    refine wpAny_stack_any fun st => wpAny_pure ?_
    split
    · rename_i c _ _ _ _ _
      cases (c == Value.type "enumerate")
      · wp_walk using wpAny_loadPart' hl, wpAny_pyIter_tuple hL
        exact ⟨_, rfl, h⟩
      · wp_walk using wpAny_loadPart' hl, wpAny_pyIter_tuple hL
        exact ⟨_, rfl, h⟩
    · wp_walk using wpAny_loadPart' hl, wpAny_pyIter_tuple hL
      exact ⟨_, rfl, h⟩
section
variable {prog : Program} {w : World} {A : Around} {E : Value → Shared → Prop} {s : Shared}
theorem call_tuple {l : Addr} {items : Array Value} {Q : Value → Shared → Prop} (hL : s.heap.IsTuple l items)
    (h : ∀ h', IsEnum h' (s.heap.objs.size + 1) s.heap.objs.size 0 .none → h'.IsTupleIter s.heap.objs.size l 0 → h'.objs.size = s.heap.objs.size + 2 →
      (∀ b o, s.heap.get? b = some o → h'.get? b = some o) → Q (.ref (s.heap.objs.size + 1)) { s with heap := h' }) :
    wpAny (model prog w) A (call (.type "enumerate") [.ref l]) Q E s := by
  obtain ⟨⟨c, dct, dt, sl⟩, hl, hc, n, hd⟩ := hL
  replace hc : c = .type "tuple" := hc
  replace hd : dt = .seq items n := hd
  subst hc hd
  refine callType_new F.called_enumerate (by decide) (F.typeCall_enumerate_1 _) (F.newCall_enumerate_1 _) (fun obj => F.args_object_init_2 obj _) F.entry_enumerate_new
    (meets_new l items n dct sl) ⟨hl, ?_⟩
  have hz : (s.heap.push { cls := .type "tuple_iterator", data := .fields #[.ref l, .int 0 0] }).objs.size = s.heap.objs.size + 1 := Heap.size_push ..
  show _ ∧ _
  rw [hz]
  have he : IsEnum ((s.heap.push { cls := .type "tuple_iterator", data := .fields #[.ref l, .int 0 0] }).push
      { cls := .type "enumerate", data := .fields #[.none, .bool false, .ref s.heap.objs.size, rawInt 0, .none, .none] }) (s.heap.objs.size + 1) s.heap.objs.size 0 .none := by
    have := Heap.get?_push_size (s.heap.push { cls := .type "tuple_iterator", data := .fields #[.ref l, .int 0 0] })
      (o := { cls := .type "enumerate", data := .fields #[.none, .bool false, .ref s.heap.objs.size, rawInt 0, .none, .none] }) rfl
    rw [hz] at this; exact this
  refine ⟨⟨_, he, rfl⟩, h _ he ⟨_, Heap.get?_push_of_some _ (Heap.get?_push_size _ rfl), rfl, rfl⟩ (by rw [Heap.size_push, hz]) fun b o x => Heap.get?_push_of_some _ (Heap.get?_push_of_some _ x)⟩
theorem next_end {e it l : Addr} {i : Nat} {items : Array Value} {old : Value} {Q : Option Value → Shared → Prop} (hh : A.handled = none)
    (he : IsEnum s.heap e it i old) (hit : s.heap.IsTupleIter it l i) (hl : s.heap.IsTuple l items) (hx : items[i]? = none)
    (hQ : ∀ h', Heap.ExtBut it s.heap h' → Q none { s with heap := h' }) : wpAny (model prog w) A (pyNext (.ref e)) Q E s := by
  have hT : s.TypeIs (.ref e) "enumerate" := ⟨_, he, rfl⟩
  unfold pyNext
  refine wpAny_bind (wpAny_attempt (wpAny_callSpecial?_slot (name := Str.ofString "__next__") hT F.slot_enumerate_next
    (wpAny_call_entry F.slot_enumerate_next hT F.entry_enumerate_next ?_ (F.args_enumerate_next_1 _))))
  show wpAny _ _ (field (.ref e) 2 >>= _) _ _ _
  refine wpAny_bind (wpAny_field he rfl (x := .ref it) rfl ?_)
  refine wpAny_bind (wpAny_nextOf_tuple_end hh hit hl hx fun h' x he' hx' => ?_)
  obtain ⟨o, ho, hc⟩ := hx'
  refine wpAny_bind (wpAny_isInstance (T := "StopIteration") (b := true) ⟨o, ho, hc⟩ isSubtype_stop ?_)
  exact wpAny_pure (hQ _ he')
end
end Enu
namespace L2
open PySem PySem.Spec PyProof.Rows
/-- the tuple at a, each item in a new pair -/
def IteT (K : PySem.W.Frag) (a : Addr) : It :=
  ⟨fun i H => ∃ (xs : List V) (x : V), SqT K H a xs ∧ xs[i]? = some x, fun i H v H' => ∃ T x, v = .ref T ∧ H T = none ∧ H' = upd H T (.tup [.int (i : Nat), x]) ∧ ∀ xs, SqT K H a xs → xs[i]? = some x, fun i H => ∃ xs : List V, SqT K H a xs ∧ xs.length ≤ i⟩
theorem turn_enumT {P : Program} {w : World} {K : PySem.W.Frag} {elts : List Expr} {kk : Nat} {tpos : Pos} (a e it : Addr) (hae : a ≠ e) (hai : a ≠ it) :
    Turn P w K (.Tuple elts kk tpos) (IteT K a) [e, it] e (fun i h => (∃ old, IsEnum h e it ((i : Nat) : Int) old) ∧ h.IsTupleIter it a i ∧ e ≠ it) where
  mem := by simp
  obj := fun i h st b hb => by
    obtain ⟨⟨old, he⟩, ⟨o, ho, hc, hd⟩, _⟩ := st
    have e' : b = e ∨ b = it := by simpa using hb
    rcases e' with z | z
    · rw [z]; exact ⟨_, he, fun v q => nomatch q⟩
    · rw [z]; exact ⟨o, ho, fun v q => by rw [hd] at q; cases q⟩
  keep := fun i h h' st k => let ⟨⟨old, he⟩, hi, hne⟩ := st; ⟨⟨old, k e (by simp) _ he⟩, hi.at fun o q => k it (by simp) o q, hne⟩
  item := by
    intro X hP hw hK hc i pins s σ H E I hf st hg
    subst hP hw hK
    obtain ⟨⟨old, he⟩, hit, hne⟩ := st
    obtain ⟨xs, x, hq, hx⟩ := hg
    obtain ⟨its, rv, p, hz⟩ := I.tuple hq
    obtain ⟨u, hu, ru⟩ := rv.get hx
    have hel : e < s.heap.objs.size := Heap.lt_size he
    have hil : it < s.heap.objs.size := by obtain ⟨_, q, _⟩ := hit; exact Heap.lt_size q
    have hlt : i < its.toArray.size := by
      have := (List.getElem?_eq_some_iff.mp hu).1
      simpa using this
    refine wpAny_pyNext_enum_itemC (Draws.tuple (prog := X.prog) (w := X.w) (A := X.A.in1) (show X.A.in1.handled = none from I.ok.hd hc) it a hai its.toArray) he ⟨hit, p⟩ hlt hne (by simp [hne, Ne.symm hae]) fun x' h' tk hx' ho st' hT hsz hk => ?_
    obtain rfl : x' = u := by
      have e1 : its.toArray[i]? = some u := by simpa using hu
      exact Option.some.inj (hx'.symm.trans e1)
    refine ⟨_, rfl, wpAny_letOwnedTupleGo_enum (s := { s with heap := h', toks := tk + 1 }) ho fun h'' he' sb => ?_⟩
    have hT2 : h''.get? s.heap.objs.size = some { cls := .type "tuple", data := .seq #[.int i tk, x'] } := (sb.2 _ (Nat.ne_of_gt hel)).trans hT
    have new : ObjOk X.prog X.w (upd H s.heap.objs.size (.tup [.int (i : Nat), x])) h'' s.heap.objs.size (.tup [.int (i : Nat), x]) :=
      ⟨by show 2 ≤ sizeLine; decide, [.int i tk, x'], .cons ⟨_, rfl⟩ (.cons ru .nil), ⟨_, hT2, rfl, _, rfl⟩⟩
    have I1 : Inv X pins σ (upd H s.heap.objs.size (.tup [.int (i : Nat), x])) { s with heap := h'', toks := tk + 1 } :=
      I.turnedNew (ch := [e, it]) (fun b ob hb q => (sb.2 b (fun z => hb (by simp [z]))).trans (hk b ob (fun z => hb (by simp [z])) (fun z => hb (by simp [z])) q)) hf (Nat.le_refl _) new
    refine ⟨.ref s.heap.objs.size, _, I1, rfl, ⟨_, x, rfl, I.hok.fresh (Nat.le_refl _), rfl, fun ys hy => by rw [I.tuple_inj hy hq]; exact hx⟩, ⟨⟨x', ?_⟩, st'.1.at fun o q => (sb.2 it (Ne.symm hne)).trans q, hne⟩, fun b hb => ?_⟩
    · have e1 : ((i + 1 : Nat) : Int) = (i : Int) + 1 := by omega
      rw [e1]; exact he'
    · have hb' : b < s.heap.objs.size := by
        have e' : b = e ∨ b = it := by simpa using hb
        rcases e' with z | z
        · rw [z]; exact hel
        · rw [z]; exact hil
      rw [upd_ne (Nat.ne_of_lt hb')]
      exact (hf b hb).1
  done := by
    intro X hP hw hK hc i pins s σ H E I hf st hg
    subst hP hw hK
    obtain ⟨⟨old, he⟩, hit, hne⟩ := st
    obtain ⟨xs, hq, hx⟩ := hg
    obtain ⟨its, rv, p, hz⟩ := I.tuple hq
    obtain ⟨f0, f1, f2, f3, f4, f5⟩ := hf it (by simp)
    have hl := rv.length
    exact Enu.next_end (I.ok.hd hc) he hit (show s.heap.IsTuple a its.toArray from p) (by simp; omega) fun h' eb => ⟨rfl, I.turned (t' := s.toks) (fun b o hb q => eb b o hb q) f0 f1 f3 f4 f5⟩
  self := fun A i s Q E st h => let ⟨⟨_, he⟩, _⟩ := st; wpAny_pyIter_enum he h
def iEnumT (K : PySem.W.Frag) (ta : TA) : TI := fun σ H R => ta σ H fun vs H1 => ∃ a xs, vs = [.ref a] ∧ ((SqL K H1 a xs ∧ R (Ite K a) H1) ∨ (SqT K H1 a xs ∧ R (IteT K a) H1))
theorem pi_enumT {X : Cx} {e : Expr} {ta : TA} {p pos tpos : Pos} {elts : List Expr} {kk : Nat} (hg : Gl X "enumerate") (hm : X.mg "enumerate" = none) (ha : PA X [e] ta) (hs : starEach [e] X.env = [(false, eval e X.env)] := by rfl) :
    PI X (.Tuple elts kk tpos) (.Call (.Name "enumerate" p) [e] [] pos) (iEnumT X.K ta) := by
  refine ⟨fun pins s σ H R I h => ?_⟩
  refine Call_ (ld_blt I hg hm boot_enumerate (PyProof.Rows.callWith_type1 (thn (ha.run pos pins s σ H _ I h) fun us s1 ⟨vs, H1, I1, r1, q1⟩ => ?_) hs rfl))
  obtain ⟨a, xs, ex, q1⟩ := q1
  subst ex
  cases r1 with
  | cons r rr =>
    cases rr
    cases r
    have fresh : ∀ b, b ∈ [s1.heap.objs.size + 1, s1.heap.objs.size] → FpOk X pins H1 b := fun b hb => by
      have e' : b = s1.heap.objs.size + 1 ∨ b = s1.heap.objs.size := by simpa using hb
      have hle : s1.heap.objs.size ≤ b := by
        rcases e' with z | z
        · rw [z]; exact Nat.le_add_right _ _
        · rw [z]; exact Nat.le_refl _
      exact I1.fpOk hle (I1.hok.fresh hle)
    rcases q1 with ⟨hq, q⟩ | ⟨hq, q⟩
    · obtain ⟨its, rv, p', hz⟩ := I1.list hq
      refine call_enumerate_list p'.isList fun h' he hit hsz hk => wpAny_pyIter_enum he ?_
      have I2 : Inv X pins σ H1 { s1 with heap := h' } := I1.kept (t' := s1.toks) hk
      exact ⟨s1.heap.objs.size + 1, [s1.heap.objs.size + 1, s1.heap.objs.size], _, _, H1, rfl, I2, turn_enum a (s1.heap.objs.size + 1) s1.heap.objs.size, ⟨⟨.none, he⟩, hit, Nat.succ_ne_self _⟩, fresh, q⟩
    · obtain ⟨its, rv, p', hz⟩ := I1.tuple hq
      obtain ⟨o1, ho1, _⟩ := id p'
      have hlt : a < s1.heap.objs.size := Heap.lt_size ho1
      refine Enu.call_tuple (show s1.heap.IsTuple a its.toArray from p') fun h' he hit hsz hk => wpAny_pyIter_enum he ?_
      have I2 : Inv X pins σ H1 { s1 with heap := h' } := I1.kept (t' := s1.toks) hk
      exact ⟨s1.heap.objs.size + 1, [s1.heap.objs.size + 1, s1.heap.objs.size], _, _, H1, rfl, I2, turn_enumT a (s1.heap.objs.size + 1) s1.heap.objs.size (Nat.ne_of_lt (Nat.lt_succ_of_lt hlt)) (Nat.ne_of_lt hlt), ⟨⟨.none, he⟩, hit, Nat.succ_ne_self _⟩, fresh, q⟩
end L2
namespace Sw
open PySem L2 PyProof.Rows
section
variable {Γ : Gm} {X : Cx} {W : WX} {pos p : Pos} {a : Expr} {u : TAD}
/-- the items with their numbers -/
def enumD (xs : List Dat) : List Dat := List.zipWith (fun (i : Nat) d => Dat.tup [.int (i : Int), d]) (List.range xs.length) xs
theorem enumD_len (xs : List Dat) : (enumD xs).length = xs.length := by unfold enumD; rw [List.length_zipWith, List.length_range, Nat.min_self]
theorem enumD_at {xs : List Dat} {i : Nat} {d : Dat} (h : (enumD xs)[i]? = some d) : ∃ y, xs[i]? = some y ∧ d = .tup [.int (i : Int), y] := by
  have hi := (List.getElem?_eq_some_iff.mp h).1
  rw [enumD_len] at hi
  unfold enumD at h
  rw [List.getElem?_zipWith, List.getElem?_range hi, List.getElem?_eq_getElem hi] at h
  exact ⟨_, List.getElem?_eq_getElem hi, (Option.some.inj h).symm⟩
theorem StOk.head1 {S H : Hp} {σ : L2.St} {ρ : DEnv} {v : V} {d : Dat} {G : Fx} (o : StOk Γ S H σ ρ ([(some v, some (Sl.v 0 d))] ++ G)) : Is Γ.T Γ.K S v d := o.isE (List.mem_cons_self ..)
theorem wlk_enumT {a : Addr} {xs : List Dat} : Wlk Γ (IteT Γ.K a) (enumD xs) [(some (.ref a), some (.v 0 (.tup xs)))] := by
  have get : ∀ S H σ ρ G, StOk Γ S H σ ρ ([(some (V.ref a), some (Sl.v 0 (.tup xs)))] ++ G) → ∃ vs, SqT Γ.K H a vs ∧ IsL Γ.T Γ.K S vs xs := fun S H σ ρ G o => by
    cases o.head1 with
    | tup h l => exact ⟨_, o.ok.ex.stp h, l⟩
  refine ⟨fun S H σ ρ G i o hi => ?_, fun S H σ ρ G i x H' d o y hd => ?_, fun S H σ ρ G o => ?_⟩
  · obtain ⟨vs, h, l⟩ := get S H σ ρ G o
    rw [enumD_len] at hi
    obtain ⟨v, hv⟩ := getL (xs := vs) (i := i) (by rw [l.len]; omega)
    exact ⟨vs, v, h, hv⟩
  · obtain ⟨vs, h, l⟩ := get S H σ ρ G o
    obtain ⟨dx, ex, rfl⟩ := enumD_at hd
    obtain ⟨T, x1, rfl, hT, rfl, f1⟩ := y
    obtain ⟨v, hv, iv⟩ := l.get ex
    have e1 := f1 vs h
    rw [hv] at e1
    cases e1
    have st : Stp S H (upd S T (.tup [.int (i : Nat), x1])) (upd H T (.tup [.int (i : Nat), x1])) := Stp.new o.ok.ex hT
    exact ⟨_, (o.step st).pushS (.tup (.of upd_same) (.cons .int (.cons (iv.mono st.s) .nil)))⟩
  · obtain ⟨vs, h, l⟩ := get S H σ ρ G o
    exact ⟨vs, h, by rw [enumD_len, l.len]; exact Nat.le_refl _⟩
theorem wlk_enumL {a : Addr} {xs : List Dat} : Wlk Γ (Ite Γ.K a) (enumD xs) [(some (.ref a), some (.v 0 (.lst xs)))] := by
  have get : ∀ S H σ ρ G, StOk Γ S H σ ρ ([(some (V.ref a), some (Sl.v 0 (.lst xs)))] ++ G) → ∃ vs, SqL Γ.K H a vs ∧ IsL Γ.T Γ.K S vs xs := fun S H σ ρ G o => by
    cases o.head1 with
    | lst h l => exact ⟨_, .of (o.ok.ex _ _ h), l⟩
  refine ⟨fun S H σ ρ G i o hi => ?_, fun S H σ ρ G i x H' d o y hd => ?_, fun S H σ ρ G o => ?_⟩
  · obtain ⟨vs, h, l⟩ := get S H σ ρ G o
    rw [enumD_len] at hi
    obtain ⟨v, hv⟩ := getL (xs := vs) (i := i) (by rw [l.len]; omega)
    exact ⟨vs, v, h, hv⟩
  · obtain ⟨vs, h, l⟩ := get S H σ ρ G o
    obtain ⟨dx, ex, rfl⟩ := enumD_at hd
    obtain ⟨T, x1, rfl, hT, rfl, f1⟩ := y
    obtain ⟨v, hv, iv⟩ := l.get ex
    have e1 := f1 vs h
    rw [hv] at e1
    cases e1
    have st : Stp S H (upd S T (.tup [.int (i : Nat), x1])) (upd H T (.tup [.int (i : Nat), x1])) := Stp.new o.ok.ex hT
    exact ⟨_, (o.step st).pushS (.tup (.of upd_same) (.cons .int (.cons (iv.mono st.s) .nil)))⟩
  · obtain ⟨vs, h, l⟩ := get S H σ ρ G o
    exact ⟨vs, h, by rw [enumD_len, l.len]; exact Nat.le_refl _⟩
def kEnum (QI : DEnv → List Dat → Prop) (ρ1 : DEnv) (ps : List Pl) : Prop := match stL ps with
  | some [.lst xs] => QI ρ1 (enumD xs)
  | some [.tup xs] => QI ρ1 (enumD xs)
  | _ => False
/-- enumerate(xs), a list (frozen) or a tuple -/
def idEnum (u : TAD) : TID := fun E ρ Q => u E ρ (kEnum Q)
theorem e_idEnum (u : TAD) (E : DEx) (ρ : DEnv) (Q : DEnv → List Dat → Prop) : idEnum u E ρ Q = u E ρ (kEnum Q) := rfl
theorem di_enum {elts : List Expr} {kk : Nat} {tpos : Pos} (hg : Gl X "enumerate") (hm : X.mg "enumerate" = none) (ha : DA Γ X W [a] u) (hs : starEach [a] X.env = [(false, eval a X.env)] := by rfl)
    (hK : Γ.K = X.K := by rfl) : DI Γ X W (.Tuple elts kk tpos) (.Call (.Name "enumerate" p) [a] [] pos) (idEnum u) := by
  obtain ⟨_, p1, q⟩ := ha.run
  refine ⟨_, pi_enumT hg hm p1 hs, fun S H σ ρ F E Q R o l x k => q S H σ ρ F E _ _ o l x fun vs S' H' ρ' ps hp o' x' => ?_⟩
  rw [← hK]
  unfold kEnum at x'
  split at x'
  · rename_i xs ed
    have il := stL_of o' hp (List.sublist_append_left _ _) ed
    have ep := stL_pl ed
    subst ep
    cases il with
    | cons i1 il =>
      cases il
      cases i1 with
      | lst h1 l1 => exact ⟨_, _, rfl, .inl ⟨.of (o'.ok.ex _ _ h1), k _ H' S' ρ' _ [_] o' wlk_enumL x'⟩⟩
  · rename_i xs ed
    have il := stL_of o' hp (List.sublist_append_left _ _) ed
    have ep := stL_pl ed
    subst ep
    cases il with
    | cons i1 il =>
      cases il
      cases i1 with
      | tup h1 l1 => exact ⟨_, _, rfl, .inr ⟨o'.ok.ex.stp h1, k _ H' S' ρ' _ [_] o' wlk_enumT x'⟩⟩
  · exact x'.elim
end
end Sw

/-! The data layer, 30: own exceptions over ValueError whose __init__ says super().__init__(f"..") and keeps its numbers. -/
namespace Sw
open PySem L2 PySem.Calls PyProof.Rows NdefX
/-- C's __init__ is D's, D's super() is ValueError's -/
structure SupC (K : PySem.W.Frag) (C D : Addr) : Prop where
  ox : OexC K C
  mro : PySem.W.mroIn K C (.ref D) = some true
  su : PySem.W.ks_superIn K C D "__init__" = some (some (.builtin "ValueError.__init__"))
  ve : PySem.W.subIn K (.ref C) (.type "ValueError") = some true
  tp : PySem.W.nsIn K cStatics "thirdparty.any" = some none
/-- what stands behind the top of the def at f: its own class's cell, its code object -/
structure SupF (P : Program) (K : PySem.W.Frag) (mg : Str → Option Value) (cc cda D : Addr) : Prop where
  cell : ∃ o, K.lookup cc = some o ∧ o.data = .cell (some (.ref D))
  cls : ∃ cd, PySem.W.clsIn K D = some cd
  code : ∃ o vs file tf, K.lookup cda = some o ∧ o.data = .fields vs ∧ vs[2]? = some (.str file tf) ∧ ((P.main.file : Str) == file) = true
  top : (P.main.scope.names.lookup ("super" : Str)).isSome = false
  mg : mg "super" = none
abbrev mwV (a : Addr) : Obj := PySem.W.kxs_mw "ValueError.__init__" a
section
variable {X : Cx} {pins : List (Addr × Obj)} {σ : L2.St} {H : Hp} {s : Shared} {a C D u cc cda f : Addr} {E : Value → Shared → Prop}
/-- the bound __init__ is called -/
theorem sup_call {us : List Value} {Q : Value → Shared → Prop} (T : OexC X.K C) (I : Inv X pins σ H s) (e : H a = some (exo a C none)) (hu : s.heap.get? u = some (mwV a)) (hl : us.length ≤ sizeLine) (h : ∀ s', Inv X pins σ H s' → Q .none s') :
    wpAny (model X.prog X.w) X.A (call (.ref u) us) Q E s := by
  obtain ⟨nm, q, N, bs, bm, sn, sub, ab, col, dd, k0, k1, k2, k3, k5, hC, hbm⟩ := T.cls
  obtain ⟨t1, ho⟩ := exo_at I.hok e
  have kC := I.kIn _ _ hC
  have FB := F.excBase_ValueError
  obtain ⟨hp, g, d, t, os⟩ := s
  have fin : ∀ h', (∀ b o, b ≠ a → hp.get? b = some o → h'.get? b = some o) → (∃ t2, h'.get? a = some ({ cls := .ref C, dict := none, data := .fields #[.ref t2, .none, .none, .none, .bool false, .none] } : Obj)) → Q .none ⟨h', g, d, t, os⟩ := fun h' k hx => by
    obtain ⟨t2, hx⟩ := hx
    have J := I.write (t' := t) (x := a) (e := a) (o := exo a C none) (by rw [e]; exact True.intro) (.inl rfl) k ⟨_, hx⟩ (exo_ok hx)
    have eu : upd H a (exo a C none) = H := by
      funext b
      by_cases hb : b = a
      · rw [hb, upd_same, e]
      · rw [upd_ne hb]
    rw [eu] at J
    exact h _ J
  refine wpAny_call (codeAny_of_tree ?_)
  show wpAny _ X.A.in1 (callAny (.ref u) ⟨us, []⟩) _ _ _
  simp only [callAny]
  refine wpAny_bind (wpAny_load hu ?_)
  simp only [mwV, PySem.W.kxs_mw, (by decide : (Value.type "method-wrapper" == Value.type "method" || Value.type "method-wrapper" == Value.type "builtin_function_or_method" || Value.type "method-wrapper" == Value.type "method-wrapper") = true), if_true]
  refine PySem.W.KFB.if_so (by decide) ?_
  refine wpAny_bind (PySem.ESX.check_bound FB kC ho rfl ?_)
  refine wpAny_bind (wpAny_pure (wpAny_pure ?_))
  refine ⟨Code.quiet_builtin _ (by decide +kernel), codeAny_builtin FB.initEntry ?_⟩
  rw [Around.under_plainId FB.init.plain _]
  wp_walk
  refine fin _ (fun b o hb z => ?_) ⟨hp.objs.size, ?_⟩
  · rw [Heap.get?_update_other _ _ (Ne.symm hb)]; exact Heap.get?_push_of_some _ z
  · rw [Heap.get?_update_self _ (Heap.get?_push_of_some _ ho) rfl]; rfl
/-- super().__init__(e) -/
theorem sup_eval {body : List Stmt} {fd : FuncData} {ar : Arg} {p0 p1 p2 pos : Pos} {e : Expr} {te : TE} (I : Inv X [] σ H s) (T : SupC X.K C D) (Fs : SupF X.prog X.K X.mg cc cda D)
    (hks : X.env.kindOf "super" = some .globalImplicit) (hkc : X.env.kindOf "__class__" = some .free) (hka : X.env.kindOf "self" = some .local) (hfu : X.env.func = some f) (lf : ∃ o, X.K.lookup f = some o ∧ o.data = .func fd)
    (hp : (fd.params.posonlyargs ++ fd.params.args).head? = some ar) (har : ar.arg = "self") (hco : X.env.code = .ref cda) (hcc : X.env.cells.lookup ("__class__" : Str) = some cc) (hN0 : X.N[0]? = some ("self" : Str)) (h0 : σ[0]? = some (some (.ref a)))
    (ea : H a = some (exo a C none)) (he : PE X e te) (hq : te σ H fun v H1 => [v].length = 1 ∧ H1 = H) (hst : starEach [e] X.env = (false, eval e X.env) :: starEach [] X.env := by rfl) (hpl : (backTo pos (starEach [] X.env)).any (·.1) = false := by rfl)
    {pl : Sem Bool} (hev : eval (.Call (.Attribute (.Call (.Name "super" p0) [] [] p1) "__init__" p2) [e] [] pos) X.env = (do
      let ov ← attributeBase (.Call (.Name "super" p0) [] [] p1) "__init__" X.env (eval (.Call (.Name "super" p0) [] [] p1) X.env)
      standAt p2.atName
      let (f, first) ← holding [ov] (getMethod ov "__init__" pl)
      callWith pos f first (backTo pos (starEach [e] X.env)) [])) :
    PySem.wpAt (model X.prog X.w) X.A (.func body X.env) (eval (.Call (.Attribute (.Call (.Name "super" p0) [] [] p1) "__init__" p2) [e] [] pos) X.env) (fun _ s' => Inv X [] σ H s') X.xe s := by
  obtain ⟨of, lf, lfd⟩ := lf
  obtain ⟨oc, lcc, lcd⟩ := Fs.cell
  obtain ⟨cdD, hD⟩ := Fs.cls
  obtain ⟨ocd, vs, file, tf, lda, ldd, hvs, hfile⟩ := Fs.code
  have X0 : X.K.In s.heap := I.kIn
  obtain ⟨oD, hD1, hD2⟩ : ∃ oD, s.heap.get? D = some oD ∧ oD.data = .cls cdD := by
    unfold PySem.W.clsIn at hD
    split at hD
    · rename_i c d cd' sl ho
      cases hD
      exact ⟨_, X0 _ _ ho, rfl⟩
    · cases hD
  obtain ⟨t1, ho⟩ := exo_at I.hok ea
  obtain ⟨m, hn, hl⟩ := id I.loc
  obtain ⟨u0, ru, lk⟩ := hl 0 "self" (.ref a) hN0 h0 (.inl hka)
  obtain rfl : u0 = Value.ref a := ru
  have hm : m ("self" : Str) = some (.ref a) := by
    rcases lk with ⟨_, hm⟩ | ⟨bad | bad, _⟩
    · exact hm
    · rw [hka] at bad; cases bad
    · rw [hka] at bad; cases bad
  have pa := pa_cons he (X := X) pa_nil hst
  obtain ⟨hh, g, d, t, os⟩ := s
  refine ks_wpAt_MethodCall (o := .Call (.Name "super" p0) [] [] p1) (name := "__init__") (apos := p2) (pos := pos) (args := [e]) (env := X.env) ?_ hev
  refine ks_wpAt_super_base (env := X.env) hks hkc (by decide) hfu (X0 _ _ lf) lfd hp hco (X0 _ _ lda) ldd hvs hfile Fs.top ?_
  obtain ⟨mb, b1, b2⟩ := I.mod.blt
  refine PySem.W.ks_loadName_global I.ok.kind hks (Calls.loadGlobal_builtin (by rw [I.ok.glob]; exact I.mod.glob.keeps I.bk) Fs.mg (by rw [I.ok.blt]; exact b1.keeps I.bk) ((b2 _ (by decide)).trans (by rfl)) ⟨rfl, ?_⟩)
  refine wpAny_loadName_free I.ok.kind hkc hcc ⟨_, X0 _ _ lcc, lcd⟩ ?_
  rw [har]
  refine wpAny_loadName_local I.ok.kind hka hn hm ?_
  refine ks_wpAny_isType_cls hD1 hD2 ⟨rfl, ?_⟩
  refine ks_wpAny_call_super hD1 hD2 ho rfl (fun c z => by cases z) (PySem.W.looks_mroIn X0 T.mro) fun h' e1 k1 => ?_
  have I1 : Inv X [] σ H ⟨h', g, d, t, os⟩ := I.kept (t' := t) k1
  have X1 : X.K.In h' := I1.kIn
  have ins : PySem.W.InstAt h' a { cls := .ref C, dict := none, data := .fields #[.ref t1, .none, .none, .none, .bool false, .none] } C none := ⟨k1 _ _ ho, rfl, rfl, trivial⟩
  have hI : PySem.W.Looks (model X.prog X.w) h' (isInstance (.ref a) (.type "ValueError")) true := ins.type.andThen (PySem.W.looks_subIn X1 T.ve)
  have hm0 := T.su
  cases hc : PySem.W.clsIn X.K C with
  | none => unfold PySem.W.ks_superIn at hm0; rw [hc] at hm0; cases hm0
  | some cd =>
    unfold PySem.W.ks_superIn at hm0
    rw [hc] at hm0
    refine PySem.W.kxs_getMethod PySem.W.kxs_ValueError e1 (PySem.W.looks_opaque X1 T.tp) (l₀ := cd.mro) (fun A Q E s k q => wpAny_bind ((PySem.W.looks_clsIn X1 hc) A _ E s k (wpAny_pure q))) rfl X1 hm0 hI (PySem.W.ks_ne X1 ins hc) (by decide) ?_
    have I2 : Inv X [] σ H ⟨h'.push (mwV a), g, d, t + 1, os⟩ := I1.kept (t' := t + 1) fun b o z => Heap.get?_push_of_some _ z
    have hu : (h'.push (mwV a)).get? h'.objs.size = some (mwV a) := Heap.get?_push_at rfl rfl
    have I3 : Inv X [(h'.objs.size, mwV a)] σ H ⟨h'.push (mwV a), g, d, t + 1, os⟩ := I2.pins_of fun p hp => by
      rw [List.mem_singleton.mp hp]
      exact ⟨hu, I1.hok.fresh (Nat.le_refl _), Nat.ne_of_gt I1.lt, I1.nofs (Nat.le_refl _), fun v z => by cases z⟩
    show wpAny _ _ (callWith pos (.ref h'.objs.size) [] (backTo pos (starEach [e] X.env)) []) _ _ _
    rw [hst]
    refine PySem.W.kxs_callWith (i := "ValueError.__init__") (x := a) (by show (false || (backTo pos (starEach [] X.env)).any (·.1)) = false; rw [hpl]; rfl) ?_
    have run := pa.run pos [(h'.objs.size, mwV a)] ⟨h'.push (mwV a), g, d, t + 1, os⟩ σ H (fun vs H1 => vs.length = 1 ∧ H1 = H) I3 ?_
    · rw [hst] at run
      refine evalArgs_plain (wpAny_mono run (fun us s1 hh => ?_) fun _ _ z => z)
      obtain ⟨vs, H1, J, r, hl1, rfl⟩ := hh
      refine ⟨(J.pin _ (List.mem_append_right _ (List.mem_singleton.mpr rfl))).1, ?_⟩
      exact sup_call T.ox J ea (J.pin _ (List.mem_append_right _ (List.mem_singleton.mpr rfl))).1 (show us.length ≤ sizeLine by rw [← r.length, hl1, sizeLine_eq]; decide) fun s' J2 => J2.pins_of fun p hp => by cases hp
    · exact hq
end
/-! ### the def -/
/-- a def that names its own class (a cell), as it stands behind the top -/
structure SuD (P : Program) (K : PySem.W.Frag) (mg : Str → Option Value) (x qual : Str) (params : Arguments) (body : List Stmt) (scope : Scope) (D f : Addr) (fd : FuncData) : Prop where
  ex : ∃ (oc : Value) (od : Option Addr) (doc pm ct : Value) (cda cc : Addr) (osl : Array (Option Value)), fd = NF.fd ⟨x, qual, params, body, scope, [(("__class__" : Str), cc)], cda⟩ doc pm ct ∧ K.lookup f = some ⟨oc, od, .func fd, osl⟩ ∧ PySem.W.codeIn K (.ref cda) qual = true ∧ SupF P K mg cc cda D
  kp : PySem.W.keepIn K (.ref f) = true
/-- an int that is written in a text -/
def Txt (i : Int) : Prop := i.natAbs.log2 < 1920
/-- what such an __init__ promises: fs its attributes, the last stored first -/
def spSu (K : PySem.W.Frag) (D : Addr) (fs : List Str) : Sp := fun vs H Q _ => ∃ (a C : Addr) (is : List Int), vs = .ref a :: is.map V.int ∧ is.length = fs.length ∧ (∀ i ∈ is, Txt i) ∧ SupC K C D ∧ (∀ f ∈ fs, PySem.W.findIn K (.ref C) f = some none) ∧ H a = some (exo a C none) ∧
  ∀ dx, H dx = none → dx ≠ a → Q .non (upd (upd H dx (exd dx (fs.zip (is.map V.int).reverse))) a (exo a C (some dx)))
theorem not_inter {env : Env} (h : env.scope.kind = .function) : interactive env = false := by unfold interactive; rw [h]; rfl
theorem upd_swap {H : Hp} {a b : Addr} {o o' u : HO} (h : a ≠ b) : upd (upd (upd H a o) b u) a o' = upd (upd H a o') b u := by
  funext c
  by_cases h1 : c = b
  · subst h1
    rw [upd_same, upd_ne (Ne.symm h), upd_same]
  · by_cases h2 : c = a
    · subst h2
      rw [upd_same, upd_ne h1, upd_same]
    · rw [upd_ne h2, upd_ne h1, upd_ne h2, upd_ne h1, upd_ne h2]
section
variable {P : Program} {w : World} {K : PySem.W.Frag} {mg : Str → Option Value} {base : Heap} {qual : Str} {params : Arguments} {body rest : List Stmt} {scope : Scope} {D f : Addr} {fd : FuncData} {N ps fs : List Str} {k : Nat} {p0 p1 p2 p3 pos : Pos} {e : Expr} {ar : Arg}
theorem su_ok (F : SuD P K mg "__init__" qual params body scope D f fd) (S : NScope N (("self" : Str) :: ps) [("__class__" : Str)] scope) (hb : body = .Expr (.Call (.Attribute (.Call (.Name "super" p0) [] [] p1) "__init__" p2) [e] [] p3) pos :: rest)
    (hks : scope.names.lookup ("super" : Str) = some .globalImplicit) (har : (params.posonlyargs ++ params.args).head? = some ar) (har2 : ar.arg = "self") (hlen : ps.length = fs.length)
    (hst : ∀ env : Env, env.scope = scope → starEach [e] env = (false, eval e env) :: starEach [] env) (hpl : ∀ env : Env, (backTo p3 (starEach [] env)).any (·.1) = false)
    (hsw : ∀ env : Env, env.scope = scope → swapsWith (.Call (.Attribute (.Call (.Name "super" p0) [] [] p1) "__init__" p2) [e] [] p3) none pos.line env = pure false)
    (hev : ∀ env : Env, env.scope = scope → ∃ pl : Sem Bool, eval (.Call (.Attribute (.Call (.Name "super" p0) [] [] p1) "__init__" p2) [e] [] p3) env = (do
      let ov ← attributeBase (.Call (.Name "super" p0) [] [] p1) "__init__" env (eval (.Call (.Name "super" p0) [] [] p1) env)
      standAt p2.atName
      let (f, first) ← holding [ov] (getMethod ov "__init__" pl)
      callWith p3 f first (backTo p3 (starEach [e] env)) []))
    (hbody : ∀ (X : Cx) (is : List Int) (a C : Addr), X.env.scope = scope → X.N = N → X.K = K → (∀ i ∈ is, Txt i) → is.length = fs.length → SupC K C D → (∀ f ∈ fs, PySem.W.findIn K (.ref C) f = some none) →
      ∃ te t, PE X e te ∧ PSs X rest t ∧ ∀ H Q, H a = some (exo a C none) → (∀ dx, H dx = none → dx ≠ a → Q .non (upd (upd H dx (exd dx (fs.zip (is.map V.int).reverse))) a (exo a C (some dx)))) →
        te (startF N (.ref a :: is.map V.int) [none]) H (fun v H1 => [v].length = 1 ∧ H1 = H) ∧ t { nx := fun _ H' => Q .non H', rt := Q } (startF N (.ref a :: is.map V.int) [none]) H) :
    FnOk P w K mg base (L2.CX P w) (k + 1) f fd (("self" : Str) :: ps) (spSu K D fs) := by
  obtain ⟨oc, od, doc, pm, ct, cda, cc, osl, rfl, lk, hcd, SF⟩ := F.ex
  refine ⟨fun vs H Q E h => ?_, fun A outer s H args us vs Q E hr e0 hbd r hsp => ?_⟩
  · obtain ⟨a, C, is, rfl, hl, _⟩ := h
    simp [hl, hlen]
  · obtain ⟨a, C, is, rfl, hl, hi, T, hno, ea, hQ⟩ := hsp
    have hl2 : (V.ref a :: is.map V.int).length = (("self" : Str) :: ps).length := by simp [hl, hlen]
    have KX : K.In s.heap := e0.mod.kin.keeps fun b o z => (e0.bs b o z).1
    have lim : s.heap.NoLimit := e0.mod.nolimit.keeps fun b o z => (e0.bs b o z).1
    have hkind : ∀ y ∈ (("self" : Str) :: ps).zip us, scope.names.lookup y.1 = some .local := fun ⟨n, v⟩ hy => S.par n (List.of_mem_zip hy).1
    refine ks_codeAny_call_defAt (binds := (("self" : Str) :: ps).zip us) hr.depth (KX _ _ lk) rfl lim (PySem.W.codeRec_of KX hcd) rfl hbd S.nocell hkind (fun h₁ hns kp => ?_) S.co S.gen S.kind
    obtain ⟨occ, lcc, lcd⟩ := SF.cell
    have C0 : CellsAt [(("__class__" : Str), cc)] [("__class__" : Str)] [none] s.heap H := by
      have hcc : s.heap.get? cc = some occ := KX _ _ lcc
      refine ⟨rfl, fun y c hy => ?_, fun x y c h1 h2 => ?_, fun i y hy => ?_⟩
      · have : c = cc := by
          rw [List.lookup_cons] at hy
          split at hy
          · exact (Option.some.inj hy).symm
          · cases hy
        subst this
        exact ⟨(e0.bs _ _ (e0.mod.kin _ _ lcc)).2, some (.ref D), occ, hcc, lcd⟩
      · have one : ∀ z, List.lookup z [(("__class__" : Str), cc)] = some c → z = ("__class__" : Str) := fun z hz => by
          rw [List.lookup_cons] at hz
          split at hz
          · rename_i q; exact beq_iff_eq.mp q
          · cases hz
        rw [one x h1, one y h2]
      · match i, hy with
        | 0, hy =>
          have hy' : ("__class__" : Str) = y := by simpa using hy
          subst hy'
          exact ⟨cc, by rw [List.lookup_cons]; simp, fun v hv => by simp at hv⟩
        | n + 1, hy => simp at hy
    have I : Inv (ncx (L2.CX P w) P w K mg base N ⟨"__init__", qual, params, body, scope, [(("__class__" : Str), cc)], cda⟩ f A outer s H E) [] (startF N (.ref a :: is.map V.int) [none]) H { s with heap := h₁, toks := s.toks + ((("self" : Str) :: ps).zip us).length } :=
      inv_startN S hr.hd e0 hl2 r C0 hns kp
    obtain ⟨te, t, he, ht, hw⟩ := hbody (ncx (L2.CX P w) P w K mg base N ⟨"__init__", qual, params, body, scope, [(("__class__" : Str), cc)], cda⟩ f A outer s H E) is a C rfl rfl rfl hi hl T hno
    obtain ⟨hte, htt⟩ := hw H Q ea hQ
    have hlN : (("self" : Str) :: ps).length + 1 ≤ N.length := by
      have q := congrArg List.length S.pre
      rw [List.length_take, List.length_append] at q
      simp only [List.length_cons, List.length_nil] at q ⊢
      omega
    have hN0 : N[0]? = some ("self" : Str) := by
      have q := congrArg (·[0]?) S.pre
      have : (List.take ((("self" : Str) :: ps).length + [("__class__" : Str)].length) N)[0]? = N[0]? := List.getElem?_take_of_lt (by simp)
      rw [← this]
      exact q
    obtain ⟨pl, hev⟩ := hev (callEnv (NF.fd ⟨"__init__", qual, params, body, scope, [(("__class__" : Str), cc)], cda⟩ doc pm ct) s.heap.objs.size f) rfl
    rw [hb]
    rw [hb] at I
    refine ks_wpAt_execs_cons (ks_wpAt_Expr_any (ks_wpAt_mono (sup_eval (X := ncx (L2.CX P w) P w K mg base N ⟨"__init__", qual, params, body, scope, [(("__class__" : Str), cc)], cda⟩ f A outer s H E) (cc := cc) (cda := cda) (fd := NF.fd ⟨"__init__", qual, params, body, scope, [(("__class__" : Str), cc)], cda⟩ doc pm ct) I T SF hks (S.frk _ (List.mem_singleton.mpr rfl)) (S.par _ (List.mem_cons_self ..)) rfl ⟨_, lk, rfl⟩ har har2 rfl (show List.lookup ("__class__" : Str) [(("__class__" : Str), cc)] = some cc by rw [List.lookup_cons]; simp) hN0 rfl ea he hte (hst _ rfl) (hpl _) hev) (fun v s' J => ?_) fun _ _ z => z) (not_inter S.kind) (hsw _ rfl))
    refine wpAt_of_wpAny (wpAny_mono (ht.run [] s' _ H _ J htt) (fun fl s' hs => ?_) fun e s' hs => hs)
    have fin : ∀ {σ' : L2.St} {H' : Hp} {v : V} {u : Value}, Inv (ncx (L2.CX P w) P w K mg base N ⟨"__init__", qual, params, body, scope, [(("__class__" : Str), cc)], cda⟩ f A outer s H E) [] σ' H' s' → L2.RelV v u → Q v H' → CE outer P w H s Q u s' :=
      fun {σ' H' v u} J rv q => ⟨v, H', J.os, J.bare, J.base, J.hok, rv, q⟩
    cases fl with
    | ret u =>
      obtain ⟨v, σ', H', J, rv, q⟩ := hs
      exact fin J rv q
    | next =>
      obtain ⟨σ', H', J, q⟩ := hs
      exact fin (v := V.non) (u := Value.none) J rfl q
    | brk =>
      obtain ⟨_, _, _, q⟩ := hs
      exact False.elim q
    | cont =>
      obtain ⟨_, _, _, q⟩ := hs
      exact False.elim q
/-- its parameters, each given -/
theorem SuD.bindsN {x : Str} {ps : List Str} (F : SuD P K mg x qual params body scope D f fd)
    (h : ∀ (cc cda : Addr) (doc pm ct : Value) (us : List Value), us.length = ps.length → bindArgs (NF.fd ⟨x, qual, params, body, scope, [(("__class__" : Str), cc)], cda⟩ doc pm ct) ⟨us, []⟩ = pure (ps.zip us)) : Binds K fd ps [] := by
  obtain ⟨oc, od, doc, pm, ct, cda, cc, osl, rfl, lk, hcd, SF⟩ := F.ex
  exact .all (h cc cda doc pm ct)
end
/-! ### the text -/
/-- the parts of an f-string over n parameters behind self; b: how long it may be -/
def PP (N : List Str) (sc : Scope) (n : Nat) (es : List Expr) (b : Nat) : Prop := ∀ X : Cx, X.env.scope = sc → X.N = N → ∃ ts, PJ X es ts ∧ ∀ acc σ H Q, acc.length + b ≤ sizeLine → (∀ j, j < n → ∃ i, σ[j + 1]? = some (some (V.int i)) ∧ Txt i) → (∀ out, Q out H) → tJs ts acc σ H Q
section
variable {N : List Str} {sc : Scope} {n b : Nat} {es : List Expr}
theorem pp_nil : PP N sc n [] 0 := fun X _ _ => ⟨[], .nil, fun acc σ H Q _ _ h => h acc⟩
theorem pp_str {x : Str} {j} {p : Pos} (h : PP N sc n es b) : PP N sc n (.Constant (.str x) j p :: es) (x.length + b) := fun X h1 h2 => by
  obtain ⟨ts, pj, k⟩ := h X h1 h2
  refine ⟨_, .cons pe_str pj, fun acc σ H Q hz hs hq => ⟨x, rfl, ?_, k _ σ H Q ?_ hs hq⟩⟩
  · rw [Str.length_append]; omega
  · rw [Str.length_append]; omega
theorem pp_fmt {nm : Str} {j : Nat} {p pos : Pos} (hj : j < n) (hN : N[j + 1]? = some nm) (hv : Vis sc nm) (h : PP N sc n es b) (hd : (nm == ("__debug__" : Str)) = false := by decide) (hcd : (nm == ("__classdict__" : Str)) = false := by decide) :
    PP N sc n (.FormattedValue (.Name nm p) (-1) none pos :: es) (1921 + b) := fun X h1 h2 => by
  obtain ⟨ts, pj, k⟩ := h X h1 h2
  refine ⟨_, .cons (pe_fmt (pe_var (by rw [h2]; exact hN) (by rw [h1]; exact hv) hd hcd)) pj, fun acc σ H Q hz hs hq => ?_⟩
  obtain ⟨i, e, t⟩ := hs j hj
  have hl : (Str.ofString (toString i)).length ≤ 1921 := by
    have := int_text_length_le (k := 1920) (by decide) t
    rw [PySem.ofString_length]; exact this
  refine ⟨.int i, e, .inr ⟨i, rfl, t, _, rfl, ?_, k _ σ H Q ?_ hs hq⟩⟩
  · rw [Str.length_append]; omega
  · rw [Str.length_append]; omega
end
section
variable {P : Program} {w : World} {K : PySem.W.Frag} {mg : Str → Option Value} {base : Heap} {qual : Str} {params : Arguments} {body : List Stmt} {scope : Scope} {D f : Addr} {fd : FuncData} {p0 p1 p2 p3 pos pj q1 q2 q3 q4 r1 r2 r3 r4 : Pos} {v1 v2 : Expr} {vs : List Expr} {ar : Arg} {fa fb : Str} {bd : Nat}
theorem su1_ok (F : SuD P K mg "__init__" qual params body scope D f fd) (S : NScope [("self" : Str), fa, "__class__"] [("self" : Str), fa] [("__class__" : Str)] scope)
    (hb : body = .Expr (.Call (.Attribute (.Call (.Name "super" p0) [] [] p1) "__init__" p2) [.JoinedStr (v1 :: v2 :: vs) pj] [] p3) pos :: [.Assign [.Attribute (.Name "self" q1) fa q2] (.Name fa q3) q4])
    (hpp : PP [("self" : Str), fa, "__class__"] scope 1 (v1 :: v2 :: vs) bd) (hbd : bd ≤ 16777216) (hks : scope.names.lookup ("super" : Str) = some .globalImplicit) (har : (params.posonlyargs ++ params.args).head? = some ar) (har2 : ar.arg = "self")
    (hd : (fa == ("__debug__" : Str)) = false) (hcd : (fa == ("__classdict__" : Str)) = false)
    (hev : ∀ env : Env, env.scope = scope → ∃ pl : Sem Bool, eval (.Call (.Attribute (.Call (.Name "super" p0) [] [] p1) "__init__" p2) [.JoinedStr (v1 :: v2 :: vs) pj] [] p3) env = (do
      let ov ← attributeBase (.Call (.Name "super" p0) [] [] p1) "__init__" env (eval (.Call (.Name "super" p0) [] [] p1) env)
      standAt p2.atName
      let (f, first) ← holding [ov] (getMethod ov "__init__" pl)
      callWith p3 f first (backTo p3 (starEach [.JoinedStr (v1 :: v2 :: vs) pj] env)) [])) :
    FnOk P w K mg base (L2.CX P w) 1 f fd [("self" : Str), fa] (spSu K D [fa]) := by
  have hva : Vis scope fa := .inl (S.par _ (by simp))
  have hvs : Vis scope "self" := .inl (S.par _ (by simp))
  refine su_ok (ps := [fa]) F S hb hks har har2 rfl (fun _ _ => rfl) (fun _ => rfl) (fun _ _ => rfl) hev fun X is a C e1 e2 e3 hi hl T hno => ?_
  subst e3
  obtain ⟨ts, pj, k⟩ := hpp X e1 e2
  refine ⟨_, _, pe_joined pj, pss_one (ps_ost (pe_var (i := 0) (by rw [e2]; rfl) (by rw [e1]; exact hvs)) (pe_var (i := 1) (by rw [e2]; rfl) (by rw [e1]; exact hva) hd hcd)), fun H Q ea hQ => ?_⟩
  match is, hl, hi with
  | [i], _, hi =>
    refine ⟨k _ _ H _ (by rw [sizeLine_eq]; show 0 + bd ≤ _; omega) (fun j hj => ?_) (fun out => ⟨rfl, rfl⟩), .int i, rfl, .ref a, rfl, a, C, rfl, T.ox, hno _ (by simp), .inl ⟨ea, fun dx n1 n2 => hQ dx n1 n2⟩⟩
    match j, hj with
    | 0, _ => exact ⟨i, rfl, hi i (by simp)⟩
theorem su2_ok (F : SuD P K mg "__init__" qual params body scope D f fd) (S : NScope [("self" : Str), fa, fb, "__class__"] [("self" : Str), fa, fb] [("__class__" : Str)] scope)
    (hb : body = .Expr (.Call (.Attribute (.Call (.Name "super" p0) [] [] p1) "__init__" p2) [.JoinedStr (v1 :: v2 :: vs) pj] [] p3) pos :: [.Assign [.Attribute (.Name "self" q1) fa q2] (.Name fa q3) q4, .Assign [.Attribute (.Name "self" r1) fb r2] (.Name fb r3) r4])
    (hpp : PP [("self" : Str), fa, fb, "__class__"] scope 2 (v1 :: v2 :: vs) bd) (hbd : bd ≤ 16777216) (hks : scope.names.lookup ("super" : Str) = some .globalImplicit) (har : (params.posonlyargs ++ params.args).head? = some ar) (har2 : ar.arg = "self")
    (hd : (fa == ("__debug__" : Str)) = false) (hcd : (fa == ("__classdict__" : Str)) = false) (hd2 : (fb == ("__debug__" : Str)) = false) (hcd2 : (fb == ("__classdict__" : Str)) = false)
    (hev : ∀ env : Env, env.scope = scope → ∃ pl : Sem Bool, eval (.Call (.Attribute (.Call (.Name "super" p0) [] [] p1) "__init__" p2) [.JoinedStr (v1 :: v2 :: vs) pj] [] p3) env = (do
      let ov ← attributeBase (.Call (.Name "super" p0) [] [] p1) "__init__" env (eval (.Call (.Name "super" p0) [] [] p1) env)
      standAt p2.atName
      let (f, first) ← holding [ov] (getMethod ov "__init__" pl)
      callWith p3 f first (backTo p3 (starEach [.JoinedStr (v1 :: v2 :: vs) pj] env)) [])) :
    FnOk P w K mg base (L2.CX P w) 1 f fd [("self" : Str), fa, fb] (spSu K D [fb, fa]) := by
  have hva : Vis scope fa := .inl (S.par _ (by simp))
  have hvb : Vis scope fb := .inl (S.par _ (by simp))
  have hvs : Vis scope "self" := .inl (S.par _ (by simp))
  refine su_ok (ps := [fa, fb]) F S hb hks har har2 rfl (fun _ _ => rfl) (fun _ => rfl) (fun _ _ => rfl) hev fun X is a C e1 e2 e3 hi hl T hno => ?_
  subst e3
  obtain ⟨ts, pj, k⟩ := hpp X e1 e2
  have pself : ∀ q, PE X (.Name "self" q) (tVar 0) := fun q => pe_var (by rw [e2]; rfl) (by rw [e1]; exact hvs)
  refine ⟨_, _, pe_joined pj, pss_cons (ps_ost (pself _) (pe_var (i := 1) (by rw [e2]; rfl) (by rw [e1]; exact hva) hd hcd)) (pss_one (ps_ost (pself _) (pe_var (i := 2) (by rw [e2]; rfl) (by rw [e1]; exact hvb) hd2 hcd2))), fun H Q ea hQ => ?_⟩
  match is, hl, hi with
  | [i, j], _, hi =>
    refine ⟨k _ _ H _ (by rw [sizeLine_eq]; show 0 + bd ≤ _; omega) (fun m hm => ?_) (fun out => ⟨rfl, rfl⟩), .int i, rfl, .ref a, rfl, a, C, rfl, T.ox, hno _ (by simp), .inl ⟨ea, fun dx n1 n2 => ?_⟩⟩
    · match m, hm with
      | 0, _ => exact ⟨i, rfl, hi i (by simp)⟩
      | 1, _ => exact ⟨j, rfl, hi j (by simp)⟩
    · refine ⟨.int j, rfl, .ref a, rfl, a, C, rfl, T.ox, hno _ (by simp), .inr ⟨dx, [(fa, .int i)], upd_same, by rw [upd_ne n2, upd_same], (by show 1 ≤ 900; decide), ?_⟩⟩
      rw [upd_swap n2]
      exact hQ dx n1 n2
end
end Sw

/-! The data layer, 31: exceptions by data: raise, try .. except C as e, what a suite reads of e. -/
namespace Sw
open PySem L2 PySem.Calls PyProof.Rows
/-- what is still and told of an exception's dict -/
def XAt (Γ : Gm) (S : Hp) (dd : Option Addr) (x : Exn) : Prop := (dd = none ∧ x.ds = []) ∨ ∃ a vs, dd = some a ∧ S a = some (.xd ((Γ.X x.k).fs.zip vs)) ∧ vs.length = (Γ.X x.k).fs.length ∧ IsL Γ.T Γ.K S vs x.ds
def intsD : Option (List Dat) → Option (List Int)
  | some [] => some []
  | some (.int i :: r) => match intsD (some r) with
    | some is => some (i :: is)
    | none => none
  | _ => none
theorem rbL_ints {Γ : Gm} {S H : Hp} : ∀ {vs : List V} {ds : List Dat} {is : List Int}, RbL Γ S H vs ds → intsD (some ds) = some is → vs = is.map V.int ∧ ds = is.map Dat.int
  | [], [], _, .nil, e => by
    unfold intsD at e
    cases e; exact ⟨rfl, rfl⟩
  | v :: vs, d :: ds, is, .cons h r, e => by
    cases d with
    | int i =>
      unfold intsD at e
      split at e
      · rename_i js ej
        cases e
        obtain ⟨e1, e2⟩ := rbL_ints r ej
        exact ⟨by rw [h.int, e1]; rfl, by rw [e2]; rfl⟩
      · cases e
    | _ => simp [intsD] at e
theorem isL_ints {T : Tb} {K : PySem.W.Frag} {S : Hp} : ∀ is : List Int, IsL T K S (is.map V.int) (is.map Dat.int)
  | [] => .nil
  | _ :: is => .cons .int (isL_ints is)
/-! ### classes that are made with numbers -/
structure XcG (M : Wd) (Γ : Gm) (name : Str) (c k : Nat) (ps : List Str) : Prop where
  ok : ∃ fI fd D, SupC M.K (Γ.X c).C D ∧ PySem.W.findIn M.K (.ref (Γ.X c).C) "__init__" = some (some (.ref fI)) ∧ PySem.W.typeIn M.K (.ref fI) = some (.type "function") ∧ FnOk M.P M.w M.K M.mg M.base (L2.CX M.P M.w) k fI fd (("self" : Str) :: ps) (spSu M.K D (Γ.X c).fs) ∧ Binds M.K fd (("self" : Str) :: ps) []
  no : ∀ f ∈ (Γ.X c).fs, PySem.W.findIn M.K (.ref (Γ.X c).C) f = some none
  mg : M.mg name = some (.ref (Γ.X c).C)
  ln : ps.length = (Γ.X c).fs.length
/-- raise C(numbers) -/
def sRaise (c n : Nat) (u : TAD) : TSD := fun D ρ => u D.ex ρ fun ρ1 ps => match intsD (datL ρ1 ps) with
  | some is => is.length = n ∧ (∀ i ∈ is, Txt i) ∧ D.ex ⟨c, (is.map Dat.int).reverse⟩ ρ1
  | none => False
/-- raise C("..") -/
def sRaise0 (c : Nat) : TSD := fun D ρ => D.ex ⟨c, []⟩ ρ
section
variable {Γ : Gm} {X : Cx} {W : WX} {e : Expr} {es : List Expr} {pos p p2 : Pos} {u : TAD}
theorem isL_rev {T K S} : ∀ {vs : List V} {ds : List Dat}, IsL T K S vs ds → IsL T K S vs.reverse ds.reverse
  | _, _, .nil => .nil
  | _, _, .cons h l => by
    rw [List.reverse_cons, List.reverse_cons]
    exact (isL_rev l).app (.cons h .nil)
theorem noEscape {CX : CXT} {P : Program} {w : World} (hcx : CX = L2.CX P w) : Passes CX X (fun _ _ _ => False) := by
  subst hcx
  intro pins σ H s e s' I h
  obtain ⟨_, _, _, _, _, _, _, _, _, _, _, _, z⟩ := h
  exact z.elim
theorem ds_raise {Γ' : Gm} {x : Str} {c k n : Nat} {ps : List Str} (g : XcG (wd X) Γ' x c k ps) (hr : Room (k + 1) X.A) (tk : Takes X W) (hg : Gl X x) (ha : DA Γ X W (e :: es) u) (hc : X.calm = true) (hn : n = ps.length := by rfl) (h9 : ps.length ≤ 1000 := by decide)
    (hX : Γ'.X = Γ.X := by rfl) (hK : Γ.K = X.K := by rfl) (hdb : (x == ("__debug__" : Str)) = false := by decide) (he : starEach (e :: es) X.env = (false, eval e X.env) :: starEach es X.env := by rfl) (hpl : (backTo p (starEach es X.env)).any (·.1) = false := by rfl) :
    DS Γ X W (.Raise (some (.Call (.Name x p2) (e :: es) [] p)) none pos) (sRaise c n u) := by
  obtain ⟨fI, fd, D, T, iC, tI, F, hb⟩ := g.ok
  have no := g.no
  have mg := g.mg
  have ln := g.ln
  obtain ⟨_, p1, q⟩ := ha.run
  rw [hX] at T iC F no mg ln
  refine ⟨_, ps_raise hc tk (pmk_oex (CX := L2.CX X.prog X.w) T.ox iC tI F hr hb .nil (noEscape rfl) hg mg p1 hdb he hpl), fun S H σ ρ F1 Dd Dh o l w x => ?_⟩
  refine q S H σ ρ F1 Dd.ex _ _ o w x fun vs S1 H1 ρ1 ps1 hp o1 x1 => ?_
  cases ed : datL ρ1 ps1 with
  | none => rw [ed] at x1; exact (show False by simpa [intsD] using x1).elim
  | some ds =>
    rw [ed] at x1
    cases ei : intsD (some ds) with
    | none => rw [ei] at x1; exact x1.elim
    | some is =>
      rw [ei] at x1
      obtain ⟨hl, ht, hx⟩ := x1
      obtain ⟨rfl, _⟩ := rbL_ints (rbL_of hp o1 (List.sublist_append_left _ _) ed) ei
      have hl3 : is.length = (Γ.X c).fs.length := by rw [hl, hn, ln]
      have o2 := o1.sub (F' := F1) (List.sublist_append_right _ _)
      refine ⟨?_, fun a na => ⟨a, _, is, by rw [List.append_nil], hl3, ht, T, no, upd_same, fun dx nd ne => ⟨rfl, dx, _, upd_same, by rw [upd_ne ne, upd_same], ?_, ?_⟩⟩⟩
      · rw [List.length_map, hl, hn]; exact h9
      · rw [upd_ne ne] at nd; exact nd
      · rw [upd_ne ne] at nd
        have eH : upd (del (upd (upd (upd H1 a (exo a (Γ.X c).C none)) dx (exd dx ((Γ.X c).fs.zip (is.map V.int).reverse))) a (exo a (Γ.X c).C (some dx))) a) dx (.xd ((Γ.X c).fs.zip (is.map V.int).reverse)) = upd H1 dx (.xd ((Γ.X c).fs.zip (is.map V.int).reverse)) := by
          funext b
          by_cases h1 : b = dx
          · subst h1; rw [upd_same, upd_same]
          · rw [upd_ne h1, upd_ne h1]
            by_cases h2 : b = a
            · subst h2; rw [del_same, na]
            · rw [del_ne h2, upd_ne h2, upd_ne h1, upd_ne h2]
        rw [eH]
        have st := Stp.new (o := HO.xd ((Γ.X c).fs.zip (is.map V.int).reverse)) o1.ok.ex nd
        refine w _ _ σ ρ1 ⟨c, (is.map Dat.int).reverse⟩ _ _ (o2.step st) ⟨rfl, .inr ⟨dx, _, rfl, upd_same, by rw [List.length_reverse, List.length_map, hl3], ?_⟩⟩ hx
        exact isL_rev (isL_ints is)
/-- a class of exceptions without own __init__, made with a text -/
structure XtG (M : Wd) (Γ : Gm) (name : Str) (c : Nat) : Prop where
  ex : PySem.W.excIn M.K (Γ.X c).C He.veBase "ValueError.__new__" = true
  kp : PySem.W.keepIn M.K (.ref (Γ.X c).C) = true
  ra : PySem.W.subIn M.K (.ref (Γ.X c).C) (.type "BaseException") = some true
  ty : PySem.W.typeIn M.K (.ref (Γ.X c).C) = some (.type "type")
  mg : M.mg name = some (.ref (Γ.X c).C)
theorem ds_raise0 {Γ' : Gm} {x m : Str} {c j : Nat} {p3 : Pos} (g : XtG (wd X) Γ' x c) (tk : Takes X W) (hg : Gl X x) (hc : X.calm = true) (hX : Γ'.X = Γ.X := by rfl) (hdb : (x == ("__debug__" : Str)) = false := by decide) :
    DS Γ X W (.Raise (some (.Call (.Name x p2) [.Constant (.str m) j p3] [] p)) none pos) (sRaise0 c) := by
  obtain ⟨g1, g2, g3, g4, g5⟩ := g
  rw [hX] at g1 g2 g3 g4 g5
  exact ⟨_, ps_raise hc tk (pmk_own F.excBase_ValueError g1 g5 g2 (raises_own g3 g4) hg hdb), fun S H σ ρ F1 Dd Dh o l w x => w S H σ ρ ⟨c, []⟩ _ _ o ⟨rfl, .inl ⟨rfl, rfl⟩⟩ x⟩
/-! ### try: body, except C as e: suite -/
/-- the tables while a suite runs: S is still, slot i holds the exception -/
abbrev Gm.at_ (Γ : Gm) (S : Hp) (i : Nat) (a : Addr) : Gm := { Γ with S0 := S, me := some (i, .ref a) }
def tEx (i : Nat) (hd : Nat → Option Bool) (su : Exn → TSD) (D : DEnds) : DEx := fun x ρ' => i < ρ'.length ∧ (match hd x.k with
  | some true => su x { nx := fun r => D.nx (r.set i none), rt := fun r sl => D.rt (r.set i none) sl, bk := fun r => D.bk (r.set i none), ct := fun r => D.ct (r.set i none), ex := noEx } (ρ'.set i none)
  | some false => D.ex x ρ'
  | none => False)
def sTry (b : TSD) (i : Nat) (hd : Nat → Option Bool) (su : Exn → TSD) : TSD := fun D ρ => b { D with ex := tEx i hd su D } ρ
theorem Ok.swapΓ {Γ' : Gm} {S H : Hp} {L : Fx} (o : Ok Γ S H L) (hT : Γ'.T = Γ.T) (hK : Γ'.K = Γ.K) (hH : Γ'.H0 = Γ.H0) (e0 : Ex Γ'.S0 S) (fr : ∀ p o, Γ'.S0 p = none → Γ.H0 p = some o → S p = none ∧ H p = some o) : Ok Γ' S H L := by
  obtain ⟨T, XT, K, S0, H0, me⟩ := Γ
  obtain ⟨T', XT', K', S0', H0', me'⟩ := Γ'
  simp only at hT hK hH
  subst hT hK hH
  obtain ⟨fs, s, n, z⟩ := o.sep
  refine ⟨e0, o.ex, fr, fs, s.conv fun en f he => ?_, n, z⟩
  obtain ⟨ov, os⟩ := en
  cases os with
  | none => exact he
  | some sl => cases ov with
    | none => cases sl <;> exact he
    | some v => cases sl <;> exact he
/-- a slot's value goes, another stands there, of which nothing is told -/
theorem StOk.hide {S H : Hp} {σ : L2.St} {ρ : DEnv} {F : Fx} {i : Nat} {a : Option V} (o : StOk Γ S H σ ρ F) (hm : Γ.free i) : StOk Γ S H (σ.set i a) (ρ.set i none) F := by
  refine ⟨by rw [List.length_set, List.length_set]; exact o.len, ?_, fun j w h => ?_⟩
  · by_cases hi : i < σ.length
    · have hi2 : i < ρ.length := by rw [← o.len]; exact hi
      obtain ⟨A, B, e1, _, e3⟩ := zip_at (List.getElem?_eq_getElem hi) (List.getElem?_eq_getElem hi2)
      have o1 := o.ok
      rw [e1, List.append_assoc, List.cons_append] at o1
      rw [e3, List.append_assoc, List.cons_append]
      have o2 := (o1.perm List.perm_middle).sub (List.sublist_cons_self _ _)
      obtain ⟨fs, s, n, z⟩ := o2.sep
      have o3 : Ok Γ S H ((a, none) :: (A ++ (B ++ F))) := ⟨o2.ex0, o2.ex, o2.fr, [] :: fs, .cons rfl s, by simpa using n, by simpa using z⟩
      exact o3.perm List.perm_middle.symm
    · rw [List.set_eq_of_length_le (by omega), List.set_eq_of_length_le (by rw [← o.len]; omega)]
      exact o.ok
  · have q : j ≠ i := fun q => hm w (q ▸ h)
    rw [List.getElem?_set_ne (Ne.symm q)]
    exact o.me j w h
variable {b : TSD} {su : Exn → TSD} {body suite : List Stmt} {b₀ : Stmt} {np pos' : Pos} {x n : Str} {c : Value} {i : Nat} {hd : Nat → Option Bool}
theorem ds_try (hs : X.stack = X.env :: X.outer) (hf : X.env.frame = some X.env.locals) (hN : X.N.Nodup) (hi : X.N[i]? = some n) (hln : X.env.kindOf n = some .local) (hc : Names X x c) (tk : Takes X W) (hh : ∀ k q, hd k = some q → PySem.W.exmOne X.K (.ref (Γ.X k).C) c = some q)
    (hb : ∀ (W' : WX) (pn : List (Addr × Obj)) (xe : Value → Shared → Prop), Takes (X.tr pn xe) W' → PassesOwn (model X.prog X.w) X.A X.env xe → DSs Γ (X.tr pn xe) W' body b)
    (hsu : ∀ (x : Exn) (a : Addr) (oe : Obj) (dd : Option Addr) (pn : List (Addr × Obj)) (S : Hp), Zc (.ref (Γ.X x.k).C) dd oe → (∃ vs, oe.data = .fields vs) → XAt Γ S dd x → DSs (Γ.at_ S i a) (X.suite a ((a, oe) :: pn)) W0 (b₀ :: suite) (su x)) (hme : Γ.me = none := by rfl) :
    DS Γ X W (.Try body [.ExceptHandler (some (.Name x np)) (some n) (b₀ :: suite) pos'] [] [] pos) (sTry b i hd su) := by
  have hb' := fun W' pn xe h1 h2 => (hb W' pn xe h1 h2).run
  have hsu' := fun x a oe dd pn S h1 h2 h3 => (hsu x a oe dd pn S h1 h2 h3).run
  let tb : WX → TS := fun W' D σ H => ∀ pn xe h1 h2, Classical.choose (hb' W' pn xe h1 h2) D σ H
  let ts : Addr → Value → Option Addr → TS := fun a cls dd D σ H => ∃ (x : Exn) (S : Hp) (e : cls = .ref (Γ.X x.k).C) (hx : XAt Γ S dd x), ∀ (oe : Obj) (pn : List (Addr × Obj)) (hz : Zc cls dd oe) (hfl : ∃ vs, oe.data = .fields vs), Classical.choose (hsu' x a oe dd pn S (e ▸ hz) hfl hx) D σ H
  refine ⟨_, ps_try_as (tb := tb) (ts := ts) hs hf hN hi hln hc tk (fun W' pn xe h1 h2 => ⟨fun pins s σ H D I h => (Classical.choose_spec (hb' W' pn xe h1 h2)).1.run pins s σ H D I (h pn xe h1 h2)⟩) (fun a oe cls dd pn hz hfl => ⟨fun pins s σ H D I h => ?_⟩), fun S H σ ρ F1 Dd Dh o l w q => ?_⟩
  · obtain ⟨x, S, e, hx, h⟩ := h
    subst e
    exact (Classical.choose_spec (hsu' x a oe dd pn S hz hfl hx)).1.run pins s σ H D I (h oe pn hz hfl)
  · intro pn xe h1 h2
    refine (Classical.choose_spec (hb' _ pn xe h1 h2)).2 S H σ ρ F1 { Dd with ex := tEx i hd su Dd } Dh o ⟨l.nx, l.rt, l.bk, l.ct⟩ ?_ q
    intro S1 H1 σ1 ρ1 x cls dd o1 ea hx
    obtain ⟨hil, hx⟩ := hx
    obtain ⟨rfl, ea⟩ := ea
    have free : Γ.free i := fun v z => by rw [hme] at z; cases z
    cases eh : hd x.k with
    | none => rw [eh] at hx; exact hx.elim
    | some qb =>
      rw [eh] at hx
      refine ⟨qb, hh _ _ eh, fun hq a na => ?_, fun hq => ?_⟩
      · subst hq
        refine ⟨x, S1, rfl, ea, fun oe pn2 hz hfl => ?_⟩
        have hil2 : i < σ1.length := by rw [o1.len]; exact hil
        have o2 := o1.hide (a := some (.ref a)) free
        have o3 : StOk (Γ.at_ S1 i a) S1 H1 (σ1.set i (some (.ref a))) (ρ1.set i none) F1 := ⟨o2.len, o2.ok.swapΓ rfl rfl rfl (fun _ _ h => h) fun p u h1 h2 => by
            cases q : Γ.S0 p with
            | some u2 =>
              have := o1.ok.ex0 p u2 q
              have h1 : S1 p = none := h1
              rw [h1] at this; cases this
            | none => exact o1.ok.fr p u q h2, fun j v z => by
          have z : some (i, V.ref a) = some (j, v) := z
          cases z
          rw [List.getElem?_set_self hil2]⟩
        have back : ∀ {S' H' σ' ρ' F2}, StOk (Γ.at_ S1 i a) S' H' σ' ρ' F2 → StOk Γ S' H' (σ'.set i none) (ρ'.set i none) F2 := fun {S' H' σ' ρ' F2} o4 => by
          have o5 : StOk Γ S' H' σ' ρ' F2 := ⟨o4.len, o4.ok.swapΓ rfl rfl rfl (fun p u h => o4.ok.ex0 p u (o1.ok.ex0 p u h)) fun p u h1 h2 => o4.ok.fr p u (o1.ok.fr p u h1 h2).1 h2, fun j v z => by rw [hme] at z; cases z⟩
          exact o5.hide free
        exact (Classical.choose_spec (hsu' x a oe dd pn2 S1 hz hfl ea)).2 S1 H1 _ _ F1 _ _ o3 ⟨fun S' H' σ' ρ' o4 z => l.nx S' H' _ _ (back o4) z, fun S' H' σ' ρ' v sl o4 z => l.rt S' H' _ _ v sl (back o4) z, fun S' H' σ' ρ' o4 z => l.bk S' H' _ _ (back o4) z, fun S' H' σ' ρ' o4 z => l.ct S' H' _ _ (back o4) z⟩ lw0 hx
      · subst hq
        exact w S1 H1 σ1 ρ1 x _ _ o1 ⟨rfl, ea⟩ hx
end
end Sw

/-! The data layer, 32: within an except suite: e.f, isinstance(e, C), calls of defs that let nothing out. -/
namespace Sw
open PySem L2 PySem.Calls PyProof.Rows
/-- a table by classes -/
def look {α : Type} : List (Nat × α) → Nat → Option α
  | [], _ => none
  | (j, a) :: r, k => if k = j then some a else look r k
inductive AllT {α : Type} (F : Nat → α → Prop) : List (Nat × α) → Prop
  | nil : AllT F []
  | cons {k a l} : F k a → AllT F l → AllT F ((k, a) :: l)
theorem AllT.get {α : Type} {F : Nat → α → Prop} : ∀ {l : List (Nat × α)}, AllT F l → ∀ k a, look l k = some a → F k a
  | _, .nil, _, _, h => by simp [look] at h
  | _, .cons (k := j) h r, k, a, e => by
    unfold look at e
    split at e
    · rename_i q
      cases e
      rw [q]; exact h
    · exact r.get k a e
/-- what is known of the j-th attribute of exceptions of a class -/
structure XfF (K : PySem.W.Frag) (C : Cl) (j : Nat) (f : Str) : Prop where
  ix : C.fs[j]? = some f
  nd : C.fs.Nodup
  xf : XfC K C.C
  no : PySem.W.findIn K (.ref C.C) f = some none
def pXf (tab : Nat → Option Nat) (x : Exn) : TPD := fun _ ρ Q => match tab x.k with
  | some j => (match x.ds[j]? with
    | some d => Q ρ (.t (.v 0 d))
    | none => False)
  | none => False
def pIsX (tab : Nat → Option Bool) (x : Exn) : TPD := fun _ ρ Q => match tab x.k with
  | some b => Q ρ (.t (.v 0 (.bl b)))
  | none => False
section
variable {Γ : Gm} {X : Cx} {W : WX} {pos p p1 : Pos} {S : Hp} {i : Nat} {a : Addr} {oe : Obj} {dd : Option Addr} {pn : List (Addr × Obj)} {x : Exn} {n f : Str}
theorem dp_xf {tab : Nat → Option Nat} (hz : Zc (.ref (Γ.X x.k).C) dd oe) (hfl : ∃ vs, oe.data = .fields vs) (hx : XAt Γ S dd x) (ht : ∀ k j, tab k = some j → XfF Γ.K (Γ.X k) j f) (hN : X.N[i]? = some n := by rfl) (hv : Vis X.env.scope n := by exact .inl rfl)
    (hb : attributeBase (.Name n p) f X.env (eval (.Name n p) X.env) = eval (.Name n p) X.env := by rfl) (hdb : (n == ("__debug__" : Str)) = false := by decide) (hcd : (n == ("__classdict__" : Str)) = false := by decide) (hK : Γ.K = X.K := by rfl) :
    DP (Γ.at_ S i a) (X.suite a ((a, oe) :: pn)) W (.Attribute (.Name n p) f pos) (pXf tab x) := by
  cases et : tab x.k with
  | none => exact ⟨fun _ _ _ => False, ⟨fun _ _ _ _ _ _ h => h.elim⟩, fun S' H σ ρ F E Q Qh o l q k => by unfold pXf at q; rw [et] at q; exact q.elim⟩
  | some j =>
    obtain ⟨ix, nd, T, no⟩ := ht _ _ et
    rw [hK] at T no
    refine ⟨_, pe_xf T no hz hfl (pe_var (X := X.suite a ((a, oe) :: pn)) hN hv hdb hcd) hb, fun S' H σ ρ F E Q Qh o l q k => ?_⟩
    unfold pXf at q
    rw [et] at q
    have hσ := o.me i (.ref a) rfl
    refine ⟨.ref a, hσ, rfl, rfl, ?_⟩
    rcases hx with ⟨_, e⟩ | ⟨d, vs, rfl, hS, hl, il⟩
    · rw [e] at q
      exact (show False by simpa using q).elim
    · cases ed : x.ds[j]? with
      | none => simp only [ed] at q
      | some dat =>
        simp only [ed] at q
        obtain ⟨v, hv2, is⟩ := il.get ed
        exact ⟨d, _, v, rfl, o.ok.ex _ _ (o.ok.ex0 _ _ hS), zip_look nd ix hv2, k v S' H ρ (.t (.v 0 dat)) trivial (o.pushS (is.mono o.ok.ex0)) q⟩
/-- isinstance(e, c): with what stands behind the top -/
def rIsX (K : PySem.W.Frag) (D a : Addr) (dd : Option Addr) : List V → Hp → VK → Prop := fun xs H Q => (dd = none ∨ ∃ d fs, dd = some d ∧ H d = some (.xd fs)) ∧ ∃ (c : V) (cv : Value) (b : Bool), xs = [.ref a, c] ∧ (∀ u, RelV c u → u = cv) ∧ PySem.W.kitOne K (.ref D) cv = some b ∧ Q (.bl b) H
theorem call_isX {D : Addr} (C : ExcC X.K D) (hz : Zc (.ref D) dd oe) (hf : ∃ vs, oe.data = .fields vs) : CallR (X.suite a ((a, oe) :: pn)) (.builtin "isinstance") (rIsX X.K D a dd) := by
  intro pins s σ H xs us Q I r h
  obtain ⟨hdd, c, cv, b, rfl, hcv, e, q⟩ := h
  cases r with
  | cons rx rr =>
    cases rr with
    | cons rt rr =>
      cases rr
      cases rx
      have ec := hcv _ rt
      subst ec
      obtain ⟨hget, _⟩ := I.pin (a, oe) (List.mem_append.mpr (.inl List.mem_cons_self))
      obtain ⟨vs, hv⟩ := hf
      have nc : PySem.W.notCls oe = true := by unfold PySem.W.notCls; rw [hv]
      have J : ∃ od, PySem.W.InstAt s.heap a oe D od := by
        rcases hdd with rfl | ⟨d, fs, rfl, hH⟩
        · exact ⟨none, hget, hz.1, nc, by rw [hz.2]; trivial⟩
        · have hok : ObjOk X.prog X.w H s.heap d (.xd fs) := I.hok d _ hH
          obtain ⟨mA, hns, _⟩ := hok
          obtain ⟨od, ho, _⟩ := lookIn_ns hns
          exact ⟨some od, hget, hz.1, nc, by rw [hz.2]; exact ho⟩
      obtain ⟨od, J⟩ := J
      have hcl : (PySem.W.clsIn X.K D).isSome = true := by
        obtain ⟨cd, hc, _⟩ := PySem.W.any_some C.hd
        rw [hc]; rfl
      exact PySem.W.kia_one (PySem.W.kitx_exc hcl C.hg C.hk C.hs C.ha C.hn C.ht C.hm) I.kIn J e (fun z => nomatch z) fun tk => ⟨.bl b, H, I.kept (t' := tk) fun _ _ z => z, rfl, q⟩
theorem dp_isX {tab : Nat → Option Bool} {ce : Expr} {c : V} {cv : Value} (hz : Zc (.ref (Γ.X x.k).C) dd oe) (hfl : ∃ vs, oe.data = .fields vs) (hx : XAt Γ S dd x) (ht : ∀ k b, tab k = some b → PySem.W.kitOne Γ.K (.ref (Γ.X k).C) cv = some b ∧ ExcC Γ.K (Γ.X k).C)
    (hg : Gl X "isinstance") (hm : X.mg "isinstance" = none) (hce : PE (X.suite a ((a, oe) :: pn)) ce (tC c)) (hcv : ∀ u, RelV c u → u = cv) (hN : X.N[i]? = some n := by rfl) (hv : Vis X.env.scope n := by exact .inl rfl)
    (hdb : (n == ("__debug__" : Str)) = false := by decide) (hcd : (n == ("__classdict__" : Str)) = false := by decide) (he : starEach [.Name n p1, ce] X.env = (false, eval (.Name n p1) X.env) :: starEach [ce] X.env := by rfl) (he2 : starEach [ce] X.env = (false, eval ce X.env) :: starEach [] X.env := by rfl)
    (hpl : (backTo pos (starEach [ce] X.env)).any (·.1) = false := by rfl) (hK : Γ.K = X.K := by rfl) :
    DP (Γ.at_ S i a) (X.suite a ((a, oe) :: pn)) W (.Call (.Name "isinstance" p) [.Name n p1, ce] [] pos) (pIsX tab x) := by
  cases et : tab x.k with
  | none => exact ⟨fun _ _ _ => False, ⟨fun _ _ _ _ _ _ h => h.elim⟩, fun S' H σ ρ F E Q Qh o l q k => by unfold pIsX at q; rw [et] at q; exact q.elim⟩
  | some b =>
    obtain ⟨kt, C⟩ := ht _ _ et
    rw [hK] at kt C
    have pa := pa_cons (pe_var (X := X.suite a ((a, oe) :: pn)) (pos := p1) hN hv hdb hcd) (pa_cons hce pa_nil he2) he
    refine ⟨_, pe_callB (X := X.suite a ((a, oe) :: pn)) (call_isX C hz hfl) hg hm (show bootBuiltins "isinstance" = some (.builtin "isinstance") by decide +kernel) pa (by decide) (by decide) he hpl, fun S' H σ ρ F E Q Qh o l q k => ?_⟩
    unfold pIsX at q
    rw [et] at q
    have hσ := o.me i (.ref a) rfl
    refine ⟨.ref a, hσ, ?_, c, cv, b, rfl, hcv, kt, k (.bl b) S' H ρ (.t (.v 0 (.bl b))) trivial (o.pushS .bl) q⟩
    rcases hx with ⟨e, _⟩ | ⟨d, vs, e, hS, _, _⟩
    · exact .inl e
    · exact .inr ⟨d, _, e, o.ok.ex _ _ (o.ok.ex0 _ _ hS)⟩
end
/-! ### calls of defs in a suite -/
structure FnC (P : Program) (w : World) (K : PySem.W.Frag) (mg : Str → Option Value) (base : Heap) (CX : CXT) (k : Nat) (f : Addr) (fd : FuncData) (ps : List Str) (sp : Sp) : Prop where
  len : ∀ vs H Q E, sp vs H Q E → vs.length = ps.length
  run : ∀ (A : Around) (outer : List Env) (s : Shared) (H : Hp) (args : Args) (us : List Value) (vs : List V) (Q : VK) (E : XK) (p : Addr × Obj), L2H.RoomH k A → L2H.PinOk outer H s p → Env0 P w K mg base A outer s H → BindsTo s fd args (ps.zip us) → Vals vs us → sp vs H Q E →
    codeAny (model P w) A (.call (.ref f) args) (CR CX outer P w H s Q E) s
section
variable {P : Program} {w : World} {K : PySem.W.Frag} {mg : Str → Option Value} {base : Heap} {Γ : Gm} {x qual : Str} {params : Arguments} {body : List Stmt} {scope : Scope} {dvs : List V} {kws : List (Str × V)} {f : Addr} {fd : FuncData} {N ps : List Str} {k : Nat} {ms : List Bool} {dsp : DSp} {t : TSD}
theorem fnC_of {CX : CXT} {sp : Sp} (F : FunD K x qual params body scope dvs kws f fd) (Sc : FnScope N ps scope) (len : ∀ vs H Q E, sp vs H Q E → vs.length = ps.length)
    (hbody : ∀ (cdv : Value) (A : Around) (outer : List Env) (s : Shared) (H : Hp) (vs : List V) (Q : VK) (E : XK) (p : Addr × Obj), L2H.RoomH k (A.deeper (envOfC qual scope s.heap.objs.size f cdv)) → sp vs H Q E →
      ∃ t, PSs (L2H.cxH CX P w K mg base N qual scope f cdv A outer s H E p) body t ∧ t { nx := fun _ H' => Q .non H', rt := Q } (L2.start N vs) H) : FnC P w K mg base CX (k + 1) f fd ps sp := by
  obtain ⟨oc, od, dV, kV, doc, pm, an, cdv, ct, osl, rfl, lk, hcd, _, _⟩ := F.ex
  refine ⟨len, fun A outer s H args us vs Q E p hr pin e0 hb r hs => ?_⟩
  have inH : ∀ b o, base.get? b = some o → s.heap.get? b = some o := fun b o e => (e0.bs b o e).1
  have KX := e0.mod.kin.keeps inH
  have lims := e0.mod.nolimit.keeps inH
  have lv := len _ _ _ _ hs
  refine codeAny_call_function hr.depth (KX _ _ lk) rfl Sc.co Sc.gen rfl (PySem.W.codeRec_of KX hcd) (hb _ _ _ _ ?_)
  refine wpAny_newFunctionEnv_cells Sc.kind (fun y hy => ?_) fun env he s1 z => ?_
  · rcases Sc.par y.1 (List.of_mem_zip hy).1 with q | q
    · exact .inl q
    · exact .inr ⟨q, PySem.W.cellsFrom_some _ _ _ (.inl q)⟩
  subst he
  refine ⟨lims.keeps z.toInCall.keep, codeAny_func ?_⟩
  obtain ⟨t, ht, hq⟩ := hbody cdv A outer s H vs Q E p (hr.deeper _) hs
  refine wpAny_mono (ht.run [] s1 _ H _ (L2H.inv_startH Sc pin e0 lv r z) hq) (fun fl s' q => ?_) fun _ _ q => q
  cases fl with
  | ret u => exact let ⟨v, _, H', J, rv, q⟩ := q; ⟨v, H', J.os, J.bare, J.base, J.hok, rv, q⟩
  | next => exact let ⟨_, H', J, q⟩ := q; ⟨V.non, H', J.os, J.bare, J.base, J.hok, rfl, q⟩
  | brk => exact let ⟨_, _, _, q⟩ := q; q.elim
  | cont => exact let ⟨_, _, _, q⟩ := q; q.elim
/-- THE RULE for a def that is called in a suite -/
theorem fnCD (F : FunD K x qual params body scope dvs kws f fd) (S : FnScope N ps scope) (hl : ms.length = ps.length)
    (hb : ∀ cdv A outer s H E S' p, L2H.RoomH k (A.deeper (envOfC qual scope s.heap.objs.size f cdv)) → DSs (Γ.in_ S' H) (L2H.cxH (L2.CX P w) P w K mg base N qual scope f cdv A outer s H E p) (fun cls d _ H => E cls d H) body t)
    (hp : ∀ ds Q E, dsp ds Q E → ds.length = ms.length → t (fnEnds Q E) (dstart N.length ms ds)) : FnC P w K mg base (L2.CX P w) (k + 1) f fd ps (lift Γ ms dsp) := by
  refine fnC_of F S (fun vs H Q E h => ?_) (fun cdv A outer s H vs Q E p hr h => ?_)
  · obtain ⟨_, _, _, _, _, a, _⟩ := h
    rw [a.len.1, hl]
  · obtain ⟨S', ds, Q1, E1, ex, a, sp, po, pe⟩ := h
    obtain ⟨ts, p1, run⟩ := (hb cdv A outer s H E S' p hr).run
    have a' : ArgsOk (Γ.in_ S' H) S' H ms vs ds := ArgsOk.conv (Γ := Γ) (Γ' := Γ.in_ S' H) (fun _ _ h => h) (fun _ _ h => h) a
    obtain ⟨fs, sep, e⟩ := start_sep (Γ := Γ.in_ S' H) N.length a' (fun _ _ h => h) (fun p o _ h => ⟨o, h⟩)
    have ok : StOk (Γ.in_ S' H) S' H (L2.start N vs) (dstart N.length ms ds) [] := by
      refine ⟨?_, ⟨fun _ _ h => h, ex, fun _ _ h1 h2 => ⟨h1, h2⟩, fs, by rw [List.append_nil]; exact sep, by rw [e]; exact List.nodup_nil, fun p hp => by rw [e] at hp; cases hp⟩, fun i v h => by cases h⟩
      unfold L2.start dstart
      rw [List.length_append, List.length_append, dargs_len a', List.length_map, List.length_replicate, List.length_replicate, a.len.1, a.len.2]
    have st : ∀ {S2 H2 σ ρ F}, StOk (Γ.in_ S' H) S2 H2 σ ρ F → Stp S' H S2 H2 := fun o => ⟨o.ok.ex0, o.ok.ex, o.ok.fr⟩
    refine ⟨ts, p1, run S' H _ _ [] (fnEnds Q1 E1) _ ok ⟨fun S2 H2 σ ρ o q => ?_, fun S2 H2 σ ρ v sl o q => ?_, fun _ _ _ _ _ q => q, fun _ _ _ _ _ q => q⟩ (fun S2 H2 σ ρ y cls dd o ea q => pe S2 H2 y cls dd (st o) ea q) (hp ds Q1 E1 sp a.len.2)⟩
    · exact po S2 H2 0 .non .non [] (st o) (.s .non) List.nodup_nil (fun _ h => by cases h) q
    · cases sl with
      | b d => exact q.elim
      | v n d =>
        have o1 := o.ok.perm (L' := (some v, some (.v n d)) :: (σ.zip ρ)) (by
          have := @List.perm_middle _ (some v, some (Sl.v n d)) (σ.zip ρ) []
          rw [List.append_nil] at this; exact this)
        obtain ⟨gs, s2, nd, z⟩ := o1.sep
        cases s2 with
        | @cons _ g _ gs' he hl =>
          rw [List.flatten_cons] at nd z
          exact po S2 H2 n v d g (st o) he (List.nodup_append.mp nd).1 (fun p hp => z p (List.mem_append_left _ hp)) q
/-- a def's promise in a suite -/
structure FcG (M : Wd) (Γ : Gm) (name : Str) (k : Nat) (ps : List Str) (ms : List Bool) (dsp : DSp) : Prop where
  ok : ∃ f fd, M.mg name = some (.ref f) ∧ PySem.W.keepIn M.K (.ref f) = true ∧ Binds M.K fd ps [] ∧ FnC M.P M.w M.K M.mg M.base (L2.CX M.P M.w) k f fd ps (lift Γ ms dsp)
def pFnC (ms : List Bool) (dsp : DSp) (u : TAD) : TPD := fun E ρ Q => u E ρ fun ρ1 ps => match argL ρ1 ms ps with
  | some ds => dsp ds (fun k d => Q ρ1 (.t (.v k d))) fun _ => False
  | none => False
end
section
variable {Γ Γ' : Gm} {X : Cx} {W : WX} {pos p : Pos} {a : Addr} {oe : Obj} {pn : List (Addr × Obj)} {e : Expr} {es : List Expr} {u : TAD} {x : Str} {k : Nat} {ps : List Str} {ms : List Bool} {dsp : DSp}
theorem dp_callC (c : FcG (wd X) Γ' x k ps ms dsp) (hr : L2H.RoomH k X.A) (hg : Gl X x) (ha : DA Γ (X.suite a ((a, oe) :: pn)) W (e :: es) u) (hT : Γ'.T = Γ.T := by rfl) (hX : Γ'.X = Γ.X := by rfl) (hK : Γ'.K = Γ.K := by rfl)
    (hdb : (x == ("__debug__" : Str)) = false := by decide) (he : starEach (e :: es) X.env = (false, eval e X.env) :: starEach es X.env := by rfl) (hpl : (backTo pos (starEach es X.env)).any (·.1) = false := by rfl) :
    DP Γ (X.suite a ((a, oe) :: pn)) W (.Call (.Name x p) (e :: es) [] pos) (pFnC ms dsp u) := by
  obtain ⟨f, fd, hm, hk, hb, F⟩ := c.ok
  obtain ⟨te, p1, q⟩ := ha.run
  rw [lift_in hT hX hK] at F
  refine ⟨tCallS (lift Γ ms dsp) (fun _ _ _ _ => False) te, ⟨fun pins s σ H Q I h => ?_⟩, fun S H σ ρ F1 E Q Qh o l x kk => ?_⟩
  · refine wpAny_Call_Name_kw (ld_glob I hg hm ?_ hdb)
    refine PySem.W.callWith_K (h₀ := X.base) I.ok.mod.kin hk (thn (p1.run pos pins s σ H _ I h) fun us s1 ⟨vs, H1, I1, r, q⟩ => ⟨I1.kIn, ?_⟩) he hpl
    have hl : us.length = ps.length := by rw [← r.length]; exact F.len _ _ _ _ q
    have b := hb s1 us I1.kIn (by rw [List.append_nil]; exact hl)
    rw [List.append_nil] at b
    have P1 := I1.pin (a, oe) (List.mem_append_left _ List.mem_cons_self)
    have pin : L2H.PinOk X.stack H1 s1 (a, oe) := ⟨P1.1, P1.2.1, fun hm => (List.mem_cons.mp (I1.stkSub a hm)).elim P1.2.2.1 P1.2.2.2.1, P1.2.2.2.2⟩
    refine wpAny_call (codeAny_mono (F.run (X.suite a ((a, oe) :: pn)).A X.stack s1 H1 ⟨us, []⟩ us vs Q (fun _ _ _ => False) (a, oe) ⟨hr.dp, hr.un⟩ pin I1.env0 b r q) fun r s' hq => ?_)
    cases r with
    | error e => exact let ⟨_, _, _, _, _, _, _, _, _, _, _, _, z⟩ := hq; z.elim
    | ok fl =>
      cases fl with
      | ret u => exact I1.after hq
      | next => exact False.elim hq
      | brk => exact False.elim hq
      | cont => exact False.elim hq
  · refine q S H σ ρ F1 E _ _ o l x fun vs S' H' ρ' ps hp o' x' => ?_
    split at x'
    · rename_i ds ed
      have o2 := o'.sub (F' := F1) (List.sublist_append_right _ _)
      have a1 := argL_of o' hp (List.sublist_append_left _ _) ed
      exact ⟨S', _, _, _, o'.ok.ex, a1, x', fun S2 H2 k z dz f st ow nd nw qq => kk z S2 H2 ρ' (.t (.v k dz)) trivial (o2.push st ow nd nw) qq, fun S2 H2 y cls dd st ea ey => ey.elim⟩
    · exact x'.elim
end
end Sw

/-! The data layer, 33: the head's facts about exceptions. -/
namespace SwH
open PySem PySem.Spec PyProof.Rows L2 Sw NdefX
theorem Dn.suD {P : Program} {K : PySem.W.Frag} {mg : Str → Option Value} {d : Dn} {x file : Str} (hs : d.sup = some (x, file)) (hf : ((P.main.file : Str) == file) = true) (ht : (P.main.scope.names.lookup ("super" : Str)).isSome = false) (hm : mg "super" = none)
    (e : d.img K = d.want) (c : d.ok K = true) : ∃ fd, SuD P K mg d.name d.qual d.params d.body d.scope (He.ga K x) (d.at_.ad K) fd := by
  have c1 := Bool.and_eq_true_iff.mp c
  unfold Dn.img at e
  rw [hs] at e
  generalize hk : K.lookup (d.at_.ad K) = ob at e c1
  match ob, e, c1, hk with
  | some ⟨oc, od, .func fd, osl⟩, e, c1, hk =>
    have c2 : okF K d fd = true := c1.2
    have c3 := Bool.and_eq_true_iff.mp c2
    have c4 := (Bool.and_eq_true_iff.mp c3.2).2
    rw [hs] at c4
    have e1 : imgF true fd = d.want := e
    rcases fd with ⟨a1, a2, a3, a4, a5, a6, a7, a8, a9, b1, b2, b3, b4, b5, b6⟩
    unfold imgF Dn.want at e1
    simp only [Option.some.injEq, Prod.mk.injEq, if_true] at e1
    rcases e1 with ⟨z1, z2, z3, z4, z5, z6, z7, z8⟩
    have c5 : supB K x file _ = true := c4
    unfold supB at c5
    split at c5
    · rename_i n cc cda h1 h2 h3 h4 h5
      dsimp only at h1 h2 h3 h4 h5
      subst h1 h2 h3 h4 h5
      have k1 := Bool.and_eq_true_iff.mp c5
      have k2 := Bool.and_eq_true_iff.mp k1.2
      have k3 := Bool.and_eq_true_iff.mp k2.2
      have en := of_decide_eq_true k1.1
      subst en
      refine ⟨_, ⟨oc, od, b1, b2, b5, cda, cc, osl, ?_, hk, c3.1, ?_, ?_, ?_, ht, hm⟩, c1.1⟩
      · subst z1 z2 z3 z4 z5 z6 z8
        rfl
      · have q := k2.1
        unfold cellB at q
        split at q
        · rename_i ob o1 o2 E o3 lo
          have eD := of_decide_eq_true q
          subst eD
          exact ⟨_, lo, rfl⟩
        · cases q
      · exact Option.isSome_iff_exists.mp k3.2
      · have q := k3.1
        unfold codeB at q
        split at q
        · rename_i ob o1 o2 vs o3 lo
          unfold fileB at q
          split at q
          · rename_i ov f tk hv
            have ef := of_decide_eq_true q
            subst ef
            exact ⟨_, vs, _, tk, lo, rfl, hv, hf⟩
          · cases q
        · cases q
    · cases c5
theorem Says.sn {P : Program} {mg : Str → Option Value} {fs : List Ft} {ds : List Dn} {K : PySem.W.Frag} (c : Says fs ds K) (i : Nat) {d : Dn} {x file : Str} (hf : ((P.main.file : Str) == file) = true) (ht : (P.main.scope.names.lookup ("super" : Str)).isSome = false) (hm : mg "super" = none) (h : ds[i]? = some d := by rfl) (hs : d.sup = some (x, file) := by rfl) :
    ∃ fd, SuD P K mg d.name d.qual d.params d.body d.scope (He.ga K x) (d.at_.ad K) fd := by
  have c1 := Bool.and_eq_true_iff.mp (congrArg Prod.fst c)
  have c2 : (ds.map fun d => d.img K)[i]? = (ds.map Dn.want)[i]? := congrArg (·[i]?) (congrArg Prod.snd c)
  rw [List.getElem?_map, List.getElem?_map, h] at c2
  exact Dn.suD hs hf ht hm (Option.some.inj c2) (List.all_eq_true.mp c1.2 d (List.mem_of_getElem? h))
/-! ### classes -/
def oexB (x : Str) (K : PySem.W.Frag) : Bool := (match K.lookup (He.ga K x) with
  | some ⟨.type "type", _, .cls cd, sl⟩ => (match cd.mro, sl.toList with
    | .ref C' :: bm, [_, _, _, _, some (.builtin n), _] => C' == He.ga K x && (n == "ValueError.__new__" && (!cd.hasDel && (cd.hasDict && PySem.HandSPX.refsVE bm)))
    | _, _ => false)
  | _ => false) && (He.eqO (PySem.W.findIn K (.ref (He.ga K x)) "__setattr__") (some (some (.builtin "object.__setattr__"))) && (decide (PySem.W.subIn K (.ref (He.ga K x)) (.type "BaseException") = some true) && (decide (PySem.W.typeIn K (.ref (He.ga K x)) = some (.type "type")) && PySem.W.keepIn K (.ref (He.ga K x)))))
theorem oexB_ok {x : Str} {K : PySem.W.Frag} (h : oexB x K = true) : OexC K (He.ga K x) := by
  have h1 := Bool.and_eq_true_iff.mp h
  have h2 := Bool.and_eq_true_iff.mp h1.2
  have h3 := Bool.and_eq_true_iff.mp h2.2
  have h4 := Bool.and_eq_true_iff.mp h3.2
  refine ⟨?_, He.eqO_ok h2.1, of_decide_eq_true h3.1, of_decide_eq_true h4.1, h4.2⟩
  have q := h1.1
  split at q
  · rename_i dd cd sl ho
    split at q
    · rename_i C' bm k0 k1 k2 k3 n k5 hm hs
      have q1 := Bool.and_eq_true_iff.mp q
      have q2 := Bool.and_eq_true_iff.mp q1.2
      have q3 := Bool.and_eq_true_iff.mp q2.2
      have q4 := Bool.and_eq_true_iff.mp q3.2
      have e1 := beq_iff_eq.mp q1.1
      have e2 := beq_iff_eq.mp q2.1
      obtain ⟨nm, bs, mro, ns, qn, hd, sn, sub, ab, col, del⟩ := cd
      have e3 : del = false := by simpa using q3.1
      have e4 : hd = true := q4.1
      have e5 : mro = .ref C' :: bm := hm
      have e6 : sl = #[k0, k1, k2, k3, some (.builtin n), k5] := by
        obtain ⟨l⟩ := sl
        have : l = [k0, k1, k2, k3, some (.builtin n), k5] := hs
        rw [this]
      subst e2 e3 e4 e5 e6
      rw [e1] at ho
      exact ⟨nm, qn, ns, bs, bm, sn, sub, ab, col, dd, k0, k1, k2, k3, k5, ho, q4.2⟩
    · cases q
  · cases q
/-- the class x whose __init__ is y's -/
def supcB (x y : Str) (K : PySem.W.Frag) : Bool := oexB x K && (decide (PySem.W.mroIn K (He.ga K x) (.ref (He.ga K y)) = some true) && (He.eqO (PySem.W.ks_superIn K (He.ga K x) (He.ga K y) "__init__") (some (some (.builtin "ValueError.__init__"))) &&
  (decide (PySem.W.subIn K (.ref (He.ga K x)) (.type "ValueError") = some true) && He.eqO (PySem.W.nsIn K cStatics "thirdparty.any") (some none))))
theorem supcB_ok {x y : Str} {K : PySem.W.Frag} (h : supcB x y K = true) : SupC K (He.ga K x) (He.ga K y) := by
  have h1 := Bool.and_eq_true_iff.mp h
  have h2 := Bool.and_eq_true_iff.mp h1.2
  have h3 := Bool.and_eq_true_iff.mp h2.2
  have h4 := Bool.and_eq_true_iff.mp h3.2
  exact ⟨oexB_ok h1.1, of_decide_eq_true h2.1, He.eqO_ok h3.1, of_decide_eq_true h4.1, He.eqO_ok h4.2⟩
def xinB (x y : Str) (K : PySem.W.Frag) : Bool := He.eqO (PySem.W.findIn K (.ref (He.ga K x)) "__init__") (some (some (.ref (Pth.ad K (.m y "__init__"))))) && decide (PySem.W.typeIn K (.ref (Pth.ad K (.m y "__init__"))) = some (.type "function"))
theorem xinB_ok {x y : Str} {K : PySem.W.Frag} (h : xinB x y K = true) : PySem.W.findIn K (.ref (He.ga K x)) "__init__" = some (some (.ref (Pth.ad K (.m y "__init__")))) ∧ PySem.W.typeIn K (.ref (Pth.ad K (.m y "__init__"))) = some (.type "function") := by
  have h1 := Bool.and_eq_true_iff.mp h
  exact ⟨He.eqO_ok h1.1, of_decide_eq_true h1.2⟩
def excB (x : Str) (K : PySem.W.Frag) : Bool := He.eqO (PySem.W.findIn K (.ref (He.ga K x)) "__getattribute__") (some (some (.builtin "BaseException.__getattribute__"))) && (He.eqO (PySem.W.findIn K (.ref (He.ga K x)) "__getattr__") (some none) &&
  (decide (PySem.W.subIn K (.ref (He.ga K x)) (.type "BaseException") = some true) && (PySem.W.hasDictIn K (He.ga K x) && (He.eqO (PySem.W.findIn K (.ref (He.ga K x)) "__class__") (some (some (.builtin "object.__class__"))) &&
  (He.eqO (PySem.W.specialIn K (.builtin "object.__class__") "__get__") (some (some (.builtin "getset_descriptor.__get__"))) && (decide (PySem.W.takesIn K (.builtin "object.__class__") = some true) && decide (PySem.W.mroIn K (He.ga K x) (.type "object") = some true)))))))
theorem excB_ok {x : Str} {K : PySem.W.Frag} (h : excB x K = true) : ExcC K (He.ga K x) := by
  have h1 := Bool.and_eq_true_iff.mp h
  have h2 := Bool.and_eq_true_iff.mp h1.2
  have h3 := Bool.and_eq_true_iff.mp h2.2
  have h4 := Bool.and_eq_true_iff.mp h3.2
  have h5 := Bool.and_eq_true_iff.mp h4.2
  have h6 := Bool.and_eq_true_iff.mp h5.2
  have h7 := Bool.and_eq_true_iff.mp h6.2
  exact ⟨He.eqO_ok h1.1, He.eqO_ok h2.1, of_decide_eq_true h3.1, h4.1, He.eqO_ok h5.1, He.eqO_ok h6.1, of_decide_eq_true h7.1, of_decide_eq_true h7.2⟩
def kitB (x : Str) (c : PySem.W.Frag → Value) (b : Bool) (K : PySem.W.Frag) : Bool := decide (PySem.W.kitOne K (.ref (He.ga K x)) (c K) = some b)
def exmB (x : Str) (c : PySem.W.Frag → Value) (b : Bool) (K : PySem.W.Frag) : Bool := decide (PySem.W.exmOne K (.ref (He.ga K x)) (c K) = some b)
def noB (x f : Str) (K : PySem.W.Frag) : Bool := He.eqO (PySem.W.findIn K (.ref (He.ga K x)) f) (some none)
def xfacB (x : Str) (K : PySem.W.Frag) : Bool := xfB K (He.ga K x)
def xtB (x : Str) (K : PySem.W.Frag) : Bool := PySem.W.excIn K (He.ga K x) He.veBase "ValueError.__new__" && (PySem.W.keepIn K (.ref (He.ga K x)) && (decide (PySem.W.subIn K (.ref (He.ga K x)) (.type "BaseException") = some true) && decide (PySem.W.typeIn K (.ref (He.ga K x)) = some (.type "type"))))
theorem xtB_ok {M : Wd} {Γ : Gm} {x : Str} {c : Nat} (hC : (Γ.X c).C = He.ga M.K x) (hm : M.mg x = some (.ref (He.ga M.K x))) (h : xtB x M.K = true) : XtG M Γ x c := by
  have h1 := Bool.and_eq_true_iff.mp h
  have h2 := Bool.and_eq_true_iff.mp h1.2
  have h3 := Bool.and_eq_true_iff.mp h2.2
  exact ⟨by rw [hC]; exact h1.1, by rw [hC]; exact h2.1, by rw [hC]; exact of_decide_eq_true h3.1, by rw [hC]; exact of_decide_eq_true h3.2, by rw [hC]; exact hm⟩
end SwH

/-! The data layer, 34: evaluation of the readings about exceptions. -/
namespace Sw
open PySem L2
section
variable (c n i : Nat) (u : TAD) (D : DEnds) (ρ : DEnv) (b : TSD) (hd : Nat → Option Bool) (su : Exn → TSD) (ms : List Bool) (dsp : DSp) (E : DEx) (Q : DEnv → Pl → Prop)
def kRa (ρ1 : DEnv) (ps : List Pl) : Prop := match intsD (datL ρ1 ps) with
  | some is => is.length = n ∧ (∀ i ∈ is, Txt i) ∧ D.ex ⟨c, (is.map Dat.int).reverse⟩ ρ1
  | none => False
theorem e_sRaise : sRaise c n u D ρ = u D.ex ρ (kRa c n D) := rfl
theorem intsD0 : intsD (some []) = some [] := by unfold intsD; rfl
theorem intsD1 (a : Int) : intsD (some [.int a]) = some [a] := by unfold intsD; rw [intsD0]
theorem intsD2 (a d : Int) : intsD (some [.int a, .int d]) = some [a, d] := by unfold intsD; rw [intsD1]
theorem revI1 (a : Int) : (([a] : List Int).map Dat.int).reverse = [.int a] := rfl
theorem revI2 (a d : Int) : (([a, d] : List Int).map Dat.int).reverse = [.int d, .int a] := rfl
theorem allI1 (a : Int) (P : Int → Prop) : (∀ i ∈ ([a] : List Int), P i) ↔ P a := by simp
theorem allI2 (a d : Int) (P : Int → Prop) : (∀ i ∈ ([a, d] : List Int), P i) ↔ (P a ∧ P d) := by simp
theorem e_sTry : sTry b i hd su D ρ = b { D with ex := tEx i hd su D } ρ := rfl
def kFnC (ρ1 : DEnv) (ps : List Pl) : Prop := match argL ρ1 ms ps with
  | some ds => dsp ds (kv Q ρ1) kF
  | none => False
theorem e_pFnC : pFnC ms dsp u E ρ Q = u E ρ (kFnC ms dsp Q) := rfl
theorem look_nil {α : Type} (k : Nat) : look ([] : List (Nat × α)) k = none := rfl
theorem look_cons {α : Type} (j : Nat) (a : α) (r : List (Nat × α)) (k : Nat) : look ((j, a) :: r) k = if k = j then some a else look r k := rfl
end
end Sw

/-! The data layer, 35: a list of one's own is lent to an expression that only reads it. -/
namespace Sw
open PySem L2
mutual
/-- no list in it -/
def noL : Dat → Bool
  | .non | .bl _ | .int _ | .str _ | .ty _ | .cls _ | .set _ => true
  | .tup xs | .obj _ xs => noLL xs
  | .lst _ | .scr _ | .ext _ _ => false
def noLL : List Dat → Bool
  | [] => true
  | x :: xs => noL x && noLL xs
end
/-- k levels of lists -/
def lstK : Nat → Dat → Bool
  | 0, _ => true
  | k + 1, .lst ds => ds.all (lstK k)
  | _ + 1, _ => false
section
variable {T : Tb} {K : PySem.W.Frag} {S H : Hp} {f : List Addr}
/-- without the addresses f -/
def less (S : Hp) (f : List Addr) : Hp := fun a => if a ∈ f then none else S a
def plus (S H : Hp) (f : List Addr) : Hp := fun a => if a ∈ f then H a else S a
theorem less_in {a : Addr} (h : a ∈ f) : less S f a = none := if_pos h
theorem less_out {a : Addr} (h : a ∉ f) : less S f a = S a := if_neg h
theorem plus_in {a : Addr} (h : a ∈ f) : plus S H f a = H a := if_pos h
theorem plus_out {a : Addr} (h : a ∉ f) : plus S H f a = S a := if_neg h
theorem less_at {a : Addr} {o : HO} (hf : ∀ p ∈ f, ∃ vs, S p = some (.lst vs)) (h : S a = some o) (n : ∀ vs, o ≠ .lst vs) : less S f a = some o := by
  by_cases q : a ∈ f
  · obtain ⟨vs, e⟩ := hf a q
    rw [h] at e
    exact absurd (Option.some.inj e) (n vs)
  · rw [less_out q]; exact h
theorem less_tup {a : Addr} {vs : List V} (hf : ∀ p ∈ f, ∃ vs, S p = some (.lst vs)) (h : SqT K S a vs) : SqT K (less S f) a vs := by
  rcases h with (h | ⟨o, h⟩) | h
  · exact .inl (.inl (less_at hf h fun _ z => by cases z))
  · exact .inl (.inr ⟨o, less_at hf h fun _ z => by cases z⟩)
  · exact .inr h
mutual
theorem Is.thin (hf : ∀ p ∈ f, ∃ vs, S p = some (.lst vs)) : ∀ {v d}, Is T K S v d → noL d = true → Is T K (less S f) v d
  | _, _, .non, _ => .non
  | _, _, .bl, _ => .bl
  | _, _, .int, _ => .int
  | _, _, .str, _ => .str
  | _, _, .ty, _ => .ty
  | _, _, .tup h l, n => .tup (less_tup hf h) (IsL.thin hf l (by unfold noL at n; exact n))
  | _, _, .lst _ _, n => by unfold noL at n; cases n
  | _, _, .scr _, n => by unfold noL at n; cases n
  | _, _, .obj h z l, n => .obj (less_at hf h fun _ z => by cases z) z (IsL.thin hf l (by unfold noL at n; exact n))
  | _, _, .set h d, _ => .set (less_at hf h fun _ z => by unfold setH at z; cases z) d
  | _, _, .cls, _ => .cls
  | _, _, .ext _ _, n => by unfold noL at n; cases n
theorem IsL.thin (hf : ∀ p ∈ f, ∃ vs, S p = some (.lst vs)) : ∀ {vs ds}, IsL T K S vs ds → noLL ds = true → IsL T K (less S f) vs ds
  | _, _, .nil, _ => .nil
  | _, _, .cons h l, n => by
    unfold noLL at n
    exact .cons (Is.thin hf h (Bool.and_eq_true_iff.mp n).1) (IsL.thin hf l (Bool.and_eq_true_iff.mp n).2)
end
mutual
theorem Own.lsts : ∀ {k v d f}, Own T K S H k v d f → lstK k d = true → ∀ p ∈ f, ∃ vs, H p = some (.lst vs)
  | _, _, _, _, .s _, _, _, hp => by cases hp
  | _, _, _, _, .l h _ l, e, p, hp => by
    unfold lstK at e
    rcases List.mem_cons.mp hp with q | hp
    · rw [q]; exact ⟨_, h⟩
    · exact OwnL.lsts l e p hp
  | _, _, _, _, .set _ _ _, e, _, _ => by unfold lstK at e; cases e
  | _, _, _, _, .ext _ _ _, e, _, _ => by unfold lstK at e; cases e
  | _, _, _, _, .obj _ _ _ _, e, _, _ => by unfold lstK at e; cases e
theorem OwnL.lsts : ∀ {k vs ds f}, OwnL T K S H k vs ds f → ds.all (lstK k) = true → ∀ p ∈ f, ∃ vs, H p = some (.lst vs)
  | _, _, _, _, .nil, _, _, hp => by cases hp
  | _, _, _, _, .cons h l, e, p, hp => by
    rw [List.all_cons] at e
    exact (List.mem_append.mp hp).elim (Own.lsts h (Bool.and_eq_true_iff.mp e).1 p) (OwnL.lsts l (Bool.and_eq_true_iff.mp e).2 p)
end
end
section
variable {Γ : Gm} {S H : Hp} {L : Fx}
/-- what the first name holds becomes still, told -/
theorem Ok.frzX {k : Nat} {v : V} {d : Dat} (o : Ok Γ S H ((some v, some (.v k d)) :: L)) : ∃ f, Own Γ.T Γ.K S H k v d f ∧ (∀ p ∈ f, S p = none ∧ Γ.H0 p = none) ∧ Ex S (plus S H f) ∧ Ok Γ (plus S H f) H ((some v, some (.v 0 d)) :: L) := by
  obtain ⟨fs, s, n, z⟩ := o.sep
  cases s with
  | cons he hl =>
    rename_i f fs
    have he : Own Γ.T Γ.K S H k v d f := he
    rw [List.flatten_cons] at n z
    obtain ⟨n1, n2, n3⟩ := List.nodup_append.mp n
    have ex : Ex S (plus S H f) := fun a u h => by
      by_cases q : a ∈ f
      · rw [plus_in q]; exact o.ex a u h
      · rw [plus_out q]; exact h
    refine ⟨f, he, fun p hp => ⟨(he.own p hp).1, z p (List.mem_append_left _ hp)⟩, ex, o.ex0.trans ex, fun a u h => ?_, fun p u h k => ?_, [] :: fs, .cons (.s (he.frz ex fun p hp => plus_in hp)) ?_, ?_, fun p hp => ?_⟩
    · by_cases q : a ∈ f
      · rw [plus_in q] at h; exact h
      · rw [plus_out q] at h; exact o.ex a u h
    · have q : p ∉ f := fun q => by
        have := z p (List.mem_append_left _ q)
        rw [k] at this; cases this
      rw [plus_out q]
      exact o.fr p u h k
    · refine hl.mono ex (fun p u h k => ?_) fun p hp => ?_
      · have q : p ∉ f := fun q => by
          have := z p (List.mem_append_left _ q)
          rw [h] at this; cases this
        rw [plus_out q]
        exact ⟨k, Eq.refl _⟩
      · have q : p ∉ f := fun q => n3 p q p hp rfl
        rw [plus_out q]
        exact ⟨(hl.own p hp).1, Eq.refl _⟩
    · rw [List.flatten_cons]; exact n2
    · rw [List.flatten_cons] at hp
      exact z p (List.mem_append_right _ hp)
def lendS : Option Sl → Option Sl
  | some (.v 0 d) => some (.v 0 d)
  | some (.v 1 d) => some (.b d)
  | some (.b d) => some (.b d)
  | _ => none
/-- all of the frame is lent: read alone -/
theorem Ok.lend (o : Ok Γ S H L) : Ok (Γ.in_ S H) S H (L.map fun e => (e.1, lendS e.2)) := by
  obtain ⟨fs, s, n0, z0⟩ := o.sep
  clear n0 z0
  have key : ∃ gs : List (List Addr), Sep (Γ.in_ S H) S H (L.map fun e => (e.1, lendS e.2)) gs ∧ gs.flatten = [] := by
    clear o
    induction s with
    | nil => exact ⟨[], .nil, rfl⟩
    | @cons e f L fs he hl ih =>
      obtain ⟨gs, s, z⟩ := ih
      refine ⟨[] :: gs, .cons ?_ s, by rw [List.flatten_cons, z]; rfl⟩
      obtain ⟨ov, os⟩ := e
      cases os with
      | none => rfl
      | some sl =>
        cases ov with
        | none => cases sl <;> exact he.elim
        | some v =>
          cases sl with
          | b d =>
            obtain ⟨_, k, g, h1, h2, h3⟩ := he
            exact ⟨rfl, k, g, h1, h2, fun p hp => (h2.own p hp).2⟩
          | v k d =>
            have he : Own Γ.T Γ.K S H k v d f := he
            match k, he with
            | 0, he =>
              cases he with
              | s h => exact .s h
            | 1, he => exact ⟨rfl, 1, f, Nat.le_refl _, he, fun p hp => (he.own p hp).2⟩
            | _ + 2, _ => rfl
  obtain ⟨gs, s', z⟩ := key
  exact ⟨fun _ _ h => h, o.ex, fun _ _ h1 h2 => ⟨h1, h2⟩, gs, s', by rw [z]; exact List.nodup_nil, fun p hp => by rw [z] at hp; cases hp⟩
end
def lendE (ρ : DEnv) (i : Nat) (d : Dat) : DEnv := (ρ.set i (some (.v 0 d))).map lendS
def okR : Nat → Dat → Bool
  | 0, d => noL d
  | 1, .lst ds => noLL ds
  | _, _ => false
def kLend (ρ : DEnv) (Q : DEnv → Pl → Prop) (_ : DEnv) (p : Pl) : Prop := match p with
  | .t (.v k d) => okR k d = true ∧ Q ρ (.t (.v k d))
  | _ => False
/-- slot i is lent: nothing else of the frame changes either -/
def pLend (i : Nat) (t : TPD) : TPD := fun _ ρ Q => match ρ[i]? with
  | some (some (.v k d)) => lstK k d = true ∧ t noEx (lendE ρ i d) (kLend ρ Q)
  | _ => False
section
variable {Γ : Gm} {X : Cx} {W : WX} {e : Expr} {t : TPD}
theorem dp_lend {i : Nat} (h : ∀ S1 H1, DP (Γ.in_ S1 H1) X W e t) : DP Γ X W e (pLend i t) := by
  have h' := fun S1 H1 => (h S1 H1).run
  refine ⟨fun σ H Q => ∃ S1 H1, Classical.choose (h' S1 H1) σ H Q, ⟨fun pins s σ H Q I q => ?_⟩, fun S H σ ρ F E Q Qh o l q kk => ?_⟩
  · obtain ⟨S1, H1, q⟩ := q
    exact (Classical.choose_spec (h' S1 H1)).1.run pins s σ H Q I q
  unfold pLend at q
  split at q
  · rename_i k d r
    obtain ⟨hk, q⟩ := q
    have hi : i < σ.length := by
      have := (List.getElem?_eq_some_iff.mp r).1
      rw [o.len]; exact this
    cases hv : σ[i]? with
    | none => rw [List.getElem?_eq_none_iff] at hv; omega
    | some ov =>
      obtain ⟨A, B, e1, e2, _⟩ := zip_at hv r
      cases ov with
      | none =>
        obtain ⟨fs, s, _⟩ := o.ok.sep
        rw [e1, List.append_assoc] at s
        exact (sep_no s).elim
      | some v0 =>
        have o1 := o.ok
        rw [e1, List.append_assoc, List.cons_append] at o1
        obtain ⟨f, ow, fr0, ex1, o2⟩ := (o1.perm List.perm_middle).frzX
        have lst : ∀ p ∈ f, ∃ vs, H p = some (.lst vs) := ow.lsts hk
        -- the frame, lent
        have o3 : Ok Γ (plus S H f) H (σ.zip (ρ.set i (some (.v 0 d)))) := by
          rw [e2]
          refine (o2.perm List.perm_middle.symm).sub ?_
          rw [← List.cons_append, ← List.append_assoc]
          exact List.sublist_append_left _ _
        have o4 := o3.lend
        have o5 : StOk (Γ.in_ (plus S H f) H) (plus S H f) H σ (lendE ρ i d) [] := by
          refine ⟨by unfold lendE; rw [List.length_map, List.length_set]; exact o.len, ?_, fun j w z => by cases z⟩
          unfold lendE
          rw [List.append_nil, List.zip_map_right]
          exact o4
        refine ⟨plus S H f, H, (Classical.choose_spec (h' (plus S H f) H)).2 (plus S H f) H σ _ [] noEx _ Qh o5 (fun _ _ _ _ _ _ _ _ _ z => z.elim) q fun v S2 H2 ρ2 p hp o6 q2 => ?_⟩
        unfold kLend at q2
        split at q2
        · rename_i k' d'
          obtain ⟨hr, q2⟩ := q2
          have ex0 := o6.ok.ex0
          have ex2 := o6.ok.ex
          have lst2 : ∀ p ∈ f, ∃ vs, S2 p = some (.lst vs) := fun p hp => by
            obtain ⟨vs, e⟩ := lst p hp
            exact ⟨vs, ex0 p _ (by show plus S H f p = _; rw [plus_in hp]; exact e)⟩
          have stp : Stp S H (less S2 f) H2 := by
            refine ⟨fun p u h => ?_, fun p u h => ?_, fun p u h1 h2 => ?_⟩
            · have q : p ∉ f := fun q => by rw [(fr0 p q).1] at h; cases h
              rw [less_out q]; exact ex0 p u (ex1 p u h)
            · by_cases q : p ∈ f
              · rw [less_in q] at h; cases h
              · rw [less_out q] at h; exact ex2 p u h
            · by_cases q : p ∈ f
              · refine ⟨less_in q, ?_⟩
                exact ex2 p u (ex0 p u (by show plus S H f p = _; rw [plus_in q]; exact h2))
              · have h3 := o6.ok.fr p u (show plus S H f p = none by rw [plus_out q]; exact h1) h2
                exact ⟨by rw [less_out q]; exact h3.1, h3.2⟩
          have o7 : Ok (Γ.in_ (plus S H f) H) S2 H2 ((some v, some (.v k' d')) :: σ.zip ρ2) := by
            have := o6.ok.perm (L' := (some v, some (.v k' d')) :: σ.zip ρ2) (by
              have := @List.perm_middle _ (some v, some (Sl.v k' d')) (σ.zip ρ2) []
              rw [List.append_nil] at this; exact this)
            exact this
          obtain ⟨gs, s2, nd, z⟩ := o7.sep
          cases s2 with
          | @cons _ g _ gs' he hl =>
            rw [List.flatten_cons] at nd z
            have he : Own Γ.T Γ.K S2 H2 k' v d' g := he
            have ow2 : Own Γ.T Γ.K (less S2 f) H2 k' v d' g := by
              match k', he, hr with
              | 0, .s h, hr => exact .s (h.thin lst2 (by unfold okR at hr; exact hr))
              | 1, .l h1 h2 h3, hr =>
                obtain ⟨il, rfl⟩ := h3.is0
                unfold okR at hr
                refine .l h1 ?_ (.of0 (il.thin lst2 hr))
                unfold less
                split
                · rfl
                · exact h2
              | 1, .set _ _ _, hr => unfold okR at hr; cases hr
              | 1, .ext _ _ _, hr => unfold okR at hr; cases hr
              | 1, .obj _ _ _ _, hr => unfold okR at hr; cases hr
              | n + 2, .l _ _ _, hr => unfold okR at hr; cases hr
              | n + 2, .ext _ _ _, hr => unfold okR at hr; cases hr
              | n + 2, .obj _ _ _ _, hr => unfold okR at hr; cases hr
            exact kk v _ H2 ρ (.t (.v k' d')) trivial (o.push stp ow2 (List.nodup_append.mp nd).1 fun p hp => z p (List.mem_append_left _ hp)) q2
        · exact q2.elim
  · exact q.elim
end
end Sw

/-! The data layer, 36: lists of lists of one's own: made, written; walks that leave the list its owner's. -/
namespace Sw
open PySem L2
/-! ### a display of things of one's own -/
def owL (k : Nat) : List Pl → Option (List Dat)
  | [] => some []
  | .t (.v j d) :: ps => if j = k then (match owL k ps with
    | some ds => some (d :: ds)
    | none => none) else none
  | _ :: _ => none
section
variable {Γ : Gm} {S H : Hp}
theorem sep_ow {k : Nat} : ∀ {ps : List Pl} {vs : List V} {ds : List Dat} {L : Fx} {fs : List (List Addr)}, vs.length = ps.length → owL k ps = some ds → Sep Γ S H (tmps vs ps ++ L) fs →
    ∃ g fs', OwnL Γ.T Γ.K S H k vs ds g ∧ Sep Γ S H L fs' ∧ fs.flatten.Perm (g ++ fs'.flatten)
  | [], [], ds, L, fs, _, e, s => by
    cases e
    exact ⟨[], fs, .nil, s, .refl _⟩
  | [], _ :: _, _, _, _, h, _, _ => by cases h
  | _ :: _, [], _, _, _, h, _, _ => by cases h
  | p :: ps, v :: vs, ds, L, fs, hl, e, s => by
    cases p with
    | s i => cases e
    | t sl =>
      cases sl with
      | b d => cases e
      | v j d =>
        unfold owL at e
        split at e
        · rename_i hj
          split at e
          · rename_i ds' e2
            cases e
            have s' : Sep Γ S H (tmps vs ps ++ ((some v, some (.v j d)) :: L)) fs := by
              have q : tmps (v :: vs) (.t (.v j d) :: ps) ++ L = tmps vs ps ++ ((some v, some (.v j d)) :: L) := by
                show (tmps vs ps ++ [(some v, some (Sl.v j d))]) ++ L = _
                rw [List.append_assoc]; rfl
              rw [← q]; exact s
            obtain ⟨g, fs', ol, s2, pm⟩ := sep_ow (by simpa using hl) e2 s'
            cases s2 with
            | @cons _ f _ fs2 he hs =>
              have he : Own Γ.T Γ.K S H j v d f := he
              subst hj
              refine ⟨f ++ g, fs2, .cons he ol, hs, pm.trans ?_⟩
              rw [List.flatten_cons, ← List.append_assoc, List.append_assoc, List.append_assoc]
              exact List.perm_append_comm_assoc _ _ _
          · cases e
        · cases e
def kLO (k : Nat) (Q : DEnv → Pl → Prop) (ρ1 : DEnv) (ps : List Pl) : Prop := match owL k ps with
  | some ds => ds.length ≤ 16777216 ∧ Q ρ1 (.t (.v (k + 1) (.lst ds)))
  | none => False
def pLstO (k : Nat) (u : TAD) : TPD := fun E ρ Q => u E ρ (kLO k Q)
theorem ats_len {σ : L2.St} : ∀ {vs : List V} {ps : List Pl}, Ats σ vs ps → vs.length = ps.length
  | _, _, .nil => Eq.refl _
  | _, _, .cons _ r => by rw [List.length_cons, List.length_cons, ats_len r]
theorem StOk.pack {σ : L2.St} {ρ : DEnv} {F : Fx} {k : Nat} {ps : List Pl} {vs : List V} {ds : List Dat} {a : Addr} (o : StOk Γ S H σ ρ (tmps vs ps ++ F)) (hl : vs.length = ps.length) (e : owL k ps = some ds) (n : H a = none) :
    StOk Γ S (upd H a (.lst vs)) σ ρ ((some (.ref a), some (.v (k + 1) (.lst ds))) :: F) := by
  have stp := Stp.newOwn (o := HO.lst vs) o.ok.ex n
  have ok := (o.ok.step stp).perm (L' := tmps vs ps ++ (σ.zip ρ ++ F)) (by
    rw [← List.append_assoc, ← List.append_assoc]
    exact List.perm_append_comm.append_right _)
  have ok0 := o.ok.perm (L' := tmps vs ps ++ (σ.zip ρ ++ F)) (by
    rw [← List.append_assoc, ← List.append_assoc]
    exact List.perm_append_comm.append_right _)
  obtain ⟨fs0, s0, n0, z0⟩ := ok0.sep
  -- the entries at the old heap; then moved on
  have s := s0.mono (S' := S) (H' := upd H a (.lst vs)) (fun _ _ h => h) (fun p u h k => ⟨k, by
    have : p ≠ a := fun e => by
      subst e
      cases q : Γ.S0 p with
      | some w =>
        have := ok0.ex p w (ok0.ex0 p w q)
        rw [n] at this; cases this
      | none =>
        have := (ok0.fr p u q h).2
        rw [n] at this; cases this
    rw [upd_ne this]⟩) (fun p hp => ⟨(s0.own p hp).1, by
      obtain ⟨u, hu⟩ := (s0.own p hp).2
      rw [upd_ne (ne_of_none hu n)]⟩)
  obtain ⟨g, fs', ol, s2, pm⟩ := sep_ow hl e s
  have nd := pm.nodup_iff.mp n0
  have zz : ∀ p ∈ g ++ fs'.flatten, Γ.H0 p = none := fun p hp => z0 p (pm.mem_iff.mpr hp)
  have na : a ∉ fs0.flatten := fun h => by
    obtain ⟨u, hu⟩ := (s0.own a h).2
    rw [n] at hu; cases hu
  have na' : a ∉ g ++ fs'.flatten := fun h => na (pm.mem_iff.mpr h)
  have h0a : Γ.H0 a = none := by
    cases q : Γ.H0 a with
    | none => rfl
    | some u =>
      cases q2 : Γ.S0 a with
      | some w =>
        have := ok0.ex a w (ok0.ex0 a w q2)
        rw [n] at this; cases this
      | none =>
        have := (ok0.fr a u q2 q).2
        rw [n] at this; cases this
  refine ⟨o.len, ?_, o.me⟩
  refine Ok.perm (L := (some (.ref a), some (.v (k + 1) (.lst ds))) :: (σ.zip ρ ++ F)) ⟨ok.ex0, ok.ex, ok.fr, (a :: g) :: fs', .cons (.l upd_same (o.ok.ex.none n) ol) s2, ?_, fun p hp => ?_⟩ List.perm_middle.symm
  · rw [List.flatten_cons, List.cons_append]
    exact List.nodup_cons.mpr ⟨na', nd⟩
  · rw [List.flatten_cons, List.cons_append] at hp
    rcases List.mem_cons.mp hp with e | hp
    · rw [e]; exact h0a
    · exact zz p hp
variable {X : Cx} {W : WX} {e a b : Expr} {es : List Expr} {pos : Pos} {ta tb : TPD} {u : TAD}
theorem owL_len {k : Nat} : ∀ {ps : List Pl} {ds : List Dat}, owL k ps = some ds → ds.length = ps.length
  | [], ds, e => by cases e; rfl
  | .s _ :: _, _, e => by cases e
  | .t (.b _) :: _, _, e => by cases e
  | .t (.v j d) :: ps, ds, e => by
    unfold owL at e
    split at e
    · split at e
      · rename_i ds' e2
        cases e
        rw [List.length_cons, List.length_cons, owL_len e2]
      · cases e
    · cases e
theorem dp_lstO {k : Nat} (h : DA Γ X W es u) : DP Γ X W (.List es pos) (pLstO k u) :=
  let ⟨_, p, q⟩ := h.run
  ⟨_, pe_lst p, fun S H σ ρ F E Q Qh o l x kk => q S H σ ρ F E _ _ o l x fun vs S' H' ρ' ps hp o' x' => by
    unfold kLO at x'
    split at x'
    · rename_i ds ed
      have hl := ats_len hp
      refine ⟨sz (by rw [hl, ← owL_len ed]; exact x'.1), fun z n => ?_⟩
      exact kk _ S' _ ρ' (.t (.v (k + 1) (.lst ds))) trivial (o'.pack hl ed n) x'.2
    · exact x'.elim⟩
/-! ### writes along a path -/
def stepH (H : Hp) (v : V) (j : Nat) : Option V := match v with
  | .ref a => (match H a with
    | some (.lst vs) => vs[j]?
    | _ => none)
  | _ => none
def nav (H : Hp) : V → List Nat → Option V
  | v, [] => some v
  | v, j :: js => (stepH H v j).bind fun w => nav H w js
def getP : List Nat → Dat → Option (List Dat)
  | [], .lst ds => some ds
  | j :: js, .lst ds => (ds[j]?).bind (getP js)
  | _, _ => none
def putP : List Nat → Dat → List Dat → Dat
  | [], .lst _, ds' => .lst ds'
  | j :: js, .lst ds, ds' => (match ds[j]? with
    | some d => .lst (ds.set j (putP js d ds'))
    | none => .lst ds)
  | _, d, _ => d
theorem OwnL.at {T : Tb} {K : PySem.W.Frag} {k : Nat} : ∀ {vs ds f} {j : Nat} {d : Dat}, OwnL T K S H k vs ds f → ds[j]? = some d →
    ∃ v f1 g f2, vs[j]? = some v ∧ Own T K S H k v d g ∧ f = f1 ++ (g ++ f2) ∧ ∀ (S' H' : Hp) (d' : Dat), (∀ p ∈ f1 ++ f2, S' p = S p ∧ H' p = H p) → Ex S S' → Own T K S' H' k v d' g → OwnL T K S' H' k vs (ds.set j d') f
  | _, _, _, _, _, .nil, e => by simp at e
  | _, _, _, 0, d, @OwnL.cons _ _ _ _ _ v d0 vs ds f g h l, e => by
    have e' : d0 = d := by simpa using e
    subst e'
    refine ⟨v, [], f, g, rfl, h, rfl, fun S' H' d' hs ex ow => ?_⟩
    exact .cons ow (l.mono ex fun p hp => ⟨(hs p hp).1.trans (l.own p hp).1, (hs p hp).2⟩)
  | _, _, _, j + 1, d, @OwnL.cons _ _ _ _ _ v0 d0 vs ds f0 g0 h l, e => by
    obtain ⟨v, f1, g, f2, hv, ow, rfl, k⟩ := l.at (j := j) (d := d) (by simpa using e)
    refine ⟨v, f0 ++ f1, g, f2, by simpa using hv, ow, by rw [List.append_assoc], fun S' H' d' hs ex ow' => ?_⟩
    refine .cons (h.mono ex fun p hp => ?_) (k S' H' d' (fun p hp => hs p ?_) ex ow')
    · have hp' : p ∈ f0 ++ f1 ++ f2 := List.mem_append_left _ (List.mem_append_left _ hp)
      exact ⟨(hs p hp').1.trans (h.own p hp).1, (hs p hp').2⟩
    · rw [List.append_assoc]; exact List.mem_append_right _ hp
theorem Own.path {T : Tb} {K : PySem.W.Frag} : ∀ (js : List Nat) {v : V} {d : Dat} {f : List Addr} {ds0 : List Dat}, Own T K S H (js.length + 1) v d f → f.Nodup → getP js d = some ds0 →
    ∃ p vs, p ∈ f ∧ nav H v js = some (.ref p) ∧ H p = some (.lst vs) ∧ S p = none ∧ IsL T K S vs ds0 ∧ ∀ vs' ds', IsL T K S vs' ds' → Own T K S (upd H p (.lst vs')) (js.length + 1) v (putP js d ds') f
  | [], v, d, f, ds0, ow, nd, g => by
    have ow : Own T K S H 1 v d f := ow
    cases ow with
    | @l _ p vs ds f0 h n l =>
      obtain ⟨il, rfl⟩ := l.is0
      cases g
      refine ⟨p, vs, List.mem_cons_self .., rfl, h, n, il, fun vs' ds' h' => ?_⟩
      exact .l upd_same n (.of0 h')
    | set _ _ _ => cases g
    | ext _ _ _ => cases g
    | obj _ _ _ _ => cases g
  | j :: js, v, d, f, ds0, ow, nd, g => by
    have ow : Own T K S H ((js.length + 1) + 1) v d f := ow
    cases ow with
    | @l _ p vs ds f0 h n l =>
      unfold getP at g
      cases ed : ds[j]? with
      | none => rw [ed] at g; cases g
      | some d1 =>
        rw [ed] at g
        have g : getP js d1 = some ds0 := g
        obtain ⟨v1, f1, g1, f2, hv, ow1, rfl, back⟩ := l.at ed
        obtain ⟨np, nd0⟩ := List.nodup_cons.mp nd
        obtain ⟨nd1, nd2, nd3⟩ := List.nodup_append.mp nd0
        obtain ⟨nd4, nd5, nd6⟩ := List.nodup_append.mp nd2
        obtain ⟨q, ws, hq, hn, hw, hS, il, k⟩ := Own.path js ow1 nd4 g
        have hqf : q ∈ f1 ++ (g1 ++ f2) := List.mem_append_right _ (List.mem_append_left _ hq)
        have qp : p ≠ q := fun e => np (e ▸ hqf)
        refine ⟨q, ws, List.mem_cons_of_mem _ hqf, ?_, hw, hS, il, fun vs' ds' h' => ?_⟩
        · show (stepH H (.ref p) j).bind _ = _
          have e1 : stepH H (.ref p) j = some v1 := by
            show (match H p with | some (.lst vs) => vs[j]? | _ => none) = _
            rw [h]; exact hv
          rw [e1]
          exact hn
        · have e2 : putP (j :: js) (.lst ds) ds' = .lst (ds.set j (putP js d1 ds')) := by
            show (match ds[j]? with | some d => Dat.lst (ds.set j (putP js d ds')) | none => Dat.lst ds) = _
            rw [ed]
          rw [e2]
          refine .l (by rw [upd_ne qp]; exact h) n (back S _ _ (fun a ha => ⟨Eq.refl _, ?_⟩) (fun _ _ h => h) (k vs' ds' h'))
          have : a ≠ q := fun e => by
            subst e
            rcases List.mem_append.mp ha with ha | ha
            · exact nd3 _ ha _ (List.mem_append_left _ hq) rfl
            · exact nd6 _ hq _ ha rfl
          rw [upd_ne this]
    | ext _ _ _ => cases g
    | obj _ _ _ _ => cases g
theorem StOk.path {σ : L2.St} {ρ : DEnv} {F : Fx} {i : Nat} {js : List Nat} {d : Dat} {ds0 : List Dat} (o : StOk Γ S H σ ρ F) (e : ρ[i]? = some (some (.v (js.length + 1) d))) (g : getP js d = some ds0) :
    ∃ v0 p vs, σ[i]? = some (some v0) ∧ nav H v0 js = some (.ref p) ∧ H p = some (.lst vs) ∧ S p = none ∧ IsL Γ.T Γ.K S vs ds0 ∧
      ∀ vs' ds', IsL Γ.T Γ.K S vs' ds' → StOk Γ S (upd H p (.lst vs')) σ (ρ.set i (some (.v (js.length + 1) (putP js d ds')))) F := by
  have hlen : i < σ.length := by rw [o.len]; exact (List.getElem?_eq_some_iff.mp e).1
  cases hv0 : σ[i]? with
  | none => rw [List.getElem?_eq_none_iff] at hv0; omega
  | some ov =>
    obtain ⟨A, B, e1, e2, _⟩ := zip_at hv0 e
    have ok := o.ok
    rw [e1, List.append_assoc, List.cons_append] at ok
    have ok2 := ok.perm List.perm_middle
    obtain ⟨gs, sep, nd, z⟩ := ok2.sep
    cases sep with
    | @cons _ f _ gs' he hl =>
      cases ov with
      | none => exact he.elim
      | some v0 =>
        have he : Own Γ.T Γ.K S H (js.length + 1) v0 d f := he
        rw [List.flatten_cons] at nd z
        obtain ⟨n1, n2, n3⟩ := List.nodup_append.mp nd
        obtain ⟨p, vs, hp, hn, hH, hS, il, k⟩ := Own.path js he n1 g
        have hz : Γ.H0 p = none := z p (List.mem_append_left _ hp)
        refine ⟨v0, p, vs, rfl, hn, hH, hS, il, fun vs' ds' h' => ⟨by rw [List.length_set]; exact o.len, ?_, o.me⟩⟩
        rw [e2, List.append_assoc, List.cons_append]
        refine Ok.perm (L := (some v0, some (.v (js.length + 1) (putP js d ds'))) :: (A ++ (B ++ F))) ⟨ok.ex0, fun a u q => ?_, fun a u q k => ?_, f :: gs', .cons (k vs' ds' h') ?_, by rw [List.flatten_cons]; exact nd, fun a ha => z a (by rw [List.flatten_cons] at ha; exact ha)⟩ List.perm_middle.symm
        · have e : a ≠ p := ne_of_none q hS
          rw [upd_ne e]; exact ok.ex a u q
        · have e : a ≠ p := fun e => by rw [e, hz] at k; cases k
          rw [upd_ne e]; exact ok.fr a u q k
        · refine hl.mono (fun _ _ h => h) (fun a u q k => ?_) fun a ha => ?_
          · have e : a ≠ p := fun e => by rw [e, hz] at q; cases q
            exact ⟨k, upd_ne e⟩
          · have e : a ≠ p := fun e => n3 p hp a ha e.symm
            exact ⟨(hl.own a ha).1, upd_ne e⟩
/-- xs[c][c].. as an expression: slot i's list along a path -/
inductive PathE (X : Cx) (i : Nat) : List Nat → Expr → TE → Prop
  | nil {e : Expr} : PE X e (tVar i) → PathE X i [] e (tVar i)
  | snoc {js : List Nat} {e : Expr} {t : TE} {p q : Pos} {m j : Nat} {c : Int} : PathE X i js e t → c = (j : Nat) → PathE X i (js ++ [j]) (.Subscript e (.Constant (.int c) m p) q) (tOp (rIx X.K) t (tC (.int c)))
theorem PathE.pe {i : Nat} {js : List Nat} {e : Expr} {t : TE} (h : PathE X i js e t) : PE X e t := by
  induction h with
  | nil h => exact h
  | snoc _ _ ih => exact pe_ix ix_seq ih pe_int (fun _ _ => rfl)
theorem nav_snoc (H : Hp) : ∀ (js : List Nat) (v : V) (j : Nat), nav H v (js ++ [j]) = (nav H v js).bind fun u => stepH H u j
  | [], v, j => by
    show (stepH H v j).bind (fun w => some w) = stepH H v j
    cases stepH H v j <;> rfl
  | c :: js, v, j => by
    show (stepH H v c).bind (fun w => nav H w (js ++ [j])) = ((stepH H v c).bind fun w => nav H w js).bind _
    cases stepH H v c with
    | none => rfl
    | some w => exact nav_snoc H js w j
theorem PathE.go {i : Nat} {js : List Nat} {e : Expr} {t : TE} (h : PathE X i js e t) {σ : L2.St} {v0 : V} (hv : σ[i]? = some (some v0)) : ∀ {w : V} {Q : VK}, nav H v0 js = some w → Q w H → t σ H Q := by
  induction h with
  | nil _ =>
    intro w Q n q
    have e : v0 = w := Option.some.inj n
    exact ⟨v0, hv, e ▸ q⟩
  | @snoc js e t p q m j c _ hc ih =>
    intro w Q n q
    rw [nav_snoc] at n
    cases hn : nav H v0 js with
    | none => rw [hn] at n; cases n
    | some u =>
      rw [hn] at n
      have n : stepH H u j = some w := n
      refine ih hn ?_
      cases u with
      | ref a =>
        have n : (match H a with | some (.lst vs) => vs[j]? | _ => none) = some w := n
        split at n
        · rename_i vs hH
          exact .inl ⟨a, vs, c, w, rfl, rfl, .of hH, by rw [hc]; exact atI_nat n, q⟩
        · cases n
      | _ => cases n
def kSP2 (i : Nat) (js : List Nat) (dv : Dat) (D : DEnds) (ρ3 : DEnv) (pj : Pl) : Prop := match (ρ3[i]? : Option (Option Sl)), pj.d ρ3 with
  | some (some (.v k d)), some (.int j) => k = js.length + 1 ∧ (match getP js d with
    | some ds0 => (match ixN ds0.length j with
      | some n => D.nx (ρ3.set i (some (.v k (putP js d (ds0.set n dv)))))
      | none => False)
    | none => False)
  | _, _ => False
def kSP1 (i : Nat) (js : List Nat) (tj : TPD) (D : DEnds) (ρ2 : DEnv) (p2 : Pl) : Prop := match p2 with
  | .t (.v 0 d) => tj D.ex ρ2 (kSP2 i js d D)
  | _ => False
def kSP0 (i : Nat) (js : List Nat) (tj : TPD) (D : DEnds) (ρ1 : DEnv) (p : Pl) : Prop := stillP ρ1 p (kSP1 i js tj D)
/-- xs[c].. [e] = v -/
def sSetP (i : Nat) (js : List Nat) (ta tj : TPD) : TSD := fun D ρ => ta D.ex ρ (kSP0 i js tj D)
theorem ds_setP {i : Nat} {js : List Nat} {eo : Expr} {t : TE} {ps : Pos} {tj : TPD} (hx : PathE X i js eo t) (hj : DPp Γ X W b tj) (hv : DP Γ X W e ta)
    (hs : swapsWithSole [.Subscript eo b ps] e pos.line X.env = pure false := by rfl) (hw : swappedStores [.Subscript eo b ps] e X.env = pure none := by rfl)
    (h1 : (assignEach [.Subscript eo b ps] X.env).map (·.2) = [assign (.Subscript eo b ps) X.env] := by rfl)
    (hasg : ∀ v, assign (.Subscript eo b ps) X.env v = (do
      let ov ← holding [v] (eval eo X.env)
      let iv ← holding [v, ov] (eval b X.env)
      standAt ps
      holding [v, ov, iv] (setItem ov iv v)
      release [v, ov, iv] []) := by intro _; rfl) :
    DS Γ X W (.Assign [.Subscript eo b ps] e pos) (sSetP i js ta tj) :=
  let ⟨_, p1, q1⟩ := hv.run; let ⟨_, p2, q2, u2⟩ := hj.run
  ⟨_, ps_asg p1 (pg_sub hx.pe p2 set_list hasg) hs hw h1, fun S H σ ρ F D Dh o1 l w x => q1 S H σ ρ F D.ex _ _ o1 w x fun v S' H' ρ' pl hp o' x' => by
    obtain ⟨S2, ρ2, d, o2, x2⟩ := still_ok o' hp x'
    have x2 : tj D.ex ρ2 (kSP2 i js d D) := x2
    have r := q2 S2 H' σ ρ2 _ D.ex _ (fun vi H3 => ∃ S3 ρ3 pj, pj.at_ σ vi ∧ StOk Γ S3 H3 σ ρ3 (pj.tmp vi ++ ((some v, some (.v 0 d)) :: F)) ∧ kSP2 i js d D ρ3 pj) o2 (w.more [_]) x2 fun vi S3 H3 ρ3 pj hpj o3 x3 => ⟨S3, ρ3, pj, hpj, o3, x3⟩
    obtain ⟨vi, ⟨S3, ρ3, pj, hpj, o3, x3⟩, back⟩ := u2 σ H' _ r
    unfold kSP2 at x3
    split at x3
    · rename_i k dl j e3 ej
      obtain ⟨rfl, x3⟩ := x3
      split at x3
      · rename_i ds0 eg
        split at x3
        · rename_i n hn
          have r3 : Rb Γ S3 H' vi (.int j) := o3.rb hpj (List.sublist_append_left _ _) ej
          have o4 : StOk Γ S3 H' σ ρ3 ((some v, some (.v 0 d)) :: F) := o3.sub (List.sublist_append_right _ _)
          obtain ⟨v0, a, vs, hv0, hnv, hH, hS, il, up⟩ := o4.drop.path e3 eg
          refine hx.go hv0 hnv (back _ ?_)
          refine ⟨a, vs, j, n, rfl, r3.int, hH, by rw [il.len]; exact hn, ?_⟩
          exact l.nx S3 _ σ _ (up _ _ (il.set (o4.isE (List.mem_cons_self ..)))) x3
        · exact x3.elim
      · exact x3.elim
    · exact x3.elim⟩
def kAP2 (i : Nat) (js : List Nat) (D : DEnds) (ρ2 : DEnv) (p2 : Pl) : Prop := match p2 with
  | .t (.v 0 dv) => (match (ρ2[i]? : Option (Option Sl)) with
    | some (some (.v k d)) => k = js.length + 1 ∧ (match getP js d with
      | some ds0 => ds0.length < 16777216 ∧ D.nx (ρ2.set i (some (.v k (putP js d (ds0 ++ [dv])))))
      | none => False)
    | _ => False)
  | _ => False
def kAP1 (i : Nat) (js : List Nat) (D : DEnds) (ρ1 : DEnv) (ps : List Pl) : Prop := match ps with
  | [p] => stillP ρ1 p (kAP2 i js D)
  | _ => False
/-- xs[c]...append(e), e a name or a constant -/
def sAppP (i : Nat) (js : List Nat) (tj : TPD) : TSD := fun D ρ => tj D.ex ρ fun ρ1 p => kAP1 i js D ρ1 [p]
theorem ds_appP {i : Nat} {js : List Nat} {eo : Expr} {t : TE} {apos cpos : Pos} {tj : TPD} (hx : PathE X i js eo t) (hj : DPp Γ X W e tj)
    (hs : swapsWith (.Call (.Attribute eo "append" apos) [e] [] cpos) none pos.line X.env = pure false := by rfl)
    (hbase : attributeBase eo "append" X.env (eval eo X.env) = eval eo X.env := by rfl)
    (hfew : ((backTo cpos (starEach [e] X.env)).all (fun x => !x.1) && (backToKw cpos (keywordEach [] X.env)).all (fun x => x.1.isSome)
      && decide (([e] : List Expr).length + ([] : List Keyword).length + (if ([] : List Keyword).isEmpty then 0 else 1) < 30)) = true := by rfl)
    (hline : (apos.endLine == cpos.line) = true := by rfl) (hst : starEach [e] X.env = (false, eval e X.env) :: starEach [] X.env := by rfl) :
    DS Γ X W (.Expr (.Call (.Attribute eo "append" apos) [e] [] cpos) pos) (sAppP i js tj) :=
  let ⟨_, p2, q2, u2⟩ := hj.run
  ⟨_, ps_expr (pe_bm PySem.F.plainAttrs_list PySem.F.slot_list_append PySem.F.type_list_append mt_append hx.pe (pa_cons p2 pa_nil hst) hbase hfew hline hst rfl) hs, fun S H σ ρ F D Dh o1 l w x => by
    have r := q2 S H σ ρ F D.ex _ (fun vi H3 => ∃ S3 ρ3 pj, pj.at_ σ vi ∧ StOk Γ S3 H3 σ ρ3 (pj.tmp vi ++ F) ∧ kAP1 i js D ρ3 [pj]) o1 w x fun vi S3 H3 ρ3 pj hpj o3 x3 => ⟨S3, ρ3, pj, hpj, o3, x3⟩
    obtain ⟨vi, ⟨S3, ρ3, pj, hpj, o3, x3⟩, back⟩ := u2 σ H _ r
    obtain ⟨S2, ρ2, d, o2, x2⟩ := still_ok o3 hpj (show stillP ρ3 pj (kAP2 i js D) from x3)
    unfold kAP2 at x2
    split at x2
    · rename_i dv ed
      cases ed
      split at x2
      · rename_i k dl e3
        obtain ⟨rfl, x2⟩ := x2
        split at x2
        · rename_i ds0 eg
          obtain ⟨v0, a, vs, hv0, hnv, hH, hS, il, up⟩ := o2.drop.path e3 eg
          refine hx.go hv0 hnv ⟨Or.inl ⟨rfl, vs, .inl (.inl hH)⟩, back _ ?_⟩
          refine ⟨a, vs, vi, rfl, rfl, hH, by rw [il.len]; exact x2.1, ?_⟩
          exact l.nx S2 _ σ _ (up _ _ (il.app (.cons (o2.isE (List.mem_cons_self ..)) .nil))) x2.2
        · exact x2.elim
      · exact x2.elim
    · exact x2.elim⟩
theorem pur_sub {x y : TE} {g : Int → Int → V} (hx : Pur x) (hy : Pur y) : Pur (tOp (rI0 g) x y) := fun σ H Q h => by
  obtain ⟨v, h1, k1⟩ := hx σ H _ h
  obtain ⟨w, h2, k2⟩ := hy σ H _ h1
  obtain ⟨i, j, e1, e2, q⟩ := h2
  exact ⟨_, q, fun Q' q' => k1 _ (k2 _ ⟨i, j, e1, e2, q'⟩)⟩
theorem dpp_sub (ha : DPp Γ X W a ta) (hb : DPp Γ X W b tb) : DPp Γ X W (.BinOp a .Sub b pos) (pOp oSub ta tb) :=
  let ⟨_, p1, q1, u1⟩ := ha.run; let ⟨_, p2, q2, u2⟩ := hb.run
  ⟨_, pe_op op_sub p1 p2, run_op br_sub q1 q2, pur_sub u1 u2⟩
/-! ### a borrowed list is walked -/
def idSeqB (i : Nat) : TID := fun _ ρ Q => match ρ[i]? with
  | some (some (.b (.lst ds))) => Q ρ ds
  | some (some (.v 0 (.lst ds))) => Q ρ ds
  | _ => False
theorem tgOf_none : True := trivial
theorem isl_zip {F : Fx} {σ : L2.St} {ρ : DEnv} : ∀ {vs ds} {i : Nat} {d : Dat}, vs.length = ds.length → StOk Γ S H σ ρ (zipE vs ds ++ F) → ds[i]? = some d → ∃ v, vs[i]? = some v ∧ Is Γ.T Γ.K S v d
  | [], [], i, d, _, _, e => by simp at e
  | v :: vs, d0 :: ds, 0, d, _, o, e => by
    have e' : d0 = d := by simpa using e
    exact ⟨v, rfl, e' ▸ o.isE (List.mem_append_left _ (List.mem_cons_self ..))⟩
  | v :: vs, d0 :: ds, i + 1, d, h, o, e => by
    obtain ⟨w, h1, h2⟩ := isl_zip (F := F) (vs := vs) (ds := ds) (i := i) (by simpa using h) o.drop (by simpa using e)
    exact ⟨w, by simpa using h1, h2⟩
  | [], _ :: _, _, _, h, _, _ => by simp at h
  | _ :: _, [], _, _, h, _, _ => by simp at h
theorem wlk_bor {a : Addr} {vs : List V} {ds : List Dat} (hl : vs.length = ds.length) (h0 : Γ.S0 a = none) (h1 : ∃ u, Γ.H0 a = some u) (hH : ∀ S H L, Ok Γ S H L → H a = some (.lst vs)) : Wlk Γ (Itl Γ.K a) ds (zipE vs ds) := by
  refine ⟨fun S H σ ρ G i o hi => ?_, fun S H σ ρ G i x H' d o y hd => ?_, fun S H σ ρ G o => ?_⟩
  · have e := hH S H _ o.ok
    have hv : i < vs.length := by rw [hl]; exact hi
    exact ⟨vs, vs[i], .of e, List.getElem?_eq_getElem hv⟩
  · have e := hH S H _ o.ok
    obtain ⟨rfl, y⟩ := y
    obtain ⟨v, hv, is⟩ := isl_zip hl o hd
    have z := y vs (.of e)
    rw [hv] at z
    cases z
    exact ⟨S, o.pushS is⟩
  · exact ⟨vs, .of (hH S H _ o.ok), Nat.le_of_eq hl⟩
theorem di_seqB {tg : Expr} {i : Nat} {x : Str} {p : Pos} (hx : PE X (.Name x p) (tVar i)) (hK : Γ.K = X.K := by rfl) : DI Γ X W tg (.Name x p) (idSeqB i) :=
  ⟨_, pi_seq hx, fun S H σ ρ F E Q R o l q k => by
    unfold idSeqB at q
    have slot : ∀ {sl : Sl}, ρ[i]? = some (some sl) → ∃ v0, σ[i]? = some (some v0) ∧ ∃ f, Ent Γ S H (some v0, some sl) f := fun {sl} r => by
      have hi : i < σ.length := by
        have := (List.getElem?_eq_some_iff.mp r).1
        rw [o.len]; exact this
      cases hv : σ[i]? with
      | none => rw [List.getElem?_eq_none_iff] at hv; omega
      | some ov =>
        obtain ⟨A, B, e1, _⟩ := zip_at hv r
        have o1 := o.ok
        rw [e1, List.append_assoc, List.cons_append] at o1
        obtain ⟨gs, s, _, _⟩ := (o1.perm List.perm_middle).sep
        cases s with
        | @cons _ f _ _ he hl =>
          cases ov with
          | none => cases sl <;> exact he.elim
          | some v0 => exact ⟨v0, rfl, f, he⟩
    split at q
    · rename_i ds r
      obtain ⟨v0, hv, f, he⟩ := slot r
      obtain ⟨_, n, g, hn, ow, hg⟩ := he
      rw [← hK]
      match n, hn, ow with
      | 0, _, .s is =>
        cases is with
        | lst h1 l1 =>
          exact ⟨_, hv, _, rfl, .inl ⟨⟨_, .of (o.ok.ex _ _ h1)⟩, k _ H S ρ _ [_] (o.pushS (.lst h1 l1)) (wlk_list (K := Γ.K)) q⟩⟩
      | 1, _, .l (p := a) (vs := vs) h1 h2 h3 =>
        obtain ⟨il, rfl⟩ := h3.is0
        have h0 : Γ.S0 a = none := by
          cases e : Γ.S0 a with
          | none => rfl
          | some u => have := o.ok.ex0 a u e; rw [h2] at this; cases this
        obtain ⟨u, hu⟩ := hg a (List.mem_singleton.mpr rfl)
        have hu2 : u = .lst vs := by
          have := (o.ok.fr a u h0 hu).2
          rw [h1] at this; exact (Option.some.inj this).symm
        subst hu2
        refine ⟨_, hv, _, rfl, .inl ⟨⟨_, .of h1⟩, k _ H S ρ ds (zipE vs ds) (o.pushL il) (wlk_bor il.len h0 ⟨_, hu⟩ fun S' H' L ok => (ok.fr a _ h0 hu).2) q⟩⟩
    · rename_i ds r
      obtain ⟨v0, hv, f, he⟩ := slot r
      rw [← hK]
      have he : Own Γ.T Γ.K S H 0 v0 (.lst ds) f := he
      cases he with
      | s is =>
        cases is with
        | lst h1 l1 => exact ⟨_, hv, _, rfl, .inl ⟨⟨_, .of (o.ok.ex _ _ h1)⟩, k _ H S ρ _ [_] (o.pushS (.lst h1 l1)) (wlk_list (K := Γ.K)) q⟩⟩
    · exact q.elim⟩
end
/-! ### a list of one's own is walked and stays one's own -/
section
variable {Γ : Gm} {X : Cx} {W : WX} {pos : Pos}
/-- slot j holds the list while the body runs -/
def sForO (j : Nat) (g : TGD) (u : TSD) : TSD := fun D ρ => match ρ[j]? with
  | some (some (.v 1 (.lst items))) => ∃ I : Nat → DEnv → Prop, I 0 ρ ∧ (∀ n r, I n r → r[j]? = some (some (.v 1 (.lst items)))) ∧
    (∀ i d ρ2, items[i]? = some d → I i ρ2 → g (.v 0 d) ρ2 fun ρ3 => u { D with nx := I (i + 1), ct := I (i + 1), bk := D.nx } ρ3) ∧ ∀ ρ2, I items.length ρ2 → D.nx ρ2
  | _ => False
theorem StOk.pin {S H : Hp} {σ : L2.St} {ρ : DEnv} {F : Fx} {j : Nat} {a : V} (o : StOk Γ S H σ ρ F) (h : σ[j]? = some (some a)) : StOk { Γ with me := some (j, a) } S H σ ρ F :=
  ⟨o.len, o.ok.swapΓ rfl rfl rfl o.ok.ex0 o.ok.fr, fun i v z => by
    have z : some (j, a) = some (i, v) := z
    cases z; exact h⟩
theorem StOk.unpin {S H : Hp} {σ : L2.St} {ρ : DEnv} {F : Fx} {j : Nat} {a : V} (hm : Γ.me = none) (o : StOk { Γ with me := some (j, a) } S H σ ρ F) : StOk Γ S H σ ρ F ∧ σ[j]? = some (some a) :=
  ⟨⟨o.len, o.ok.swapΓ rfl rfl rfl o.ok.ex0 o.ok.fr, fun i v z => by rw [hm] at z; cases z⟩, o.me j a rfl⟩
theorem ds_forO {tg : Expr} {body : List Stmt} {j : Nat} {x : Str} {p : Pos} {g : TGD} {u : TSD} (hp : PassesOwn (model X.prog X.w) X.A X.env X.xe) (hc : X.calm = true) (hx : PE X (.Name x p) (tVar j))
    (hg : ∀ a, DG { Γ with me := some (j, .ref a) } X tg g) (hb : ∀ a, DSs { Γ with me := some (j, .ref a) } X W body u) (hs : ∀ y, foldedSetIterable (.Name x p) X.env y = pure y := by intro _; rfl) (hme : Γ.me = none := by rfl) (hK : Γ.K = X.K := by rfl) :
    DS Γ X W (.For tg (.Name x p) body [] pos) (sForO j g u) := by
  have hg' := fun a => (hg a).run
  have hb' := fun a => (hb a).run
  let G0 : TG := fun v σ H Q => ∃ a, Classical.choose (hg' a) v σ H Q
  let B0 : TS := fun D σ H => ∃ a, Classical.choose (hb' a) D σ H
  refine ⟨_, ps_for (g := G0) (tb := B0) hp hc (pi_seq hx) ⟨fun pins s σ H v q Q I r h => ?_⟩ ⟨fun pins s σ H D I h => ?_⟩ hs, fun S H σ ρ F D Dh o l w x => ?_⟩
  · obtain ⟨a, h⟩ := h
    exact (Classical.choose_spec (hg' a)).1.run pins s σ H v q Q I r h
  · obtain ⟨a, h⟩ := h
    exact (Classical.choose_spec (hb' a)).1.run pins s σ H D I h
  unfold sForO at x
  split at x
  · rename_i items e
    obtain ⟨I, h0, hI, step, fin⟩ := x
    obtain ⟨a, vs, hσ, hH, hS, il, _⟩ := o.lst e
    rw [← hK]
    refine ⟨.ref a, hσ, a, rfl, .inl ⟨⟨vs, .of hH⟩, fun i m σ H => m = items.length - i ∧ i ≤ items.length ∧ ∃ S ρ, StOk { Γ with me := some (j, .ref a) } S H σ ρ F ∧ I i ρ, ⟨items.length, by simp, Nat.zero_le _, S, ρ, o.pin hσ, h0⟩, fun i m σ H hw => ?_⟩⟩
    obtain ⟨rfl, hi, S, ρ, o, hIi⟩ := hw
    have own := o.lst (hI _ _ hIi)
    obtain ⟨a2, vs2, hσ2, hH2, hS2, il2, _⟩ := own
    have hme2 := o.me j (.ref a) rfl
    rw [hme2] at hσ2
    cases hσ2
    have lw' : LW { Γ with me := some (j, .ref a) } F D.ex W := fun S H σ ρ y cls d o ea ey => w S H σ ρ y cls d (o.unpin hme).1 ea ey
    by_cases hlt : i < items.length
    · have hv : i < vs2.length := by rw [il2.len]; exact hlt
      refine .inr ⟨⟨vs2, vs2[i], .of hH2, List.getElem?_eq_getElem hv⟩, fun σ H => ∃ S ρ, StOk { Γ with me := some (j, .ref a) } S H σ ρ F ∧ I (i + 1) ρ, fun σ H ⟨S, ρ, o, h⟩ => ⟨items.length - (i + 1), by omega, rfl, hlt, S, ρ, o, h⟩, fun v H2 y => ?_⟩
      have hd := List.getElem?_eq_getElem hlt
      obtain ⟨rfl, y⟩ := y
      obtain ⟨u0, hu, is⟩ := il2.get hd
      have z := y vs2 (.of hH2)
      rw [hu] at z
      cases z
      refine ⟨a, (Classical.choose_spec (hg' a)).2 S H2 σ ρ F v _ _ _ (o.pushS is) (step i _ ρ hd hIi) fun S3 H3 σ3 ρ3 o3 x3 => ?_⟩
      refine ⟨a, (Classical.choose_spec (hb' a)).2 S3 H3 σ3 ρ3 F { D with nx := I (i + 1), ct := I (i + 1), bk := D.nx } _ o3 ⟨fun S H σ ρ o z => ⟨S, ρ, o, z⟩, fun S H σ ρ v sl o z => l.rt S H σ ρ v sl (o.unpin hme).1 z, fun S H σ ρ o z => l.nx S H σ ρ (o.unpin hme).1 z, fun S H σ ρ o z => ⟨S, ρ, o, z⟩⟩ lw' x3⟩
    · have e : i = items.length := by omega
      subst e
      exact .inl ⟨⟨vs2, .of hH2, Nat.le_of_eq il2.len⟩, l.nx S H σ ρ (o.unpin hme).1 (fin ρ hIi)⟩
  · exact x.elim
end
end Sw

/-! The data layer, 37: comprehensions of things of one's own; insert, index; evaluation. -/
namespace Sw
open PySem L2
section
variable {Γ : Gm} {S H : Hp}
/-- one's own thing goes behind a list of such -/
theorem StOk.snoc {σ : L2.St} {ρ : DEnv} {F : Fx} {k : Nat} {y : V} {d : Dat} {D : Addr} {acc : List Dat} (o : StOk Γ S H σ ρ ((some y, some (.v k d)) :: (some (.ref D), some (.v (k + 1) (.lst acc))) :: F)) :
    ∃ vs, H D = some (.lst vs) ∧ vs.length = acc.length ∧ StOk Γ S (upd H D (.lst (vs ++ [y]))) σ ρ ((some (.ref D), some (.v (k + 1) (.lst (acc ++ [d])))) :: F) := by
  have ok := o.ok.perm (L' := (some y, some (.v k d)) :: (some (.ref D), some (.v (k + 1) (.lst acc))) :: (σ.zip ρ ++ F)) (by
    refine List.perm_middle.trans (List.Perm.cons _ List.perm_middle))
  obtain ⟨fs, s, nd, z⟩ := ok.sep
  cases s with
  | @cons _ f _ fs1 he hl =>
    cases hl with
    | @cons _ g _ fs2 he2 hl2 =>
      have he : Own Γ.T Γ.K S H k y d f := he
      have he2 : Own Γ.T Γ.K S H (k + 1) (.ref D) (.lst acc) g := he2
      cases he2 with
      | @l _ _ vs _ g0 h1 h2 h3 =>
        rw [List.flatten_cons, List.flatten_cons] at nd z
        have pm : (f ++ (D :: g0 ++ fs2.flatten)).Perm ((D :: (g0 ++ (f ++ []))) ++ fs2.flatten) := by
          rw [List.append_nil, List.cons_append, List.cons_append]
          refine List.perm_middle.trans (List.Perm.cons _ ?_)
          rw [List.append_assoc]
          exact List.perm_append_comm_assoc _ _ _
        have nd2 := pm.nodup_iff.mp nd
        have zz : ∀ p ∈ (D :: (g0 ++ (f ++ []))) ++ fs2.flatten, Γ.H0 p = none := fun p hp => z p (pm.mem_iff.mpr hp)
        have n0 := List.nodup_append.mp nd2
        have nD := (List.nodup_cons.mp n0.1).1
        refine ⟨vs, h1, h3.len, o.len, ?_, o.me⟩
        have hz : Γ.H0 D = none := zz D (List.mem_append_left _ (List.mem_cons_self ..))
        have same : ∀ p, p ≠ D → (upd H D (.lst (vs ++ [y]))) p = H p := fun p e => upd_ne e
        have ol := (h3.app (OwnL.cons he OwnL.nil)).mono (S' := S) (H' := upd H D (.lst (vs ++ [y]))) (fun _ _ h => h) fun p hp => by
          have e : p ≠ D := fun e => nD (e ▸ hp)
          have ow := (h3.app (OwnL.cons he OwnL.nil)).own p hp
          exact ⟨ow.1, same p e⟩
        refine Ok.perm (L := (some (.ref D), some (.v (k + 1) (.lst (acc ++ [d])))) :: (σ.zip ρ ++ F)) ⟨ok.ex0, fun a u q => ?_, fun a u q k => ?_, (D :: (g0 ++ (f ++ []))) :: fs2, .cons (.l upd_same h2 ol) (hl2.mono (fun _ _ h => h) (fun a u q k => ?_) fun a ha => ?_), by rw [List.flatten_cons]; exact nd2, fun p hp => zz p (by rw [List.flatten_cons] at hp; exact hp)⟩ List.perm_middle.symm
        · have e : a ≠ D := ne_of_none q h2
          rw [upd_ne e]; exact ok.ex a u q
        · have e : a ≠ D := fun e => by rw [e, hz] at k; cases k
          rw [upd_ne e]; exact ok.fr a u q k
        · have e : a ≠ D := fun e => by rw [e, hz] at q; cases q
          exact ⟨k, upd_ne e⟩
        · have e : a ≠ D := fun e => n0.2.2 D (List.mem_cons_self ..) a ha e.symm
          exact ⟨(hl2.own a ha).1, upd_ne e⟩
/-- [elt for target in iter], the elements one's own, k levels of them -/
def pLcO (k : Nat) (t : TID) (g : TGD) (te : TPD) (vs : List Nat) : TPD := fun E ρ Q => t E ρ fun ρ1 items => ∃ I : Nat → DEnv → List Dat → Prop, I 0 (wipeD ρ1 vs) [] ∧
  (∀ i d ρ2 acc, items[i]? = some d → I i ρ2 acc → g (.v 0 d) ρ2 fun ρ3 => te noEx ρ3 (fun ρ6 p6 => match p6 with
    | .t (.v j y) => j = k ∧ acc.length < 16777216 ∧ I (i + 1) (wipeD ρ6 vs) (acc ++ [y])
    | _ => False)) ∧
  ∀ ρ2 acc, I items.length ρ2 acc → Q (wipeD ρ2 vs) (.t (.v (k + 1) (.lst acc)))
theorem run_lcO {W : WX} {k : Nat} {wi : TI} {t : TID} {g' : TG} {g : TGD} {te' : TE} {te : TPD} {tt' : TT} {vs : List Nat} (hi : RunI Γ W wi t) (hg : RunG Γ g' g) (go : GOnly g' vs) (ht : RunT Γ W0 tt' tdYes) (he : RunP Γ W0 te' te) (hf : ∀ i ∈ vs, Γ.free i) :
    RunP Γ W (tLc wi g' tt' te' vs) (pLcO k t g te vs) := by
  intro S H σ ρ F E Q Qh o l x kk
  refine hi S H σ ρ F E _ _ o l x fun J H1 S1 ρ1 items F' o1 wk x1 => ?_
  obtain ⟨I, h0, step, fin⟩ := x1
  intro D hD
  have o2 : StOk Γ S1 (upd H1 D (.lst [])) (wipe σ vs) (wipeD ρ1 vs) (F' ++ ((some (.ref D), some (.v (k + 1) (.lst []))) :: F)) := by
    have p1 := o1.push (Stp.newOwn (o := .lst []) o1.ok.ex hD) (.l (k := k) (vs := []) (ds := []) (f := []) upd_same (o1.ok.ex.none hD) .nil) (by simp) (fun b hb => by rw [List.mem_singleton.mp hb]; exact hD)
    have p2 := p1.forgets hf
    exact ⟨p2.len, p2.ok.perm (List.Perm.append_left _ List.perm_middle.symm), p2.me⟩
  refine ⟨fun i m H => m = items.length - i ∧ i ≤ items.length ∧ ∃ S ρ acc, StOk Γ S H (wipe σ vs) ρ (F' ++ ((some (.ref D), some (.v (k + 1) (.lst acc))) :: F)) ∧ I i ρ acc, ⟨items.length, by simp, Nat.zero_le _, S1, _, [], o2, h0⟩, fun i m H hw => ?_⟩
  obtain ⟨rfl, hi, S, ρ, acc, o, hI⟩ := hw
  by_cases hlt : i < items.length
  · refine .inr ⟨wk.go S H _ ρ _ i o hlt, fun H => ∃ S ρ acc, StOk Γ S H (wipe σ vs) ρ (F' ++ ((some (.ref D), some (.v (k + 1) (.lst acc))) :: F)) ∧ I (i + 1) ρ acc, fun H ⟨S, ρ, acc, o, h⟩ => ⟨items.length - (i + 1), by omega, rfl, hlt, S, ρ, acc, o, h⟩, fun v H2 y => ?_⟩
    have hd := List.getElem?_eq_getElem hlt
    obtain ⟨S2, o2⟩ := wk.yld S H _ ρ _ i v H2 _ o y hd
    refine go v _ _ (fun σ3 H3 => ∃ S3 ρ3, StOk Γ S3 H3 σ3 ρ3 (F' ++ ((some (.ref D), some (.v (k + 1) (.lst acc))) :: F)) ∧ te noEx ρ3 (fun ρ6 p6 => match p6 with
      | .t (.v j y) => j = k ∧ acc.length < 16777216 ∧ I (i + 1) (wipeD ρ6 vs) (acc ++ [y])
      | _ => False)) _ (hg S2 H2 _ ρ _ v _ _ _ o2 (step i _ ρ acc hd hI) fun S3 H3 σ3 ρ3 o3 x3 => ⟨S3, ρ3, o3, x3⟩) fun σ3 H3 on hh => ?_
    obtain ⟨S3, ρ3, o3, x3⟩ := hh
    have ew : wipe σ3 vs = wipe σ vs := by
      have on' : wipe σ3 vs = wipe (wipe σ vs) vs := on
      rw [on', wipe_wipe fun _ h => h]
    refine ⟨ew, ht S3 H3 σ3 ρ3 _ noEx (fun ρ4 b => b = true ∧ te noEx ρ4 (fun ρ6 p6 => match p6 with
      | .t (.v j y) => j = k ∧ acc.length < 16777216 ∧ I (i + 1) (wipeD ρ6 vs) (acc ++ [y])
      | _ => False)) _ o3 lw0 ⟨rfl, x3⟩ fun b S4 H4 ρ4 o4 x4 => ?_⟩
    obtain ⟨rfl, x4⟩ := x4
    refine he S4 H4 σ3 ρ4 _ noEx _ _ o4 lw0 x4 fun y S5 H5 ρ5 pl hp o5 x5 => ?_
    split at x5
    · rename_i j yd
      obtain ⟨rfl, hz, x5⟩ := x5
      have o6 : StOk Γ S5 H5 σ3 ρ5 ((some y, some (.v j yd)) :: (some (.ref D), some (.v (j + 1) (.lst acc))) :: (F' ++ F)) := ⟨o5.len, o5.ok.perm (List.Perm.append_left _ (List.Perm.cons _ List.perm_middle)), o5.me⟩
      obtain ⟨us, h1, hl, o7⟩ := o6.snoc
      refine ⟨us, h1, szlt (by rw [hl]; exact hz), S5, wipeD ρ5 vs, acc ++ [yd], ?_, x5⟩
      have o8 : StOk Γ S5 _ σ3 ρ5 (F' ++ ((some (.ref D), some (.v (j + 1) (.lst (acc ++ [yd])))) :: F)) := ⟨o7.len, o7.ok.perm (List.Perm.append_left _ List.perm_middle.symm), o7.me⟩
      have o9 := o8.forgets hf
      rw [ew] at o9
      exact o9
    · exact x5.elim
  · have e : i = items.length := by omega
    subst e
    refine .inl ⟨wk.stop S H _ ρ _ o, ?_⟩
    have o3 := o.wiped (σ := σ) (wipe_wipe fun _ h => h) hf (by have := o.len; rwa [wipe_length] at this) o1.me
    exact kk (.ref D) S H (wipeD ρ vs) (.t (.v (k + 1) (.lst acc))) trivial (o3.sub (List.sublist_append_right _ _)) (fin ρ acc hI)
variable {X : Cx} {W : WX} {tg iter elt e : Expr} {pos : Pos}
/-- name = [..] -/
theorem ds_setLcO {k i : Nat} {y : Str} {py spos : Pos} {scope : Scope} {own : List (Str × Nat)} {vs : List Nat} {t : TID} {g : TGD} {te : TPD} (hc : X.calm = true) (hN : X.N.Nodup) (hy : X.N[i]? = some y) (hyl : X.env.scope.names.lookup y = some .local)
    (hsw : swapsWith (.ListComp elt [⟨tg, iter, [], 0⟩] scope pos) (some (.Name y py)) spos.line X.env = pure true) (hi : DI Γ X W tg iter t) (ok : BlkOk X.N X.env.scope scope own)
    (hg : ∀ s H C cl fp, DGo Γ (X.blk s H scope (compEnvC scope cl C X.env) fp) tg (own.map (·.2)) g)
    (he : ∀ s H C cl fp, DP Γ (X.blk s H scope (compEnvC scope cl C X.env) fp) W0 elt te) (hs : ∀ x, foldedSetIterable iter X.env x = pure x := by intro _; rfl) (hf : ∀ i ∈ own.map (·.2), Γ.free i := by intro i _ v z; cases z) (hvs : vs = own.map (·.2) := by rfl) (hm : Γ.free i := by (intro v z; cases z)) :
    DS Γ X W (.Assign [.Name y py] (.ListComp elt [⟨tg, iter, [], 0⟩] scope pos) spos) (sAsg (pLcO k t g te vs) (gdName i)) := by
  subst hvs
  obtain ⟨wi, pi, qi⟩ := hi.run
  have c0 : Bl := (X.s_0, X.H_0, 0, [], [])
  obtain ⟨g', pg, qg, og⟩ := all_G (ι := Bl) (Y := fun c => X.blk c.1 c.2.1 scope (compEnvC scope c.2.2.2.1 c.2.2.1 X.env) c.2.2.2.2) (fun c => hg c.1 c.2.1 c.2.2.1 c.2.2.2.1 c.2.2.2.2) c0
  obtain ⟨tt', pt, qt⟩ := all_T (Γ := Γ) (W := W0) (es := []) (t := tdYes) (ι := Bl) (Y := fun c => X.blk c.1 c.2.1 scope (compEnvC scope c.2.2.2.1 c.2.2.1 X.env) c.2.2.2.2) (fun c => dts_nil)
  obtain ⟨te', pe, qe⟩ := all_P (ι := Bl) (Y := fun c => X.blk c.1 c.2.1 scope (compEnvC scope c.2.2.2.1 c.2.2.1 X.env) c.2.2.2.2) (fun c => he c.1 c.2.1 c.2.2.1 c.2.2.2.1 c.2.2.2.2) c0
  exact ⟨_, ps_setLc hc hN hy hyl hsw pi ok (fun s H C cl fp => pg (s, H, C, cl, fp)) (fun s H C cl fp => pt (s, H, C, cl, fp)) (fun s H C cl fp => pe (s, H, C, cl, fp)) hs, run_asg (run_lcO qi qg og qt qe hf) (run_gname hm)⟩
/-! ### xs.insert(i, v), i and v names or constants -/
def sIns (i : Nat) (ta tb : TPD) : TSD := fun D ρ => match (ρ[i]? : Option (Option Sl)) with
  | some (some (.v 1 (.lst ds))) => ta D.ex ρ fun ρ1 p => tb D.ex ρ1 fun ρ2 q => (match p.d ρ2, q.d ρ2 with
    | some (.int j), some dv => flat dv = true ∧ ρ2[i]? = some (some (.v 1 (.lst ds))) ∧ (0 ≤ j ∧ j < 2 ^ 62 ∧ ds.length < 16777216) ∧ D.nx (ρ2.set i (some (.v 1 (.lst (ds.take j.toNat ++ [dv] ++ ds.drop j.toNat)))))
    | _, _ => False)
  | _ => False
variable {a b : Expr} {ta tb : TPD}
theorem ds_ins {i : Nat} {x : Str} {px apos cpos : Pos} (hx : PE X (.Name x px) (tVar i)) (ha : DP Γ X W a ta) (hb : DP Γ X W b tb)
    (hs : swapsWith (.Call (.Attribute (.Name x px) "insert" apos) [a, b] [] cpos) none pos.line X.env = pure false := by rfl)
    (hbase : attributeBase (.Name x px) "insert" X.env (eval (.Name x px) X.env) = eval (.Name x px) X.env := by rfl)
    (hfew : ((backTo cpos (starEach [a, b] X.env)).all (fun x => !x.1) && (backToKw cpos (keywordEach [] X.env)).all (fun x => x.1.isSome)
      && decide (([a, b] : List Expr).length + ([] : List Keyword).length + (if ([] : List Keyword).isEmpty then 0 else 1) < 30)) = true := by rfl)
    (hline : (apos.endLine == cpos.line) = true := by rfl) (hst : starEach [a, b] X.env = (false, eval a X.env) :: starEach [b] X.env := by rfl) (hst2 : starEach [b] X.env = (false, eval b X.env) :: starEach [] X.env := by rfl) (hpl : (backTo cpos (starEach [b] X.env)).any (·.1) = false := by rfl) :
    DS Γ X W (.Expr (.Call (.Attribute (.Name x px) "insert" apos) [a, b] [] cpos) pos) (sIns i ta tb) :=
  let ⟨_, p1, q1⟩ := ha.run; let ⟨_, p2, q2⟩ := hb.run
  ⟨_, ps_expr (pe_bm PySem.F.plainAttrs_list PySem.F.slot_list_insert PySem.F.type_list_insert mt_insert hx (pa_cons p1 (pa_cons p2 pa_nil hst2) hst) hbase hfew hline hst hpl) hs, fun S H σ ρ F D Dh o1 l w x => by
    unfold sIns at x
    split at x
    · rename_i ds e0
      obtain ⟨l0, vs0, hv, h1, h2, il, _⟩ := o1.lst e0
      refine ⟨.ref l0, hv, Or.inl ⟨rfl, vs0, .inl (.inl h1)⟩, q1 S H σ ρ F D.ex _ _ o1 w x fun vi S1 H1 ρ1 pi hpi o2 x2 => ?_⟩
      refine q2 S1 H1 σ ρ1 (pi.tmp vi ++ F) D.ex _ _ o2 w.tmp x2 fun vv S2 H2 ρ2 pv hpv o3 x3 => ?_
      split at x3
      · rename_i j dv ej ev
        obtain ⟨fl, e3, ⟨j0, j1, hz⟩, x3⟩ := x3
        have r1 := o3.rb hpi ((List.sublist_append_left _ _).trans (List.sublist_append_right _ _)) ej
        have r2 := o3.rb hpv (List.sublist_append_left _ _) ev
        have iv := is_flat r2 fl
        have o4 : StOk Γ S2 H2 σ ρ2 F := (o3.sub (List.sublist_append_right _ _)).dropP
        obtain ⟨l1, vs1, hv1, h3, h4, il2, up⟩ := o4.lst e3
        have ea : l1 = l0 := by rw [hv] at hv1; injection hv1 with z; injection z with z; injection z with z; exact z.symm
        subst ea
        refine ⟨l1, vs1, j, vv, rfl, by rw [r1.int], h3, szlt (by rw [il2.len]; exact hz), j0, by omega, ?_⟩
        exact l.nx S2 _ σ _ (up _ _ (((il2.take _).app (.cons iv .nil)).app (il2.drop _))) x3
      · exact x3.elim
    · exact x.elim⟩
/-! ### xs.index(v) -/
def mIndex : MD := fun x ys R => match x, ys with
  | .lst ds, [.int v] => ds.all flat = true ∧ ∃ j, ds[j]? = some (.int v) ∧ (∀ m d, m < j → ds[m]? = some d → deq d (.int v) = false) ∧ R 0 (.int (j : Nat))
  | _, _ => False
theorem br_index : BrM Γ (rIndex Γ.K) mIndex := by
  intro S H x d vs ds Q Qh e rx rv q p
  unfold mIndex at q
  split at q
  · rename_i ys v
    obtain ⟨fy, j, hj, hn, q⟩ := q
    obtain ⟨a, us, rfl, h, l⟩ := rx.lst e
    obtain ⟨w, rfl, hw⟩ := rb1 rv
    obtain ⟨e4, e5⟩ := flat_all l fy
    obtain ⟨z, hz, iz⟩ := l.get hj
    have ez : z = .int v := by cases iz; rfl
    have ew := hw.int
    subst ew ez
    refine ⟨a, us, .int v, j, .int v, rfl, rfl, .of h, rfl, e5, hz, ?_, fun m z' hm hz' => ?_, p.sc e .int q⟩
    · show eqV (dflat (.int v)) (dflat (.int v)) = true
      rw [eqV_deq rfl rfl, deq_int]; simp
    · rw [e4, List.getElem?_map] at hz'
      cases hd : ys[m]? with
      | none => rw [hd] at hz'; cases hz'
      | some dm =>
        rw [hd] at hz'
        cases hz'
        have fm := List.all_eq_true.mp fy dm (List.mem_of_getElem? hd)
        show eqV (dflat dm) (dflat (.int v)) = false
        rw [eqV_deq fm rfl]
        exact hn m dm hm hd
  · exact q.elim
end
section
variable (i j k : Nat) (js : List Nat) (t : TPD) (ta tb tj : TPD) (u : TAD) (D : DEnds) (ρ : DEnv) (E : DEx) (Q : DEnv → Pl → Prop) (QI : DEnv → List Dat → Prop)
theorem e_pLend (d : Dat) (hk : ρ[i]? = some (some (.v k d))) : pLend i t E ρ Q = (lstK k d = true ∧ t noEx (lendE ρ i d) (kLend ρ Q)) := by
  unfold pLend; rw [hk]
theorem e_pLstO : pLstO k u E ρ Q = u E ρ (kLO k Q) := rfl
theorem e_sSetP : sSetP i js ta tj D ρ = ta D.ex ρ (kSP0 i js tj D) := rfl
theorem e_sAppP : sAppP i js tj D ρ = tj D.ex ρ (fun ρ1 p => kAP1 i js D ρ1 [p]) := rfl
theorem owL_nil (k : Nat) : owL k [] = some [] := rfl
theorem owL_cons (k : Nat) (d : Dat) (ps : List Pl) : owL k (.t (.v k d) :: ps) = (match owL k ps with | some ds => some (d :: ds) | none => none) := by
  show (if k = k then _ else _) = _
  rw [if_pos rfl]
  try (cases owL k ps <;> rfl)
theorem getP_n (ds : List Dat) : getP [] (.lst ds) = some ds := rfl
theorem getP_c (j : Nat) (js : List Nat) (ds : List Dat) : getP (j :: js) (.lst ds) = (ds[j]?).bind (getP js) := rfl
theorem putP_n (ds ds' : List Dat) : putP [] (.lst ds) ds' = .lst ds' := rfl
theorem putP_c (j : Nat) (js : List Nat) (ds ds' : List Dat) : putP (j :: js) (.lst ds) ds' = (match ds[j]? with | some d => .lst (ds.set j (putP js d ds')) | none => .lst ds) := rfl
theorem lendS_0 (d : Dat) : lendS (some (.v 0 d)) = some (.v 0 d) := rfl
theorem lendS_1 (d : Dat) : lendS (some (.v 1 d)) = some (.b d) := rfl
theorem lendS_b (d : Dat) : lendS (some (.b d)) = some (.b d) := rfl
theorem lendS_n : lendS none = none := rfl
theorem okR_0 (d : Dat) : okR 0 d = noL d := by cases d <;> rfl
theorem okR_1 (ds : List Dat) : okR 1 (.lst ds) = noLL ds := rfl
def kForO (j : Nat) (items : List Dat) (g : TGD) (u : TSD) (D : DEnds) (ρ : DEnv) : Prop := ∃ I : Nat → DEnv → Prop, I 0 ρ ∧ (∀ n r, I n r → r[j]? = some (some (.v 1 (.lst items)))) ∧
    (∀ i d ρ2, items[i]? = some d → I i ρ2 → g (.v 0 d) ρ2 fun ρ3 => u { D with nx := I (i + 1), ct := I (i + 1), bk := D.nx } ρ3) ∧ ∀ ρ2, I items.length ρ2 → D.nx ρ2
theorem e_sForO (g : TGD) (v : TSD) : sForO j g v D ρ = match (ρ[j]? : Option (Option Sl)) with
  | some (some (.v 1 (.lst items))) => kForO j items g v D ρ
  | _ => False := rfl
end
end Sw

/-! The data layer, 40: range(a, b) of whole numbers of any size. -/
namespace Sw
open PySem L2 PySem.Spec PyProof.Rows
theorem turn_long {P : Program} {w : World} {K : PySem.W.Frag} {tg : Expr} (it : Addr) (lo : Int) (n : Nat) : Turn P w K tg (Itr lo n) [it] it (fun i h => IsLongIter h it (lo + (i : Nat) * 1) ((n : Int) - (i : Nat)) 1) where
  mem := by simp
  obj := fun i h st b hb => by
    have e : b = it := by simpa using hb
    subst e
    exact ⟨_, st, fun v z => by
      have z' : Data.fields _ = Data.cell v := z
      cases z'⟩
  keep := fun i h h' st k => k it (by simp) _ st
  item := by
    intro X hP hw hK hc i pins s σ H E I hf st hg
    subst hP hw hK
    obtain ⟨f0, f1, f2, f3, f4, f5⟩ := hf it (by simp)
    have W := Walks.longrange (prog := X.prog) (w := X.w) (I.ok.hd hc) it lo 1 n
    refine W.item i s _ _ hg st fun v h' tk hv st' kk => ?_
    obtain ⟨t, rfl⟩ := hv
    have I1 : Inv X pins σ H { s with heap := h', toks := tk } := I.turned (fun b o hb e => kk b o (by simpa using hb) e) f0 f1 f3 f4 f5
    refine ⟨_, rfl, go_of (s := { s with heap := h', toks := tk }) (n := "longrange_iterator") st' rfl rfl (by decide) ⟨.int (lo + i), H, I1, ⟨t, ?_⟩, ⟨rfl, rfl⟩, st', fun b hb => (hf b hb).1⟩⟩
    rw [Int.mul_one]
  done := by
    intro X hP hw hK hc i pins s σ H E I hf st hg
    subst hP hw hK
    obtain ⟨f0, f1, f2, f3, f4, f5⟩ := hf it (by simp)
    exact wpAny_pyNext_long_end (I.ok.hd hc) st (by have : n ≤ i := hg; omega) fun h' eb => ⟨rfl, I.turned (t' := s.toks) (fun b o hb e => eb b o hb e) f0 f1 f3 f4 f5⟩
  self := fun _ _ _ _ _ st h => wpAny_pyIter_longiter st h
section
variable {X : Cx} {tg : Expr}
theorem range_itA {pins : List (Addr × Obj)} {σ : L2.St} {H : Hp} {s : Shared} {R : It → Hp → Prop} {E : Value → Shared → Prop} {lo hi : Int} {t u v : Tok} {tk : Nat} (I : Inv X pins σ H s)
    (q : R (Itr lo (hi - lo).toNat) H) : wpAny (model X.prog X.w) X.A (pyIter (.ref s.heap.objs.size)) (PIE X pins σ tg R) E { s with heap := s.heap.push { cls := .type "range", data := .fields #[.int lo t, .int hi u, .int 1 v] }, toks := tk } := by
  have I1 : Inv X pins σ H { s with heap := s.heap.push { cls := .type "range", data := .fields #[.int lo t, .int hi u, .int 1 v] }, toks := tk } := I.kept fun b o e => Heap.get?_push_of_some _ e
  have e1 : lo + ((0 : Nat) : Int) * 1 = lo := by simp
  have e2 : (((hi - lo).toNat : Nat) : Int) - ((0 : Nat) : Int) = Builtin.Range.rangeSize lo hi 1 := by rw [rangeSize_one]; split <;> omega
  cases hs : Builtin.Range.small lo hi 1 with
  | true =>
    refine wpAny_pyIter_range (IsRange.new ..) hs ?_
    refine ⟨(s.heap.push { cls := .type "range", data := .fields #[.int lo t, .int hi u, .int 1 v] }).objs.size, [(s.heap.push { cls := .type "range", data := .fields #[.int lo t, .int hi u, .int 1 v] }).objs.size], _, _, H, rfl,
      I1.kept (t' := tk) fun b o e => Heap.get?_push_of_some _ e, turn_range _ lo (hi - lo).toNat, ?_, fun b hb => ?_, q⟩
    · show IsRangeIter _ _ (lo + ((0 : Nat) : Int) * 1) ((((hi - lo).toNat : Nat) : Int) - ((0 : Nat) : Int)) 1
      rw [e1, e2]
      exact Heap.get?_push_size _ rfl
    · have e : b = (s.heap.push { cls := .type "range", data := .fields #[.int lo t, .int hi u, .int 1 v] }).objs.size := by simpa using hb
      subst e
      exact I1.fpOk (Nat.le_refl _) (I1.hok.fresh (Nat.le_refl _))
  | false =>
    refine wpAny_pyIter_longrange (IsRange.new ..) hs ?_
    refine ⟨(s.heap.push { cls := .type "range", data := .fields #[.int lo t, .int hi u, .int 1 v] }).objs.size, [(s.heap.push { cls := .type "range", data := .fields #[.int lo t, .int hi u, .int 1 v] }).objs.size], _, _, H, rfl,
      I1.kept (t' := tk) fun b o e => Heap.get?_push_of_some _ e, turn_long _ lo (hi - lo).toNat, ?_, fun b hb => ?_, q⟩
    · show IsLongIter _ _ (lo + ((0 : Nat) : Int) * 1) ((((hi - lo).toNat : Nat) : Int) - ((0 : Nat) : Int)) 1
      rw [e1, e2]
      exact Heap.get?_push_size _ rfl
    · have e : b = (s.heap.push { cls := .type "range", data := .fields #[.int lo t, .int hi u, .int 1 v] }).objs.size := by simpa using hb
      subst e
      exact I1.fpOk (Nat.le_refl _) (I1.hok.fresh (Nat.le_refl _))
def iRngA (ta : TA) : TI := fun σ H R => ta σ H fun vs H1 => ∃ i j : Int, vs = [.int i, .int j] ∧ R (Itr i (j - i).toNat) H1
theorem pi_rangeA {a b : Expr} {ta : TA} {p pos : Pos} (hg : Gl X "range") (hm : X.mg "range" = none) (ha : PA X [a, b] ta) (hs : starEach [a, b] X.env = [(false, eval a X.env), (false, eval b X.env)] := by rfl) (hs2 : starEach [b] X.env = [(false, eval b X.env)] := by rfl) :
    PI X tg (.Call (.Name "range" p) [a, b] [] pos) (iRngA ta) := by
  refine ⟨fun pins s σ H R I h => ?_⟩
  refine Call_ (ld_blt I hg hm boot_range (PyProof.Rows.callWith_type1 (thn (ha.run pos pins s σ H _ I h) fun us s1 ⟨vs, H1, I1, r1, q1⟩ => ?_) (by rw [hs, hs2]) (by rw [hs2]; rfl)))
  obtain ⟨i, j, e, q⟩ := q1
  subst e
  cases r1 with
  | cons r rr =>
    cases rr with
    | cons r' rr =>
      cases rr
      obtain ⟨t, rfl⟩ := r
      obtain ⟨t', rfl⟩ := r'
      exact call_range_2 (range_itA I1 q)
end
section
variable {Γ : Gm} {X : Cx} {W : WX} {tg a b : Expr} {pos : Pos}
def idRngA (ta : TAD) : TID := fun E ρ Q => ta E ρ fun ρ1 ps => match datL ρ1 ps with
  | some [.int a, .int b] => Q ρ1 (rng a b)
  | _ => False
theorem di_rngA {u : TAD} {p : Pos} (hg : Gl X "range") (hm : X.mg "range" = none) (ha : DA Γ X W [a, b] u) (hs : starEach [a, b] X.env = [(false, eval a X.env), (false, eval b X.env)] := by rfl) (hs2 : starEach [b] X.env = [(false, eval b X.env)] := by rfl) :
    DI Γ X W tg (.Call (.Name "range" p) [a, b] [] pos) (idRngA u) :=
  let ⟨_, p1, q⟩ := ha.run
  ⟨_, pi_rangeA hg hm p1 hs hs2, fun S H σ ρ F E Q R o l x k => q S H σ ρ F E _ _ o l x fun vs S' H' ρ' ps hp o' x' => by
    split at x'
    · rename_i n m ed
      obtain ⟨v, w, rfl, h, h2⟩ := rb2 (rbL_of hp o' (List.sublist_append_left _ _) ed)
      refine ⟨n, m, by rw [h.int, h2.int], ?_⟩
      exact k _ H' S' ρ' _ [] (o'.sub (List.sublist_append_right _ _)) wlk_rng x'
    · exact x'.elim⟩
def kRA (QI : DEnv → List Dat → Prop) (ρ1 : DEnv) (ps : List Pl) : Prop := match datL ρ1 ps with
  | some [.int a, .int b] => QI ρ1 (rng a b)
  | _ => False
theorem e_idRngA {u : TAD} {E : DEx} {ρ : DEnv} {QI : DEnv → List Dat → Prop} : idRngA u E ρ QI = u E ρ (kRA QI) := rfl
end
end Sw

/-! The data layer, 41: a text walked letter by letter; text[::-1]. -/
namespace Sw
open PySem L2 PySem.Spec PyProof.Rows
def revS (z : Str) : Str := ⟨z.cps.toList.reverse.toArray⟩
theorem picked_revS (z : Str) : ((Builtin.Str.strSliceIndices none none (-1) z.length).filterMap (z.cps[·]?)).toArray = z.cps.toList.reverse.toArray := by
  rw [picked_rev, filterMap_get, List.map_map]
  · congr 1
    refine List.ext_getElem (by simp; rfl) fun i h1 h2 => ?_
    have hi : i < z.cps.size := by simpa using h2
    have hl : z.length = z.cps.size := rfl
    simp [Array.getD, hl, List.getElem_reverse]
    rw [dif_pos (by omega)]
  · intro i hi
    obtain ⟨k, hk, rfl⟩ := List.mem_map.mp hi
    have hk' : k < z.length := List.mem_range.mp hk
    show z.length - 1 - k < z.length
    omega
section
variable {Γ : Gm} {X : Cx} {W : WX} {tg e : Expr} {pos : Pos} {ta : TPD}
def tRevS (te : TE) : TE := fun σ H Q => te σ H fun x H1 => ∃ z, x = .str z ∧ z.length ≤ sizeLine ∧ Q (.str (revS z)) H1
theorem pe_revS {te : TE} {k : Nat} {p1 p2 p3 : Pos} (he : PE X e te) : PE X (.Subscript e (.Slice none none (some (.UnaryOp .USub (.Constant (.int 1) k p1) p2)) p3) pos) (tRevS te) := by
  refine ⟨fun pins s σ H Q I h => ?_⟩
  refine Subscript_ (thn (he.run pins s σ H _ I h) fun v s1 ⟨x, H1, I1, r1, q1⟩ => ?_)
  obtain ⟨z, ex, hz, q⟩ := q1
  subst ex
  obtain ⟨t, rfl⟩ := r1
  have hst : PO X (some (.UnaryOp .USub (.Constant (.int 1) k p1) p2)) (tPart (tUn (rU fun i => .int (-i)) (tC (.int 1)))) := po_some (pe_un un_neg pe_int)
  refine wpAny_Slice (thn (po_none.run pins s1 σ H1 (fun o H2 => o = none ∧ H2 = H1) I1 ⟨rfl, rfl⟩) fun vl s2 ⟨l, H2, I2, pl, el, e2⟩ => ?_)
  subst el e2
  refine thn (po_none.run pins s2 σ H2 (fun o H3 => o = none ∧ H3 = H2) I2 ⟨rfl, rfl⟩) fun vu s3 ⟨u, H3, I3, pu, eu, e3⟩ => ?_
  subst eu e3
  refine thn (hst.run pins s3 σ H3 (fun o H4 => o = some (-1) ∧ H4 = H3) I3 ⟨1, rfl, -1, rfl, rfl, rfl⟩) fun vs s4 ⟨o, H4, I4, ps, eo, e4⟩ => ?_
  subst eo e4
  have I5 : Inv X pins σ H4 { s4 with heap := s4.heap.push { cls := .type "slice", data := .fields #[vl, vu, vs] } } := I4.kept (t' := s4.toks) fun b ob q => Heap.get?_push_of_some _ q
  show wpAny (model X.prog X.w) X.A (subscriptTail e (.Slice none none (some (.UnaryOp .USub (.Constant (.int 1) k p1) p2)) p3) (.str z t) (.ref s4.heap.objs.size)) (EP X pins σ Q) X.xe { s4 with heap := s4.heap.push { cls := .type "slice", data := .fields #[vl, vu, vs] } }
  refine tail_any (ops := [.ref s4.heap.objs.size, .str z t]) (typeIs_str _ _ _) (PySem.F.slot_str_getitem.lookup) ?_ (by with_unfolding_all rfl)
  obtain ⟨l, rfl, hl⟩ := IsPart.raw pl
  obtain ⟨u, rfl, hu⟩ := IsPart.raw pu
  obtain ⟨st, rfl, hs⟩ := IsPart.raw ps
  have el : l = none := by cases l <;> first | rfl | cases hl
  have eu : u = none := by cases u <;> first | rfl | cases hu
  subst el eu
  obtain ⟨i, tt, rfl⟩ : ∃ i tt, st = some (i, tt) := by
    cases st with
    | none => cases hs
    | some y => exact ⟨y.1, y.2, rfl⟩
  obtain rfl : i = -1 := Option.some.inj hs
  refine wpAny_getItem_str_slice (l := none) (u := none) (st := some (-1, tt)) ⟨_, Heap.get?_push_size _ rfl, rfl, rfl⟩ rfl ?_
  have e0 : sliceMade z t none none (some (-1, tt)) = .str ⟨((Builtin.Str.strSliceIndices none none (-1) z.length).filterMap (z.cps[·]?)).toArray⟩ := by
    unfold sliceMade slicePicked
    exact if_neg (by
      have : ((((some ((-1 : Int), tt)).map (·.1)).getD 1 == 1)) = false := rfl
      rw [this]; simp)
  rw [e0, picked_revS]
  refine ⟨?_, .str (revS z), H4, I5.tok _, ⟨_, rfl⟩, q⟩
  show (z.cps.toList.reverse.toArray).size ≤ sizeLine
  rw [List.size_toArray, List.length_reverse, Array.length_toList]
  exact hz
def kRevS (Q : DEnv → Pl → Prop) (ρ1 : DEnv) (p : Pl) : Prop := match p.d ρ1 with
  | some (.str z) => z.length ≤ 16777216 ∧ Q ρ1 (.t (.v 0 (.str (revS z))))
  | _ => False
def pRevS (ta : TPD) : TPD := fun E ρ Q => ta E ρ (kRevS Q)
theorem e_pRevS (ta : TPD) (E : DEx) (ρ : DEnv) (Q : DEnv → Pl → Prop) : pRevS ta E ρ Q = ta E ρ (kRevS Q) := rfl
theorem dp_revS {k : Nat} {p1 p3 p4 : Pos} (he : DP Γ X W e ta) : DP Γ X W (.Subscript e (.Slice none none (some (.UnaryOp .USub (.Constant (.int 1) k p1) p3)) p4) pos) (pRevS ta) := by
  obtain ⟨_, p1, q1⟩ := he.run
  refine ⟨_, pe_revS p1, fun S H σ ρ F E Q Qh o l x kk => q1 S H σ ρ F E _ _ o l x fun v S' H' ρ' po hp o' x' => ?_⟩
  unfold kRevS at x'
  split at x'
  · rename_i z ed
    exact ⟨z, (o'.rb hp (List.sublist_append_left _ _) ed).str, sz x'.1, kk _ S' H' ρ' (.t (.v 0 (.str (revS z)))) trivial (o'.dropP.pushS .str) x'.2⟩
  · exact x'.elim
/-! ### for x in text -/
def lettersD (z : Str) : List Dat := z.cps.toList.map fun c => Dat.str ⟨#[c]⟩
theorem wlk_str {z : Str} : Wlk Γ (Its z) (lettersD z) [] := by
  refine ⟨fun S H σ ρ G i o hi => ?_, fun S H σ ρ G i x H' d o y hd => ?_, fun S H σ ρ G o => ?_⟩
  · show i < z.cps.size
    unfold lettersD at hi
    simpa using hi
  · obtain ⟨rfl, c, hc, rfl⟩ := y
    unfold lettersD at hd
    rw [List.getElem?_map, Array.getElem?_toList, hc] at hd
    cases hd
    exact ⟨S, o.pushS .str⟩
  · show z.cps.size ≤ _
    unfold lettersD
    simp
def kIStr (QI : DEnv → List Dat → Prop) (ρ1 : DEnv) (p : Pl) : Prop := match p.d ρ1 with
  | some (.str z) => QI ρ1 (lettersD z)
  | _ => False
def idStr (ta : TPD) : TID := fun E ρ Q => ta E ρ (kIStr Q)
theorem e_idStr (ta : TPD) (E : DEx) (ρ : DEnv) (QI : DEnv → List Dat → Prop) : idStr ta E ρ QI = ta E ρ (kIStr QI) := rfl
theorem di_str (h : DP Γ X W e ta) : DI Γ X W tg e (idStr ta) :=
  let ⟨te, p, q⟩ := h.run
  ⟨_, pi_str p, fun S H σ ρ F E Q R o l x k => by
    refine q S H σ ρ F E _ _ o l x fun v S' H' ρ' pl hp o' x' => ?_
    unfold kIStr at x'
    split at x'
    · rename_i z ed
      exact ⟨z, (o'.rb hp (List.sublist_append_left _ _) ed).str, k _ H' S' ρ' _ [] o'.dropP wlk_str x'⟩
    · exact x'.elim⟩
end
end Sw

/-! The data layer, 42: match tree: case ("word", a, b): .. -/
namespace Sw
open PySem L2 PySem.Spec PyProof.Rows
section
variable {X : Cx}
/-- the first place of a pattern: one of some texts, under a name or not -/
def HeadOk (X : Cx) (p : Pattern) (ws : List Str) (nm : Option Str) : Prop := ∀ (pins : List (Addr × Obj)) (s : Shared) (σ : L2.St) (H : Hp) (z : Str) (u : Value) (Q : Option (List (Str × Value)) → Shared → Prop), Inv X pins σ H s → RelV (.str z) u →
  (∀ s', Inv X pins σ H s' → Q (if z ∈ ws then some ((nm.map (·, u)).toList) else none) s') → wpAny (model X.prog X.w) X.A (matchPattern p X.env u) Q X.xe s
theorem head_val {w : Str} {k : Nat} {p pos : Pos} : HeadOk X (.MatchValue (.Constant (.str w) k p) pos) [w] none := by
  intro pins s σ H z u Q I r h
  refine wpAny_matchPattern_Value (thn ((pe_str (X := X)).run pins s σ H (fun v H' => v = .str w ∧ H' = H) I ⟨rfl, rfl⟩) fun x s1 ⟨y, H1, I1, r1, e1, e2⟩ => ?_)
  subst e1 e2
  refine thn (op_eq pins s1 σ H1 (.str z) (.str w) u x (fun v H' => v = .bl (decide (V.str z = V.str w)) ∧ H' = H1) I1 r r1 ⟨rfl, rfl, rfl⟩) fun c s2 ⟨y2, H2, I2, r2, e3, e4⟩ => ?_
  subst e3 e4
  cases r2
  refine wpAny_truthy_bool ?_
  have h2 := h s2 I2
  by_cases e : z = w
  · subst e
    rw [if_pos (List.mem_singleton.mpr rfl)] at h2
    rw [show decide (V.str z = V.str z) = true from decide_eq_true rfl, if_pos rfl]
    exact h2
  · rw [if_neg (fun q => e (List.mem_singleton.mp q))] at h2
    rw [show decide (V.str z = V.str w) = false from decide_eq_false (fun q => e (by cases q; rfl)), if_neg (by decide)]
    exact h2
theorem head_or {w1 w2 : Str} {k1 k2 : Nat} {p1 p2 p3 p4 pos : Pos} : HeadOk X (.MatchOr [.MatchValue (.Constant (.str w1) k1 p1) p3, .MatchValue (.Constant (.str w2) k2 p2) p4] pos) [w1, w2] none := by
  intro pins s σ H z u Q I r h
  refine wpAny_matchPattern_Or (wpAny_matchFirst_cons (head_val pins s σ H z u _ I r fun s1 I1 => ?_))
  by_cases e : z = w1
  · have h2 := h s1 I1
    rw [if_pos (by rw [e]; exact List.mem_cons_self ..)] at h2
    rw [if_pos (List.mem_singleton.mpr e)]
    exact h2
  · rw [if_neg (fun q => e (List.mem_singleton.mp q))]
    refine wpAny_matchFirst_cons (head_val pins s1 σ H z u _ I1 r fun s2 I2 => ?_)
    have h2 := h s2 I2
    by_cases e2 : z = w2
    · rw [if_pos (by rw [e2]; simp)] at h2
      rw [if_pos (List.mem_singleton.mpr e2)]
      exact h2
    · rw [if_neg (by simp [e, e2])] at h2
      rw [if_neg (fun q => e2 (List.mem_singleton.mp q))]
      exact wpAny_matchFirst_nil h2
theorem head_as {p : Pattern} {ws : List Str} {n : Str} {pos : Pos} (hp : HeadOk X p ws none) : HeadOk X (.MatchAs (some p) (some n) pos) ws (some n) := by
  intro pins s σ H z u Q I r h
  refine wpAny_matchPattern_As (hp pins s σ H z u _ I r fun s1 I1 => ?_)
  have h2 := h s1 I1
  by_cases e : z ∈ ws
  · rw [if_pos e] at h2 ⊢
    exact h2
  · rw [if_neg e] at h2 ⊢
    exact h2
/-- names alone -/
inductive Caps : List Pattern → List Str → Prop
  | nil : Caps [] []
  | cons {n : Str} {p : Pos} {ps : List Pattern} {ns : List Str} : Caps ps ns → Caps (.MatchAs none (some n) p :: ps) (n :: ns)
theorem caps_len {ps ns} (h : Caps ps ns) : ps.length = ns.length := by
  induction h with
  | nil => rfl
  | cons _ ih => simp [ih]
theorem each_caps {M : Model} {A : Around} {env : Env} {E : Value → Shared → Prop} {ps ns} (h : Caps ps ns) : ∀ {us : List Value} {s : Shared} {Q : Option (List (Str × Value)) → Shared → Prop}, us.length = ns.length → Q (some (ns.zip us)) s → wpAny M A (matchEach ps env us) Q E s := by
  induction h with
  | nil => intro us s Q hl q; cases us with
    | nil => exact wpAny_matchEach_nil q
    | cons _ _ => simp at hl
  | @cons n p ps ns _ ih =>
    intro us s Q hl q
    cases us with
    | nil => simp at hl
    | cons u us =>
      refine wpAny_matchEach_cons (wpAny_matchPattern_Capture ?_)
      exact ih (by simpa using hl) q
/-- what the names are bound to -/
structure PB (X : Cx) (ns : List Str) (t : TGs) : Prop where
  run : ∀ (pins : List (Addr × Obj)) (s : Shared) (σ : L2.St) (H : Hp) (vs : List V) (us : List Value) (Q : L2.St → Hp → Prop), Inv X pins σ H s → Vals vs us → t vs σ H Q →
    wpAny (model X.prog X.w) X.A (assignInOrder (ns.map (bindName X.env)) us) (fun _ s' => ∃ σ' H', Inv X pins σ' H' s' ∧ Q σ' H') X.xe s
theorem pb_nil : PB X [] gNil := by
  refine ⟨fun pins s σ H vs us Q I r h => ?_⟩
  obtain ⟨e, h⟩ := h
  subst e
  cases r
  exact wpAny_assignInOrder_none ⟨σ, H, I, h⟩
theorem pb_cons {i : Nat} {x : Str} {ns : List Str} {u : TGs} (hN : X.N.Nodup) (hi : X.N[i]? = some x) (hx : Loc X.env.scope x) (h2 : PB X ns u) (hf : X.fn x = true ∨ X.env.scope.names.lookup x = some .local := by first | exact .inl rfl | exact .inr rfl | assumption) : PB X (x :: ns) (gCons (gName i) u) := by
  refine ⟨fun pins s σ H vs us Q I r h => ?_⟩
  obtain ⟨v, vr, e1, h⟩ := h
  subst e1
  cases r with
  | cons r rr =>
    refine wpAny_assignInOrder_more (wpAny_bindName (store_ok I hN hi hx r (fun s1 I1 => ?_) hf))
    exact h2.run pins s1 _ H vr _ Q I1 rr h
/-- the cases, from the first -/
structure PM (X : Cx) (cs : List MatchCase) (t : V → TS) : Prop where
  run : ∀ (pins : List (Addr × Obj)) (s : Shared) (σ : L2.St) (H : Hp) (D : Ends) (v : V) (u : Value) (first : Bool), Inv X pins σ H s → RelV v u → t v D σ H → wpAny (model X.prog X.w) X.A (matchCases cs X.env u first) (SP X pins D) X.xe s
theorem pm_nil : PM X [] (fun _ D σ H => D.nx σ H) := ⟨fun pins s σ H D v u first I r h => wpAny_matchCases_nil ⟨σ, H, I, h⟩⟩
def tCase (K : PySem.W.Frag) (ws : List Str) (as : Bool) (k : Nat) (tb : TGs) (u : TS) (tr : V → TS) : V → TS := fun v D σ H => ∃ a z ys, v = .ref a ∧ SqT K H a (.str z :: ys) ∧
  (if z ∈ ws ∧ ys.length = k then tb ((if as then [V.str z] else []) ++ ys) σ H (fun σ' H' => u D σ' H') else tr v D σ H)
theorem pm_cons {hp : Pattern} {ps : List Pattern} {pos : Pos} {ws : List Str} {nm : Option Str} {ns : List Str} {body : List Stmt} {rest : List MatchCase} {tb : TGs} {u : TS} {tr : V → TS} (hc : X.calm = true)
    (hd : HeadOk X hp ws nm) (cp : Caps ps ns) (pb : PB X (nm.toList ++ ns) tb) (hb : PSs X body u) (hr : PM X rest tr)
    (hs : hp.isStar = false := by rfl) (hstar : (hp :: ps).findIdx? (·.isStar) = none := by rfl) (hwild : ((hp :: ps).all fun p => p.isWildcard || (p.isStar && p.names.isEmpty)) = false := by rfl) :
    PM X (⟨.MatchSequence (hp :: ps) pos, none, body⟩ :: rest) (tCase X.K ws nm.isSome ns.length tb u tr) := by
  refine ⟨fun pins s σ H D v uu first I r h => ?_⟩
  obtain ⟨a, z, ys, rfl, hq, h⟩ := h
  cases r
  obtain ⟨its, rv, ht, hz⟩ := I.tuple hq
  have hlen : its.length = ys.length + 1 := by rw [← rv.length]; rfl
  have hfit : ((its.toArray.size : Nat) : Int) < 2 ^ 63 := by
    have : its.toArray.size ≤ sizeLine := by rw [List.size_toArray]; rw [rv.length] at hz; exact hz
    rw [sizeLine_eq] at this
    omega
  have hpl := caps_len cp
  refine wpAny_matchCases_cons ?_
  by_cases hl : ys.length = ns.length
  · have hsz : its.toArray.size = (hp :: ps).length := by rw [List.size_toArray, hlen, List.length_cons, hpl, hl]
    refine matchSeq_tuple_hit ht hfit hsz ?_ hstar hwild
    rw [← hsz]
    have I1 : Inv X pins σ H { s with toks := s.toks + 1 + 1 } := I.tok _
    refine unpackItems_tuple (I.ok.hd hc) (s := { s with toks := s.toks + 1 + 1 }) ht fun h' hx => ?_
    have I2 : Inv X pins σ H { s with heap := h', toks := s.toks + 1 + 1 } := I1.kept (t' := s.toks + 1 + 1) fun b o e => hx b o (Nat.ne_of_lt (Heap.lt_size e)) e
    show wpAny _ _ (matchEach (hp :: ps) X.env its) _ _ _
    cases rv with
    | @cons _ u0 _ us r0 rr =>
      have hus : us.length = ns.length := by rw [← rr.length]; exact hl
      refine wpAny_matchEach_cons (hd pins _ σ H z u0 _ I2 r0 fun s3 I3 => ?_) hs
      by_cases hm : z ∈ ws
      · rw [if_pos ⟨hm, hl⟩] at h
        rw [if_pos hm]
        refine each_caps cp hus ?_
        have e1 : ((nm.map (·, u0)).toList ++ ns.zip us).map (fun x => bindName X.env x.1) = (nm.toList ++ ns).map (bindName X.env) := by
          have e2 : (ns.zip us).map Prod.fst = ns := List.map_fst_zip (by omega)
          rw [show (fun x : Str × Value => bindName X.env x.1) = (bindName X.env) ∘ Prod.fst from rfl, ← List.map_map, List.map_append, e2]
          cases nm <;> rfl
        have e3 : ((nm.map (·, u0)).toList ++ ns.zip us).map (·.2) = (nm.map fun _ => u0).toList ++ us := by
          have e2 : (ns.zip us).map Prod.snd = us := List.map_snd_zip (by omega)
          rw [List.map_append, show (ns.zip us).map (fun x => x.2) = us from e2]
          cases nm <;> rfl
        show wpAny _ _ (assignInOrder (((nm.map (·, u0)).toList ++ ns.zip us).map fun x => bindName X.env x.1) (((nm.map (·, u0)).toList ++ ns.zip us).map (·.2))) _ _ _
        rw [e1, e3]
        have rr2 : Vals ((if nm.isSome then [V.str z] else []) ++ ys) ((nm.map fun _ => u0).toList ++ us) := by
          cases nm with
          | none => exact rr
          | some n => exact .cons r0 rr
        refine thn (pb.run pins s3 σ H _ _ _ I3 rr2 h) fun _ s4 ⟨σ4, H4, I4, q4⟩ => ?_
        exact hb.run pins s4 σ4 H4 D I4 q4
      · rw [if_neg (fun q => hm q.1)] at h
        rw [if_neg hm]
        exact hr.run pins s3 σ H D (.ref a) _ false I3 rfl h
  · rw [if_neg (fun q => hl q.2)] at h
    have hsz : its.toArray.size ≠ (hp :: ps).length := by rw [List.size_toArray, hlen, List.length_cons, hpl]; omega
    refine matchSeq_tuple_miss ht hfit hsz ?_ hstar hwild
    exact hr.run pins _ σ H D (.ref a) _ false (I.tok _) rfl h
theorem ps_match {e : Expr} {cs : List MatchCase} {pos : Pos} {te : TE} {tm : V → TS} (he : PE X e te) (hm : PM X cs tm) : PS X (.Match e cs pos) (fun D σ H => te σ H fun v H1 => tm v D σ H1) := by
  refine ⟨fun pins s σ H D I h => ?_⟩
  exact wpAny_Match (thn (he.run pins s σ H _ I h) fun u s1 ⟨v, H1, I1, r1, q1⟩ => hm.run pins s1 σ H1 D v u true I1 r1 q1)
end
/-! ### by data -/
section
variable {Γ : Gm} {X : Cx} {W : WX} {e : Expr} {pos : Pos} {ta : TPD}
structure DB (Γ : Gm) (X : Cx) (ns : List Str) (g : TGsD) : Prop where
  run : ∃ g', PB X ns g' ∧ RunGs Γ g' g
theorem db_nil : DB Γ X [] gdNil := ⟨_, pb_nil, fun S H σ ρ F vs ds Q Qh hl o q k => by
  obtain ⟨rfl, q⟩ := q
  cases vs with
  | nil => exact ⟨rfl, k S H σ ρ o q⟩
  | cons _ _ => simp at hl⟩
theorem db_cons {i : Nat} {x : Str} {ns : List Str} {u : TGsD} (hN : X.N.Nodup) (hi : X.N[i]? = some x) (hx : Loc X.env.scope x) (h2 : DB Γ X ns u) (hf : X.fn x = true ∨ X.env.scope.names.lookup x = some .local := by first | exact .inl rfl | exact .inr rfl | assumption) (hg : Γ.free i := by (intro v z; cases z)) : DB Γ X (x :: ns) (gdCons (gdName i) u) :=
  let ⟨_, p2, q2⟩ := h2.run
  ⟨_, pb_cons hN hi hx p2 hf, fun S H σ ρ F vs ds Q Qh hl o q k => by
    cases ds with
    | nil => exact q.elim
    | cons d ds =>
      cases vs with
      | nil => simp at hl
      | cons v vs =>
        refine ⟨v, vs, rfl, run_gname hg S H σ ρ (zipE vs ds ++ F) v (.v 0 d) (fun ρ' => u ds ρ' Q) _ o q fun S' H' σ' ρ' o' q' => ?_⟩
        exact q2 S' H' σ' ρ' F vs ds Q Qh (by simpa using hl) o' q' k⟩
structure DM (Γ : Gm) (X : Cx) (W : WX) (cs : List MatchCase) (t : Dat → TSD) : Prop where
  run : ∃ tm, PM X cs tm ∧ ∀ S H σ ρ F D Dh v d, StOk Γ S H σ ρ F → Is Γ.T Γ.K S v d → LE Γ F D Dh → LW Γ F D.ex W → t d D ρ → tm v Dh σ H
def mNil : Dat → TSD := fun _ D ρ => D.nx ρ
theorem dm_nil : DM Γ X W [] mNil := ⟨_, pm_nil, fun S H σ ρ F D Dh v d o is l w q => l.nx S H σ ρ o q⟩
def mCase (ws : List Str) (as : Bool) (k : Nat) (g : TGsD) (u : TSD) (r : Dat → TSD) : Dat → TSD := fun d D ρ => match d with
  | .tup (.str z :: ds) => if z ∈ ws ∧ ds.length = k then g ((if as then [.str z] else []) ++ ds) ρ (u D) else r d D ρ
  | _ => False
theorem isl_len {T : Tb} {K : PySem.W.Frag} {S : Hp} {vs : List V} {ds : List Dat} (h : IsL T K S vs ds) : vs.length = ds.length := h.len
theorem dm_cons {hp : Pattern} {ps : List Pattern} {ws : List Str} {nm : Option Str} {ns : List Str} {body : List Stmt} {rest : List MatchCase} {g : TGsD} {u : TSD} {r : Dat → TSD} (hc : X.calm = true)
    (hd : HeadOk X hp ws nm) (cp : Caps ps ns) (pb : DB Γ X (nm.toList ++ ns) g) (hb : DSs Γ X W body u) (hr : DM Γ X W rest r) (hK : Γ.K = X.K := by rfl)
    (hs : hp.isStar = false := by rfl) (hstar : (hp :: ps).findIdx? (·.isStar) = none := by rfl) (hwild : ((hp :: ps).all fun p => p.isWildcard || (p.isStar && p.names.isEmpty)) = false := by rfl) :
    DM Γ X W (⟨.MatchSequence (hp :: ps) pos, none, body⟩ :: rest) (mCase ws nm.isSome ns.length g u r) := by
  obtain ⟨_, p1, q1⟩ := pb.run
  obtain ⟨_, p2, q2⟩ := hb.run
  obtain ⟨_, p3, q3⟩ := hr.run
  refine ⟨_, pm_cons hc hd cp p1 p2 p3 hs hstar hwild, fun S H σ ρ F D Dh v d o is l w q => ?_⟩
  unfold mCase at q
  split at q
  · rename_i z ds
    cases is with
    | @tup a vs _ h1 l1 =>
      cases l1 with
      | @cons v0 _ vs0 _ i0 l0 =>
        cases i0
        refine ⟨a, z, vs0, rfl, hK ▸ o.ok.ex.stp h1, ?_⟩
        by_cases c : z ∈ ws ∧ ds.length = ns.length
        · rw [if_pos c] at q
          rw [if_pos ⟨c.1, l0.len.trans c.2⟩]
          have l2 : IsL Γ.T Γ.K S ((if nm.isSome then [V.str z] else []) ++ vs0) ((if nm.isSome then [Dat.str z] else []) ++ ds) := by
            cases nm.isSome
            · exact l0
            · exact .cons .str l0
          refine q1 S H σ ρ F _ _ (u D) _ l2.len (o.pushL l2) q fun S' H' σ' ρ' o' q' => ?_
          exact q2 S' H' σ' ρ' F D Dh o' l w q'
        · rw [if_neg c] at q
          rw [if_neg (fun y => c ⟨y.1, l0.len.symm.trans y.2⟩)]
          exact q3 S H σ ρ F D Dh _ _ o (.tup h1 (.cons .str l0)) l w q
  · exact q.elim
def kMat (t : Dat → TSD) (D : DEnds) (ρ2 : DEnv) (p2 : Pl) : Prop := match p2 with
  | .t (.v 0 d) => t d D ρ2
  | _ => False
def kMat1 (t : Dat → TSD) (D : DEnds) (ρ1 : DEnv) (p : Pl) : Prop := stillP ρ1 p (kMat t D)
def sMatch (ta : TPD) (t : Dat → TSD) : TSD := fun D ρ => ta D.ex ρ (kMat1 t D)
theorem e_sMatch (ta : TPD) (t : Dat → TSD) (D : DEnds) (ρ : DEnv) : sMatch ta t D ρ = ta D.ex ρ (kMat1 t D) := rfl
theorem e_mNil (d : Dat) (D : DEnds) (ρ : DEnv) : mNil d D ρ = D.nx ρ := rfl
theorem e_mCase (ws : List Str) (as : Bool) (k : Nat) (g : TGsD) (u : TSD) (r : Dat → TSD) (z : Str) (ds : List Dat) (D : DEnds) (ρ : DEnv) : mCase ws as k g u r (.tup (.str z :: ds)) D ρ = if z ∈ ws ∧ ds.length = k then g ((if as then [.str z] else []) ++ ds) ρ (u D) else r (.tup (.str z :: ds)) D ρ := rfl
theorem ds_match {cs : List MatchCase} {t : Dat → TSD} (he : DP Γ X W e ta) (hm : DM Γ X W cs t) : DS Γ X W (.Match e cs pos) (sMatch ta t) := by
  obtain ⟨_, p, q⟩ := he.run
  obtain ⟨_, pm, qm⟩ := hm.run
  refine ⟨_, ps_match p pm, fun S H σ ρ F D Dh o l w x => ?_⟩
  refine q S H σ ρ F D.ex _ _ o w x fun v S' H' ρ' pl hp o' x' => ?_
  obtain ⟨S2, ρ2, d, o2, x2⟩ := still_ok o' hp x'
  have is := (o2.ok.perm (L' := (some v, some (.v 0 d)) :: (σ.zip ρ2 ++ F)) List.perm_middle).is0
  exact qm S2 H' σ ρ2 F D Dh v d o2.drop is l w x2
end
end Sw

/-! The data layer, 43: min(list of whole numbers). -/
namespace Sw
open PySem L2
section
variable {Γ : Gm}
def uMinL : LD := fun xs R => match xs with
  | [.lst zs] => ∃ ns : List Int, zs = nums ns ∧ 0 < ns.length ∧ ∀ m, m ∈ ns → (∀ y, y ∈ ns → m ≤ y) → R 0 (.int m)
  | _ => False
theorem br_minL : BrC Γ (rMin Γ.K) uMinL := by
  intro S H vs ds Q Qh e r q p
  unfold uMinL at q
  split at q
  · obtain ⟨ns, rfl, h0, q⟩ := q
    obtain ⟨v, rfl, r1⟩ := rb1 r
    obtain ⟨a, rfl, h⟩ := rb_ints e r1
    exact ⟨a, ns, rfl, h, h0, fun m h1 h2 => p.sc e .int (q m h1 h2)⟩
  · exact q.elim
end
theorem e_mCase0 (ws : List Str) (k : Nat) (g : TGsD) (u : TSD) (r : Dat → TSD) (z : Str) (ds : List Dat) (D : DEnds) (ρ : DEnv) : mCase ws false k g u r (.tup (.str z :: ds)) D ρ = if z ∈ ws ∧ ds.length = k then g ds ρ (u D) else r (.tup (.str z :: ds)) D ρ := rfl
theorem e_mCase1 (ws : List Str) (k : Nat) (g : TGsD) (u : TSD) (r : Dat → TSD) (z : Str) (ds : List Dat) (D : DEnds) (ρ : DEnv) : mCase ws true k g u r (.tup (.str z :: ds)) D ρ = if z ∈ ws ∧ ds.length = k then g (.str z :: ds) ρ (u D) else r (.tup (.str z :: ds)) D ρ := rfl
end Sw

/-! The data layer, 44: defs that call themselves; xs.pop(). -/
namespace Sw
open PySem L2 PySem.Calls PyProof.Rows
section
variable {P : Program} {w : World} {K : PySem.W.Frag} {mg : Str → Option Value} {base : Heap} {Γ : Gm} {x qual : Str} {params : Arguments} {body : List Stmt} {scope : Scope} {dvs : List V} {kws : List (Str × V)} {f : Addr} {fd : FuncData} {N ps : List Str} {k : Nat} {ms : List Bool} {dsp : DSp}
/-- no promise at all -/
theorem fn0 (F : FunD K x qual params body scope dvs kws f fd) (S : FnScope N ps scope) (h0 : ∀ ds Q E, ¬ dsp ds Q E) : FnOk P w K mg base (L2.CX P w) (k + 1) f fd ps (lift Γ ms dsp) := by
  refine F.ok S (fun vs H Q E h => ?_) (fun cdv A outer s H vs Q E hr h => ?_)
  · obtain ⟨_, ds, Q1, E1, _, _, sp, _, _⟩ := h
    exact (h0 ds Q1 E1 sp).elim
  · obtain ⟨_, ds, Q1, E1, _, _, sp, _, _⟩ := h
    exact (h0 ds Q1 E1 sp).elim
end
section
variable {Γ : Gm} {X : Cx} {W : WX} {pos : Pos}
theorem isl_last {T : Tb} {K : PySem.W.Frag} {S : Hp} : ∀ {vs : List V} {ds : List Dat}, IsL T K S vs ds → IsL T K S vs.dropLast ds.dropLast := fun {vs ds} h => by
  rw [List.dropLast_eq_take, List.dropLast_eq_take, h.len]
  exact isl_take _ h
def pPop0 (i : Nat) : TPD := fun E ρ Q => match (ρ[i]? : Option (Option Sl)) with
  | some (some (.v 1 (.lst ds))) => (match ds[ds.length - 1]? with
    | some d => Q (ρ.set i (some (.v 1 (.lst ds.dropLast)))) (.t (.v 0 d))
    | none => False)
  | _ => False
theorem e_pPop0 (i : Nat) (E : DEx) (ρ : DEnv) (Q : DEnv → Pl → Prop) : pPop0 i E ρ Q = match (ρ[i]? : Option (Option Sl)) with
  | some (some (.v 1 (.lst ds))) => (match ds[ds.length - 1]? with
    | some d => Q (ρ.set i (some (.v 1 (.lst ds.dropLast)))) (.t (.v 0 d))
    | none => False)
  | _ => False := rfl
theorem dp_pop0 {i : Nat} {x : Str} {px apos cpos : Pos} (hx : PE X (.Name x px) (tVar i))
    (hbase : attributeBase (.Name x px) "pop" X.env (eval (.Name x px) X.env) = eval (.Name x px) X.env := by rfl)
    (hline : (apos.endLine == cpos.line) = true := by rfl) :
    DP Γ X W (.Call (.Attribute (.Name x px) "pop" apos) [] [] cpos) (pPop0 i) := by
  refine ⟨_, pe_bm0 PySem.F.plainAttrs_list PySem.F.slot_list_pop PySem.F.type_list_pop mt_pop hx hbase hline, fun S H σ ρ F E Q Qh o1 l w kk => ?_⟩
  unfold pPop0 at w
  split at w
  · rename_i ds e0
    split at w
    · rename_i d hd
      obtain ⟨a, vs, hv, h1, h2, il, up⟩ := o1.lst e0
      obtain ⟨v, hvn, iv⟩ := isl_at il hd
      refine ⟨.ref a, hv, Or.inl ⟨rfl, vs, .inl (.inl h1)⟩, a, vs, v, rfl, rfl, h1, by rw [il.len]; exact hvn, ?_⟩
      exact kk v S _ _ (.t (.v 0 d)) trivial ((up _ _ (isl_last il)).pushS iv) w
    · exact w.elim
  · exact w.elim
end
end Sw

/-! The data layer, 45: str of a whole number or of a text. -/
namespace Sw
open PySem L2
section
variable {Γ : Gm} {X : Cx}
theorem call_strX : CallR X (.type "str") (fun xs H Q => (∃ i : Int, xs = [V.int i] ∧ i.natAbs.log2 < 1920 ∧ Q (.str (toString i)) H) ∨ ∃ a, xs = [V.str a] ∧ Q (.str a) H) := CallR.or call_str_int SkE.call_str_str
def uStrX : LD := fun xs R => match xs with
  | [.int i] => Sm i ∧ R 0 (.str (toString i))
  | [.str z] => R 0 (.str z)
  | _ => False
theorem br_strX : BrC Γ (fun xs H Q => (∃ i : Int, xs = [V.int i] ∧ i.natAbs.log2 < 1920 ∧ Q (.str (toString i)) H) ∨ ∃ a, xs = [V.str a] ∧ Q (.str a) H) uStrX := by
  intro S H vs ds Q Qh e r q p
  unfold uStrX at q
  split at q
  · obtain ⟨v, rfl, r1⟩ := rb1 r
    exact .inl ⟨_, by rw [r1.int], Nat.lt_trans (log2_of q.1) (by decide), p.sc e .str q.2⟩
  · obtain ⟨v, rfl, r1⟩ := rb1 r
    exact .inr ⟨_, by rw [r1.str], p.sc e .str q⟩
  · exact q.elim
end
end Sw

/-! The data layer, 45: an own `~`. -/
namespace Sw
open PySem L2 PyProof.Rows PySem.Calls PySem.W
section
variable {X : Cx} {k : Nat} {C f : Addr} {fd : FuncData} {ps : List Str} {sp : Sp} {W : WX} {a : Expr} {pos : Pos} {ta : TE}
def tInv (C : Addr) (sp : Sp) (W : WX) (ta : TE) : TE := fun σ H Q => ta σ H fun x H1 => InsA C x H1 ∧ sp [x] H1 Q (WE W σ)
theorem pe_inv (c : Meth X.K C "__invert__" f) (F : FnOk X.prog X.w X.K X.mg X.base (L2.CX X.prog X.w) k f fd ps sp) (hr : Room k X.A) (hb : Binds X.K fd ps []) (tk : L2.Takes X W) (ha : PE X a ta) : PE X (.UnaryOp .Invert a pos) (tInv C sp W ta) := by
  refine ⟨fun pins s σ H Q I h => UnaryOp_ ?_⟩
  refine thn (ha.run pins s σ H _ I h) fun v s1 ⟨x, H1, I1, r1, ⟨i, dx, fs, ex, ei⟩, q1⟩ => ?_
  subst ex
  obtain rfl : v = Value.ref i := r1
  obtain ⟨mA, J, _⟩ := ins_get I1.hok ei
  obtain ⟨od, J, _⟩ := J.look
  obtain ⟨m, hF⟩ := I1.fr
  have Xk := I1.ok.mod.kin.keeps hF.keep
  unfold unaryOp
  refine wpAny_holding ?_
  show wpAny _ _ (callSpecial? (.ref i) (Str.ofString "__invert__") [] >>= _) _ _ _
  refine wpAny_bind (special_fn Xk J c.at_ (beq_iff_eq.mp c.fn) ?_)
  exact thn (run_fnSD (E := fun σ => WE W σ) (dvs := []) (ds := []) F hr hb .nil (passAt tk σ) I1 (vs := [.ref i]) (.cons rfl .nil) (by rw [List.append_nil]; exact q1)) fun u s' hq => wpAny_pure hq
end
section
variable {Γ : Gm} {X : Cx} {W : WX} {a : Expr} {pos : Pos} {ta : TPD}
/-- the method __invert__ of the class c -/
structure IvG (M : Wd) (Γ : Gm) (c : Nat) (k : Nat) (ps : List Str) (ms : List Bool) (dsp : DSp) : Prop where
  ok : OwG M Γ c "__invert__" k ps ms dsp
def kInv (E : DEx) (Q : DEnv → Pl → Prop) (c : Nat) (ms : List Bool) (dsp : DSp) (ρ2 : DEnv) (pa : Pl) : Prop := match pa.d ρ2 with
  | some (.obj k _) => k = c ∧ (match argL ρ2 ms [pa] with
    | some ds => dsp ds (kv Q ρ2) (kx E ρ2)
    | none => False)
  | _ => False
def pInv (c : Nat) (ms : List Bool) (dsp : DSp) (ta : TPD) : TPD := fun E ρ Q => ta E ρ (kInv E Q c ms dsp)
theorem e_pInv (c : Nat) (ms : List Bool) (dsp : DSp) (ta : TPD) (E : DEx) (ρ : DEnv) (Q : DEnv → Pl → Prop) : pInv c ms dsp ta E ρ Q = ta E ρ (kInv E Q c ms dsp) := rfl
theorem run_inv {c : Nat} {ms : List Bool} {dsp : DSp} {ta' : TE} (ha : RunP Γ W ta' ta) : RunP Γ W (tInv (Γ.T c).C (lift Γ ms dsp) W ta') (pInv c ms dsp ta) := by
  intro S H σ ρ F E Q Qh o l x kk
  refine ha S H σ ρ F E _ _ o l x fun v S2 H2 ρ2 po hp o2 x2 => ?_
  have o2' : StOk Γ S2 H2 σ ρ2 (tmps [v] [po] ++ F) := by
    show StOk Γ S2 H2 σ ρ2 ((tmps [] [] ++ po.tmp v) ++ F)
    exact o2
  unfold kInv at x2
  split at x2
  · rename_i c1 f1 e1
    obtain ⟨rfl, x2⟩ := x2
    have rb : Rb Γ S2 H2 v _ := o2.rb hp (List.sublist_append_left _ F) e1
    obtain ⟨a, dx, vs0, rfl, h1, _, _⟩ := rb.obj o2.ok.ex
    refine ⟨⟨a, dx, _, rfl, h1⟩, ?_⟩
    split at x2
    · rename_i ds ed2
      have o3 := o2'.sub (F' := F) (List.sublist_append_right _ _)
      have a2 := argL_of o2' (.cons hp .nil) (List.sublist_append_left _ _) ed2
      exact ⟨S2, _, _, _, o2'.ok.ex, a2, x2, fun S3 H3 k z dz f st ow nd nw qq => kk z S3 H3 ρ2 (.t (.v k dz)) trivial (o3.push st ow nd nw) qq, fun S3 H3 y cls dd st ea ey => l S3 H3 σ ρ2 y cls dd (o3.step st) ea ey⟩
    · exact x2.elim
  · exact x2.elim
theorem dp_inv {Γ' : Gm} {c k : Nat} {ps : List Str} {ms : List Bool} {dsp : DSp} (g : OwG (wd X) Γ' c "__invert__" k ps ms dsp) (hr : Room k X.A) (tk : L2.Takes X W) (ha : DP Γ X W a ta)
    (hT : Γ'.T = Γ.T := by rfl) (hX : Γ'.X = Γ.X := by rfl) (hK : Γ'.K = Γ.K := by rfl) : DP Γ X W (.UnaryOp .Invert a pos) (pInv c ms dsp ta) := by
  obtain ⟨f, fd, hm, hb', F⟩ := g.ok
  obtain ⟨_, p1, q1⟩ := ha.run
  rw [lift_in hT hX hK] at F
  rw [hT] at hm
  exact ⟨_, pe_inv hm F hr hb' tk p1, run_inv q1⟩
end
end Sw

/-! The data layer, 46: sorted(list of any data of one shape). -/
namespace L2
open PySem PySem.Spec PyProof.Rows
def rSortedD (K : PySem.W.Frag) : List V → Hp → VK → Prop := fun vs H Q => ∃ (a : Addr) (zs : List (V × PyData)), vs = [V.ref a] ∧ SqL K H a (zs.map Prod.fst) ∧ (∀ z ∈ zs, Dp K H z.1 z.2) ∧ PySem.W.AllAlike (zs.map Prod.snd) ∧ PySem.W.Sortable (zs.map Prod.snd) ∧ (∀ z ∈ zs, z.2.depth ≤ 60) ∧
  ∀ p : Addr, H p = none → Q (.ref p) (upd H p (.lst ((zs.mergeSort (PySem.W.dataLe false Prod.snd)).map Prod.fst)))
theorem eachIs_vals : ∀ {zs : List (V × PyData)} {us : List Value}, Vals (zs.map Prod.fst) us → PySem.W.EachIs (fun u (z : V × PyData) => RelV z.1 u) us zs
  | [], _, .nil => .nil
  | z :: zs, _, .cons h l => .cons h (eachIs_vals l)
theorem eachIs_keep {R R' : Value → V × PyData → Prop} : ∀ {zs : List (V × PyData)} {us : List Value}, PySem.W.EachIs R us zs → (∀ z ∈ zs, ∀ u, R u z → R' u z) → PySem.W.EachIs R' us zs
  | _, _, .nil, _ => .nil
  | _, _, .cons h l, k => .cons (k _ (List.mem_cons_self ..) _ h) (eachIs_keep l fun z hz => k z (List.mem_cons_of_mem _ hz))
theorem vals_eachIs : ∀ {zs : List (V × PyData)} {us : List Value}, PySem.W.EachIs (fun u (z : V × PyData) => RelV z.1 u) us zs → Vals (zs.map Prod.fst) us
  | _, _, .nil => .nil
  | _, _, .cons h l => .cons h (vals_eachIs l)
section
variable {X : Cx}
theorem cr_sortedD (hu : X.A.units + 64 < cLine) : CallR X (.builtin "sorted") (rSortedD X.K) := by
  intro pins s σ H vs us Q I r h
  obtain ⟨a, zs, rfl, hs, hd, ha, hk, hz, q⟩ := h
  obtain ⟨its, rv, hl, hsz⟩ := I.list hs
  rw [Vals.ref1 r]
  have ei := eachIs_vals rv
  refine PySem.W.sorted_data (R := fun u (z : V × PyData) => RelV z.1 u) (bs := zs) (enc := Prod.snd) hl.isList ei (eachIs_keep ei fun z hz2 u e => Dp.reads I z.2 z.1 u (hd z hz2) e) ha hk (by rw [List.length_map] at hsz; exact hsz) (fun z hz2 => by have := hz z hz2; omega) fun out ho eo => ?_
  obtain ⟨ep, he'⟩ := PyProof.Rows.sortedAll_at s.heap its out.toArray
  have hlen : ((zs.mergeSort (PySem.W.dataLe false Prod.snd)).map Prod.fst).length ≤ sizeLine := by
    rw [List.length_map, List.length_mergeSort]
    rw [List.length_map] at hsz
    exact hsz
  exact ⟨.ref _, upd H (s.heap.objs.size + 1) (.lst _), I.laid (t' := s.toks) (fun _ _ => PyProof.Rows.sortedAll_old) (Nat.le_succ _) ⟨hlen, out, ep, vals_eachIs eo, he'⟩, rfl, q _ (I.hok.fresh (Nat.le_succ _))⟩
end
end L2
namespace Sw
open PySem L2 PyProof.Rows
def leD (x y : Dat) : Bool := PySem.W.dataLe false py x y
/-- data of one shape -/
structure SrtOk (ds : List Dat) : Prop where
  al : PySem.W.AllAlike (ds.map py)
  so : PySem.W.Sortable (ds.map py)
  pl : ∀ d ∈ ds, plain d = true ∧ (py d).depth ≤ 60
def uSortedD : LD := fun xs R => match xs with
  | [.lst ds] => SrtOk ds ∧ R 1 (.lst (ds.mergeSort leD))
  | _ => False
section
variable {Γ : Gm}
theorem isl_pairs {S : Hp} : ∀ (zs : List (V × Dat)), (∀ z ∈ zs, Is Γ.T Γ.K S z.1 z.2) → IsL Γ.T Γ.K S (zs.map Prod.fst) (zs.map Prod.snd)
  | [], _ => .nil
  | z :: zs, h => .cons (h z (List.mem_cons_self ..)) (isl_pairs zs fun y hy => h y (List.mem_cons_of_mem _ hy))
theorem isl_zipP {S : Hp} : ∀ {vs : List V} {ds : List Dat}, IsL Γ.T Γ.K S vs ds → (∀ z ∈ vs.zip ds, Is Γ.T Γ.K S z.1 z.2) ∧ (vs.zip ds).map Prod.fst = vs ∧ (vs.zip ds).map Prod.snd = ds
  | _, _, .nil => ⟨fun z hz => (by cases hz), rfl, rfl⟩
  | v :: vs, d :: ds, .cons h l => by
    obtain ⟨h1, h2, h3⟩ := isl_zipP l
    refine ⟨fun z hz => ?_, ?_, ?_⟩
    · rw [List.zip_cons_cons] at hz
      rcases List.mem_cons.mp hz with e | hz
      · rw [e]; exact h
      · exact h1 z hz
    · rw [List.zip_cons_cons, List.map_cons, h2]
    · rw [List.zip_cons_cons, List.map_cons, h3]
theorem br_sortedD : BrC Γ (rSortedD Γ.K) uSortedD := by
  intro S H vs ds Q Qh e r q p
  unfold uSortedD at q
  split at q
  · rename_i es
    obtain ⟨ok, q⟩ := q
    obtain ⟨v, rfl, r1⟩ := rb1 r
    obtain ⟨a, ws, rfl, h, l⟩ := r1.lst e
    obtain ⟨z1, z2, z3⟩ := isl_zipP l
    have m1 : ∀ (zs : List (V × Dat)), (zs.map fun z => (z.1, py z.2)).map Prod.fst = zs.map Prod.fst := fun zs => by rw [List.map_map]; rfl
    have m2 : ∀ (zs : List (V × Dat)), (zs.map fun z => (z.1, py z.2)).map Prod.snd = (zs.map Prod.snd).map py := fun zs => by rw [List.map_map, List.map_map]; rfl
    refine ⟨a, (ws.zip es).map fun z => (z.1, py z.2), rfl, ?_, ?_, ?_, ?_, ?_, fun P n => ?_⟩
    · rw [m1, z2]; exact .of h
    · intro z hz
      obtain ⟨y, hy, rfl⟩ := List.mem_map.mp hz
      have hd : y.2 ∈ es := by rw [← z3]; exact List.mem_map_of_mem hy
      exact dp_is e (z1 y hy) (ok.pl _ hd).1
    · rw [m2, z3]; exact ok.al
    · rw [m2, z3]; exact ok.so
    · intro z hz
      obtain ⟨y, hy, rfl⟩ := List.mem_map.mp hz
      have hd : y.2 ∈ es := by rw [← z3]; exact List.mem_map_of_mem hy
      exact (ok.pl _ hd).2
    · have e1 : (((ws.zip es).map fun z => (z.1, py z.2)).mergeSort (PySem.W.dataLe false Prod.snd)) = ((ws.zip es).mergeSort (fun x y => leD x.2 y.2)).map fun z => (z.1, py z.2) :=
        (PySem.W.sort_maps (r := fun x y : V × Dat => leD x.2 y.2) (s := PySem.W.dataLe false Prod.snd) (fun z : V × Dat => (z.1, py z.2)) fun _ _ _ _ => rfl).symm
      have e2 : es.mergeSort leD = ((ws.zip es).mergeSort (fun x y => leD x.2 y.2)).map Prod.snd := by
        have := PySem.W.sort_maps (r := fun x y : V × Dat => leD x.2 y.2) (s := leD) Prod.snd (l := ws.zip es) fun _ _ _ _ => rfl
        rw [z3] at this
        exact this.symm
      rw [e1, m1]
      rw [e2] at q
      refine p.lst e n (isl_pairs _ fun z hz => z1 z ?_) q
      exact List.mem_mergeSort.mp hz
  · exact q.elim
end
end Sw

/-! The data layer, 47: two clauses `except A as e`, `except B as e`. -/
namespace L2
open PySem PySem.Spec PyProof.Rows
abbrev TSX := Addr → Value → Option Addr → TS
def wNamed (K : PySem.W.Frag) (i : Nat) (Wout : WX) (D : Ends) : List (Value × TSX) → WX
  | [] => Wout
  | (c, ts) :: r => fun cls d σ H => ∃ b, PySem.W.exmOne K cls c = some b ∧ (b = true → ∀ a, H a = none → ts a cls d { nx := fun σ' H' => D.nx (σ'.set i none) H', rt := D.rt, bk := fun σ' H' => D.bk (σ'.set i none) H', ct := fun σ' H' => D.ct (σ'.set i none) H' } (σ.set i (some (.ref a))) H) ∧
    (b = false → wNamed K i Wout D r cls d σ H)
inductive HdsNm (X : Cx) (n : Str) : List ExceptHandler → List (Value × TSX) → Prop
  | nil : HdsNm X n [] []
  | cons {x : Str} {c : Value} {ts : TSX} {b₀ : Stmt} {suite : List Stmt} {np pos' : Pos} {hds : List ExceptHandler} {l : List (Value × TSX)} (hc : Names X x c)
      (hsu : ∀ (a : Addr) (oe : Obj) (cls : Value) (d : Option Addr) (pn : List (Addr × Obj)), Zc cls d oe → (∃ vs, oe.data = .fields vs) → PSs (X.suite a ((a, oe) :: pn)) (b₀ :: suite) (ts a cls d)) (r : HdsNm X n hds l) :
      HdsNm X n (.ExceptHandler (some (.Name x np)) (some n) (b₀ :: suite) pos' :: hds) ((c, ts) :: l)
section
variable {X : Cx} {n : Str} {i : Nat} {body : List Stmt} {h₀ : ExceptHandler} {hds : List ExceptHandler} {l : List (Value × TSX)} {pos : Pos} {tb : WX → TS} {Wout : WX}
theorem ps_try_named (hs : X.stack = X.env :: X.outer) (hf : X.env.frame = some X.env.locals) (hN : X.N.Nodup) (hi : X.N[i]? = some n) (hln : X.env.kindOf n = some .local) (tk : Takes X Wout)
    (hb : ∀ (W : WX) (pn : List (Addr × Obj)) (xe : Value → Shared → Prop), Takes (X.tr pn xe) W → PassesOwn (model X.prog X.w) X.A X.env xe → PSs (X.tr pn xe) body (tb W))
    (hh : HdsNm X n (h₀ :: hds) l) : PS X (.Try body (h₀ :: hds) [] [] pos) (fun D σ H => tb (wNamed X.K i Wout D l) D σ H) := by
  refine ⟨fun pins s σ H D I h => ?_⟩
  have ok := I.ok
  have hfr : X.A.frames = some (X.env :: X.outer) := by rw [ok.frames, hs]
  have hloc : Loc X.env.scope n := .inl hln
  refine wpAny_Try_except ?_
  refine wpAny_mono ((hb (wNamed X.K i Wout D l) (X.pn ++ pins) (fun e s₁ => wpAny (model X.prog X.w) X.A (noteFrame e X.env) (fun _ s₂ => wpAny (model X.prog X.w) X.A (setFlight e none) (fun _ s₃ =>
    wpAny (model X.prog X.w) X.A (handleBy e X.env (h₀ :: hds)) (SP X pins D) X.xe s₃) X.xe s₂) X.xe s₁) (fun u s' xx => ?_) PassesOwn.looking).run [] s σ H D (I.toTry _) h) (fun f s1 hsp => ?_) (fun e s1 he => he)
  · obtain ⟨a, B, sI, pins', σ', H', cls, d, rfl, J', nb, up, sky, na, os, ag, w⟩ := xx
    have J : Inv X pins σ' H' sI := J'.ofTry ok
    have sky' : Sky B (X.env :: X.outer) a (Zc cls d) X.env.locals s'.heap := by rw [← hs]; exact sky
    show wpAny (model X.prog X.w) X.A (noteFrame (.ref a) X.env) _ _ _
    refine Sky.land Zc.steady hfr hf sky' fun h3 fl3 up3 => ?_
    have J3 : Inv X pins σ' H' { s' with heap := h3 } := J.landed nb fl3.1 (up.trans up3) os ag
    obtain ⟨oe3, vs3, he3, hz3, hd3⟩ := fl3.there
    have notFr : ∀ {h : Heap} {o : Obj} {vs : Array Value}, h.FunFrames B (X.env :: X.outer) → h.get? a = some o → o.data = .fields vs → a ∉ frs (X.env :: X.outer) := fun {h o vs} ff e dd hm => by
      obtain ⟨_, o', e', hnf⟩ := ff.mem hm
      rw [e] at e'; cases e'
      exact hnf _ dd
    have nfr := notFr fl3.2.2.1 he3 hd3
    have nL : a ≠ X.env.locals := fun z => nfr (List.mem_filterMap.mpr ⟨X.env, List.mem_cons_self, by rw [hf, z]⟩)
    have nF : a ∉ X.fs := fun hm => by
      obtain ⟨e, he, q⟩ := List.mem_filterMap.mp hm
      exact nfr (List.mem_filterMap.mpr ⟨e, List.mem_cons_of_mem _ he, q⟩)
    have S3 := J3.suite he3 hd3 na nL nF
    have go : ∀ {hds' : List ExceptHandler} {l' : List (Value × TSX)}, HdsNm X n hds' l' → wNamed X.K i Wout D l' cls d σ' H' →
        wpAny (model X.prog X.w) X.A (handleBy (.ref a) X.env hds') (SP X pins D) X.xe { s' with heap := h3 } := by
      intro hds' l' hk
      induction hk with
      | nil =>
        intro w
        refine wpAny_handleBy_nil ?_
        obtain ⟨k1, k2, k3, oe, vs, T, oT, ts', he, hz, hd, h1, hr⟩ := id fl3
        unfold PySem.passOn
        refine wpAny_bind (wpAny_field he hd h1 ?_)
        rw [if_neg (show ¬ ((Value.ref T == Value.none) = true) from by simp)]
        have fin : wpAny (model X.prog X.w) X.A (setFlight (.ref a) X.env.frame) (fun _ s4 => wpAny (model X.prog X.w) X.A (throw (.ref a) : Sem Flow) (SP X pins D) X.xe s4) X.xe { s' with heap := h3 } := by
          rw [hf]
          refine HandSPX.setFlight_upZ fl3 fun h4 hh4 up4 => wpAny_throw (tk _ _ ?_)
          exact ⟨a, B, sI, pins, σ', H', cls, d, rfl, J, nb, (up.trans up3).trans up4, .inr (.inr (by rw [hs]; exact hh4)), na, os, ag, w⟩
        first
          | exact wpAny_bind (wpAny_pure (wpAny_bind fin))
          | exact wpAny_bind fin
      | @cons x c ts b₀ suite np pos' hds2 l2 hc hsu r ih =>
        intro w
        obtain ⟨b, hb1, hyes, hno⟩ := w
        refine wpAny_handleBy_cons (codeAny_handlers_test ?_) (by intro q; cases q)
        have LT : PySem.W.Looks (model X.prog X.w) h3 (typeOf (.ref a)) cls := fun A Q E s k q => wpAny_typeOf_ref (k _ _ he3) (by rw [hz3.1]; exact q)
        have LM := PySem.W.exm_one (M := model X.prog X.w) (J3.kIn) LT hb1
        have test : ∀ {Q : Value → Shared → Prop} {E : Value → Shared → Prop}, Q c { s' with heap := h3 } → wpAny (model X.prog X.w) (X.A.mark (some (.ref a))) (eval (.Name x np) X.env) Q E { s' with heap := h3 } := fun {Q E} q => by
          obtain ⟨hg, hdbg, hm | ⟨hm, hv, hnn⟩⟩ := hc
          · exact ld_glob (X := X.suite a ((a, oe3) :: (X.pn ++ pins))) S3 hg hm q hdbg
          · exact ld_blt (X := X.suite a ((a, oe3) :: (X.pn ++ pins))) S3 hg hm hv q hnn hdbg
        refine test (LM.here ?_)
        cases b with
        | true =>
          refine codeAny_handlers_suite_as ?_
          refine HandSPX.lands_againZ fl3 fun h4 fl4 up4 => ?_
          have J4 : Inv X pins σ' H' { s' with heap := h4 } := J.landed nb fl4.1 ((up.trans up3).trans up4) os ag
          obtain ⟨oe4, vs4, he4, hz4, hd4⟩ := fl4.there
          have S4 := J4.suite he4 hd4 na nL nF
          refine store_ok (X := X.suite a ((a, oe4) :: (X.pn ++ pins))) (v := .ref a) S4 hN hi hloc rfl (fun s5 S5 => ?_) (.inr hln)
          refine wpAny_mono ((hsu a oe4 cls d (X.pn ++ pins) hz4 ⟨_, hd4⟩).run [] s5 _ H' _ S5 (hyes rfl a na)) (fun f s6 hsp => ?_) (fun _ _ z => False.elim z)
          have end_ : ∀ {σ6 : St} {H6 : Hp} {Q : Shared → Prop}, Inv (X.suite a ((a, oe4) :: (X.pn ++ pins))) [] σ6 H6 s6 → (∀ s7, Inv X pins (σ6.set i none) H6 s7 → Q s7) →
              wpAny (model X.prog X.w) X.A (do bindName X.env n .none; unbindBehindTheSuite X.env n pos') (fun _ s7 => Q s7) X.xe s6 := fun {σ6 H6 Q} S6 hq => gone_ok (S6.unsuite ok) hN hi hln hq
          cases f with
          | next =>
            obtain ⟨σ6, H6, S6, q6⟩ := hsp
            exact end_ S6 fun s7 J7 => ⟨_, _, J7, q6⟩
          | brk =>
            obtain ⟨σ6, H6, S6, q6⟩ := hsp
            exact end_ S6 fun s7 J7 => ⟨_, _, J7, q6⟩
          | cont =>
            obtain ⟨σ6, H6, S6, q6⟩ := hsp
            exact end_ S6 fun s7 J7 => ⟨_, _, J7, q6⟩
          | ret u =>
            obtain ⟨v6, σ6, H6, S6, r6, q6⟩ := hsp
            exact end_ S6 fun s7 J7 => ⟨_, _, _, J7, r6, q6⟩
        | false =>
          show wpAny _ X.A (handleBy (.ref a) X.env hds2) _ _ _
          exact ih (hno rfl)
    exact go hh w
  · cases f with
    | next =>
      obtain ⟨σ', H', J', q⟩ := hsp
      exact wpAny_execs_nil ⟨σ', H', J'.ofTry ok, q⟩
    | brk =>
      obtain ⟨σ', H', J', q⟩ := hsp
      exact ⟨σ', H', J'.ofTry ok, q⟩
    | cont =>
      obtain ⟨σ', H', J', q⟩ := hsp
      exact ⟨σ', H', J'.ofTry ok, q⟩
    | ret u =>
      obtain ⟨v, σ', H', J', r, q⟩ := hsp
      exact ⟨v, σ', H', J'.ofTry ok, r, q⟩
end
end L2
namespace Sw
open PySem L2 PySem.Calls PyProof.Rows
section
variable {Γ : Gm} {X : Cx} {W : WX} {pos np np2 pos' pos2 : Pos} {b : TSD} {su su2 : Exn → TSD} {body suite suite2 : List Stmt} {b₀ b₂ : Stmt} {x x2 n : Str} {c c2 : Value} {i : Nat} {hd hd2 : Nat → Option Bool}
theorem ds_try2 (hs : X.stack = X.env :: X.outer) (hf : X.env.frame = some X.env.locals) (hN : X.N.Nodup) (hi : X.N[i]? = some n) (hln : X.env.kindOf n = some .local) (hc : Names X x c) (hc2 : Names X x2 c2) (tk : Takes X W)
    (hh : ∀ k q, hd k = some q → PySem.W.exmOne X.K (.ref (Γ.X k).C) c = some q) (hh2 : ∀ k q, hd2 k = some q → PySem.W.exmOne X.K (.ref (Γ.X k).C) c2 = some q)
    (hb : ∀ (W' : WX) (pn : List (Addr × Obj)) (xe : Value → Shared → Prop), Takes (X.tr pn xe) W' → PassesOwn (model X.prog X.w) X.A X.env xe → DSs Γ (X.tr pn xe) W' body b)
    (hsu : ∀ (x : Exn) (a : Addr) (oe : Obj) (dd : Option Addr) (pn : List (Addr × Obj)) (S : Hp), Zc (.ref (Γ.X x.k).C) dd oe → (∃ vs, oe.data = .fields vs) → XAt Γ S dd x → DSs (Γ.at_ S i a) (X.suite a ((a, oe) :: pn)) W0 (b₀ :: suite) (su x))
    (hsu2 : ∀ (x : Exn) (a : Addr) (oe : Obj) (dd : Option Addr) (pn : List (Addr × Obj)) (S : Hp), Zc (.ref (Γ.X x.k).C) dd oe → (∃ vs, oe.data = .fields vs) → XAt Γ S dd x → DSs (Γ.at_ S i a) (X.suite a ((a, oe) :: pn)) W0 (b₂ :: suite2) (su2 x)) (hme : Γ.me = none := by rfl) :
    DS Γ X W (.Try body [.ExceptHandler (some (.Name x np)) (some n) (b₀ :: suite) pos', .ExceptHandler (some (.Name x2 np2)) (some n) (b₂ :: suite2) pos2] [] [] pos) (sTry (sTry b i hd su) i hd2 su2) := by
  have hb' := fun W' pn xe h1 h2 => (hb W' pn xe h1 h2).run
  have hsu' := fun x a oe dd pn S h1 h2 h3 => (hsu x a oe dd pn S h1 h2 h3).run
  have hsu2' := fun x a oe dd pn S h1 h2 h3 => (hsu2 x a oe dd pn S h1 h2 h3).run
  let tb : WX → TS := fun W' D σ H => ∀ pn xe h1 h2, Classical.choose (hb' W' pn xe h1 h2) D σ H
  let ts : TSX := fun a cls dd D σ H => ∃ (x : Exn) (S : Hp) (e : cls = .ref (Γ.X x.k).C) (hx : XAt Γ S dd x), ∀ (oe : Obj) (pn : List (Addr × Obj)) (hz : Zc cls dd oe) (hfl : ∃ vs, oe.data = .fields vs), Classical.choose (hsu' x a oe dd pn S (e ▸ hz) hfl hx) D σ H
  let ts2 : TSX := fun a cls dd D σ H => ∃ (x : Exn) (S : Hp) (e : cls = .ref (Γ.X x.k).C) (hx : XAt Γ S dd x), ∀ (oe : Obj) (pn : List (Addr × Obj)) (hz : Zc cls dd oe) (hfl : ∃ vs, oe.data = .fields vs), Classical.choose (hsu2' x a oe dd pn S (e ▸ hz) hfl hx) D σ H
  refine ⟨_, ps_try_named (tb := tb) (l := [(c, ts), (c2, ts2)]) hs hf hN hi hln tk (fun W' pn xe h1 h2 => ⟨fun pins s σ H D I h => (Classical.choose_spec (hb' W' pn xe h1 h2)).1.run pins s σ H D I (h pn xe h1 h2)⟩)
    (.cons hc (fun a oe cls dd pn hz hfl => ⟨fun pins s σ H D I h => ?_⟩) (.cons hc2 (fun a oe cls dd pn hz hfl => ⟨fun pins s σ H D I h => ?_⟩) .nil)), fun S H σ ρ F1 Dd Dh o l w q => ?_⟩
  · obtain ⟨x, S, e, hx, h⟩ := h
    subst e
    exact (Classical.choose_spec (hsu' x a oe dd pn S hz hfl hx)).1.run pins s σ H D I (h oe pn hz hfl)
  · obtain ⟨x, S, e, hx, h⟩ := h
    subst e
    exact (Classical.choose_spec (hsu2' x a oe dd pn S hz hfl hx)).1.run pins s σ H D I (h oe pn hz hfl)
  · intro pn xe h1 h2
    refine (Classical.choose_spec (hb' _ pn xe h1 h2)).2 S H σ ρ F1 { Dd with ex := tEx i hd su { Dd with ex := tEx i hd2 su2 Dd } } Dh o ⟨l.nx, l.rt, l.bk, l.ct⟩ ?_ q
    intro S1 H1 σ1 ρ1 x cls dd o1 ea hx
    obtain ⟨hil, hx⟩ := hx
    obtain ⟨rfl, ea⟩ := ea
    have free : Γ.free i := fun v z => by rw [hme] at z; cases z
    have hil2 : i < σ1.length := by rw [o1.len]; exact hil
    have into : ∀ a : Addr, StOk (Γ.at_ S1 i a) S1 H1 (σ1.set i (some (.ref a))) (ρ1.set i none) F1 := fun a => by
      have o2 := o1.hide (a := some (.ref a)) free
      exact ⟨o2.len, o2.ok.swapΓ rfl rfl rfl (fun _ _ h => h) fun p u h1 h2 => by
          cases q : Γ.S0 p with
          | some u2 =>
            have := o1.ok.ex0 p u2 q
            have h1 : S1 p = none := h1
            rw [h1] at this; cases this
          | none => exact o1.ok.fr p u q h2, fun j v z => by
        have z : some (i, V.ref a) = some (j, v) := z
        cases z
        rw [List.getElem?_set_self hil2]⟩
    have back : ∀ {a : Addr} {S' H' σ' ρ' F2}, StOk (Γ.at_ S1 i a) S' H' σ' ρ' F2 → StOk Γ S' H' (σ'.set i none) (ρ'.set i none) F2 := fun {a S' H' σ' ρ' F2} o4 => by
      have o5 : StOk Γ S' H' σ' ρ' F2 := ⟨o4.len, o4.ok.swapΓ rfl rfl rfl (fun p u h => o4.ok.ex0 p u (o1.ok.ex0 p u h)) fun p u h1 h2 => o4.ok.fr p u (o1.ok.fr p u h1 h2).1 h2, fun j v z => by rw [hme] at z; cases z⟩
      exact o5.hide free
    cases eh : hd x.k with
    | none => rw [eh] at hx; exact hx.elim
    | some qb =>
      rw [eh] at hx
      refine ⟨qb, hh _ _ eh, fun hq a na => ?_, fun hq => ?_⟩
      · subst hq
        refine ⟨x, S1, rfl, ea, fun oe pn2 hz hfl => ?_⟩
        exact (Classical.choose_spec (hsu' x a oe dd pn2 S1 hz hfl ea)).2 S1 H1 _ _ F1 _ _ (into a) ⟨fun S' H' σ' ρ' o4 z => l.nx S' H' _ _ (back o4) z, fun S' H' σ' ρ' v sl o4 z => l.rt S' H' _ _ v sl (back o4) z, fun S' H' σ' ρ' o4 z => l.bk S' H' _ _ (back o4) z, fun S' H' σ' ρ' o4 z => l.ct S' H' _ _ (back o4) z⟩ lw0 hx
      · subst hq
        obtain ⟨_, hx⟩ := hx
        cases eh2 : hd2 x.k with
        | none => rw [eh2] at hx; exact hx.elim
        | some qb2 =>
          rw [eh2] at hx
          refine ⟨qb2, hh2 _ _ eh2, fun hq a na => ?_, fun hq => ?_⟩
          · subst hq
            refine ⟨x, S1, rfl, ea, fun oe pn2 hz hfl => ?_⟩
            exact (Classical.choose_spec (hsu2' x a oe dd pn2 S1 hz hfl ea)).2 S1 H1 _ _ F1 _ _ (into a) ⟨fun S' H' σ' ρ' o4 z => l.nx S' H' _ _ (back o4) z, fun S' H' σ' ρ' v sl o4 z => l.rt S' H' _ _ v sl (back o4) z, fun S' H' σ' ρ' o4 z => l.bk S' H' _ _ (back o4) z, fun S' H' σ' ρ' o4 z => l.ct S' H' _ _ (back o4) z⟩ lw0 hx
          · subst hq
            exact w S1 H1 σ1 ρ1 x _ _ o1 ⟨rfl, ea⟩ hx
end
end Sw

/-! The data layer, 40: what a run leaves alone: a generator that sleeps and is not woken. -/
namespace Sw
open PySem
open Sem (wp)
/-- a generator that cannot be woken -/
def stk : Resume → Sem Fin := fun _ => .unsupported ""
def Ng : GenState → Prop
  | .suspended _ _ _ _ fs _ => splitAtGen fs = none
  | _ => True
inductive Fz : GenState → GenState → Prop
  | eq {x} : Ng x → Fz x x
  | old {k l c p fs cl} : Fz (.suspended k l c p fs cl) (.suspended stk l c p fs cl)
theorem Fz.seen {x y : GenState} (h : Fz x y) : x.seen = y.seen := by cases h <;> rfl
structure Fr (G H : Array GenState) : Prop where
  sz : G.size = H.size
  at_ : ∀ (i : Nat) (y : GenState), H[i]? = some y → ∃ x, G[i]? = some x ∧ Fz x y
def Kp (G H : Array GenState) (i : Nat) : Prop := ∃ k l c p fs cl, G[i]? = some (.suspended k l c p fs cl) ∧ H[i]? = some (.suspended stk l c p fs cl)
def Kept (G H G' H' : Array GenState) : Prop := ∀ i, Kp G H i → G'[i]? = G[i]? ∧ H'[i]? = H[i]?
theorem Kept.rfl {G H : Array GenState} : Kept G H G H := fun _ _ => ⟨.refl _, .refl _⟩
theorem Kept.kp {G H G' H' : Array GenState} (a : Kept G H G' H') {i : Nat} (h : Kp G H i) : Kp G' H' i := by
  obtain ⟨h1, h2⟩ := a i h
  obtain ⟨k, l, c, p, fs, cl, e1, e2⟩ := h
  exact ⟨k, l, c, p, fs, cl, h1.trans e1, h2.trans e2⟩
theorem Kept.trans {G H G' H' G2 H2 : Array GenState} (a : Kept G H G' H') (b : Kept G' H' G2 H2) : Kept G H G2 H2 := fun i h => by
  obtain ⟨h1, h2⟩ := a i h
  obtain ⟨h3, h4⟩ := b i (a.kp h)
  exact ⟨h3.trans h1, h4.trans h2⟩
theorem nkp {G H : Array GenState} {g : Nat} {x : GenState} (h : H[g]? = some x) (hx : ∀ k l c p fs cl, x ≠ .suspended k l c p fs cl) : ¬ Kp G H g := fun ⟨_, _, _, _, _, _, _, e2⟩ => by
  rw [h] at e2
  exact hx _ _ _ _ _ _ (Option.some.inj e2)
theorem Fr.set {G H : Array GenState} (f : Fr G H) (g : Nat) {x : GenState} (hx : Ng x) : Fr (G.setIfInBounds g x) (H.setIfInBounds g x) := by
  refine ⟨by rw [Array.size_setIfInBounds, Array.size_setIfInBounds]; exact f.sz, fun i y h => ?_⟩
  by_cases e : g = i
  · subst e
    rw [Array.getElem?_setIfInBounds_self] at h ⊢
    split at h
    · cases h
      rename_i hl
      rw [if_pos (by rw [f.sz]; exact hl)]
      exact ⟨_, .refl _, .eq hx⟩
    · cases h
  · rw [Array.getElem?_setIfInBounds_ne e] at h ⊢
    exact f.at_ i y h
theorem Fr.push {G H : Array GenState} (f : Fr G H) {x : GenState} (hx : Ng x) : Fr (G.push x) (H.push x) := by
  refine ⟨by rw [Array.size_push, Array.size_push, f.sz], fun i y h => ?_⟩
  rw [Array.getElem?_push] at h ⊢
  rw [f.sz]
  split at h
  · cases h
    rename_i hl
    rw [if_pos hl]
    exact ⟨_, .refl _, .eq hx⟩
  · rename_i hl
    rw [if_neg hl]
    exact f.at_ i y h
theorem Kept.set {G H : Array GenState} {g : Nat} (hg : ¬ Kp G H g) (x : GenState) : Kept G H (G.setIfInBounds g x) (H.setIfInBounds g x) := fun i h => by
  have e : g ≠ i := fun e => hg (e ▸ h)
  exact ⟨Array.getElem?_setIfInBounds_ne e, Array.getElem?_setIfInBounds_ne e⟩
theorem Kept.past {G H G1 H1 : Array GenState} {g : Nat} (a : Kept G H G1 H1) (hg : ¬ Kp G H g) (x : GenState) : Kept G H (G1.setIfInBounds g x) (H1.setIfInBounds g x) := fun i h => by
  have e : g ≠ i := fun e => hg (e ▸ h)
  rw [Array.getElem?_setIfInBounds_ne e, Array.getElem?_setIfInBounds_ne e]
  exact a i h
theorem Kept.push {G H : Array GenState} (x y : GenState) : Kept G H (G.push x) (H.push y) := fun i h => by
  obtain ⟨k, l, c, p, fs, cl, e1, e2⟩ := h
  have l1 := (Array.getElem?_eq_some_iff.mp e1).1
  have l2 := (Array.getElem?_eq_some_iff.mp e2).1
  rw [Array.getElem?_push, Array.getElem?_push, if_neg (Nat.ne_of_lt l1), if_neg (Nat.ne_of_lt l2)]
  exact ⟨.refl _, .refl _⟩
theorem split_app : ∀ {a b : List Frame}, splitAtGen a = none → splitAtGen b = none → splitAtGen (a ++ b) = none
  | [], b, _, h => h
  | .gen .. :: r, b, h, _ => by cases h
  | .ret .. :: r, b, h, h2 => by
    have h' : splitAtGen r = none := by
      cases e : splitAtGen r with
      | none => rfl
      | some x => simp only [splitAtGen, e] at h; cases h
    simp only [List.cons_append, splitAtGen, split_app h' h2, Option.map_none]
theorem split_tail {F : Frame} {fs : List Frame} (h : splitAtGen (F :: fs) = none) : splitAtGen fs = none := by
  cases F with
  | gen => cases h
  | ret =>
    cases e : splitAtGen fs with
    | none => rfl
    | some x => simp only [splitAtGen, e] at h; cases h
theorem no_unsup0 {M : Model} {Γ : Ctx} {p : Pos} {s s' : Shared} {e : End} {w : String} (h : Runs M Γ p (.unsupported w) [] s e s') : False := by cases h
theorem no_unsup {M : Model} {Γ : Ctx} {p : Pos} {fs : List Frame} {s s' : Shared} {e : End} {w : String} (h : Runs M Γ p (.unsupported w) fs s e s') : False := by
  cases h with
  | segRet h _ => exact no_unsup0 h
  | segGen h _ => exact no_unsup0 h
  | segSuspOut _ h => exact no_unsup0 h
  | segSuspGen _ h _ _ => exact no_unsup0 h
def ENg : End → Prop
  | .ret _ => True
  | .susp _ _ _ _ _ _ fs => splitAtGen fs = none
theorem ENg.ng {e : End} (h : ENg e) : Ng e.genState := by cases e with
  | ret => trivial
  | susp => exact h
abbrev wg (s : Shared) (G : Array GenState) : Shared := { s with gens := G }
def Sim (M : Model) (Γ : Ctx) (p : Pos) (t : Sem Fin) (fs : List Frame) (s : Shared) (e : End) (s' : Shared) : Prop :=
  ∀ G, Fr G s.gens → ∃ G', Fr G' s'.gens ∧ Runs M Γ p t fs (wg s G) e (wg s' G') ∧ Kept G s.gens G' s'.gens ∧ ENg e
theorem runs_fz {M : Model} {Γ : Ctx} {p : Pos} {t : Sem Fin} {fs : List Frame} {s s' : Shared} {e : End} (h : Runs M Γ p t fs s e s') : splitAtGen fs = none → Sim M Γ p t fs s e s' := by
  induction h with
  | done => intro _ G f; exact ⟨G, f, .done, Kept.rfl, trivial⟩
  | raise => intro _ G f; exact ⟨G, f, .raise, Kept.rfl, trivial⟩
  | again hq _ ih => intro hf G f; obtain ⟨G', a, b, c⟩ := ih hf G f; exact ⟨G', a, .again hq b, c⟩
  | rule _ ih => intro hf G f; obtain ⟨G', a, b, c⟩ := ih hf G f; exact ⟨G', a, .rule b, c⟩
  | «at» _ ih => intro hf G f; obtain ⟨G', a, b, c⟩ := ih hf G f; exact ⟨G', a, .at b, c⟩
  | load hl _ ih => intro hf G f; obtain ⟨G', a, b, c⟩ := ih hf G f; exact ⟨G', a, .load hl b, c⟩
  | update hl _ ih => intro hf G f; obtain ⟨G', a, b, c⟩ := ih hf G f; exact ⟨G', a, .update hl b, c⟩
  | loadIfAlive _ ih => intro hf G f; obtain ⟨G', a, b, c⟩ := ih hf G f; exact ⟨G', a, .loadIfAlive b, c⟩
  | point _ ih => intro hf G f; obtain ⟨G', a, b, c⟩ := ih hf G f; exact ⟨G', a, .point b, c⟩
  | alloc _ ih => intro hf G f; obtain ⟨G', a, b, c⟩ := ih hf G f; exact ⟨G', a, .alloc b, c⟩
  | fresh _ ih => intro hf G f; obtain ⟨G', a, b, c⟩ := ih hf G f; exact ⟨G', a, .fresh b, c⟩
  | ask _ ih => intro hf G f; obtain ⟨G', a, b, c⟩ := ih hf G f; exact ⟨G', a, .ask b, c⟩
  | choose hn _ ih => intro hf G f; obtain ⟨G', a, b, c⟩ := ih hf G f; exact ⟨G', a, .choose hn b, c⟩
  | os _ ih => intro hf G f; obtain ⟨G', a, b, c⟩ := ih hf G f; exact ⟨G', a, .os b, c⟩
  | handled _ ih => intro hf G f; obtain ⟨G', a, b, c⟩ := ih hf G f; exact ⟨G', a, .handled b, c⟩
  | genState hg _ ih =>
    intro hf G f
    obtain ⟨x, hx, z⟩ := f.at_ _ _ hg
    obtain ⟨G', a, b, c⟩ := ih hf G f
    rw [← z.seen] at b
    exact ⟨G', a, .genState (s := wg _ G) hx b, c⟩
  | stack _ ih => intro hf G f; obtain ⟨G', a, b, c⟩ := ih hf G f; exact ⟨G', a, .stack b, c⟩
  | thread _ ih => intro hf G f; obtain ⟨G', a, b, c⟩ := ih hf G f; exact ⟨G', a, .thread b, c⟩
  | newGen _ ih =>
    intro hf G f
    obtain ⟨G', a, b, c1, c2⟩ := ih hf _ (f.push trivial)
    refine ⟨G', a, .newGen ?_, (Kept.push _ _).trans c1, c2⟩
    have e := f.sz
    dsimp only at b ⊢
    rw [e]
    exact b
  | call _ _ ih1 ih2 =>
    intro hf G f
    obtain ⟨G1, a1, b1, c1, _⟩ := ih1 rfl G f
    obtain ⟨G', a, b, c, d⟩ := ih2 hf G1 a1
    exact ⟨G', a, .call b1 b, c1.trans c, d⟩
  | callSusp _ ih =>
    intro hf G f
    obtain ⟨G1, a1, b1, c1, d1⟩ := ih rfl G f
    exact ⟨G1, a1, .callSusp b1, c1, split_app d1 rfl⟩
  | yield => intro hf G f; exact ⟨G, f, .yield, Kept.rfl, rfl⟩
  | resumeFresh hg h1 hq h2 ih1 ih2 =>
    intro hf G f
    obtain ⟨x, hx, z⟩ := f.at_ _ _ hg
    cases z with
    | eq hn =>
      have nk := nkp (G := G) hg (by intro _ _ _ _ _ _ e; cases e)
      obtain ⟨G1, a1, b1, c1, d1⟩ := ih1 rfl _ (f.set _ (x := .running) trivial)
      obtain ⟨G2, a2, b2, c2, d2⟩ := ih2 hf _ (a1.set _ d1.ng)
      exact ⟨G2, a2, .resumeFresh (s := wg _ G) hx b1 hq b2, (((Kept.set nk _).trans c1).past nk _).trans c2, d2⟩
  | resumeSuspended hg h1 hq h2 ih1 ih2 =>
    intro hf G f
    obtain ⟨x, hx, z⟩ := f.at_ _ _ hg
    cases z with
    | eq hn =>
      rename_i g _ _ _ s0 _ _ _ _ _ _ _ _ _ _
      by_cases kp : Kp G s0.gens g
      rotate_left
      · obtain ⟨G1, a1, b1, c1, d1⟩ := ih1 hn _ (f.set _ (x := .running) trivial)
        obtain ⟨G2, a2, b2, c2, d2⟩ := ih2 hf _ (a1.set _ d1.ng)
        exact ⟨G2, a2, .resumeSuspended (s := wg _ G) hx b1 hq b2, (((Kept.set kp _).trans c1).past kp _).trans c2, d2⟩
      · obtain ⟨_, _, _, _, _, _, _, e2⟩ := kp
        rw [hg] at e2
        cases e2
        exact (no_unsup h1).elim
    | old => exact (no_unsup h1).elim
  | resumeJustStarted hg hv _ ih =>
    intro hf G f
    obtain ⟨x, hx, z⟩ := f.at_ _ _ hg
    cases z with
    | eq hn =>
      obtain ⟨G', a, b, c⟩ := ih hf G f
      exact ⟨G', a, .resumeJustStarted (s := wg _ G) hx hv b, c⟩
  | resumeThrowFresh hg _ ih =>
    intro hf G f
    obtain ⟨x, hx, z⟩ := f.at_ _ _ hg
    cases z with
    | eq hn =>
      have nk := nkp (G := G) hg (by intro _ _ _ _ _ _ e; cases e)
      obtain ⟨G2, a2, b2, c2, d2⟩ := ih hf _ (f.set _ (x := .finished) trivial)
      exact ⟨G2, a2, .resumeThrowFresh (s := wg _ G) hx b2, (Kept.set nk _).trans c2, d2⟩
  | resumeRunning hg _ ih =>
    intro hf G f
    obtain ⟨x, hx, z⟩ := f.at_ _ _ hg
    cases z with
    | eq hn =>
      obtain ⟨G', a, b, c⟩ := ih hf G f
      exact ⟨G', a, .resumeRunning (s := wg _ G) hx b, c⟩
  | resumeFinished hg _ ih =>
    intro hf G f
    obtain ⟨x, hx, z⟩ := f.at_ _ _ hg
    cases z with
    | eq hn =>
      obtain ⟨G', a, b, c⟩ := ih hf G f
      exact ⟨G', a, .resumeFinished (s := wg _ G) hx b, c⟩
  | segRet _ _ ih1 ih2 =>
    intro hf G f
    obtain ⟨G1, a1, b1, c1, _⟩ := ih1 rfl G f
    obtain ⟨G', a, b, c, d⟩ := ih2 (split_tail hf) G1 a1
    exact ⟨G', a, .segRet b1 b, c1.trans c, d⟩
  | segGen _ _ _ _ => intro hf; cases hf
  | segSuspOut hs _ ih =>
    intro hf G f
    obtain ⟨G1, a1, b1, c1, d1⟩ := ih rfl G f
    exact ⟨G1, a1, .segSuspOut hs b1, c1, split_app d1 hf⟩
  | segSuspGen hs _ _ _ _ _ => intro hf; rw [hf] at hs; cases hs
end Sw

/-! The data layer, 41: a generator's run from one waking to the next, with a word (ω) that the one who wakes it may choose anew each time. -/
namespace Sw
open PySem
open Sem (wp)
/-- what an end keeps, what a yield keeps -/
structure Pro (Ω : Type) where
  R : Ω → Result → Shared → Prop
  Y : Ω → Value → Shared → (Shared → Ω → Prop) → Prop
def gEnd {Ω : Type} (π : Pro Ω) (go : Code → Sem Fin → List Frame → Shared → Ω → Prop) (ω : Ω) (e : End) (s' : Shared) : Prop :=
  match e with
  | .ret r => π.R ω r s'
  | .susp v g l k c p fs => (End.susp v g l k c p fs).quiet = true ∧ π.Y ω v s' fun s'' ω' => go c (k (.send .none)) fs s'' ω'
/-- n wakings more -/
def GoG (M : Model) (A : Around) {Ω : Type} (π : Pro Ω) : Nat → Ω → Code → Sem Fin → List Frame → Shared → Prop
  | 0 => fun _ _ _ _ _ => False
  | n + 1 => fun ω c t fs s => ∀ Γ p, Γ.code = c → Γ.Woken A → ∃ e s', Runs M Γ p t fs s e s' ∧ gEnd π (fun c' t' fs' s'' ω' => GoG M A π n ω' c' t' fs' s'') ω e s'
section
variable {Ω : Type} {M : Model} {A : Around} {π : Pro Ω} {n : Nat} {ω : Ω} {c : Code} {fs : List Frame} {s : Shared}
theorem gg_wrap {α : Type} {m : Sem α} {K : α → Sem Fin} {J : Value → Sem Fin} {gd lv} (h : wpAny M (A.over c fs) m (fun a s' => GoG M A π (n + 1) ω c (K a) fs s') (fun x s' => GoG M A π (n + 1) ω c (J x) fs s') s) :
    GoG M A π (n + 1) ω c (m.wrap K J gd lv) fs s := by
  intro Γ p hc hw
  subst hc
  exact runs_wrap_of_wp (Φ := gEnd π (fun c' t' fs' s'' ω' => GoG M A π n ω' c' t' fs' s'') ω) K J gd lv m (h (Γ.over fs) p (hw.over fs)) (fun _ p' _ q => q Γ p' rfl hw) (fun _ p' _ q => q Γ p' rfl hw)
theorem gg_congr {α : Type} {m : Sem α} {K K' : α → Sem Fin} {J J' : Value → Sem Fin} {gd lv} (hK : ∀ a, K a = K' a) (hJ : ∀ e, J e = J' e) (h : GoG M A π n ω c (m.wrap K' J' gd lv) fs s) : GoG M A π n ω c (m.wrap K J gd lv) fs s := by
  rw [funext hK, funext hJ]; exact h
theorem gg_bind {α : Type} {m : Sem α} {K : α → Sem Fin} (h : wpAny M (A.over c fs) m (fun a s' => GoG M A π (n + 1) ω c (K a) fs s') (fun x s' => GoG M A π (n + 1) ω c (.raise x) fs s') s) :
    GoG M A π (n + 1) ω c (m >>= K) fs s := by
  rw [Sem.bind_eq_wrap']
  exact gg_wrap h
theorem gg_at {p' : Pos} {k : Unit → Sem Fin} (h : GoG M A π (n + 1) ω c (k ()) fs s) : GoG M A π (n + 1) ω c (.at p' k) fs s :=
  gg_wrap (m := standAt p') (K := k) (J := .raise) (gd := id) (lv := id) (wpAny_standAt h)
theorem gg_point {l : List Value} {k : Unit → Sem Fin} (h : GoG M A π (n + 1) ω c (k ()) fs s) : GoG M A π (n + 1) ω c (.point l k) fs s :=
  gg_wrap (m := point) (K := k) (J := .raise) (gd := id) (lv := fun _ => l) (wpAny_point h)
theorem gg_call {c' : Code} {h g l} {k : Result → Sem Fin} (hc : ∀ p, GoG M A π (n + 1) ω c' (M.den c') (.ret k h g l c p [] :: fs) s) : GoG M A π (n + 1) ω c (.call c' h g l k) fs s := by
  intro Γ p e hw
  subst e
  obtain ⟨e, s', hr, he⟩ := hc p (Γ.goto c') p rfl (hw.goto c')
  exact ⟨e, s', runs_call_seg hr, he⟩
theorem gg_leaf {k h g l c₁ p₁ kp} (r : Result) (hk : GoG M A π (n + 1) ω c₁ (k r) fs s) : GoG M A π (n + 1) ω c (leafOf r) (.ret k h g l c₁ p₁ kp :: fs) s := by
  intro Γ p e hw
  subst e
  obtain ⟨e, s', hr, he⟩ := hk (Γ.goto c₁) p₁ rfl (hw.goto c₁)
  exact ⟨e, s', Runs.pop r hr, he⟩
theorem gg_again {c' : Code} (hq : c'.quiet = true) (hc : GoG M A π (n + 1) ω c' (M.den c') fs s) : GoG M A π (n + 1) ω c (.pure (.again c')) fs s := by
  intro Γ p e hw
  subst e
  obtain ⟨e, s', hr, he⟩ := hc (Γ.goto c') p rfl (hw.goto c')
  exact ⟨e, s', Runs.head (c₁ := c') (fun _ _ x => .again hq x) hr, he⟩
theorem gg_end (r : Result) (h : π.R ω r s) : GoG M A π (n + 1) ω c (leafOf r) [] s := by
  intro Γ p e _
  subst e
  exact ⟨.ret r, s, Runs.leaf r, h⟩
theorem gg_yield {v g l} {k : Resume → Sem Fin} (hfs : splitAtGen fs = none) (hg : g = false) (hfg : fs.any Frame.guarded = false) (h : π.Y ω v s fun s'' ω' => GoG M A π n ω' c (k (.send .none)) fs s'') :
    GoG M A π (n + 1) ω c (.yield v g l k) fs s := by
  intro Γ p e _
  subst e
  exact ⟨_, s, Runs.yield' fs hfs, by simp [End.quiet, hg, hfg], h⟩
end
/-! ### statements -/
section
variable {Ω : Type} {M : Model} {A : Around} {π : Pro Ω} {n : Nat} {ω : Ω} {c : Code} {fs : List Frame} {s : Shared} {env : Env} {K : Flow → Sem Fin} {J : Value → Sem Fin} {gd : Bool → Bool} {lv : List Value → List Value}
theorem gg_cons {st : Stmt} {rest : List Stmt} (h : GoG M A π n ω c ((exec st env).wrap (fun f => match f with | .next => (execs rest env).wrap K J gd lv | f => K f) J gd lv) fs s) :
    GoG M A π n ω c ((execs (st :: rest) env).wrap K J gd lv) fs s := (execs_cons_wrap st rest).symm ▸ h
theorem gg_Yield {e : Expr} {yp pos : Pos} (hfs : splitAtGen fs = none) (hgd : gd false = false) (hfg : fs.any Frame.guarded = false) (hco : env.scope.isCoroutine = false) (hi : interactive env = false)
    (h : wpAny M (A.over c fs) (eval e env) (fun v s' => π.Y ω v s' fun s'' ω' => GoG M A π n ω' c (K .next) fs s'') (fun x s' => GoG M A π (n + 1) ω c (J x) fs s') s) :
    GoG M A π (n + 1) ω c ((exec (.Expr (.Yield (some e) yp) pos) env).wrap K J gd lv) fs s := by
  rw [exec_Expr env _ pos hi rfl]
  have hy : ∀ v, yieldOut env v = yieldValue v := fun v => by simp only [yieldOut, hco, Bool.false_eq_true, if_false]
  show GoG M A π (n + 1) ω c (.at pos fun _ => ((eval e env >>= fun v => (standAt yp >>= fun _ => yieldOut env v)) >>= fun x => dropValue (.Yield (some e) yp) pos x).wrap K J gd lv) fs s
  simp only [hy]
  refine gg_at ?_
  rw [Sem.bind_eq_wrap', Sem.bind_eq_wrap', Sem.wrap_wrap, Sem.wrap_wrap]
  refine gg_wrap (wpAny_mono h (fun v s' q => ?_) fun _ _ x => x)
  exact gg_at (gg_yield hfs hgd hfg q)
theorem gg_If {test : Expr} {a b : List Stmt} {pos : Pos} (h : wpAny M (A.over c fs) (isTrue test env (eval test env)) (fun d s' => if d = true then GoG M A π (n + 1) ω c ((execs a env).wrap K J gd lv) fs s' else GoG M A π (n + 1) ω c ((execs b env).wrap K J gd lv) fs s')
    (fun x s' => GoG M A π (n + 1) ω c (J x) fs s') s) : GoG M A π (n + 1) ω c ((exec (.If test a b pos) env).wrap K J gd lv) fs s := by
  rw [exec_If]
  refine gg_at ?_
  show GoG M A π (n + 1) ω c ((isTrue test env (eval test env) >>= fun d => if d = true then execs a env else execs b env).wrap K J gd lv) fs s
  rw [Sem.bind_eq_wrap', Sem.wrap_wrap]
  refine gg_wrap (wpAny_mono h (fun d s' q => ?_) fun _ _ x => x)
  cases d <;> exact q
/-- what a loop's call does with its end -/
def own (env : Env) (r : Result) : Sem Flow := (match r with | .ok f => (.pure f : Sem Flow) | .error e => .raise e).onRaise fun (x : Value) => do
  if (← field x 1) == Value.none then unsupported "frame.own-activation:exception-without-traceback"
  setFlight x env.frame
def noted (env : Env) (e : Value) : Sem Fin := (do noteFrame e env; theTreesLotGoes e : Sem Unit).wrap (fun _ => .raise e) .raise id id
/-- where a loop stands -/
abbrev loopF (env : Env) (K : Flow → Sem Fin) (J : Value → Sem Fin) (gd : Bool → Bool) (lv : List Value → List Value) (c : Code) (p : Pos) : Frame := .ret (fun r => (own env r).wrap K J gd lv) none (gd false) (lv []) c p []
theorem gg_While {test : Expr} {body : List Stmt} {pos : Pos} (h : ∀ p, GoG M A π (n + 1) ω (.whileLoop test body [] env) (M.den (.whileLoop test body [] env)) (loopF env K J gd lv c p :: fs) s) :
    GoG M A π (n + 1) ω c ((exec (.While test body [] pos) env).wrap K J gd lv) fs s := gg_at (gg_call h)
theorem gg_For {tg iter : Expr} {body : List Stmt} {pos : Pos} (hs : ∀ x, foldedSetIterable iter env x = pure x) (h : wpAny M (A.over c fs) (eval iter env) (fun x s₁ => wpAny M (A.over c fs) (pyIter x) (fun it s₂ =>
      ∀ p, GoG M A π (n + 1) ω (.forLoop tg it body [] env) (M.den (.forLoop tg it body [] env)) (loopF env K J gd lv c p :: fs) s₂) (fun x s' => GoG M A π (n + 1) ω c (J x) fs s') s₁) (fun x s' => GoG M A π (n + 1) ω c (J x) fs s') s) :
    GoG M A π (n + 1) ω c ((exec (.For tg iter body [] pos) env).wrap K J gd lv) fs s := by
  rw [exec_For]
  refine gg_at ?_
  show GoG M A π (n + 1) ω c ((eval iter env >>= fun x0 => (foldedSetIterable iter env x0 >>= fun x => (standAt iter.pos >>= fun _ => (holding [x] (pyIter x) >>= fun it => runOwn (.forLoop tg it body [] env) env)))).wrap K J gd lv) fs s
  rw [Sem.bind_eq_wrap', Sem.wrap_wrap]
  refine gg_wrap (wpAny_mono h (fun x s₁ h₁ => ?_) fun _ _ x => x)
  rw [hs x]
  refine gg_at ?_
  show GoG M A π (n + 1) ω c ((holding [x] (pyIter x) >>= fun it => runOwn (.forLoop tg it body [] env) env).wrap K J gd lv) fs s₁
  rw [Sem.bind_eq_wrap', Sem.wrap_wrap]
  refine gg_wrap (wpAny_holding (wpAny_mono h₁ (fun it s₂ h₂ => ?_) fun _ _ x => x))
  exact gg_call h₂
end
section
variable {Ω : Type} {P : Program} {w : World} {A : Around} {π : Pro Ω} {n : Nat} {ω : Ω} {fs : List Frame} {s : Shared} {env : Env}
theorem gg_whileLoop {test : Expr} {body : List Stmt} (h : wpAny (model P w) (A.over (.whileLoop test body [] env) fs) (isTrue test env (eval test env)) (fun b s' => if b = true then
      GoG (model P w) A π (n + 1) ω (.whileLoop test body [] env) ((execs body env).wrap (fun f => match f with
        | .next | .cont => .pure (.again (.whileLoop test body [] env))
        | .brk => .pure (.done .next)
        | .ret v => .pure (.done (.ret v))) (noted env) id id) fs s'
      else GoG (model P w) A π (n + 1) ω (.whileLoop test body [] env) (.pure (.done .next)) fs s') (fun x s' => GoG (model P w) A π (n + 1) ω (.whileLoop test body [] env) (noted env x) fs s') s) :
    GoG (model P w) A π (n + 1) ω (.whileLoop test body [] env) ((model P w).den (.whileLoop test body [] env)) fs s := by
  show GoG _ A π _ ω _ ((whileTurn test body [] env).onRaise (fun x => do noteFrame x env; theTreesLotGoes x)) fs s
  unfold whileTurn
  rw [Sem.onRaise_eq_wrap, Sem.bind_eq_wrap', Sem.wrap_wrap]
  have nt : ∀ e, (do noteFrame e env; theTreesLotGoes e : Sem Unit).bind (fun _ => (.raise e : Sem Fin)) = noted env e := fun e => Sem.bind_eq_wrap _ _
  refine gg_wrap (wpAny_mono h (fun b s' hb => ?_) fun x s' hx => ?_)
  · cases b with
    | true =>
      rw [if_pos rfl] at hb
      show GoG _ A π _ ω _ (Sem.wrap _ _ _ _ (if true = true then _ else _)) fs s'
      rw [if_pos rfl, Sem.bind_eq_wrap', Sem.wrap_wrap]
      exact gg_congr (J' := noted env) (fun f => by cases f <;> rfl) nt hb
    | false =>
      rw [if_neg Bool.false_ne_true] at hb
      exact hb
  · show GoG _ A π _ ω _ (Sem.bind _ _) fs s'
    rw [nt]
    exact hx
theorem gg_forLoop {tg : Expr} {it : Value} {body : List Stmt} (h : wpAny (model P w) (A.over (.forLoop tg it body [] env) fs) (pyNext it) (fun r s₁ => match r with
      | none => GoG (model P w) A π (n + 1) ω (.forLoop tg it body [] env) (.pure (.again (.block [] env))) fs s₁
      | some v => wpAny (model P w) (A.over (.forLoop tg it body [] env) fs) (letOwnedTupleGo tg it v) (fun _ s₂ => wpAny (model P w) (A.over (.forLoop tg it body [] env) fs) (assign tg env v) (fun _ s₃ =>
        GoG (model P w) A π (n + 1) ω (.forLoop tg it body [] env) ((execs body env).wrap (fun f => match f with
          | .next | .cont => .pure (.again (.forLoop tg it body [] env))
          | .brk => .pure (.done .next)
          | .ret v => .pure (.done (.ret v))) (noted env) id id) fs s₃) (fun x s' => GoG (model P w) A π (n + 1) ω (.forLoop tg it body [] env) (noted env x) fs s') s₂) (fun x s' => GoG (model P w) A π (n + 1) ω (.forLoop tg it body [] env) (noted env x) fs s') s₁)
      (fun x s' => GoG (model P w) A π (n + 1) ω (.forLoop tg it body [] env) (noted env x) fs s') s) :
    GoG (model P w) A π (n + 1) ω (.forLoop tg it body [] env) ((model P w).den (.forLoop tg it body [] env)) fs s := by
  have nt : ∀ e, (do noteFrame e env; theTreesLotGoes e : Sem Unit).bind (fun _ => (.raise e : Sem Fin)) = noted env e := fun e => Sem.bind_eq_wrap _ _
  show GoG _ A π _ ω _ ((forTurn tg it body [] env).onRaise (fun x => do noteFrame x env; theTreesLotGoes x)) fs s
  rw [Sem.onRaise_eq_wrap]
  unfold forTurn
  refine gg_at ?_
  show GoG _ A π _ ω _ (Sem.wrap _ _ _ _ ((pyNext it).onRaise _ >>= _)) fs s
  rw [Sem.bind_eq_wrap', Sem.wrap_wrap]
  refine gg_wrap (wpAny_onRaise (wpAny_mono h (fun r s₁ h₁ => ?_) fun x s' hx => wpAny_standAt ?_))
  · cases r with
    | none => exact h₁
    | some v =>
      dsimp only at h₁ ⊢
      rw [Sem.bind_eq_wrap', Sem.wrap_wrap]
      refine gg_wrap (wpAny_mono h₁ (fun _ s₂ h₂ => ?_) fun x s' hx => ?_)
      · rw [Sem.bind_eq_wrap', Sem.wrap_wrap]
        refine gg_wrap (wpAny_mono h₂ (fun _ s₃ h₃ => ?_) fun x s' hx => ?_)
        · rw [Sem.bind_eq_wrap', Sem.wrap_wrap]
          exact gg_congr (J' := noted env) (fun f => by cases f <;> rfl) nt h₃
        · show GoG _ A π _ ω _ (Sem.bind _ _) fs s'
          rw [nt]; exact hx
      · show GoG _ A π _ ω _ (Sem.bind _ _) fs s'
        rw [nt]; exact hx
  · show GoG _ A π _ ω _ (Sem.bind _ _) fs s'
    rw [nt]; exact hx
theorem gg_block0 (h : GoG (model P w) A π (n + 1) ω (.block [] env) (.pure (.done .next)) fs s) : GoG (model P w) A π (n + 1) ω (.block [] env) ((model P w).den (.block [] env)) fs s := h
theorem gg_func {body : List Stmt} (h : GoG (model P w) A π (n + 1) ω (.func body env) ((execs body env).wrap (fun f => .pure (.done (.ret (match f with | .ret v => v | _ => .none))))
      (fun e => (leaving env e).wrap (fun _ => .raise e) .raise id id) id id) fs s) : GoG (model P w) A π (n + 1) ω (.func body env) ((model P w).den (.func body env)) fs s := by
  show GoG _ A π _ ω _ (.point [] fun _ => ((execs body env).onRaise (leaving env)) >>= _) fs s
  refine gg_point ?_
  rw [Sem.onRaise_eq_wrap, Sem.bind_eq_wrap', Sem.wrap_wrap]
  rw [Sem.wrap_congr (execs body env) _ _ (K' := fun f => .pure (.done (.ret (match f with | .ret v => v | _ => .none)))) (H' := fun e => (leaving env e).wrap (fun _ => .raise e) .raise id id)
    (fun f => by cases f <;> rfl) (fun e => by rw [Sem.bind_eq_wrap, Sem.wrap_wrap]; rfl)]
  exact h
end
end Sw

/-! The data layer, 42: what a generator knows; how it sleeps; how it is woken in another heap. -/
namespace Sw
open PySem PySem.Spec PyProof.Rows L2
/-- a thing that leans on its own object alone -/
structure Pvt (P : Program) (w : World) (o : HO) : Prop where
  own : ∀ x, o ≠ .own x
  tup : ∀ xs, o ≠ .tup xs
  ok : ∀ (H H' : Hp) (h h' : Heap) (a : Addr), ObjOk P w H h a o → (∀ u, h.get? a = some u → h'.get? a = some u) → ObjOk P w H' h' a o
  nc : ∀ (H : Hp) (h : Heap) (a : Addr), ObjOk P w H h a o → ∃ u, h.get? a = some u ∧ ∀ v, u.data ≠ .cell v
theorem pvt_lst {P : Program} {w : World} {xs : List V} : Pvt P w (.lst xs) where
  own _ h := by cases h
  tup _ h := by cases h
  ok H H' h h' a x k := by obtain ⟨z, its, n, r, e⟩ := x; exact ⟨z, its, n, r, k _ e⟩
  nc H h a x := by obtain ⟨z, its, n, r, e⟩ := x; exact ⟨_, e, fun v q => by cases q⟩
/-- all that S knows, but the dicts of instances, S' knows -/
def ExO (S S' : Hp) : Prop := ∀ a o, (∀ x, o ≠ .own x) → S a = some o → S' a = some o
theorem ExO.rd {S S' : Hp} {a : Addr} {u : HO} (e : ExO S S') (hu : ∀ x, u ≠ .own x) (h : Rd S a u) : Rd S' a u :=
  h.elim (fun h => .inl (e a _ hu h)) fun ⟨o, h⟩ => .inr ⟨o, e a _ (fun x q => by cases q) h⟩
theorem ExO.sl {K : PySem.W.Frag} {S S' : Hp} {a : Addr} {xs : List V} (e : ExO S S') (h : SqL K S a xs) : SqL K S' a xs :=
  h.elim (fun h => .inl (e.rd (fun x q => by cases q) h)) .inr
theorem ExO.stp {K : PySem.W.Frag} {S S' : Hp} {a : Addr} {xs : List V} (e : ExO S S') (h : SqT K S a xs) : SqT K S' a xs :=
  h.elim (fun h => .inl (e.rd (fun x q => by cases q) h)) .inr
section
variable {T : Tb} {K : PySem.W.Frag} {S S' H H' : Hp}
mutual
theorem Is.monoO (hφ : ∀ n a vs x, T.φ n a vs ≠ .own x) (e : ExO S S') : ∀ {v d}, Is T K S v d → Is T K S' v d
  | _, _, .non => .non
  | _, _, .bl => .bl
  | _, _, .int => .int
  | _, _, .str => .str
  | _, _, .ty => .ty
  | _, _, .tup h l => .tup (e.stp h) (IsL.monoO hφ e l)
  | _, _, .lst h l => .lst (e _ _ (fun x q => by cases q) h) (IsL.monoO hφ e l)
  | _, _, .scr h => .scr (e.sl h)
  | _, _, .obj h n l => .obj (e _ _ (fun x q => by cases q) h) n (IsL.monoO hφ e l)
  | _, _, .set h n => .set (e _ _ (fun x q => by cases q) h) n
  | _, _, .cls => .cls
  | _, _, .ext h l => .ext (e _ _ (hφ _ _ _) h) (IsL.monoO hφ e l)
theorem IsL.monoO (hφ : ∀ n a vs x, T.φ n a vs ≠ .own x) (e : ExO S S') : ∀ {vs ds}, IsL T K S vs ds → IsL T K S' vs ds
  | _, _, .nil => .nil
  | _, _, .cons h l => .cons (Is.monoO hφ e h) (IsL.monoO hφ e l)
end
mutual
theorem Own.monoO (hφ : ∀ n a vs x, T.φ n a vs ≠ .own x) (e : ExO S S') : ∀ {k v d f}, Own T K S H k v d f → (∀ p ∈ f, S' p = none ∧ H' p = H p) → Own T K S' H' k v d f
  | _, _, _, _, .s h, _ => .s (h.monoO hφ e)
  | _, _, _, _, .l h n l, q => .l ((q _ (List.mem_cons_self ..)).2.trans h) (q _ (List.mem_cons_self ..)).1 (OwnL.monoO hφ e l fun p hp => q p (List.mem_cons_of_mem _ hp))
  | _, _, _, _, .set h n d, q => .set ((q _ (List.mem_cons_self ..)).2.trans h) (q _ (List.mem_cons_self ..)).1 d
  | _, _, _, _, .ext h n l, q => .ext ((q _ (List.mem_cons_self ..)).2.trans h) (q _ (List.mem_cons_self ..)).1 (OwnL.monoO hφ e l fun p hp => q p (List.mem_cons_of_mem _ hp))
  | _, _, _, _, .obj h n z l, q => .obj ((q _ (List.mem_cons_self ..)).2.trans h) (q _ (List.mem_cons_self ..)).1 z (OwnL.monoO hφ e l fun p hp => q p (List.mem_cons_of_mem _ hp))
theorem OwnL.monoO (hφ : ∀ n a vs x, T.φ n a vs ≠ .own x) (e : ExO S S') : ∀ {k vs ds f}, OwnL T K S H k vs ds f → (∀ p ∈ f, S' p = none ∧ H' p = H p) → OwnL T K S' H' k vs ds f
  | _, _, _, _, .nil, _ => .nil
  | _, _, _, _, .cons h l, q => .cons (Own.monoO hφ e h fun p hp => q p (List.mem_append_left _ hp)) (OwnL.monoO hφ e l fun p hp => q p (List.mem_append_right _ hp))
end
end
def pvS : Option Sl → Bool
  | none => true
  | some (.v 0 _) => true
  | some (.v 1 (.lst _)) => true
  | some (.v 1 (.ext _ _)) => true
  | _ => false
def pvD (ρ : DEnv) : Bool := ρ.all pvS
def pvF (F : Fx) : Bool := F.all fun e => pvS e.2
theorem pvL_of {σ : L2.St} {ρ : DEnv} {F : Fx} (h1 : pvD ρ = true) (h2 : pvF F = true) : ∀ e ∈ σ.zip ρ ++ F, pvS e.2 = true := fun e he => by
  rcases List.mem_append.mp he with h | h
  · exact List.all_eq_true.mp h1 _ (List.of_mem_zip h).2
  · exact List.all_eq_true.mp h2 _ h
section
variable {Γ Γ' : Gm} {S S' H H' : Hp} {P : Program} {w : World}
theorem sep_pvt (hφ : ∀ n a vs, Pvt P w (Γ.T.φ n a vs)) : ∀ {L fs}, Sep Γ S H L fs → (∀ e ∈ L, pvS e.2 = true) → ∀ p ∈ fs.flatten, ∃ o, H p = some o ∧ Pvt P w o
  | _, _, .nil, _, p, hp => by simp at hp
  | _, _, .cons (e := e) (f := f) he hl, k, p, hp => by
    rw [List.flatten_cons] at hp
    rcases List.mem_append.mp hp with hp | hp
    · have k0 := k e (List.mem_cons_self ..)
      obtain ⟨ov, os⟩ := e
      cases os with
      | none =>
        have z : f = [] := he
        rw [z] at hp; cases hp
      | some sl =>
        cases ov with
        | none => cases sl <;> exact (show False from he).elim
        | some v =>
          cases sl with
          | b d => cases k0
          | v n d =>
            have he : Own Γ.T Γ.K S H n v d f := he
            have k1 : pvS (some (.v n d)) = true := k0
            match n, d, he, k1 with
            | 0, _, .s _, _ => cases hp
            | 1, .lst _, .l h1 h2 h3, _ =>
              obtain ⟨_, rfl⟩ := h3.is0
              rw [List.mem_singleton.mp hp]
              exact ⟨_, h1, pvt_lst⟩
            | 1, .ext _ _, .ext h1 h2 h3, _ =>
              obtain ⟨_, rfl⟩ := h3.is0
              rw [List.mem_singleton.mp hp]
              exact ⟨_, h1, hφ _ _ _⟩
    · exact sep_pvt hφ hl (fun e he => k e (List.mem_cons_of_mem _ he)) p hp
theorem sep_move (hφ : ∀ n a vs x, Γ.T.φ n a vs ≠ .own x) (hT : Γ'.T = Γ.T) (hK : Γ'.K = Γ.K) (x : ExO S S') : ∀ {L fs}, Sep Γ S H L fs → (∀ e ∈ L, pvS e.2 = true) → (∀ p ∈ fs.flatten, S' p = none ∧ H' p = H p) → Sep Γ' S' H' L fs
  | _, _, .nil, _, _ => .nil
  | _, _, .cons (e := e) he hl, k, q => .cons (by
      have k0 := k e (List.mem_cons_self ..)
      obtain ⟨ov, os⟩ := e
      cases os with
      | none => exact he
      | some sl =>
        cases ov with
        | none => cases sl <;> exact he
        | some v =>
          cases sl with
          | b d => cases k0
          | v n d =>
            show Own Γ'.T Γ'.K S' H' n v d _
            rw [hT, hK]
            exact Own.monoO hφ x he fun p hp => q p (by rw [List.flatten_cons]; exact List.mem_append_left _ hp)) (sep_move hφ hT hK x hl (fun e he => k e (List.mem_cons_of_mem _ he)) fun p hp => q p (by rw [List.flatten_cons]; exact List.mem_append_right _ hp))
end
/-- what is fixed of a generator; outs: all that it hands out -/
structure Gc where
  P : Program
  w : World
  K : PySem.W.Frag
  mg : Str → Option Value
  base : Heap
  N : List Str
  qual : Str
  scope : Scope
  f : Addr
  cd : Value
  A : Around
  outer : List Env
  pn : List (Addr × Obj)
  T : Tb
  XT : Nat → Cl
  n0 : Nat
  outs : List Dat
  fin : Option Exn
/-- the word at a waking: the heap as it was before the generator's own things, what is known of it, what of it is still; how many are out -/
structure Gh where
  s : Shared
  H : Hp
  S : Hp
  i : Nat
abbrev Gc.gm (G : Gc) (ω : Gh) : Gm := ⟨G.T, G.XT, G.K, ω.S, ω.H, none⟩
def Gc.E (G : Gc) (ω : Gh) : XK := fun cls d H' => ∃ S' x, Stp ω.S ω.H S' H' ∧ ExAt (G.gm ω) S' H' cls d x ∧ ω.i = G.outs.length ∧ G.fin = some x
abbrev Gc.cx (G : Gc) (ω : Gh) : Cx := gcxOf G.P G.w G.K G.mg G.base G.N G.qual G.scope G.f G.cd G.A G.outer ω.s ω.H (G.E ω) G.pn
abbrev Gc.env (G : Gc) : Env := envOfC G.qual G.scope G.n0 G.f G.cd
structure GIn (G : Gc) (ip : List (Addr × Obj)) (F : Fx) (ω : Gh) (σ : L2.St) (H S : Hp) (ρ : DEnv) (s : Shared) : Prop where
  sz : ω.s.heap.objs.size = G.n0
  I : Inv (G.cx ω) ip σ H s
  o : StOk (G.gm ω) S H σ ρ F
  il : ω.i ≤ G.outs.length
  ipg : ∀ p ∈ G.pn ++ ip, G.n0 ≤ p.1
/-- it sleeps: what the others are told -/
structure Slp (G : Gc) (ω : Gh) (s : Shared) (S Hm : Hp) (pr : List (Addr × Obj)) : Prop where
  os : s.os = ω.s.os
  bare : AllBare s.gens
  un : Un (frs G.outer) [] ω.H Hm ω.s.heap s.heap
  hok : HOk G.P G.w Hm s.heap
  stp : Stp ω.S ω.H S Hm
  prv : ∀ p ∈ pr, s.heap.get? p.1 = some p.2 ∧ Hm p.1 = none ∧ ω.H p.1 = none ∧ ω.s.heap.get? p.1 = none ∧ ∀ v, p.2.data ≠ .cell v
  pn : ∀ p ∈ G.pn, p ∈ pr
/-- it may be woken -/
structure Wk (G : Gc) (i : Nat) (S : Hp) (pr : List (Addr × Obj)) (s : Shared) (ω : Gh) : Prop where
  i : ω.i = i
  sz : ω.s.heap.objs.size = G.n0
  os : s.os = ω.s.os
  bare : AllBare s.gens
  sub : ∀ b o, ω.s.heap.get? b = some o → s.heap.get? b = some o
  bs : ∀ b o, G.base.get? b = some o → ω.s.heap.get? b = some o ∧ ω.H b = none
  funs : ω.s.heap.FunFrames G.base G.outer
  frf : ∀ b ∈ frs G.outer, ω.H b = none
  st : ExO S ω.S
  h : Ex ω.S ω.H
  hok : HOk G.P G.w ω.H s.heap
  prv : ∀ p ∈ pr, s.heap.get? p.1 = some p.2 ∧ ω.H p.1 = none ∧ ω.s.heap.get? p.1 = none
section
variable {G : Gc} {ip : List (Addr × Obj)} {F : Fx} {ω ω' : Gh} {σ : L2.St} {H S : Hp} {ρ : DEnv} {s : Shared}
theorem env_eq (h : ω.s.heap.objs.size = G.n0) : (G.cx ω).env = G.env := by
  show envOfC G.qual G.scope ω.s.heap.objs.size G.f G.cd = _
  rw [h]
theorem GIn.some_H (g : GIn G ip F ω σ H S ρ s) {p : Addr} {o : HO} (h : ω.H p = some o) : ∃ u, H p = some u := by
  cases q : ω.S p with
  | some u => exact ⟨u, g.o.ok.ex _ _ (g.o.ok.ex0 _ _ q)⟩
  | none => exact ⟨o, (g.o.ok.fr p o q h).2⟩
/-- sleep, and wake anew -/
theorem GIn.sleep (g : GIn G ip F ω σ H S ρ s) (h1 : pvD ρ = true) (h2 : pvF F = true) (hφ : ∀ n a vs, Pvt G.P G.w (G.T.φ n a vs)) (hcl : ∀ n, cellsFrom n G.scope.names [] = []) {fs : List (List Addr)} (sep : Sep (G.gm ω) S H (σ.zip ρ ++ F) fs) (nd : fs.flatten.Nodup)
    (z : ∀ p ∈ fs.flatten, ω.H p = none) : ∃ Hm, Slp G ω s S Hm (pinsAt (G.n0 :: (G.pn ++ ip).map (·.1) ++ fs.flatten) s.heap) ∧ ∀ s'' ω', Wk G ω'.i S (pinsAt (G.n0 :: (G.pn ++ ip).map (·.1) ++ fs.flatten) s.heap) s'' ω' → ω'.i ≤ G.outs.length → ∃ Hn, GIn G ip F ω' σ Hn ω'.S ρ s'' := by
  have pv := sep_pvt (P := G.P) (w := G.w) hφ sep (pvL_of h1 h2)
  have hS : ∀ p ∈ fs.flatten, S p = none := fun p hp => (sep.own p hp).1
  obtain ⟨mL, hL, _⟩ := id g.I.loc
  have eL : (G.cx ω).env.locals = G.n0 := g.sz
  have hL2 : ∃ o, s.heap.get? G.n0 = some o ∧ ∀ v, o.data ≠ .cell v := by
    obtain ⟨o, es, ep, e, d, _⟩ := hL
    rw [eL] at e
    exact ⟨o, e, fun v q => by rw [d] at q; cases q⟩
  have noc : ∀ {x c}, (G.cx ω).env.cells.lookup x = some c → False := fun {x c} h => by
    have h' : (cellsFrom (ω.s.heap.objs.size + 1) G.scope.names []).lookup x = some c := h
    rw [hcl] at h'; cases h'
  let ads := G.n0 :: (G.pn ++ ip).map (·.1) ++ fs.flatten
  let Hm : Hp := fun b => if b ∈ fs.flatten then none else H b
  have hm : ∀ b, b ∉ fs.flatten → Hm b = H b := fun b hb => by show (if b ∈ fs.flatten then none else H b) = _; rw [if_neg hb]
  have hm0 : ∀ b, b ∈ fs.flatten → Hm b = none := fun b hb => by show (if b ∈ fs.flatten then none else H b) = _; rw [if_pos hb]
  have hmS : ∀ b o, Hm b = some o → H b = some o := fun b o h => by
    by_cases hb : b ∈ fs.flatten
    · rw [hm0 b hb] at h; cases h
    · rw [hm b hb] at h; exact h
  have lowN : ∀ b, G.n0 ≤ b → ω.s.heap.get? b = none := fun b hb => by
    cases q : ω.s.heap.get? b with
    | none => rfl
    | some o => exact absurd (Nat.lt_of_lt_of_le (Heap.lt_size q) (by rw [g.sz]; exact hb)) (Nat.lt_irrefl _)
  have ownN : ∀ p ∈ fs.flatten, ω.s.heap.get? p = none := fun p hp => by
    cases q : ω.s.heap.get? p with
    | none => rfl
    | some o =>
      obtain ⟨u, hu, _⟩ := pv p hp
      have := g.I.base.free p o q (z p hp) (by intro h; cases h)
      rw [hu] at this; cases this
  have wH : ∀ p, H p = none → ω.H p = none := fun p hp => by
    cases q : ω.H p with
    | none => rfl
    | some o => obtain ⟨u, hu⟩ := g.some_H q; rw [hp] at hu; cases hu
  have hokm : HOk G.P G.w Hm s.heap := fun b o h => by
    have h0 := hmS b o h
    refine (g.I.hok b o h0).stay (fun _ _ _ q => q) (fun c hc => ?_) fun c xs hc => ?_
    · rw [hm c fun hb => by obtain ⟨u, hu, q⟩ := pv c hb; rw [hc] at hu; exact q.own _ (Option.some.inj hu).symm]; exact hc
    · rw [hm c fun hb => by obtain ⟨u, hu, q⟩ := pv c hb; rw [hc] at hu; exact q.tup _ (Option.some.inj hu).symm]; exact hc
  have nfl : ∀ b o, ω.H b = some o → b ∉ fs.flatten := fun b o h hb => by rw [z b hb] at h; cases h
  refine ⟨Hm, ⟨g.I.os, g.I.bare, ?_, hokm, ⟨g.o.ok.ex0, fun b o h => ?_, fun b o h k => ?_⟩, fun p hp => ?_, fun p hp => ?_⟩, fun s'' ω' wk il => ?_⟩
  · have u := g.I.base
    refine ⟨u.keep, u.slot, fun b o q n x => ?_, u.there, fun b xs q => ?_, fun b o v q => ?_, fun b ps q => ?_⟩
    · by_cases hb : b ∈ fs.flatten
      · exact hm0 b hb
      · rw [hm b hb]; exact u.free b o q n x
    · rw [hm b (nfl b _ q)]; exact u.tups b xs q
    · rw [hm b (nfl b _ q)]; exact u.frzs b o v q
    · rw [hm b (nfl b _ q)]; exact u.tbls b ps q
  · rw [hm b fun hb => by rw [hS b hb] at h; cases h]; exact g.o.ok.ex b o h
  · obtain ⟨a1, a2⟩ := g.o.ok.fr b o h k
    exact ⟨a1, by rw [hm b (nfl b _ k)]; exact a2⟩
  · obtain ⟨hb, e⟩ := of_pinsAt hp
    rcases List.mem_append.mp hb with hb | hb
    · rcases List.mem_cons.mp hb with hb | hb
      · rw [hb] at e ⊢
        obtain ⟨o, e2, nc⟩ := hL2
        rw [e2] at e; cases e
        have hn : H G.n0 = none := by rw [← eL]; exact g.I.free
        refine ⟨e2, ?_, wH _ hn, lowN _ (Nat.le_refl _), nc⟩
        by_cases q : G.n0 ∈ fs.flatten
        · exact hm0 _ q
        · rw [hm _ q]; exact hn
      · obtain ⟨q, hq, eq⟩ := List.mem_map.mp hb
        obtain ⟨i1, i2, _, _, i5⟩ := g.I.pin q hq
        rw [← eq] at e ⊢
        rw [i1] at e
        have ee := Option.some.inj e
        refine ⟨by rw [i1, ee], ?_, wH _ i2, lowN _ (g.ipg q hq), fun v => by rw [← ee]; exact i5 v⟩
        by_cases y : q.1 ∈ fs.flatten
        · exact hm0 _ y
        · rw [hm _ y]; exact i2
    · obtain ⟨u, hu, pq⟩ := pv p.1 hb
      obtain ⟨o, e2, nc⟩ := pq.nc _ _ _ (g.I.hok p.1 u hu)
      rw [e2] at e
      have ee := Option.some.inj e
      exact ⟨by rw [e2, ee], hm0 _ hb, z _ hb, ownN _ hb, fun v => by rw [← ee]; exact nc v⟩
  · obtain ⟨i1, _⟩ := g.I.pin p (List.mem_append_left _ hp)
    exact mem_pinsAt (b := p.1) (List.mem_append_left _ (List.mem_cons_of_mem _ (List.mem_map.mpr ⟨p, List.mem_append_left _ hp, rfl⟩))) i1
  -- waking
  have prA : ∀ b ∈ ads, ∀ o, s.heap.get? b = some o → s''.heap.get? b = some o ∧ ω'.H b = none ∧ ω'.s.heap.get? b = none := fun b hb o e => wk.prv (b, o) (mem_pinsAt hb e)
  have ownA : ∀ b ∈ fs.flatten, (∀ o, s.heap.get? b = some o → s''.heap.get? b = some o) ∧ ω'.H b = none ∧ ω'.s.heap.get? b = none := fun b hb => by
    obtain ⟨u, hu, pq⟩ := pv b hb
    obtain ⟨o, e2, _⟩ := pq.nc _ _ _ (g.I.hok b u hu)
    have q := fun o e => prA b (List.mem_append_right _ hb) o e
    exact ⟨fun o e => (q o e).1, (q o e2).2⟩
  let Hn : Hp := fun b => if b ∈ fs.flatten then H b else ω'.H b
  have hn1 : ∀ b, b ∉ fs.flatten → Hn b = ω'.H b := fun b hb => by show (if b ∈ fs.flatten then H b else ω'.H b) = _; rw [if_neg hb]
  have hn0 : ∀ b, b ∈ fs.flatten → Hn b = H b := fun b hb => by show (if b ∈ fs.flatten then H b else ω'.H b) = _; rw [if_pos hb]
  have hnH : ∀ b o, ω'.H b = some o → Hn b = some o := fun b o h => by
    rw [hn1 b fun hb => by rw [(ownA b hb).2.1] at h; cases h]; exact h
  have e : (G.cx ω').env = (G.cx ω).env := (env_eq wk.sz).trans (env_eq g.sz).symm
  have eL' : (G.cx ω').env.locals = G.n0 := wk.sz
  have eA : (G.cx ω').A = (G.cx ω).A := by show G.A.deeper (G.cx ω').env = G.A.deeper (G.cx ω).env; rw [e]
  have eS : (G.cx ω').stack = (G.cx ω).stack := by show (G.cx ω').env :: G.outer = (G.cx ω).env :: G.outer; rw [e]
  have K := g.I.ok
  obtain ⟨oL, eoL, ncL⟩ := hL2
  have hloc := prA G.n0 (List.mem_append_left _ (List.mem_cons_self ..)) oL eoL
  refine ⟨Hn, wk.sz, ⟨⟨K.mod, K.kind, rfl, rfl, Nat.le_refl _, by rw [e]; exact K.inj, by rw [e]; exact K.has, fun x c _ h => by rw [e] at h; exact (noc h).elim, fun q => by rw [eA]; exact K.hd q, by rw [eA, eS]; exact K.frames, .inr ⟨rfl, rfl⟩,
    fun b hb => (by cases hb), wk.bs, by show G.base.objs.size ≤ ω'.s.heap.objs.size; rw [wk.sz, ← g.sz]; exact K.bsz, fun b o _ hb => (by cases hb), fun b hb => (by cases hb), wk.funs, wk.frf⟩,
    wk.os, wk.bare, ?_, ?_, fun x c h => by rw [e] at h; exact (noc h).elim, ?_, fun x c h => by rw [e] at h; exact (noc h).elim, fun p hp => ?_, fun b o h => ?_, g.I.len⟩,
    ⟨g.o.len, ⟨fun _ _ h => h, fun b o h => hnH b o (wk.h b o h), fun p o h1 h2 => ⟨h1, hnH p o h2⟩, fs, sep_move (Γ := G.gm ω) (Γ' := G.gm ω') (fun n a vs => (hφ n a vs).own) rfl rfl wk.st sep (pvL_of h1 h2) (fun p hp => ⟨?_, hn0 p hp⟩), nd, fun p hp => (ownA p hp).2.1⟩, fun i v h => by cases h⟩, il, g.ipg⟩
  · refine ⟨fun b o q _ _ _ => wk.sub b o q, fun b o q _ _ _ => ⟨o.slots, wk.sub b o q⟩, fun b o q n _ => ?_, fun b o q _ => ⟨o, wk.sub b o q⟩, fun b xs q => hnH _ _ q, fun b o u q => hnH _ _ q, fun b ps q => ⟨#[], by rw [hnH _ _ q]; simp⟩⟩
    rw [hn1 b fun hb => by (have q : ω'.s.heap.get? b = some o := q); rw [(ownA b hb).2.2] at q; cases q]; exact n
  · obtain ⟨m, q1, q2⟩ := g.I.loc
    refine ⟨m, ?_, fun i x v a1 a2 a3 => ?_⟩
    · rw [eL']
      rw [eL] at q1
      exact q1.at' fun o eo => (prA G.n0 (List.mem_append_left _ (List.mem_cons_self ..)) o eo).1
    · obtain ⟨u, r, lk⟩ := q2 i x v a1 a2 a3
      refine ⟨u, r, ?_⟩
      rw [e]
      rcases lk with lk | ⟨lk, c, hc, _⟩
      · exact .inl lk
      · exact (noc hc).elim
  · rw [eL']
    rw [hn1 _ fun hb => ?_]
    · exact hloc.2.1
    · obtain ⟨u, hu, _⟩ := pv _ hb
      have hf : H G.n0 = none := by rw [← eL]; exact g.I.free
      rw [hf] at hu; cases hu
  · obtain ⟨i1, i2, i3, i4, i5⟩ := g.I.pin p hp
    have q := prA p.1 (List.mem_append_left _ (List.mem_cons_of_mem _ (List.mem_map.mpr ⟨p, hp, rfl⟩))) _ i1
    refine ⟨q.1, ?_, by rw [eL', ← eL]; exact i3, i4, i5⟩
    rw [hn1 _ fun hb => ?_]
    · exact q.2.1
    · obtain ⟨u, hu, _⟩ := pv _ hb
      rw [i2] at hu; cases hu
  · by_cases hb : b ∈ fs.flatten
    · rw [hn0 b hb] at h
      obtain ⟨u, hu, pq⟩ := pv b hb
      rw [h] at hu; cases hu
      exact pq.ok _ _ _ _ _ (g.I.hok b o h) (ownA b hb).1
    · rw [hn1 b hb] at h
      exact (wk.hok b o h).stay (fun _ _ _ q => q) (fun c hc => hnH _ _ hc) fun c xs hc => hnH _ _ hc
  · cases q : ω'.S p with
    | none => rfl
    | some o => have := wk.h p o q; rw [(ownA p hp).2.1] at this; cases this
/-- it is at its end -/
theorem slp_end {σ' : L2.St} (hs : ω.s.heap.objs.size = G.n0) (I : Inv (G.cx ω) ip σ H s) (o : StOk (G.gm ω) S H σ' ρ F) (hpn : ∀ p ∈ G.pn, G.n0 ≤ p.1) : Slp G ω s S H G.pn := by
  refine ⟨I.os, I.bare, I.base, I.hok, ⟨o.ok.ex0, o.ok.ex, o.ok.fr⟩, fun p hp => ?_, fun p hp => hp⟩
  obtain ⟨i1, i2, _, _, i5⟩ := I.pin p (List.mem_append_left _ hp)
  refine ⟨i1, i2, ?_, ?_, i5⟩
  · cases q : ω.H p.1 with
    | none => rfl
    | some u =>
      have : ∃ u, H p.1 = some u := by
        cases q2 : ω.S p.1 with
        | some u => exact ⟨u, o.ok.ex _ _ (o.ok.ex0 _ _ q2)⟩
        | none => exact ⟨u, (o.ok.fr p.1 u q2 q).2⟩
      obtain ⟨u, hu⟩ := this
      rw [i2] at hu; cases hu
  · cases q : ω.s.heap.get? p.1 with
    | none => rfl
    | some o => exact absurd (Nat.lt_of_lt_of_le (Heap.lt_size q) (by rw [hs]; exact hpn p hp)) (Nat.lt_irrefl _)
end
end Sw

/-! The data layer, 43: a generator's statements. -/
namespace Sw
open PySem PySem.Spec PyProof.Rows L2 GenW
/-- what it keeps: at the end, at a yield -/
def Gc.pro (G : Gc) : Pro Gh where
  R ω r s' := ((r = .ok (.ret .none) ∨ r = .ok .next) ∧ (ω.i = G.outs.length ∧ G.fin = none) ∧ ∃ S Hm, Slp G ω s' S Hm G.pn) ∨ ∃ e, r = .error e ∧ CX G.P G.w G.outer ω.H ω.s (G.E ω) e s' ∧ ∀ p ∈ G.pn, s'.heap.get? p.1 = some p.2
  Y ω v s' kap := ∃ d x S Hm pr, G.outs[ω.i]? = some d ∧ RelV x v ∧ Is G.T G.K S x d ∧ Slp G ω s' S Hm pr ∧ ∀ s'' ω', Wk G (ω.i + 1) S pr s'' ω' → kap s'' ω'
structure GEs where
  nx : Nat → DEnv → Prop
  rt : Nat → Prop
  bk : Nat → DEnv → Prop := fun _ _ => False
  ct : Nat → DEnv → Prop := fun _ _ => False
/-- outs, what is raised behind them, what is wanted behind, how many are out, the names -/
abbrev TGY := List Dat → Option Exn → GEs → Nat → DEnv → Prop
def xE (outs : List Dat) (fin : Option Exn) (i : Nat) (x : Exn) : Prop := i = outs.length ∧ fin = some x
abbrev Gc.Go (G : Gc) (ω : Gh) : Code → Sem PySem.Fin → List Frame → Shared → Prop := GoG (model G.P G.w) G.A G.pro (G.outs.length - ω.i + 1) ω
structure GCc (G : Gc) (F : Fx) (c : Code) (fs : List Frame) (gd : Bool → Bool) : Prop where
  over : G.A.over c fs = G.A.deeper G.env
  split : splitAtGen fs = none
  guard : fs.any Frame.guarded = false
  gd : gd false = false
  pv : pvF F = true
structure GKc (G : Gc) (ip : List (Addr × Obj)) (F : Fx) (c : Code) (fs : List Frame) (K : Flow → Sem PySem.Fin) (J : Value → Sem PySem.Fin) (D : GEs) : Prop where
  nx : ∀ ω σ H S ρ s, GIn G ip F ω σ H S ρ s → D.nx ω.i ρ → G.Go ω c (K .next) fs s
  bk : ∀ ω σ H S ρ s, GIn G ip F ω σ H S ρ s → D.bk ω.i ρ → G.Go ω c (K .brk) fs s
  ct : ∀ ω σ H S ρ s, GIn G ip F ω σ H S ρ s → D.ct ω.i ρ → G.Go ω c (K .cont) fs s
  rt : ∀ ω σ H S σ' ρ s, ω.s.heap.objs.size = G.n0 → ω.i ≤ G.outs.length → Inv (G.cx ω) ip σ H s → StOk (G.gm ω) S H σ' ρ F → D.rt ω.i → G.Go ω c (K (.ret .none)) fs s
  ex : ∀ ω e s, ω.s.heap.objs.size = G.n0 → ω.i ≤ G.outs.length → (G.cx ω).xe e s → G.Go ω c (J e) fs s
structure GY (G : Gc) (st : Stmt) (t : TGY) : Prop where
  run : ∀ ip F c fs K J gd lv ω σ H S ρ s D, GCc G F c fs gd → GKc G ip F c fs K J D → GIn G ip F ω σ H S ρ s → t G.outs G.fin D ω.i ρ → G.Go ω c ((exec st G.env).wrap K J gd lv) fs s
structure GYs (G : Gc) (st : List Stmt) (t : TGY) : Prop where
  run : ∀ ip F c fs K J gd lv ω σ H S ρ s D, GCc G F c fs gd → GKc G ip F c fs K J D → GIn G ip F ω σ H S ρ s → t G.outs G.fin D ω.i ρ → G.Go ω c ((execs st G.env).wrap K J gd lv) fs s
abbrev Gc.W (G : Gc) (ω : Gh) : WX := fun cls d _ H => G.E ω cls d H
section
variable {G : Gc} {ip : List (Addr × Obj)} {F : Fx} {ω : Gh} {σ : L2.St} {H S : Hp} {ρ : DEnv} {s : Shared} {c : Code} {fs : List Frame} {gd : Bool → Bool} {st : Stmt} {sts : List Stmt}
theorem GCc.overX (h : GCc G F c fs gd) (hs : ω.s.heap.objs.size = G.n0) : G.A.over c fs = (G.cx ω).A := by
  rw [h.over]
  show G.A.deeper G.env = G.A.deeper (G.cx ω).env
  rw [env_eq hs]
theorem lw_gen {F : Fx} : LW (G.gm ω) F (fun x _ => xE G.outs G.fin ω.i x) (G.W ω) := fun S H σ ρ x cls d o ea hx => ⟨S, x, ⟨o.ok.ex0, o.ok.ex, o.ok.fr⟩, ea, hx⟩
/-! ### plain statements -/
def pEnds (ex : Exn → Prop) (D : GEs) (i : Nat) : DEnds where
  nx ρ := D.nx i ρ
  rt _ sl := sl = .v 0 .non ∧ D.rt i
  bk ρ := D.bk i ρ
  ct ρ := D.ct i ρ
  ex x _ := ex x
def yPlain (t : TSD) : TGY := fun outs fin D i ρ => t (pEnds (xE outs fin i) D i) ρ
def kEnds (G : Gc) (ω : Gh) (F : Fx) (D : GEs) : Ends where
  nx σ H := ∃ S ρ, StOk (G.gm ω) S H σ ρ F ∧ D.nx ω.i ρ
  rt v H := v = .non ∧ ∃ S σ ρ, StOk (G.gm ω) S H σ ρ F ∧ D.rt ω.i
  bk σ H := ∃ S ρ, StOk (G.gm ω) S H σ ρ F ∧ D.bk ω.i ρ
  ct σ H := ∃ S ρ, StOk (G.gm ω) S H σ ρ F ∧ D.ct ω.i ρ
theorem le_kEnds {D : GEs} : LE (G.gm ω) F (pEnds (xE G.outs G.fin ω.i) D ω.i) (kEnds G ω F D) where
  nx S H σ ρ o q := ⟨S, ρ, o, q⟩
  rt S H σ ρ v sl o q := by
    obtain ⟨rfl, q⟩ := q
    have is := (o.ok.perm (L' := (some v, some (.v 0 .non)) :: (σ.zip ρ ++ F)) List.perm_middle).is0
    cases is
    exact ⟨rfl, S, σ, ρ, o.drop, q⟩
  bk S H σ ρ o q := ⟨S, ρ, o, q⟩
  ct S H σ ρ o q := ⟨S, ρ, o, q⟩
theorem gk_sp {K : Flow → Sem PySem.Fin} {J : Value → Sem PySem.Fin} {D : GEs} (k : GKc G ip F c fs K J D) (g : GIn G ip F ω σ H S ρ s) {f : Flow} {s' : Shared} (h : SP (G.cx ω) ip (kEnds G ω F D) f s') : G.Go ω c (K f) fs s' := by
  cases f with
  | next => obtain ⟨σ', H', I, S', ρ', o, q⟩ := h; exact k.nx ω σ' H' S' ρ' s' ⟨g.sz, I, o, g.il, g.ipg⟩ q
  | brk => obtain ⟨σ', H', I, S', ρ', o, q⟩ := h; exact k.bk ω σ' H' S' ρ' s' ⟨g.sz, I, o, g.il, g.ipg⟩ q
  | cont => obtain ⟨σ', H', I, S', ρ', o, q⟩ := h; exact k.ct ω σ' H' S' ρ' s' ⟨g.sz, I, o, g.il, g.ipg⟩ q
  | ret u =>
    obtain ⟨v, σ', H', I, r, e, S', σ2, ρ', o, q⟩ := h
    subst e
    have e : u = Value.none := r
    rw [e]
    exact k.rt ω σ' H' S' σ2 ρ' s' g.sz g.il I o q
theorem gy_ds {t : TSD} (h : ∀ ω, ω.s.heap.objs.size = G.n0 → DS (G.gm ω) (G.cx ω) (G.W ω) st t) : GY G st (yPlain t) := by
  refine ⟨fun ip F c fs K J gd lv ω σ H S ρ s D cc k g q => ?_⟩
  obtain ⟨ts, ps, run⟩ := (h ω g.sz).run
  have w := ps.run ip s σ H (kEnds G ω F D) g.I (run S H σ ρ F (pEnds (xE G.outs G.fin ω.i) D ω.i) _ g.o le_kEnds lw_gen q)
  rw [env_eq g.sz] at w
  refine gg_wrap ?_
  rw [cc.overX g.sz]
  exact wpAny_mono w (fun f s' hs => gk_sp k g hs) fun e s' hx => k.ex ω e s' g.sz g.il hx
theorem gys_dss {t : TSD} (h : ∀ ω, ω.s.heap.objs.size = G.n0 → DSs (G.gm ω) (G.cx ω) (G.W ω) sts t) : GYs G sts (yPlain t) := by
  refine ⟨fun ip F c fs K J gd lv ω σ H S ρ s D cc k g q => ?_⟩
  obtain ⟨ts, ps, run⟩ := (h ω g.sz).run
  have w := ps.run ip s σ H (kEnds G ω F D) g.I (run S H σ ρ F (pEnds (xE G.outs G.fin ω.i) D ω.i) _ g.o le_kEnds lw_gen q)
  rw [env_eq g.sz] at w
  refine gg_wrap ?_
  rw [cc.overX g.sz]
  exact wpAny_mono w (fun f s' hs => gk_sp k g hs) fun e s' hx => k.ex ω e s' g.sz g.il hx
/-! ### one behind the other -/
def yNil : TGY := fun _ _ D i ρ => D.nx i ρ
theorem gys_nil : GYs G [] yNil := ⟨fun ip F c fs K J gd lv ω σ H S ρ s D cc k g q => k.nx ω σ H S ρ s g q⟩
def ySeq (t u : TGY) : TGY := fun outs fin D i ρ => t outs fin { D with nx := u outs fin D } i ρ
theorem gys_cons {t u : TGY} (a : GY G st t) (b : GYs G sts u) : GYs G (st :: sts) (ySeq t u) :=
  ⟨fun ip F c fs K J gd lv ω σ H S ρ s D cc k g q => gg_cons (a.run ip F c fs _ J gd lv ω σ H S ρ s { D with nx := u G.outs G.fin D } cc
    ⟨fun ω' σ' H' S' ρ' s' g' q' => b.run ip F c fs K J gd lv ω' σ' H' S' ρ' s' D cc k g' q', k.bk, k.ct, k.rt, k.ex⟩ g q)⟩
/-! ### if -/
def yIf (c : TTD) (t u : TGY) : TGY := fun outs fin D i ρ => c (fun x _ => xE outs fin i x) ρ fun ρ1 b => if b = true then t outs fin D i ρ1 else u outs fin D i ρ1
theorem gy_if {test : Expr} {as bs : List Stmt} {pos : Pos} {tc : TTD} {t u : TGY} (hc : ∀ ω, ω.s.heap.objs.size = G.n0 → DT (G.gm ω) (G.cx ω) (G.W ω) test tc) (ha : GYs G as t) (hb : GYs G bs u) : GY G (.If test as bs pos) (yIf tc t u) := by
  refine ⟨fun ip F c fs K J gd lv ω σ H S ρ s D cc k g q => ?_⟩
  obtain ⟨te, pt, run⟩ := (hc ω g.sz).run
  have w := pt.run ip s σ H _ g.I (run S H σ ρ F _ _ (fun b H' => ∃ S' ρ', StOk (G.gm ω) S' H' σ ρ' F ∧ if b = true then t G.outs G.fin D ω.i ρ' else u G.outs G.fin D ω.i ρ') g.o lw_gen q fun b S' H' ρ' o' q' => ⟨S', ρ', o', q'⟩)
  rw [env_eq g.sz] at w
  refine gg_If ?_
  rw [cc.overX g.sz]
  refine wpAny_mono w (fun b s' hb' => ?_) fun e s' hx => k.ex ω e s' g.sz g.il hx
  obtain ⟨H', I', S', ρ', o', q'⟩ := hb'
  cases b with
  | true => exact ha.run ip F c fs K J gd lv ω σ H' S' ρ' s' D cc k ⟨g.sz, I', o', g.il, g.ipg⟩ q'
  | false => exact hb.run ip F c fs K J gd lv ω σ H' S' ρ' s' D cc k ⟨g.sz, I', o', g.il, g.ipg⟩ q'
/-! ### yield -/
def yYield (ta : TPD) : TGY := fun outs fin D i ρ => ta (fun x _ => xE outs fin i x) ρ fun ρ1 p => stillP ρ1 p fun ρ2 p2 => match p2 with
  | .t (.v 0 d) => outs[i]? = some d ∧ pvD ρ2 = true ∧ D.nx (i + 1) ρ2
  | _ => False
theorem gy_yield {e : Expr} {yp pos : Pos} {ta : TPD} (hφ : ∀ n a vs, Pvt G.P G.w (G.T.φ n a vs)) (hcl : ∀ n, cellsFrom n G.scope.names [] = []) (hco : G.scope.isCoroutine = false) (he : ∀ ω, ω.s.heap.objs.size = G.n0 → DP (G.gm ω) (G.cx ω) (G.W ω) e ta) (hi : interactive G.env = false := by rfl) :
    GY G (.Expr (.Yield (some e) yp) pos) (yYield ta) := by
  refine ⟨fun ip F c fs K J gd lv ω σ H S ρ s D cc k g q => ?_⟩
  obtain ⟨te, pe, run⟩ := (he ω g.sz).run
  have w := pe.run ip s σ H _ g.I (run S H σ ρ F _ _ (fun v H' => ∃ S' ρ' d, StOk (G.gm ω) S' H' σ ρ' F ∧ Is G.T G.K S' v d ∧ G.outs[ω.i]? = some d ∧ pvD ρ' = true ∧ D.nx (ω.i + 1) ρ') g.o lw_gen q fun v S' H' ρ' p hp o' q' => by
    obtain ⟨S2, ρ2, d, o2, q2⟩ := still_ok o' hp q'
    have is := (o2.ok.perm (L' := (some v, some (.v 0 d)) :: (σ.zip ρ2 ++ F)) List.perm_middle).is0
    exact ⟨S2, ρ2, d, o2.drop, is, q2⟩)
  rw [env_eq g.sz] at w
  refine gg_Yield cc.split cc.gd cc.guard hco hi ?_
  rw [cc.overX g.sz]
  refine wpAny_mono w (fun v s' hv => ?_) fun e s' hx => k.ex ω e s' g.sz g.il hx
  obtain ⟨x, H', I', r, S', ρ', d, o', is, h1, h2, h3⟩ := hv
  obtain ⟨fl, sep, nd, z⟩ := o'.ok.sep
  obtain ⟨Hm, sl, wk⟩ := GIn.sleep (σ := σ) ⟨g.sz, I', o', g.il, g.ipg⟩ h2 cc.pv hφ hcl sep nd z
  have hl : ω.i < G.outs.length := (List.getElem?_eq_some_iff.mp h1).1
  refine ⟨d, x, S', Hm, _, h1, r, is, sl, fun s'' ω' hw => ?_⟩
  have hi' := hw.i
  obtain ⟨Hn, g'⟩ := wk s'' ω' (by rw [hi']; exact hw) (by rw [hi']; exact hl)
  have e1 : G.outs.length - ω.i = G.outs.length - ω'.i + 1 := by rw [hi']; omega
  rw [e1]
  exact k.nx ω' σ Hn ω'.S ρ' s'' g' (by rw [hi']; exact h3)
/-! ### while -/
def yWhile (c : TTD) (t : TGY) : TGY := fun outs fin D i ρ => ∃ I : Nat → Nat → DEnv → Prop, (∃ m, I m i ρ) ∧ ∀ m i ρ, I m i ρ → c (fun x _ => xE outs fin i x) ρ fun ρ1 b =>
  if b = true then t outs fin { D with nx := fun i' ρ' => ∃ m', m' < m ∧ I m' i' ρ', ct := fun i' ρ' => ∃ m', m' < m ∧ I m' i' ρ', bk := D.nx } i ρ1 else D.nx i ρ1
theorem gc_loop {gd : Bool → Bool} {k : Result → Sem PySem.Fin} {l kp : List Value} {p : Pos} {c' : Code} (g : GCc G F c fs gd) (hw : c'.weight = 0) (hu : c'.cUnits = 0) : GCc G F c' (.ret k none (gd false) l c p kp :: fs) id where
  over := (over_loop hw hu).trans g.over
  split := by
    show (splitAtGen fs).map _ = none
    rw [g.split]; rfl
  guard := by
    show (gd false || fs.any Frame.guarded) = false
    rw [g.gd, g.guard]; rfl
  gd := rfl
  pv := g.pv
theorem gk_back {K : Flow → Sem PySem.Fin} {J : Value → Sem PySem.Fin} {lv : List Value → List Value} {D : GEs} {e : Value} (cc : GCc G F c fs gd) (k : GKc G ip F c fs K J D) (hs : ω.s.heap.objs.size = G.n0) (il : ω.i ≤ G.outs.length)
    (h : cameBackBy (model G.P G.w) (G.cx ω).A G.env (G.cx ω).xe e s) : G.Go ω c ((own G.env (.error e)).wrap K J gd lv) fs s := by
  unfold own
  show GoG _ _ _ _ _ _ ((Sem.bind _ fun _ => (Sem.raise e : Sem Flow)).wrap K J gd lv) _ _
  rw [Sem.bind_eq_wrap, Sem.wrap_wrap]
  refine gg_wrap ?_
  rw [cc.overX hs]
  exact wpAny_mono h (fun _ s' hx => k.ex ω e s' hs il hx) fun x s' hx => k.ex ω x s' hs il hx
/-- an exception leaves a loop -/
theorem gk_noted {K : Flow → Sem PySem.Fin} {J : Value → Sem PySem.Fin} {lv : List Value → List Value} {D : GEs} {e : Value} {c' : Code} {p : Pos} (cc : GCc G F c fs gd) (k : GKc G ip F c fs K J D) (hw : c'.weight = 0) (hu : c'.cUnits = 0) (hs : ω.s.heap.objs.size = G.n0) (il : ω.i ≤ G.outs.length)
    (h : (G.cx ω).xe e s) : G.Go ω c' (noted G.env e) (loopF G.env K J gd lv c p :: fs) s := by
  unfold noted
  refine gg_wrap ?_
  rw [GCc.overX (gc_loop (k := fun r => (own G.env r).wrap K J gd lv) (l := lv []) (kp := []) (p := p) cc hw hu) hs]
  have pw : PassesOwn (model G.P G.w) (G.cx ω).A (G.cx ω).env (G.cx ω).xe := owns_gcx
  rw [env_eq hs] at pw
  refine wpAny_bind (wpAny_mono (pw e s h) (fun _ s' hc => wpAny_theTreesLotGoes ?_) fun y s' hc => ?_)
  · exact gg_leaf (.error e) (gk_back cc k hs il hc)
  · exact gg_leaf (.error y) (gk_back cc k hs il hc)
theorem gy_while {test : Expr} {body : List Stmt} {pos : Pos} {tc : TTD} {t : TGY} (hc : ∀ ω, ω.s.heap.objs.size = G.n0 → DT (G.gm ω) (G.cx ω) (G.W ω) test tc) (hb : GYs G body t) : GY G (.While test body [] pos) (yWhile tc t) := by
  refine ⟨fun ip F c fs K J gd lv ω σ H S ρ s D cc k g q => ?_⟩
  obtain ⟨I, ⟨m0, h0⟩, step⟩ := q
  refine gg_While fun p => ?_
  have cl := gc_loop (k := fun r => (own G.env r).wrap K J gd lv) (l := lv []) (kp := []) (p := p) (c' := .whileLoop test body [] G.env) cc rfl rfl
  have loop : ∀ (m : Nat) (ω : Gh) (σ : L2.St) (H S : Hp) (ρ : DEnv) (s : Shared), GIn G ip F ω σ H S ρ s → I m ω.i ρ →
      G.Go ω (.whileLoop test body [] G.env) ((model G.P G.w).den (.whileLoop test body [] G.env)) (loopF G.env K J gd lv c p :: fs) s := by
    intro m
    induction m using Nat.strongRecOn with
    | ind m ih =>
      intro ω σ H S ρ s g hI
      obtain ⟨te, pt, run⟩ := (hc ω g.sz).run
      have w := pt.run ip s σ H _ g.I (run S H σ ρ F _ _ (fun b H' => ∃ S' ρ', StOk (G.gm ω) S' H' σ ρ' F ∧ if b = true then t G.outs G.fin { D with nx := fun i' ρ' => ∃ m', m' < m ∧ I m' i' ρ', ct := fun i' ρ' => ∃ m', m' < m ∧ I m' i' ρ', bk := D.nx } ω.i ρ' else D.nx ω.i ρ') g.o lw_gen (step m ω.i ρ hI) fun b S' H' ρ' o' q' => ⟨S', ρ', o', q'⟩)
      rw [env_eq g.sz] at w
      refine gg_whileLoop ?_
      rw [GCc.overX cl g.sz]
      refine wpAny_mono w (fun b s' hb' => ?_) fun e s' hx => gk_noted cc k rfl rfl g.sz g.il hx
      obtain ⟨H', I', S', ρ', o', q'⟩ := hb'
      have g' : GIn G ip F ω σ H' S' ρ' s' := ⟨g.sz, I', o', g.il, g.ipg⟩
      cases b with
      | true =>
        rw [if_pos rfl]
        refine hb.run ip F _ _ _ _ id id ω σ H' S' ρ' s' { D with nx := fun i' ρ' => ∃ m', m' < m ∧ I m' i' ρ', ct := fun i' ρ' => ∃ m', m' < m ∧ I m' i' ρ', bk := D.nx } cl ⟨?_, ?_, ?_, ?_, ?_⟩ g' q'
        · rintro ω2 σ2 H2 S2 ρ2 s2 g2 ⟨m', hm, hI2⟩
          exact gg_again rfl (ih m' hm ω2 σ2 H2 S2 ρ2 s2 g2 hI2)
        · intro ω2 σ2 H2 S2 ρ2 s2 g2 q2
          exact gg_leaf (.ok .next) (k.nx ω2 σ2 H2 S2 ρ2 s2 g2 q2)
        · rintro ω2 σ2 H2 S2 ρ2 s2 g2 ⟨m', hm, hI2⟩
          exact gg_again rfl (ih m' hm ω2 σ2 H2 S2 ρ2 s2 g2 hI2)
        · intro ω2 σ2 H2 S2 σ3 ρ2 s2 h1 h2 h3 h4 q2
          exact gg_leaf (.ok (.ret .none)) (k.rt ω2 σ2 H2 S2 σ3 ρ2 s2 h1 h2 h3 h4 q2)
        · intro ω2 e s2 h1 h2 hx
          exact gk_noted cc k rfl rfl h1 h2 hx
      | false =>
        rw [if_neg Bool.false_ne_true]
        exact gg_leaf (.ok .next) (k.nx ω σ H' S' ρ' s' g' q')
  exact loop m0 ω σ H S ρ s g h0
end
end Sw

/-! The data layer, 44: for over a range in a generator; a generator def's promise. -/
namespace Sw
open PySem PySem.Spec PySem.Calls PyProof.Rows L2 GenW
def yRng (u : TAD) (g : TGD) (body : TGY) : TGY := fun outs fin D i ρ => u (fun x _ => xE outs fin i x) ρ fun ρ1 ps => match datL ρ1 ps with
  | some [.int n] => (-(2 ^ 62) ≤ n ∧ n < 2 ^ 62) ∧ ∃ I : Nat → Nat → DEnv → Prop, I 0 i ρ1 ∧ (∀ (k i : Nat) ρ, (k : Int) < n → I k i ρ → g (.v 0 (.int k)) ρ fun ρ' => body outs fin { D with nx := I (k + 1), ct := I (k + 1), bk := D.nx } i ρ') ∧ ∀ i ρ, I n.toNat i ρ → D.nx i ρ
  | _ => False
section
variable {G : Gc} {ip : List (Addr × Obj)} {F : Fx} {ω : Gh} {σ : L2.St} {H S : Hp} {ρ : DEnv} {s : Shared} {c : Code} {fs : List Frame} {gd : Bool → Bool} {st : Stmt} {sts : List Stmt}
theorem gy_rng {tg a : Expr} {body : List Stmt} {p pos cpos : Pos} {u : TAD} {g : TGD} {t : TGY} (hcl : ∀ n, cellsFrom n G.scope.names [] = []) (hg : ∀ ω, ω.s.heap.objs.size = G.n0 → Gl (G.cx ω) "range") (hm : G.mg "range" = none) (ha : ∀ ω, ω.s.heap.objs.size = G.n0 → DA (G.gm ω) (G.cx ω) (G.W ω) [a] u)
    (htg : ∀ ω, ω.s.heap.objs.size = G.n0 → DG (G.gm ω) (G.cx ω) tg g) (hb : GYs G body t) (hs : ∀ x, foldedSetIterable (.Call (.Name "range" p) [a] [] cpos) G.env x = pure x := by intro _; rfl) (hst : ∀ ω, starEach [a] (G.cx ω).env = [(false, eval a (G.cx ω).env)] := by intro _; rfl) :
    GY G (.For tg (.Call (.Name "range" p) [a] [] cpos) body [] pos) (yRng u g t) := by
  refine ⟨fun ip F c fs K J gd lv ω σ H S ρ s D cc k g0 q => ?_⟩
  obtain ⟨ta, pa, run⟩ := (ha ω g0.sz).run
  have pi := pi_range1 (tg := tg) (p := p) (pos := cpos) (hg ω g0.sz) hm pa (hst ω)
  have w := pi.run ip s σ H (fun J H' => ∃ (n : Int) (S' : Hp) (ρ' : DEnv) (I : Nat → Nat → DEnv → Prop), J = Itr 0 n.toNat ∧ StOk (G.gm ω) S' H' σ ρ' F ∧ I 0 ω.i ρ' ∧ (∀ (k i : Nat) ρ, (k : Int) < n → I k i ρ → g (.v 0 (.int k)) ρ fun ρ' => t G.outs G.fin { D with nx := I (k + 1), ct := I (k + 1), bk := D.nx } i ρ') ∧ ∀ i ρ, I n.toNat i ρ → D.nx i ρ) g0.I
    (run S H σ ρ F _ _ _ g0.o lw_gen q fun vs S' H' ρ' ps hp o' q' => by
      split at q'
      · rename_i n ed
        obtain ⟨v, rfl, hv⟩ := rb1 (rbL_of hp o' (List.sublist_append_left _ _) ed)
        obtain ⟨I, h0, h1, h2⟩ := q'.2
        exact ⟨n, by rw [hv.int], q'.1.1, q'.1.2, n, S', ρ', I, rfl, o'.sub (List.sublist_append_right _ _), h0, h1, h2⟩
      · exact q'.elim)
  rw [env_eq g0.sz] at w
  refine gg_For hs ?_
  rw [cc.overX g0.sz]
  refine wpAny_mono w (fun x s1 h1 => wpAny_mono h1 (fun itv s2 h2 => ?_) fun e s' hx => k.ex ω e s' g0.sz g0.il hx) fun e s' hx => k.ex ω e s' g0.sz g0.il hx
  obtain ⟨it, fp, tn, J0, H2, rfl, I2, T, st2, f2, n, S2, ρ2, I, rfl, o2, h0, step, fin⟩ := h2
  intro p0
  have cl := gc_loop (k := fun r => (own G.env r).wrap K J gd lv) (l := lv []) (kp := []) (p := p0) (c' := .forLoop tg (.ref it) body [] G.env) cc rfl rfl
  have fst : ∀ b ∈ fp, b ∉ frs G.outer ∧ G.n0 ≤ b ∧ ∀ p ∈ G.pn ++ ip, p.1 ≠ b := fun b hb => by
    obtain ⟨_, _, f3, f4, _, f6⟩ := f2 b hb
    rcases f4 with f4 | f4
    · cases f4
    · exact ⟨f3, by rw [← g0.sz]; exact f4, f6⟩
  have fok : ∀ {ω : Gh} {H : Hp}, ω.s.heap.objs.size = G.n0 → (∀ b ∈ fp, H b = none ∧ b ≠ G.n0) → ∀ b ∈ fp, FpOk (G.cx ω) ip H b := fun {ω H} hs hf b hb => by
    obtain ⟨a1, a2, a3⟩ := fst b hb
    refine ⟨(hf b hb).1, fun e => (hf b hb).2 (e.trans hs), a1, .inr (by show ω.s.heap.objs.size ≤ b; rw [hs]; exact a2), fun x c h => ?_, a3⟩
    have h' : (cellsFrom (ω.s.heap.objs.size + 1) G.scope.names []).lookup x = some c := h
    rw [hcl] at h'; cases h'
  have loop : ∀ (m k' : Nat) (ω : Gh) (σ : L2.St) (H S : Hp) (ρ : DEnv) (s : Shared), m = n.toNat - k' → k' ≤ n.toNat → GIn G ip F ω σ H S ρ s → tn k' s.heap → (∀ b ∈ fp, H b = none ∧ b ≠ G.n0) → I k' ω.i ρ →
      G.Go ω (.forLoop tg (.ref it) body [] G.env) ((model G.P G.w).den (.forLoop tg (.ref it) body [] G.env)) (loopF G.env K J gd lv c p0 :: fs) s := by
    intro m
    induction m with
    | zero =>
      intro k' ω σ H S ρ s hm hk g1 st1 hf hI
      have ek : k' = n.toNat := by omega
      subst ek
      refine gg_forLoop ?_
      rw [GCc.overX cl g1.sz]
      refine wpAny_mono (T.done (G.cx ω) rfl rfl rfl rfl n.toNat ip s σ H (G.cx ω).xe g1.I (fok g1.sz hf) st1 (Nat.le_refl _)) (fun r s3 h3 => ?_) fun e s' hx => gk_noted cc k rfl rfl g1.sz g1.il hx
      obtain ⟨rfl, I3⟩ := h3
      exact gg_again rfl (gg_block0 (gg_leaf (.ok .next) (k.nx ω σ H S ρ s3 ⟨g1.sz, I3, g1.o, g1.il, g1.ipg⟩ (fin ω.i ρ hI))))
    | succ m ih =>
      intro k' ω σ H S ρ s hm hk g1 st1 hf hI
      have hlt : k' < n.toNat := by omega
      refine gg_forLoop ?_
      rw [GCc.overX cl g1.sz]
      refine wpAny_mono (T.item (G.cx ω) rfl rfl rfl rfl k' ip s σ H (G.cx ω).xe g1.I (fok g1.sz hf) st1 hlt) (fun r s3 h3 => ?_) fun e s' hx => gk_noted cc k rfl rfl g1.sz g1.il hx
      obtain ⟨uv, rfl, h3⟩ := h3
      refine wpAny_mono h3 (fun _ s4 h4 => ?_) fun e s' hx => gk_noted cc k rfl rfl g1.sz g1.il hx
      obtain ⟨x, H4, I4, r4, ⟨e4, e5⟩, st4, fr4⟩ := h4
      subst e4
      subst e5
      have I5 := I4.pinned (fun b hb => fok g1.sz hf b hb) (T.obj _ _ st4)
      obtain ⟨g', pg, rg⟩ := (htg ω g1.sz).run
      have hq := step k' ω.i ρ (by omega) hI
      have wa := pg.run _ s4 σ _ (.int (0 + (k' : Int))) uv (fun σ' H' => ∃ S' ρ', StOk (G.gm ω) S' H' σ' ρ' F ∧ t G.outs G.fin { D with nx := I (k' + 1), ct := I (k' + 1), bk := D.nx } ω.i ρ') I5 r4
        (rg S _ σ ρ F _ (.v 0 (.int (k' : Int))) _ _ (by rw [Int.zero_add]; exact g1.o.pushS .int) hq fun S' H' σ' ρ' o' q' => ⟨S', ρ', o', q'⟩)
      rw [env_eq g1.sz] at wa
      refine wpAny_mono wa (fun _ s5 h5 => ?_) fun e s' hx => gk_noted cc k rfl rfl g1.sz g1.il hx
      obtain ⟨σ5, H5, I6, S5, ρ5, o5, q5⟩ := h5
      have g5 : GIn G (ip ++ pinsAt fp s4.heap) F ω σ5 H5 S5 ρ5 s5 := ⟨g1.sz, I6, o5, g1.il, fun p hp => by
        rw [← List.append_assoc] at hp
        rcases List.mem_append.mp hp with z | z
        · exact g1.ipg p z
        · exact (fst p.1 (of_pinsAt z).1).2.1⟩
      have back : ∀ {ω2 : Gh} {σ2 : L2.St} {H2 S2 : Hp} {ρ2 : DEnv} {s2 : Shared}, GIn G (ip ++ pinsAt fp s4.heap) F ω2 σ2 H2 S2 ρ2 s2 → GIn G ip F ω2 σ2 H2 S2 ρ2 s2 ∧ tn (k' + 1) s2.heap ∧ ∀ b ∈ fp, H2 b = none ∧ b ≠ G.n0 := fun {ω2 σ2 H2 S2 ρ2 s2} gg => by
        have pin : ∀ b ∈ fp, ∀ o, s4.heap.get? b = some o → s2.heap.get? b = some o ∧ H2 b = none := fun b hb o e => by
          obtain ⟨e1, e2, _⟩ := gg.I.pin (b, o) (List.mem_append_right _ (List.mem_append_right _ (mem_pinsAt hb e)))
          exact ⟨e1, e2⟩
        refine ⟨⟨gg.sz, gg.I.unpinned, gg.o, gg.il, g1.ipg⟩, T.keep _ _ _ st4 fun b hb o e => (pin b hb o e).1, fun b hb => ?_⟩
        obtain ⟨o, e, _⟩ := T.obj _ _ st4 b hb
        exact ⟨(pin b hb o e).2, (hf b hb).2⟩
      refine hb.run (ip ++ pinsAt fp s4.heap) F _ _ _ _ id id ω σ5 H5 S5 ρ5 s5 { D with nx := I (k' + 1), ct := I (k' + 1), bk := D.nx } cl ⟨?_, ?_, ?_, ?_, ?_⟩ g5 q5
      · intro ω2 σ2 H2 S2 ρ2 s2 g2 hI2
        obtain ⟨b1, b2, b3⟩ := back g2
        exact gg_again rfl (ih (k' + 1) ω2 σ2 H2 S2 ρ2 s2 (by omega) hlt b1 b2 b3 hI2)
      · intro ω2 σ2 H2 S2 ρ2 s2 g2 q2
        exact gg_leaf (.ok .next) (k.nx ω2 σ2 H2 S2 ρ2 s2 (back g2).1 q2)
      · intro ω2 σ2 H2 S2 ρ2 s2 g2 hI2
        obtain ⟨b1, b2, b3⟩ := back g2
        exact gg_again rfl (ih (k' + 1) ω2 σ2 H2 S2 ρ2 s2 (by omega) hlt b1 b2 b3 hI2)
      · intro ω2 σ2 H2 S2 σ3 ρ2 s2 a1 a2 a3 a4 q2
        exact gg_leaf (.ok (.ret .none)) (k.rt ω2 σ2 H2 S2 σ3 ρ2 s2 a1 a2 a3.unpinned a4 q2)
      · intro ω2 e s2 a1 a2 hx
        exact gk_noted cc k rfl rfl a1 a2 hx
  exact loop _ 0 ω σ H2 S2 ρ2 s2 rfl (Nat.zero_le _) ⟨g0.sz, I2, o2, g0.il, g0.ipg⟩ st2 (fun b hb => ⟨(f2 b hb).1, fun e => (f2 b hb).2.1 (by rw [e]; exact g0.sz.symm)⟩) h0
end
/-! ### a generator def -/
/-- arguments, all that is handed out, what may be raised behind it -/
abbrev GSp := List Dat → List Dat → Option Exn → Prop
abbrev gcOf (P : Program) (w : World) (K : PySem.W.Frag) (mg : Str → Option Value) (base : Heap) (T : Tb) (XT : Nat → Cl) (N : List Str) (qual : Str) (scope : Scope) (f : Addr) (cd : Value) (outer : List Env) (n0 : Nat) (outs : List Dat) (fin : Option Exn) (A : Around) (pn : List (Addr × Obj)) : Gc :=
  ⟨P, w, K, mg, base, N, qual, scope, f, cd, A, outer, pn, T, XT, n0, outs, fin⟩
/-- a generator that has not begun -/
def GNew (P : Program) (w : World) (K : PySem.W.Frag) (mg : Str → Option Value) (base : Heap) (T : Tb) (XT : Nat → Cl) (k : Nat) (outer : List Env) (S : Hp) (s : Shared) (outs : List Dat) (fin : Option Exn) (u : Value) (s' : Shared) : Prop :=
  ∃ (N : List Str) (qual : Str) (scope : Scope) (f : Addr) (cd : Value) (a g : Nat) (go : Obj) (c : Code) (pr : List (Addr × Obj)), u = .ref a ∧ s'.gens[g]? = some (.fresh c) ∧ (∀ h : Heap, h.get? a = some go → h.IsGen a g) ∧ s'.os = s.os ∧ AllBare s'.gens ∧
    (∀ b o, s.heap.get? b = some o → s'.heap.get? b = some o) ∧ (a, go) ∈ pr ∧ (∀ p ∈ pr, s'.heap.get? p.1 = some p.2 ∧ s.heap.objs.size ≤ p.1 ∧ ∀ v, p.2.data ≠ .cell v) ∧
    ∀ A, Room k A → A.frames = some outer → ∀ s'' ω', Wk (gcOf P w K mg base T XT N qual scope f cd outer s.heap.objs.size outs fin A [(a, go)]) 0 S pr s'' ω' →
      GoG (model P w) A (gcOf P w K mg base T XT N qual scope f cd outer s.heap.objs.size outs fin A [(a, go)]).pro (outs.length + 1) ω' c ((model P w).den c) [] s''
structure GFn (P : Program) (w : World) (K : PySem.W.Frag) (mg : Str → Option Value) (base : Heap) (T : Tb) (XT : Nat → Cl) (k : Nat) (f : Addr) (fd : FuncData) (ps : List Str) (ms : List Bool) (gsp : GSp) : Prop where
  len : ms.length = ps.length
  run : ∀ (A : Around) (outer : List Env) (s : Shared) (H : Hp) (args : Args) (us : List Value) (vs : List V) (S : Hp) (ds outs : List Dat) (fin : Option Exn), Room k A → Env0 P w K mg base A outer s H → BindsTo s fd args (ps.zip us) → Vals vs us → Ex S H → ArgsOk (⟨T, XT, K, fun _ => none, fun _ => none, none⟩ : Gm) S H ms vs ds → gsp ds outs fin →
    codeAny (model P w) A (.call (.ref f) args) (fun r s' => match r with | .ok (.ret u) => GNew P w K mg base T XT k outer S s outs fin u s' | _ => False) s
theorem pvD_start : ∀ (ms : List Bool) (ds : List Dat) (n : Nat), (∀ m ∈ ms, m = true) → pvD (dstart n ms ds) = true := fun ms ds n h => by
  have h1 : ∀ (ms : List Bool) (ds : List Dat), (∀ m ∈ ms, m = true) → (dargs ms ds).all pvS = true := by
    intro ms
    induction ms with
    | nil => intro ds _; unfold dargs; rfl
    | cons m ms ih =>
      intro ds hm
      have e := hm m (List.mem_cons_self ..)
      subst e
      cases ds with
      | nil => unfold dargs; rfl
      | cons d ds =>
        unfold dargs
        rw [List.all_cons, ih ds fun m hm' => hm m (List.mem_cons_of_mem _ hm')]
        rfl
  unfold pvD dstart
  rw [List.all_append, h1 ms ds h, Bool.true_and]
  exact List.all_eq_true.mpr fun x hx => by rw [(List.mem_replicate.mp hx).2]; rfl
section
variable {P : Program} {w : World} {K : PySem.W.Frag} {mg : Str → Option Value} {base : Heap} {T : Tb} {XT : Nat → Cl} {x qual : Str} {params : Arguments} {body : List Stmt} {scope : Scope} {dvs : List V} {kws : List (Str × V)} {f : Addr} {fd : FuncData} {N ps : List Str} {k : Nat} {ms : List Bool} {gsp : GSp} {t : TGY}
/-- THE RULE for a generator def -/
theorem gfnD (F : FunD K x qual params body scope dvs kws f fd) (Sc : GScope N ps scope) (hl : ms.length = ps.length) (hms : ∀ m ∈ ms, m = true) (hφ : ∀ n a vs, Pvt P w (T.φ n a vs)) (hcl : ∀ n, cellsFrom n scope.names [] = [])
    (hb : ∀ (cd : Value) (outer : List Env) (n0 : Nat) (outs : List Dat) (fin : Option Exn) (A : Around) (pn : List (Addr × Obj)), Room k (A.deeper (envOfC qual scope n0 f cd)) → GYs (gcOf P w K mg base T XT N qual scope f cd outer n0 outs fin A pn) body t)
    (hp : ∀ ds outs fin, gsp ds outs fin → ds.length = ms.length → t outs fin { nx := fun i _ => i = outs.length ∧ fin = none, rt := fun i => i = outs.length ∧ fin = none } 0 (dstart N.length ms ds)) : GFn P w K mg base T XT (k + 1) f fd ps ms gsp := by
  obtain ⟨oc, od, dV, kV, doc, pm, an, cdv, ct, osl, rfl, lk, hcd, _, _⟩ := F.ex
  refine ⟨hl, fun A outer s H args us vs S ds outs fin hr e0 hbd r eSH ar hsp => ?_⟩
  have hlv : vs.length = ps.length := ar.len.1.trans hl
  have KX : K.In s.heap := e0.mod.kin.keeps fun b o e => (e0.bs b o e).1
  have lim : s.heap.NoLimit := e0.mod.nolimit.keeps fun b o e => (e0.bs b o e).1
  have hkind : ∀ y ∈ ps.zip us, scope.names.lookup y.1 = some .local ∨ (scope.names.lookup y.1 = some .cell ∧ ((cellsFrom (s.heap.objs.size + 1) scope.names []).lookup y.1).isSome = true) := fun ⟨n, v⟩ hy => by
    rcases Sc.par n (List.of_mem_zip hy).1 with q | q
    · exact .inl q
    · exact .inr ⟨q, PySem.W.cellsFrom_some _ _ _ (.inl q)⟩
  refine codeAny_call_generator hr.depth (KX _ _ lk) rfl Sc.co Sc.gen rfl (PySem.W.codeRec_of KX hcd) (hbd _ _ _ _ ?_)
  refine wpAny_newFunctionEnv_cells Sc.kind hkind fun env he s1 xx => ?_
  subst he
  have lim1 : s1.heap.NoLimit := lim.keeps xx.toInCall.keep
  refine ⟨lim1, ?_⟩
  obtain ⟨h1, tk, es1, hk1⟩ := xx.done
  have os1 : s1.os = s.os := by rw [es1]
  have gen1 : s1.gens = s.gens := by rw [es1]
  have lt1 : s.heap.objs.size < s1.heap.objs.size := xx.toInCall.ns.lt
  have sz1 := Nat.le_of_lt lt1
  have kp1 : ∀ b o, s.heap.get? b = some o → s1.heap.get? b = some o := xx.toInCall.keep
  have main : ∀ (go : Obj) (nm qn : Value) (tk2 : Nat), go.cls = .type "generator" → go.data = .fields #[.int s1.gens.size 0, nm, qn] → go.slots = #[] → (∀ h : Heap, (h.push go).get? h.objs.size = some go) →
      GNew P w K mg base T XT (k + 1) outer S s outs fin (.ref s1.heap.objs.size) { s1 with gens := s1.gens.push (.fresh (.func body (envOfC qual scope s.heap.objs.size f cdv))), toks := tk2, heap := s1.heap.push go } := by
    intro go nm qn tk2 hgc hgd0 hgs hgp
    have hgen : ∀ h : Heap, h.get? s1.heap.objs.size = some go → h.IsGen s1.heap.objs.size s1.gens.size := fun h e => ⟨go, nm, qn, e, hgc, hgd0, hgs⟩
    have hpushed : (s1.heap.push go).get? s1.heap.objs.size = some go := hgp _
    have ncg : ∀ v, go.data ≠ .cell v := fun v q => by rw [hgd0] at q; cases q
    have kp2 : ∀ b o, s1.heap.get? b = some o → (s1.heap.push go).get? b = some o := fun b o e => Heap.get?_push_of_some _ e
    -- it sleeps
    let sp : Shared := { s1 with gens := s1.gens.push (.fresh (.func body (envOfC qual scope s.heap.objs.size f cdv))), toks := tk2, heap := s1.heap.push go }
    have bare : AllBare sp.gens := AllBare.push (by rw [gen1]; exact e0.bare) rfl
    obtain ⟨fs, sep, e⟩ := start_sep (Γ := (⟨T, XT, K, S, H, none⟩ : Gm)) (S := S) (H := H) N.length (ArgsOk.conv (Γ := (⟨T, XT, K, fun _ => none, fun _ => none, none⟩ : Gm)) (Γ' := (⟨T, XT, K, S, H, none⟩ : Gm)) (fun _ _ h => h) (fun _ _ h => h) ar) (fun _ _ h => h) (fun p o _ h => ⟨o, h⟩)
    have ok : StOk (⟨T, XT, K, S, H, none⟩ : Gm) S H (L2.start N vs) (dstart N.length ms ds) [] := by
      refine ⟨?_, ⟨fun _ _ h => h, eSH, fun _ _ h1 h2 => ⟨h1, h2⟩, fs, by rw [List.append_nil]; exact sep, by rw [e]; exact List.nodup_nil, fun p hp => by rw [e] at hp; cases hp⟩, fun i v h => by cases h⟩
      unfold L2.start dstart
      rw [List.length_append, List.length_append, dargs_len ar, List.length_map, List.length_replicate, List.length_replicate, ar.len.1, ar.len.2]
    have young : ∀ b, s1.heap.objs.size ≤ b → H b = none := fun b hb => e0.hok.fresh (Nat.le_trans sz1 hb)
    have asleep : ∀ Aw : Around, Room (k + 1) Aw → Aw.frames = some outer → GIn (gcOf P w K mg base T XT N qual scope f cdv outer s.heap.objs.size outs fin Aw [(s1.heap.objs.size, go)]) [] [] ⟨s, H, S, 0⟩ (L2.start N vs) H S (dstart N.length ms ds) sp := fun Aw hrw hfr => by
      have e0w : Env0 P w K mg base Aw outer s H := ⟨hfr, e0.mod, e0.bs, e0.bsz, e0.funs, e0.frf, e0.hok, e0.bare⟩
      have I1 := inv_startG (E := (gcOf P w K mg base T XT N qual scope f cdv outer s.heap.objs.size outs fin Aw [(s1.heap.objs.size, go)]).E ⟨s, H, S, 0⟩) Sc hrw.hd e0w hlv r xx
      have I2 := I1.call' (s' := sp) (ch := []) rfl (Un.kept kp2) (I1.hok.kept kp2) bare fun b z => by cases z
      refine ⟨rfl, Inv.pinnedG I2 fun p hp => ?_, ok, Nat.zero_le _, fun p hp => ?_⟩
      · rw [List.append_nil] at hp
        rw [List.mem_singleton.mp hp]
        exact ⟨hpushed, young _ (Nat.le_refl _), Nat.ne_of_gt lt1, I1.nofs (Nat.le_refl _), ncg⟩
      · rw [List.append_nil] at hp
        rw [List.mem_singleton.mp hp]
        exact sz1
    refine ⟨N, qual, scope, f, cdv, s1.heap.objs.size, s1.gens.size, go, .func body (envOfC qual scope s.heap.objs.size f cdv), pinsAt [s.heap.objs.size, s1.heap.objs.size] sp.heap, rfl, Array.getElem?_push_size .., hgen, os1, bare, fun b o q => kp2 b o (kp1 b o q), mem_pinsAt (by simp) hpushed, fun p hp => ?_, fun Aw hrw hfr s'' ω' wk => ?_⟩
    · obtain ⟨hb, q⟩ := of_pinsAt hp
      refine ⟨q, ?_, fun v hv => ?_⟩
      · rcases List.mem_cons.mp hb with z | z
        · rw [z]; exact Nat.le_refl _
        · rw [List.mem_singleton.mp z]; exact sz1
      · rcases List.mem_cons.mp hb with z | z
        · obtain ⟨o, es, ep, e1, d, _⟩ := xx.toInCall.ns
          have e2 : s1.heap.get? s.heap.objs.size = some o := e1
          rw [z, kp2 _ _ e2] at q
          cases q
          rw [d] at hv; cases hv
        · rw [List.mem_singleton.mp z, hpushed] at q
          cases q
          exact ncg v hv
    · have g0 := asleep Aw hrw hfr
      have hl0 : fs.flatten = [] := e
      have sep' : Sep (⟨T, XT, K, S, H, none⟩ : Gm) S H ((L2.start N vs).zip (dstart N.length ms ds) ++ []) fs := by rw [List.append_nil]; exact sep
      obtain ⟨Hm, sl, wake⟩ := g0.sleep (pvD_start ms ds _ hms) rfl hφ hcl sep' (by rw [e]; exact List.nodup_nil) (fun p hp => by rw [e] at hp; cases hp)
      have wk' := wk
      rw [show (pinsAt [s.heap.objs.size, s1.heap.objs.size] sp.heap) = pinsAt (s.heap.objs.size :: List.map (fun p : Addr × Obj => p.1) ([(s1.heap.objs.size, go)] ++ []) ++ fs.flatten) sp.heap by rw [e]; rfl] at wk'
      rw [← wk.i] at wk'
      obtain ⟨Hn, g1⟩ := wake s'' ω' wk' (by rw [wk.i]; exact Nat.zero_le _)
      have gy := hb cdv outer s.heap.objs.size outs fin Aw [(s1.heap.objs.size, go)] (hrw.deeper _)
      have ei : outs.length + 1 = outs.length - ω'.i + 1 := by rw [wk.i]; rfl
      rw [ei]
      refine gg_func ?_
      refine gy.run [] [] _ [] _ _ id id ω' _ _ _ _ s'' { nx := fun i _ => i = outs.length ∧ fin = none, rt := fun i => i = outs.length ∧ fin = none } ⟨over_func, rfl, rfl, rfl, rfl⟩ ⟨?_, fun _ _ _ _ _ _ _ q => q.elim, fun _ _ _ _ _ _ _ q => q.elim, ?_, ?_⟩ g1 (by rw [wk.i]; exact hp ds outs fin hsp ar.len.2)
      · intro ω2 σ2 H2 S2 ρ2 s2 g2 q2
        exact gg_end (.ok (.ret .none)) (.inl ⟨.inl rfl, q2, S2, H2, slp_end (G := gcOf P w K mg base T XT N qual scope f cdv outer s.heap.objs.size outs fin Aw [(s1.heap.objs.size, go)]) g2.sz g2.I g2.o (fun p hp => g2.ipg p (List.mem_append_left _ hp))⟩)
      · intro ω2 σ2 H2 S2 σ3 ρ2 s2 a1 a2 a3 a4 q2
        exact gg_end (.ok (.ret .none)) (.inl ⟨.inl rfl, q2, S2, H2, slp_end (G := gcOf P w K mg base T XT N qual scope f cdv outer s.heap.objs.size outs fin Aw [(s1.heap.objs.size, go)]) a1 a3 a4 (fun p hp => by rw [List.mem_singleton.mp hp]; exact sz1)⟩)
      · intro ω2 e2 s2 a1 a2 hx
        refine gg_wrap ?_
        rw [over_func]
        have hx' : wpAny (model P w) (Aw.deeper (envOfC qual scope ω2.s.heap.objs.size f cdv)) (leaving (envOfC qual scope ω2.s.heap.objs.size f cdv) e2) (fun _ s'' => CX P w outer ω2.H ω2.s ((gcOf P w K mg base T XT N qual scope f cdv outer s.heap.objs.size outs fin Aw [(s1.heap.objs.size, go)]).E ω2) e2 s'' ∧ ∀ p ∈ [(s1.heap.objs.size, go)], s''.heap.get? p.1 = some p.2) (fun _ _ => False) s2 := hx
        rw [show ω2.s.heap.objs.size = s.heap.objs.size from a1] at hx'
        exact wpAny_mono hx' (fun _ s3 q => gg_end (.error e2) (.inr ⟨e2, rfl, q⟩)) fun _ _ q => q.elim
  exact main _ _ _ _ rfl rfl rfl fun h => Heap.get?_push_size _ rfl
end
end Sw

/-! The data layer, 45: what sleeps is left alone; a generator is woken once. -/
namespace Sw
open PySem PySem.Spec PySem.Calls PyProof.Rows L2 GenW
open Sem (wp)
/-- every generator that sleeps, so that it cannot be woken -/
def psn : GenState → GenState
  | .suspended _ l c p fs cl => .suspended stk l c p fs cl
  | x => x
theorem fr_psn (G : Array GenState) : Fr G (G.map psn) := by
  refine ⟨by rw [Array.size_map], fun i y h => ?_⟩
  rw [Array.getElem?_map] at h
  cases e : G[i]? with
  | none => rw [e] at h; cases h
  | some x =>
    rw [e] at h
    refine ⟨x, rfl, ?_⟩
    cases h
    cases x with
    | suspended => exact .old
    | fresh => exact .eq trivial
    | running => exact .eq trivial
    | finished => exact .eq trivial
theorem kp_psn {G : Array GenState} {i : Nat} {k l c p fs cl} (h : G[i]? = some (.suspended k l c p fs cl)) : Kp G (G.map psn) i := ⟨k, l, c, p, fs, cl, h, by rw [Array.getElem?_map, h]; rfl⟩
theorem bare_psn {G : Array GenState} (h : AllBare G) : AllBare (G.map psn) := fun y hy => by
  obtain ⟨x, hx, e⟩ := Array.mem_map.mp hy
  have := h x hx
  rw [← e]
  cases x <;> exact this
theorem bare_fr {G H : Array GenState} (f : Fr G H) (h : AllBare H) : AllBare G := fun x hx => by
  obtain ⟨i, hi, e⟩ := Array.mem_iff_getElem.mp hx
  have hi2 : i < H.size := by rw [← f.sz]; exact hi
  obtain ⟨x', e1, z⟩ := f.at_ i _ (Array.getElem?_eq_getElem hi2)
  rw [Array.getElem?_eq_getElem hi, e] at e1
  cases e1
  have := h _ (Array.getElem_mem hi2)
  generalize H[i] = y at *
  cases z <;> exact this
/-- it sleeps -/
def Susp (x : GenState) : Prop := ∃ k l c p fs cl, x = .suspended k l c p fs cl
/-- the run of any code, over frozen generators -/
theorem wp_fz {α : Type} (M : Model) (Γ : PySem.Ctx) (t : Sem α) : ∀ (Q : α → Pos → Shared → Prop) (E : Value → Pos → Shared → Prop) (p : Pos) (s : Shared) (G : Array GenState), Fr G s.gens → wp M Γ t Q E p s →
    wp M Γ t (fun a p' s' => ∃ s1 G', s' = wg s1 G' ∧ Fr G' s1.gens ∧ Kept G s.gens G' s1.gens ∧ Q a p' s1) (fun e p' s' => ∃ s1 G', s' = wg s1 G' ∧ Fr G' s1.gens ∧ Kept G s.gens G' s1.gens ∧ E e p' s1) p (wg s G) := by
  have lift : ∀ {β : Type} {t : Sem β} {Q : β → Pos → Shared → Prop} {E : Value → Pos → Shared → Prop} {p : Pos} {s s2 : Shared} {G G2 : Array GenState}, Kept G s.gens G2 s2.gens →
      wp M Γ t (fun a p' s' => ∃ s1 G', s' = wg s1 G' ∧ Fr G' s1.gens ∧ Kept G2 s2.gens G' s1.gens ∧ Q a p' s1) (fun e p' s' => ∃ s1 G', s' = wg s1 G' ∧ Fr G' s1.gens ∧ Kept G2 s2.gens G' s1.gens ∧ E e p' s1) p (wg s2 G2) →
      wp M Γ t (fun a p' s' => ∃ s1 G', s' = wg s1 G' ∧ Fr G' s1.gens ∧ Kept G s.gens G' s1.gens ∧ Q a p' s1) (fun e p' s' => ∃ s1 G', s' = wg s1 G' ∧ Fr G' s1.gens ∧ Kept G s.gens G' s1.gens ∧ E e p' s1) p (wg s2 G2) := fun {β t Q E p s s2 G G2} k h =>
    Sem.wp_mono M Γ _ (fun a p' s' q => by obtain ⟨s1, G', a1, a2, a3, a4⟩ := q; exact ⟨s1, G', a1, a2, k.trans a3, a4⟩) (fun a p' s' q => by obtain ⟨s1, G', a1, a2, a3, a4⟩ := q; exact ⟨s1, G', a1, a2, k.trans a3, a4⟩) _ _ h
  induction t with
  | pure a => intro Q E p s G f h; exact ⟨s, G, rfl, f, Kept.rfl, h⟩
  | raise e => intro Q E p s G f h; exact ⟨s, G, rfl, f, Kept.rfl, h⟩
  | unsupported _ => intro Q E p s G _ h; exact h
  | finish _ => intro Q E p s G _ h; exact h
  | rule _ k ih => intro Q E p s G f h; exact ih () Q E p s G f h
  | «at» p' k ih => intro Q E p s G f h; exact ih () Q E p' s G f h
  | load a _ k ih => intro Q E p s G f h; obtain ⟨o, ho, h⟩ := h; exact ⟨o, ho, ih o Q E p s G f h⟩
  | update a _ g k ih => intro Q E p s G f h; exact ⟨h.1, ih () Q E p { s with heap := s.heap.update a g } G f h.2⟩
  | loadIfAlive a k ih => intro Q E p s G f h; exact ih _ Q E p s G f h
  | point _ k ih => intro Q E p s G f h; exact ih () Q E p s G f h
  | register _ _ => intro Q E p s G _ h; exact h
  | alloc o k ih => intro Q E p s G f h; exact ih s.heap.objs.size Q E p { s with heap := s.heap.push o } G f h
  | fresh k ih => intro Q E p s G f h; exact ih s.toks Q E p { s with toks := s.toks + 1 } G f h
  | ask k ih => intro Q E p s G f h; exact ih _ Q E p s G f h
  | choose src m k ih => intro Q E p s G f h; exact ⟨h.1, ih (M.w.draws src (s.drawn.get src) % m) Q E p { s with drawn := s.drawn.bump src } G f h.2⟩
  | os q _ k ih => intro Q E p s G f h; exact ih (Os.step s.os q).2 Q E p { s with os := (Os.step s.os q).1 } G f h
  | call c hd _ _ k ih =>
    intro Q E p s G f h
    obtain ⟨r, s', hr, h⟩ := h
    obtain ⟨G', a, b, c1, _⟩ := runs_fz hr rfl G f
    exact ⟨r, wg s' G', b, lift c1 (ih r Q E p s' G' a h)⟩
  | handled own k ih => intro Q E p s G f h; exact ih _ Q E p s G f h
  | genState g k ih =>
    intro Q E p s G f h
    obtain ⟨st, hs, h⟩ := h
    obtain ⟨x, hx, z⟩ := f.at_ _ _ hs
    refine ⟨x, hx, ?_⟩
    have := ih _ Q E p s G f h
    rw [← z.seen] at this
    exact this
  | newGen c k ih =>
    intro Q E p s G f h
    have e := f.sz
    have q := ih _ Q E p _ _ (f.push (x := .fresh c) trivial) h
    have q2 := lift (Kept.push (G := G) (H := s.gens) (.fresh c) (.fresh c)) q
    rw [← e] at q2
    exact q2
  | resume g r _ k ih =>
    intro Q E p s G f h
    obtain ⟨res, s', hw, h⟩ := h
    have main : ∃ G', Fr G' s'.gens ∧ Kept G s.gens G' s'.gens ∧ Wakes M Γ p g r (wg s G) res (wg s' G') := by
      unfold Wakes at hw
      cases hs : s.gens[g]? with
      | none => rw [hs] at hw; exact hw.elim
      | some y =>
        rw [hs] at hw
        obtain ⟨x, hx, z⟩ := f.at_ _ _ hs
        cases z with
        | eq hn =>
          cases y with
          | fresh c =>
            have nk := nkp (G := G) hs (by intro _ _ _ _ _ _ e; cases e)
            cases r with
            | send v =>
              cases v with
              | none =>
                obtain ⟨e1, s1, hr, hq, e2, e3⟩ := hw
                obtain ⟨G1, a1, b1, c1, d1⟩ := runs_fz hr rfl _ (f.set g (x := .running) trivial)
                subst e3
                exact ⟨_, a1.set g d1.ng, ((Kept.set nk _).trans c1).past nk _, by unfold Wakes; rw [show (wg s G).gens[g]? = _ from hx]; exact ⟨e1, wg s1 G1, b1, hq, e2, rfl⟩⟩
              | _ => obtain ⟨e1, e2⟩ := hw; subst e2; exact ⟨G, f, Kept.rfl, by unfold Wakes; rw [show (wg s' G).gens[g]? = _ from hx]; exact ⟨e1, rfl⟩⟩
            | throw v => obtain ⟨e1, e2⟩ := hw; subst e2; exact ⟨_, f.set g (x := .finished) trivial, Kept.set nk _, by unfold Wakes; rw [show (wg s G).gens[g]? = _ from hx]; exact ⟨e1, rfl⟩⟩
          | suspended k₀ l₀ c₀ p₀ fs cl =>
            obtain ⟨e1, s1, hr, hq, e2, e3⟩ := hw
            by_cases kp : Kp G s.gens g
            · obtain ⟨_, _, _, _, _, _, _, e4⟩ := kp
              rw [hs] at e4
              cases e4
              exact (no_unsup hr).elim
            · obtain ⟨G1, a1, b1, c1, d1⟩ := runs_fz hr hn _ (f.set g (x := .running) trivial)
              subst e3
              exact ⟨_, a1.set g d1.ng, ((Kept.set kp _).trans c1).past kp _, by unfold Wakes; rw [show (wg s G).gens[g]? = _ from hx]; exact ⟨e1, wg s1 G1, b1, hq, e2, rfl⟩⟩
          | running => obtain ⟨e1, e2⟩ := hw; subst e2; exact ⟨G, f, Kept.rfl, by unfold Wakes; rw [show (wg s' G).gens[g]? = _ from hx]; exact ⟨e1, rfl⟩⟩
          | finished => obtain ⟨e1, e2⟩ := hw; subst e2; exact ⟨G, f, Kept.rfl, by unfold Wakes; rw [show (wg s' G).gens[g]? = _ from hx]; exact ⟨e1, rfl⟩⟩
        | old =>
          obtain ⟨e1, s1, hr, _⟩ := hw
          exact (no_unsup hr).elim
    obtain ⟨G', a, b, c⟩ := main
    exact ⟨res, wg s' G', c, lift b (ih res Q E p s' G' a h)⟩
  | yield _ _ _ _ => intro Q E p s G _ h; exact h
  | stack k ih => intro Q E p s G f h; exact ih _ Q E p s G f h
  | fork _ _ => intro Q E p s G _ h; exact h
  | thread k ih => intro Q E p s G f h; exact ih _ Q E p s G f h
  | await _ _ _ _ _ => intro Q E p s G _ h; exact h
theorem wpAny_fz {α : Type} {M : Model} {A : Around} {s : Shared} {t : Sem α} {Q : α → Shared → Prop} {E : Value → Shared → Prop} (h : wpAny M A t Q E (wg s (s.gens.map psn))) :
    wpAny M A t (fun a s' => ∃ s1 G', s' = wg s1 G' ∧ Fr G' s1.gens ∧ (∀ (i : Nat) (x : GenState), s.gens[i]? = some x → Susp x → G'[i]? = s.gens[i]?) ∧ Q a s1)
      (fun a s' => ∃ s1 G', s' = wg s1 G' ∧ Fr G' s1.gens ∧ (∀ (i : Nat) (x : GenState), s.gens[i]? = some x → Susp x → G'[i]? = s.gens[i]?) ∧ E a s1) s := fun Γ p hΓ => by
  have q := wp_fz M Γ t _ _ p (wg s (s.gens.map psn)) s.gens (fr_psn s.gens) (h Γ p hΓ)
  refine Sem.wp_mono M Γ _ (fun a p' s' q => ?_) (fun a p' s' q => ?_) _ _ q
  · obtain ⟨s1, G', a1, a2, a3, a4⟩ := q
    exact ⟨s1, G', a1, a2, fun i x e hx => by obtain ⟨_, _, _, _, _, _, rfl⟩ := hx; exact (a3 i (kp_psn e)).1, a4⟩
  · obtain ⟨s1, G', a1, a2, a3, a4⟩ := q
    exact ⟨s1, G', a1, a2, fun i x e hx => by obtain ⟨_, _, _, _, _, _, rfl⟩ := hx; exact (a3 i (kp_psn e)).1, a4⟩
/-! ### what is gone stays gone -/
structure Gone (h h' : Heap) : Prop where
  sz : h.objs.size ≤ h'.objs.size
  no : ∀ b, b < h.objs.size → h.get? b = none → h'.get? b = none
theorem Gone.rfl {h : Heap} : Gone h h := ⟨Nat.le_refl _, fun _ _ e => e⟩
theorem Gone.trans {a b c : Heap} (x : Gone a b) (y : Gone b c) : Gone a c := ⟨Nat.le_trans x.sz y.sz, fun i hi e => y.no i (Nat.lt_of_lt_of_le hi x.sz) (x.no i hi e)⟩
theorem gone_push (h : Heap) (o : Obj) : Gone h (h.push o) := by
  refine ⟨by rw [Heap.size_push]; exact Nat.le_succ _, fun b hb e => ?_⟩
  rw [← e]
  unfold Heap.get? Heap.push
  rw [Array.getElem?_push, if_neg (Nat.ne_of_lt hb)]
theorem gone_update {h : Heap} {a : Addr} {f : Obj → Obj} (ha : (h.get? a).isSome) : Gone h (h.update a f) := by
  refine ⟨by rw [Heap.size_update]; exact Nat.le_refl _, fun b hb e => ?_⟩
  by_cases q : a = b
  · subst q; rw [e] at ha; cases ha
  · rw [Heap.get?_update_other _ _ q]; exact e
theorem runs_gone {M : Model} {Γ : PySem.Ctx} {p : Pos} {t : Sem PySem.Fin} {fs : List Frame} {s s' : Shared} {e : End} (h : Runs M Γ p t fs s e s') : Gone s.heap s'.heap := by
  induction h with
  | done => exact Gone.rfl
  | raise => exact Gone.rfl
  | yield => exact Gone.rfl
  | alloc _ ih => exact (gone_push _ _).trans ih
  | update ha _ ih => exact (gone_update ha).trans ih
  | call _ _ a b => exact a.trans b
  | segRet _ _ a b => exact a.trans b
  | segGen _ _ a b => exact a.trans b
  | segSuspGen _ _ _ _ a b => exact a.trans b
  | resumeFresh _ _ _ _ a b => exact (show Gone _ _ from a).trans b
  | resumeSuspended _ _ _ _ a b => exact (show Gone _ _ from a).trans b
  | _ => assumption
/-! ### once -/
def GoesG {Ω : Type} (M : Model) (A : Around) (π : Pro Ω) (n : Nat) (gs : GenState) (ω : Ω) (s : Shared) : Prop :=
  match gs with
  | .fresh c => GoG M A π n ω c (M.den c) [] s
  | .suspended k _ c _ fs _ => GoG M A π n ω c (k (.send .none)) fs s
  | _ => False
theorem resumeG {Ω : Type} {M : Model} {A : Around} {π : Pro Ω} {n : Nat} {ω : Ω} {E : Value → Shared → Prop} {s : Shared} {g : Nat} {gs : GenState} {l : List Value} {α : Type} {k : GenResult → Sem α} {Q : α → Shared → Prop} (hg : s.gens[g]? = some gs)
    (hgo : GoesG M A π (n + 1) gs ω (s.setGen g .running)) (hR : ∀ x s₁, Gone s.heap s₁.heap → π.R ω x s₁ → wpAny M A (k (End.ret x).result) Q E (s₁.setGen g .finished))
    (hY : ∀ v s₁ gs', Gone s.heap s₁.heap → s.gens.size ≤ s₁.gens.size → gs'.bare = true → Susp gs' → π.Y ω v s₁ (fun s'' ω' => GoesG M A π n gs' ω' s'') → wpAny M A (k (.yielded v)) Q E (s₁.setGen g gs')) :
    wpAny M A (.resume g (.send .none) l k) Q E s := by
  intro Γ p hΓ
  rw [Sem.wp_resume]
  have fin : ∀ {c : Code} {t : Sem PySem.Fin × Pos} {fs : List Frame}, (∃ e₁ s₁, Runs M (Γ.wake c p) t.2 t.1 fs (s.setGen g .running) e₁ s₁ ∧ gEnd π (fun c' t' fs' s'' ω' => GoG M A π n ω' c' t' fs' s'') ω e₁ s₁) →
      ∃ e₁ s₁, Runs M (Γ.wake c p) t.2 t.1 fs (s.setGen g .running) e₁ s₁ ∧ e₁.quiet = true ∧ wp M Γ (k e₁.result) (fun a _ s' => Q a s') (fun e _ s' => E e s') p (s₁.setGen g e₁.genState) := by
    rintro c ⟨t, p1⟩ fs ⟨e₁, s₁, hr, he⟩
    have gn : Gone (s.setGen g .running).heap s₁.heap := runs_gone hr
    have gz : s.gens.size ≤ s₁.gens.size := by have := runs_gsz hr; rw [setGen_size] at this; exact this
    cases e₁ with
    | ret x => exact ⟨_, s₁, hr, rfl, hR x s₁ gn he Γ p hΓ⟩
    | susp v g₀ l₀ k₀ c₀ p₀ fs₀ => exact ⟨_, s₁, hr, he.1, hY v s₁ _ gn gz (End.bare_of_quiet he.1) ⟨_, _, _, _, _, _, rfl⟩ he.2 Γ p hΓ⟩
  cases gs with
  | fresh c =>
    obtain ⟨e₁, s₁, hr, hq, hw⟩ := fin (t := (M.den c, p)) (hgo (Γ.wake c p) p rfl (hΓ.wake c p))
    exact ⟨_, _, by unfold Wakes; rw [hg]; exact ⟨e₁, s₁, hr, hq, rfl, rfl⟩, hw⟩
  | suspended k₀ l₀ c₀ p₀ fs₀ cl =>
    obtain ⟨e₁, s₁, hr, hq, hw⟩ := fin (t := (k₀ (.send .none), p₀)) (hgo (Γ.wake c₀ p) p₀ rfl (hΓ.wake c₀ p))
    exact ⟨_, _, by unfold Wakes; rw [hg]; exact ⟨e₁, s₁, hr, hq, rfl, rfl⟩, hw⟩
  | running => exact hgo.elim
  | finished => exact hgo.elim
theorem nextG {Ω : Type} {P : Program} {w : World} {A : Around} {E : Value → Shared → Prop} {s : Shared} {a : Addr} {g n : Nat} {gs : GenState} {ω : Ω} {π : Pro Ω} {Q : Option Value → Shared → Prop} (hh : A.handled = none)
    (hl : s.heap.NoLimit) (hroom : A.depth < recursionLimit) (hg : s.heap.IsGen a g) (hgs : s.gens[g]? = some gs) (hgo : GoesG (model P w) A.in1 π (n + 1) gs ω (s.setGen g .running))
    (hR : ∀ x s₁, Gone s.heap s₁.heap → π.R ω x s₁ → ((x = .ok (.ret .none) ∨ x = .ok .next) ∧ ∀ h', (∀ b o, s₁.heap.get? b = some o → h'.get? b = some o) → Q none { s₁.setGen g .finished with heap := h' }) ∨
      ∃ e, x = .error e ∧ s₁.heap.IsGen a g ∧ NotStop (model P w) e s₁.heap ∧ E e (s₁.setGen g .finished))
    (hY : ∀ v s₁ gs', Gone s.heap s₁.heap → s.gens.size ≤ s₁.gens.size → gs'.bare = true → Susp gs' → π.Y ω v s₁ (fun s'' ω' => GoesG (model P w) A.in1 π n gs' ω' s'') → Q (some v) (s₁.setGen g gs')) :
    wpAny (model P w) A (pyNext (.ref a)) Q E s := by
  unfold pyNext
  refine wpAny_bind (wpAny_attempt (wpAny_callSpecial?_slot (name := Str.ofString "__next__") hg.typeIs slot_gen_next (wpAny_call_entry slot_gen_next hg.typeIs entry_gen_next ?_ (args_gen_next _))))
  show wpAny _ A.in1 (Builtin.Generator.genWake (.ref a) (.send .none)) _ _ s
  unfold Builtin.Generator.genWake
  refine wpAny_bind (wpAny_holding (wpAny_genNumber hg (wpAny_bind (wpAny_genState hgs ?_))))
  cases gs with
  | running => exact hgo.elim
  | finished => exact hgo.elim
  | _ =>
    refine wpAny_bind (wpAny_roomToWake hl hroom ?_)
    refine resumeG hgs hgo (fun x s₁ gn hx => ?_) (fun v s₁ gs' gn gz hb hs hv => wpAny_pure ⟨v, rfl, wpAny_pure (hY v s₁ gs' gn gz hb hs hv)⟩)
    rcases hR x s₁ gn hx with ⟨hr, hp⟩ | ⟨e, rfl, hg1, hns, hq⟩
    · have hres : End.result (.ret x) = .returned .none := by rcases hr with hr | hr <;> rw [hr] <;> rfl
      first | rw [hres] | simp only [hres]
      show wpAny _ A.in1 (newExc (.type "StopIteration") [] >>= _) _ _ (s₁.setGen g .finished)
      refine wpAny_bind ?_
      simp only [newTuple, newExc]
      refine wpAny_bind (wpAny_newObj_type ?_ (by size_fits))
      refine wpAny_bind (m := firstArgMember _ _) (wpAny_of_eq (a := .none) (by first | rfl | (simp only [firstArgMember]; rfl)) ?_)
      refine wpAny_newObj_type ?_ (by size_fits); simp only [raiseNew]
      refine wpAny_bind (wpAny_bind (wpAny_handled ?_)); first | rw [show A.in1.handled = none from hh] | rw [hh]
      refine wpAny_throw (wpAny_bind ?_)
      exact wpAny_isInstance (T := "StopIteration") (b := true) ⟨_, Heap.get?_push_size _ rfl, rfl⟩ isSubtype_stop (wpAny_pure (hp _ fun b o hb => Heap.get?_push_of_some _ (Heap.get?_push_of_some _ hb)))
    · obtain ⟨o, nm, qn, ho, hc, hd, hsl⟩ := hg1
      show wpAny _ A.in1 (Builtin.Generator.genLeft (.ref a) e) _ _ (s₁.setGen g .finished)
      unfold Builtin.Generator.genLeft; unfold Builtin.Generator.madeByALambda
      refine wpAny_bind (wpAny_bind (wpAny_load (o := o) ho (wpAny_pure ?_)))
      refine wpAny_bind (hns _ _ _ _ rfl ?_); rw [Bool.and_false, if_neg Bool.false_ne_true]
      unfold Builtin.Generator.genEscaped
      first
        | refine wpAny_bind (hns _ _ _ _ rfl ?_)
        | refine wpAny_bind (wpAny_pure (wpAny_bind (hns _ _ _ _ rfl ?_)))
      rw [if_pos (show (!false) = true from rfl)]; first | refine wpAny_throw ?_ | refine wpAny_bind (wpAny_throw ?_)
      refine wpAny_bind (hns _ _ _ _ rfl ?_); rw [if_neg Bool.false_ne_true]
      exact wpAny_throw hq
end Sw

/-! The data layer, 46: the one who wakes a generator: the word that is chosen, what comes of it. -/
namespace Sw
open PySem PySem.Spec PySem.Calls PyProof.Rows L2 GenW
def strip (S : Hp) : Hp := fun b => match S b with
  | some (.own _) => none
  | x => x
theorem strip_of {S : Hp} {b : Addr} {o : HO} (h : strip S b = some o) : S b = some o ∧ ∀ x, o ≠ .own x := by
  unfold strip at h
  cases e : S b with
  | none => rw [e] at h; cases h
  | some u =>
    rw [e] at h
    cases u <;> first | (cases h; exact ⟨rfl, fun x q => by cases q⟩) | cases h
theorem strip_some {S : Hp} {b : Addr} {o : HO} (h : S b = some o) (n : ∀ x, o ≠ .own x) : strip S b = some o := by
  unfold strip
  rw [h]
  cases o <;> first | rfl | exact absurd rfl (n _)
def trunc (h : Heap) (n : Nat) : Heap := { h with objs := h.objs.extract 0 n }
theorem trunc_size {h : Heap} {n : Nat} (hn : n ≤ h.objs.size) : (trunc h n).objs.size = n := by
  unfold trunc
  simp only [Array.size_extract]
  omega
theorem trunc_get {h : Heap} {n b : Nat} (hb : b < n) : (trunc h n).get? b = h.get? b := by
  unfold trunc Heap.get?
  simp only [Array.getElem?_extract]
  by_cases q : b < h.objs.size
  · rw [if_pos (by omega), Nat.zero_add]
  · rw [if_neg (by omega), Array.getElem?_eq_none (by omega)]
theorem trunc_no {h : Heap} {n b : Nat} (hb : n ≤ b) : (trunc h n).get? b = none := by
  unfold trunc Heap.get?
  simp only [Array.getElem?_extract]
  rw [if_neg (by omega)]
theorem trunc_sub {h : Heap} {n b : Nat} {o : Obj} (e : (trunc h n).get? b = some o) : b < n ∧ h.get? b = some o := by
  by_cases q : b < n
  · rw [trunc_get q] at e; exact ⟨q, e⟩
  · rw [trunc_no (by omega)] at e; cases e
open Classical in
noncomputable def fzH (h : Heap) (n0 : Nat) (pr : List (Addr × Obj)) (b : Addr) : Option HO :=
  if b < n0 ∨ ∃ p ∈ pr, p.1 = b then none else (h.get? b).map fun o => .frz o (.ext fun _ => True)
open Classical in
noncomputable def ghH (S H : Hp) (h : Heap) (n0 : Nat) (pr : List (Addr × Obj)) : Hp := fun b =>
  if (strip S b).isSome = true then H b else match H b with
    | some (.tup xs) => some (.tup xs)
    | some (.own x) => if (strip S x).isSome = true then some (.own x) else fzH h n0 pr b
    | _ => fzH h n0 pr b
theorem ObjOk.there {P : Program} {w : World} {H : Hp} {h : Heap} {a : Addr} {o : HO} (x : ObjOk P w H h a o) : ∃ u, h.get? a = some u := by
  cases o with
  | lst xs => obtain ⟨_, _, _, _, e⟩ := x; exact ⟨_, e⟩
  | tup xs => obtain ⟨_, _, _, o, e, _⟩ := x; exact ⟨_, e⟩
  | dK kvs => obtain ⟨_, _, _, _, o, _, _, e, _⟩ := x; exact ⟨_, e⟩
  | dT kvs => obtain ⟨_, _, _, _, o, _, _, e, _⟩ := x; exact ⟨_, e⟩
  | set S n => obtain ⟨o, _, _, _, e, _⟩ := x; exact ⟨_, e⟩
  | ins C dx fs => obtain ⟨_, _, _, e, _⟩ := x; exact ⟨_, e⟩
  | own y => exact x
  | xd fs => obtain ⟨_, ⟨_, _, _, e, _⟩, _⟩ := x; exact ⟨_, e⟩
  | rng lo hi => obtain ⟨_, _, _, e⟩ := x; exact ⟨_, e⟩
  | frz ob u => obtain ⟨e, _⟩ := x; exact ⟨_, e⟩
  | tbl ps => exact ⟨_, show h.get? a = some _ from x⟩
  | met f y => exact ⟨_, show h.get? a = some _ from x⟩
  | ext φ => obtain ⟨_, e, _⟩ := x; exact e
/-- what stood below n0 at the call -/
structure Lo (X : Cx) (pins : List (Addr × Obj)) (n0 : Nat) : Prop where
  s0 : X.s_0.heap.objs.size ≤ n0
  bs : X.base.objs.size ≤ n0
  fr : ∀ b ∈ frs X.stack, b < n0
  L : X.env.locals < n0
  ce : ∀ x c, X.env.cells.lookup x = some c → c < n0
  pn : ∀ p ∈ X.pn ++ pins, p.1 < n0
section
variable {X : Cx} {pins : List (Addr × Obj)} {σ : L2.St} {H S : Hp} {ρ : DEnv} {F : Fx} {s : Shared} {Γ : Gm} {n0 : Nat} {pr pr' : List (Addr × Obj)} {G : Gc} {Sy : Hp} {i : Nat}
theorem lo_of (I : Inv X pins σ H s) : Lo X pins s.heap.objs.size := by
  refine ⟨I.sz, Nat.le_trans I.ok.bsz I.sz, fun b hb => ?_, I.lt, fun x c e => ?_, fun p hp => Heap.lt_size (I.pin p hp).1⟩
  · by_cases q : b < s.heap.objs.size
    · exact q
    · have no := I.nofs (Nat.not_lt.mp q)
      rcases I.ok.stk with z | ⟨z, y⟩
      · rw [z] at hb; exact absurd hb no
      · rw [z] at hb
        unfold frs at hb
        rw [List.filterMap_cons, y] at hb
        rcases List.mem_cons.mp hb with hb | hb
        · rw [hb]; exact I.lt
        · exact absurd hb no
  · obtain ⟨v, o, ho, _⟩ := I.cell x c e
    exact Heap.lt_size ho
theorem funs_trunc {base h : Heap} : ∀ {l : List Env}, (∀ b ∈ frs l, b < n0) → h.FunFrames base l → (trunc h n0).FunFrames base l
  | [], _, q => q
  | e :: l, hl, ⟨q1, ⟨L, o, q2, q3, q4, q5⟩, q6⟩ => by
    have hL : frs (e :: l) = L :: frs l := by unfold frs; rw [List.filterMap_cons, q2]
    refine ⟨q1, ⟨L, o, q2, q3, ?_, q5⟩, funs_trunc (fun b hb => hl b (by rw [hL]; exact List.mem_cons_of_mem _ hb)) q6⟩
    rw [trunc_get (hl L (by rw [hL]; exact List.mem_cons_self ..))]
    exact q4
theorem fz_none {h : Heap} {b : Addr} {o : Obj} (e : h.get? b = some o) (np : ¬ ∃ p ∈ pr, p.1 = b) (q : fzH h n0 pr b = none) : b < n0 := by
  unfold fzH at q
  split at q
  · rename_i z
    exact z.elim (fun z => z) fun z => absurd z np
  · rw [e] at q; cases q
theorem fz_low {h : Heap} {b : Addr} (hb : b < n0) : fzH h n0 pr b = none := by unfold fzH; rw [if_pos (.inl hb)]
theorem fz_pr {h : Heap} {b : Addr} (hb : ∃ p ∈ pr, p.1 = b) : fzH h n0 pr b = none := by unfold fzH; rw [if_pos (.inr hb)]
theorem fz_hi {h : Heap} {b : Addr} {o : Obj} (e : h.get? b = some o) (hb : n0 ≤ b) (np : ¬ ∃ p ∈ pr, p.1 = b) : fzH h n0 pr b = some (.frz o (.ext fun _ => True)) := by
  unfold fzH
  rw [if_neg (by rintro (z | z); exact absurd hb (Nat.not_le.mpr z); exact np z), e]; rfl
theorem fz_eq {h : Heap} {b : Addr} {u : HO} (q : fzH h n0 pr b = some u) : ∃ o, h.get? b = some o ∧ u = .frz o (.ext fun _ => True) := by
  unfold fzH at q
  split at q
  · cases q
  · cases e : h.get? b with
    | none => rw [e] at q; cases q
    | some o => rw [e] at q; cases q; exact ⟨o, rfl, rfl⟩
/-- the three kinds of places -/
theorem gh_cases (h : Heap) (n0 : Nat) (pr : List (Addr × Obj)) (e : Ex S H) (b : Addr) : (∃ o, strip S b = some o ∧ H b = some o ∧ ghH S H h n0 pr b = some o) ∨ (strip S b = none ∧ ∃ xs, H b = some (.tup xs) ∧ ghH S H h n0 pr b = some (.tup xs)) ∨
    (strip S b = none ∧ ∃ x, H b = some (.own x) ∧ (strip S x).isSome = true ∧ ghH S H h n0 pr b = some (.own x)) ∨
    (strip S b = none ∧ (∀ xs, H b ≠ some (.tup xs)) ∧ (∀ x, H b = some (.own x) → strip S x = none) ∧ ghH S H h n0 pr b = fzH h n0 pr b) := by
  cases q : strip S b with
  | some o =>
    have hb := e b o (strip_of q).1
    exact .inl ⟨o, rfl, hb, by unfold ghH; rw [if_pos (by rw [q]; rfl)]; exact hb⟩
  | none =>
    have base : ghH S H h n0 pr b = (match H b with
      | some (.tup xs) => some (.tup xs)
      | some (.own x) => if (strip S x).isSome = true then some (.own x) else fzH h n0 pr b
      | _ => fzH h n0 pr b) := by
      show (if (strip S b).isSome = true then H b else _) = _
      rw [q, if_neg (by simp)]
    rw [base]
    cases k : H b with
    | none => exact .inr (.inr (.inr ⟨rfl, (fun xs z => by cases z), (fun x z => by cases z), rfl⟩))
    | some u =>
      cases u with
      | tup xs => exact .inr (.inl ⟨rfl, xs, rfl, rfl⟩)
      | own x =>
        cases z : strip S x with
        | some v => exact .inr (.inr (.inl ⟨rfl, x, rfl, by rw [z]; rfl, by simp [z]⟩))
        | none => exact .inr (.inr (.inr ⟨rfl, (fun xs z => by cases z), (fun y hy => by cases hy; exact z), by simp [z]⟩))
      | _ => exact .inr (.inr (.inr ⟨rfl, (fun xs z => by cases z), (fun x z => by cases z), rfl⟩))
noncomputable abbrev ghost (S H : Hp) (s : Shared) (n0 : Nat) (pr : List (Addr × Obj)) (i : Nat) : Gh := ⟨{ s with heap := trunc s.heap n0 }, ghH S H s.heap n0 pr, strip S, i⟩
theorem gh_hok (I : Inv X pins σ H s) (e : Ex S H) : HOk X.prog X.w (ghH S H s.heap n0 pr) s.heap := fun b o hb => by
  have up : ∀ c x, H c = some (.own x) → (strip S x).isSome = true → ghH S H s.heap n0 pr c = some (.own x) := fun c x hc hx => by
    rcases gh_cases s.heap n0 pr e c with ⟨o, q1, q2, q3⟩ | ⟨q1, xs, q2, q3⟩ | ⟨q1, y, q2, q3, q4⟩ | ⟨q1, q2, q3, q4⟩
    · rw [q3, ← q2]; exact hc
    · rw [hc] at q2; cases q2
    · rw [hc] at q2; cases q2; exact q4
    · have := q3 x hc; rw [this] at hx; cases hx
  have ut : ∀ c xs, H c = some (.tup xs) → ghH S H s.heap n0 pr c = some (.tup xs) := fun c xs hc => by
    rcases gh_cases s.heap n0 pr e c with ⟨o, q1, q2, q3⟩ | ⟨q1, xs', q2, q3⟩ | ⟨q1, y, q2, q3, q4⟩ | ⟨q1, q2, q3, q4⟩
    · rw [q3, ← q2]; exact hc
    · rw [hc] at q2; cases q2; exact q3
    · rw [hc] at q2; cases q2
    · exact absurd hc (q2 xs)
  rcases gh_cases s.heap n0 pr e b with ⟨o', q1, q2, q3⟩ | ⟨q1, xs', q2, q3⟩ | ⟨q1, y, q2, q3, q4⟩ | ⟨q1, q2, q3, q4⟩
  · rw [q3] at hb; cases hb
    exact (I.hok b o q2).stay (fun _ _ _ q => q) (fun c hc => up c b hc (by rw [q1]; rfl)) ut
  · rw [q3] at hb; cases hb
    exact (I.hok b _ q2)
  · rw [q4] at hb; cases hb
    exact (I.hok b _ q2)
  · rw [q4] at hb
    obtain ⟨ob, e1, rfl⟩ := fz_eq hb
    exact ⟨e1, trivial, ⟨ob, e1⟩, fun _ _ _ _ => trivial⟩
theorem wk_of (I : Inv X pins σ H s) (o : StOk Γ S H σ ρ F) (lo : Lo X pins n0) (hn : n0 ≤ s.heap.objs.size) (hpr : ∀ p ∈ pr, s.heap.get? p.1 = some p.2 ∧ H p.1 = none ∧ n0 ≤ p.1) (hSy : ExO Sy S) (s' : Shared) (hs : s'.heap = s.heap) (hos : s'.os = s.os) (hb : AllBare s'.gens)
    (g1 : G.P = X.prog) (g2 : G.w = X.w) (g3 : G.base = X.base) (g4 : G.outer = X.stack) (g5 : G.n0 = n0) : Wk G i Sy pr s' (ghost S H s n0 pr i) := by
  have e := o.ok.ex
  have e0 := I.env0
  have no : ∀ b, H b = none → b < n0 → ghH S H s.heap n0 pr b = none := fun b hb hl => by
    rcases gh_cases s.heap n0 pr e b with ⟨o', q1, q2, q3⟩ | ⟨q1, xs', q2, q3⟩ | ⟨q1, y, q2, q3, q4⟩ | ⟨q1, q2, q3, q4⟩
    · rw [hb] at q2; cases q2
    · rw [hb] at q2; cases q2
    · rw [hb] at q2; cases q2
    · rw [q4]; exact fz_low hl
  refine ⟨rfl, by rw [g5]; exact trunc_size hn, hos, hb, fun b o' q => by rw [hs]; exact (trunc_sub q).2, fun b o' q => ?_, ?_, fun b hb' => ?_, fun b o' n q => strip_some (hSy b o' n q) n, fun b o' q => ?_, ?_, fun p hp => ?_⟩
  · rw [g3] at q
    obtain ⟨a1, a2⟩ := I.bs b o' q
    have hl : b < n0 := Nat.lt_of_lt_of_le (Heap.lt_size q) lo.bs
    exact ⟨by show (trunc s.heap n0).get? b = _; rw [trunc_get hl]; exact a1, no b a2 hl⟩
  · rw [g3, g4]
    exact funs_trunc lo.fr e0.funs
  · rw [g4] at hb'
    exact no b (e0.frf b hb') (lo.fr b hb')
  · rcases gh_cases s.heap n0 pr e b with ⟨o2, q1, q2, q3⟩ | ⟨q1, _⟩ | ⟨q1, _⟩ | ⟨q1, _⟩
    · have q : strip S b = some o' := q
      rw [q1] at q; cases q; exact q3
    all_goals (have q : strip S b = some o' := q; rw [q1] at q; cases q)
  · rw [g1, g2, hs]
    exact gh_hok I e
  · obtain ⟨a1, a2, a3⟩ := hpr p hp
    refine ⟨by rw [hs]; exact a1, ?_, trunc_no a3⟩
    rcases gh_cases s.heap n0 pr e p.1 with ⟨o', q1, q2, q3⟩ | ⟨q1, xs', q2, q3⟩ | ⟨q1, y, q2, q3, q4⟩ | ⟨q1, q2, q3, q4⟩
    · rw [a2] at q2; cases q2
    · rw [a2] at q2; cases q2
    · rw [a2] at q2; cases q2
    · show ghH S H s.heap n0 pr p.1 = none
      rw [q4]; exact fz_pr ⟨p, hp, rfl⟩
/-- it has run: what the one who woke it has -/
theorem step_of {s' s2 : Shared} {S' Hm : Hp} (I : Inv X pins σ H s) (o : StOk Γ S H σ ρ F) (lo : Lo X pins n0) (hn : n0 ≤ s.heap.objs.size) (hpr : ∀ p ∈ pr, s.heap.get? p.1 = some p.2 ∧ H p.1 = none ∧ n0 ≤ p.1)
    (g1 : G.P = X.prog) (g2 : G.w = X.w) (g4 : G.outer = X.stack) (gn : Gone s.heap s'.heap) (sl : Slp G (ghost S H s n0 pr i) s' S' Hm pr') (h2 : s2.heap = s'.heap) (h3 : s2.os = s'.os) (hb : AllBare s2.gens) :
    ∃ S2 H2, Inv X pins σ H2 s2 ∧ StOk Γ S2 H2 σ ρ F ∧ Ex S' S2 ∧ ∀ p ∈ pr', s2.heap.get? p.1 = some p.2 ∧ H2 p.1 = none ∧ n0 ≤ p.1 ∧ ∀ v, p.2.data ≠ .cell v := by
  have e := o.ok.ex
  have e0 := I.env0
  have npr : ∀ b u, H b = some u → ¬ ∃ p ∈ pr, p.1 = b := fun b u hu ⟨p, hp, q⟩ => by
    have := (hpr p hp).2.1
    rw [q, hu] at this; cases this
  have un := sl.un
  have stk : ∀ b v, strip S b = none → ghH S H s.heap n0 pr b = some v → S' b = none ∧ Hm b = some v := fun b v h1 h2 => sl.stp.k b v h1 h2
  have st1 : ∀ b v, strip S b = some v → S' b = some v ∧ Hm b = some v := fun b v h => by
    have := sl.stp.s b v h
    exact ⟨this, sl.stp.h b v this⟩
  have sN : ∀ b, Hm b = none → S' b = none := fun b h => by
    cases q : S' b with
    | none => rfl
    | some v => rw [sl.stp.h b v q] at h; cases h
  have lowN : ∀ b ob, s.heap.get? b = some ob → b < n0 → ghH S H s.heap n0 pr b = none → Hm b = none := fun b ob h1 h2 h3 => un.free b ob (by show (trunc s.heap n0).get? b = _; rw [trunc_get h2]; exact h1) h3 (by simp)
  -- strip S b = none, b is there, ghH is fz
  have fzc : ∀ b ob, s.heap.get? b = some ob → (¬ ∃ p ∈ pr, p.1 = b) → strip S b = none → ghH S H s.heap n0 pr b = fzH s.heap n0 pr b → S' b = none ∧ (Hm b = none ∧ b < n0 ∨ Hm b = some (.frz ob (.ext fun _ => True))) := fun b ob h1 h2 h3 h4 => by
    by_cases q : b < n0
    · have z := lowN b ob h1 q (by rw [h4]; exact fz_low q)
      exact ⟨sN b z, .inl ⟨z, q⟩⟩
    · obtain ⟨a1, a2⟩ := stk b _ h3 (h4.trans (fz_hi h1 (Nat.not_lt.mp q) h2))
      exact ⟨a1, .inr a2⟩
  have thr : ∀ b u, H b = some u → ∃ ob, s.heap.get? b = some ob := fun b u h => ObjOk.there (I.hok b u h)
  -- what is known here and not still there stays so
  have k1 : ∀ b u, H b = some u → strip S b = none → S' b = none := fun b u h1 h2 => by
    obtain ⟨ob, hob⟩ := thr b u h1
    rcases gh_cases s.heap n0 pr e b with ⟨o', q1, q2, q3⟩ | ⟨q1, xs', q2, q3⟩ | ⟨q1, y, q2, q3, q4⟩ | ⟨q1, q2, q3, q4⟩
    · rw [h2] at q1; cases q1
    · exact (stk b _ q1 q3).1
    · exact (stk b _ q1 q4).1
    · exact (fzc b ob hob (npr b u h1) q1 q4).1
  let H2 : Hp := fun b => match S' b with
    | some _ => Hm b
    | none => match H b with
      | some u => some u
      | none => match Hm b with
        | some (.own x) => some (.own x)
        | some (.tup xs) => some (.tup xs)
        | _ => none
  let S2 : Hp := fun b => match S' b with
    | some u => some u
    | none => S b
  have H2a : ∀ b v, S' b = some v → H2 b = Hm b := fun b v h => by show (match S' b with | some _ => Hm b | none => _) = _; rw [h]
  have H2b : ∀ b u, S' b = none → H b = some u → H2 b = some u := fun b u h h' => by show (match S' b with | some _ => Hm b | none => _) = _; rw [h, h']
  have H2c : ∀ b, S' b = none → H b = none → H2 b = (match Hm b with
        | some (.own x) => some (.own x)
        | some (.tup xs) => some (.tup xs)
        | _ => none) := fun b h h' => by show (match S' b with | some _ => Hm b | none => _) = _; rw [h, h']
  have f1 : ∀ b u, H b = some u → H2 b = some u := fun b u h => by
    cases q : strip S b with
    | some v =>
      obtain ⟨a1, a2⟩ := st1 b v q
      have := e b v (strip_of q).1
      rw [h] at this; cases this
      rw [H2a b _ a1]; exact a2
    | none => exact H2b b u (k1 b u h q) h
  have noS : ∀ b, H b = none → strip S b = none := fun b h => by
    cases q : strip S b with
    | none => rfl
    | some v => rw [e b v (strip_of q).1] at h; cases h
  have ghN : ∀ b, H b = none → ghH S H s.heap n0 pr b = fzH s.heap n0 pr b := fun b h => by
    rcases gh_cases s.heap n0 pr e b with ⟨o', q1, q2, q3⟩ | ⟨q1, xs', q2, q3⟩ | ⟨q1, y, q2, q3, q4⟩ | ⟨q1, q2, q3, q4⟩
    · rw [h] at q2; cases q2
    · rw [h] at q2; cases q2
    · rw [h] at q2; cases q2
    · exact q4
  have f2 : ∀ b ob, s.heap.get? b = some ob → H b = none → (¬ ∃ p ∈ pr, p.1 = b) → H2 b = none := fun b ob h1 h2 h3 => by
    obtain ⟨a1, a2⟩ := fzc b ob h1 h3 (noS b h2) (ghN b h2)
    rw [H2c b a1 h2]
    rcases a2 with ⟨a2, _⟩ | a2 <;> rw [a2]
  have f3 : ∀ b ob, s.heap.get? b = some ob → strip S b = none → ghH S H s.heap n0 pr b = fzH s.heap n0 pr b → (¬ ∃ p ∈ pr, p.1 = b) → b ∉ frs X.stack → s'.heap.get? b = some ob := fun b ob h1 h2 h3 h4 h5 => by
    by_cases q : b < n0
    · exact un.keep b ob (by show (trunc s.heap n0).get? b = _; rw [trunc_get q]; exact h1) (by show ghH S H s.heap n0 pr b = none; rw [h3]; exact fz_low q) (by rw [g4]; exact h5) (by simp)
    · have := (stk b _ h2 (h3.trans (fz_hi h1 (Nat.not_lt.mp q) h4))).2
      exact (sl.hok b _ this).1
  have f4 : ∀ b ob, s.heap.get? b = some ob → (¬ ∃ p ∈ pr, p.1 = b) → ∃ o', s'.heap.get? b = some o' := fun b ob h1 h2 => by
    by_cases q : b < n0
    · exact un.there b ob (by show (trunc s.heap n0).get? b = _; rw [trunc_get q]; exact h1) (by simp)
    · rcases gh_cases s.heap n0 pr e b with ⟨o', q1, q2, q3⟩ | ⟨q1, xs', q2, q3⟩ | ⟨q1, y, q2, q3, q4⟩ | ⟨q1, q2, q3, q4⟩
      · exact ObjOk.there (sl.hok b _ (st1 b _ q1).2)
      · exact ObjOk.there (sl.hok b _ (stk b _ q1 q3).2)
      · exact ObjOk.there (sl.hok b _ (stk b _ q1 q4).2)
      · exact ObjOk.there (sl.hok b _ (stk b _ q1 (q4.trans (fz_hi h1 (Nat.not_lt.mp q) h2))).2)
  have ho : ∀ b c, Hm c = some (.own b) → H2 c = some (.own b) := fun b c hc => by
    cases q : S' c with
    | some v => rw [H2a c v q]; exact hc
    | none =>
      cases k : H c with
      | none => rw [H2c c q k, hc]
      | some u =>
        have sc : strip S c = none := by
          cases z : strip S c with
          | none => rfl
          | some v => rw [(st1 c v z).1] at q; cases q
        obtain ⟨ob, hob⟩ := thr c u k
        rcases gh_cases s.heap n0 pr e c with ⟨o', q1, q2, q3⟩ | ⟨q1, xs', q2, q3⟩ | ⟨q1, y, q2, q3, q4⟩ | ⟨q1, q2, q3, q4⟩
        · rw [sc] at q1; cases q1
        · have := (stk c _ q1 q3).2; rw [hc] at this; cases this
        · have := (stk c _ q1 q4).2; rw [hc] at this; cases this
          exact f1 c _ q2
        · rcases (fzc c ob hob (npr c u k) q1 q4).2 with ⟨a, _⟩ | a <;> (rw [hc] at a; cases a)
  have ht : ∀ c xs, Hm c = some (.tup xs) → H2 c = some (.tup xs) := fun c xs hc => by
    cases q : S' c with
    | some v => rw [H2a c v q]; exact hc
    | none =>
      cases k : H c with
      | none => rw [H2c c q k, hc]
      | some u =>
        have sc : strip S c = none := by
          cases z : strip S c with
          | none => rfl
          | some v => rw [(st1 c v z).1] at q; cases q
        obtain ⟨ob, hob⟩ := thr c u k
        rcases gh_cases s.heap n0 pr e c with ⟨o', q1, q2, q3⟩ | ⟨q1, xs', q2, q3⟩ | ⟨q1, y, q2, q3, q4⟩ | ⟨q1, q2, q3, q4⟩
        · rw [sc] at q1; cases q1
        · have := (stk c _ q1 q3).2; rw [hc] at this; cases this
          exact f1 c _ q2
        · have := (stk c _ q1 q4).2; rw [hc] at this; cases this
        · rcases (fzc c ob hob (npr c u k) q1 q4).2 with ⟨a, _⟩ | a <;> (rw [hc] at a; cases a)
  have hokm : ∀ b v, Hm b = some v → ObjOk X.prog X.w H2 s'.heap b v := fun b v h => by
    have := sl.hok b v h
    rw [g1, g2] at this
    exact this.stay (fun _ _ _ q => q) (fun c hc => ho b c hc) ht
  have hok : HOk X.prog X.w H2 s'.heap := fun b u h => by
    cases q : S' b with
    | some v => rw [H2a b v q] at h; exact hokm b u h
    | none =>
      cases k : H b with
      | none =>
        rw [H2c b q k] at h
        cases z : Hm b with
        | none => rw [z] at h; cases h
        | some y =>
          rw [z] at h
          cases y <;> first | (cases h; exact hokm b _ z) | cases h
      | some u' =>
        have := f1 b u' k
        rw [h] at this; cases this
        have sb : strip S b = none := by
          cases z : strip S b with
          | none => rfl
          | some v => rw [(st1 b v z).1] at q; cases q
        obtain ⟨ob, hob⟩ := thr b u k
        have nfr : ∀ c v, H c = some v → c ∉ frs X.stack := fun c v hc hm => by rw [e0.frf c hm] at hc; cases hc
        rcases gh_cases s.heap n0 pr e b with ⟨o', q1, q2, q3⟩ | ⟨q1, xs', q2, q3⟩ | ⟨q1, y, q2, q3, q4⟩ | ⟨q1, q2, q3, q4⟩
        · rw [sb] at q1; cases q1
        · rw [k] at q2; cases q2
          exact hokm b _ (stk b _ q1 q3).2
        · rw [k] at q2; cases q2
          exact hokm b _ (stk b _ q1 q4).2
        · refine (I.hok b u k).stay (fun c v hc hv => ?_) (fun c hc => f1 c _ hc) fun c xs hc => f1 c _ hc
          rcases hc with rfl | hc
          · exact f3 c v hv q1 q4 (npr c u k) (nfr c u k)
          · have sc : strip S c = none := by
              cases z : strip S c with
              | none => rfl
              | some w' =>
                obtain ⟨z1, z2⟩ := strip_of z
                have := e c w' z1
                rw [hc] at this; cases this
                exact absurd rfl (z2 b)
            refine f3 c v hv sc ?_ (npr c _ hc) (nfr c _ hc)
            rcases gh_cases s.heap n0 pr e c with ⟨o', p1, p2, p3⟩ | ⟨p1, xs', p2, p3⟩ | ⟨p1, y, p2, p3, p4⟩ | ⟨p1, p2, p3, p4⟩
            · rw [sc] at p1; cases p1
            · rw [hc] at p2; cases p2
            · rw [hc] at p2; cases p2
              rw [q1] at p3; cases p3
            · exact p4
  have np : ∀ b, b ∉ pr.map (·.1) → ¬ ∃ p ∈ pr, p.1 = b := fun b hb ⟨p, hp, q⟩ => hb (List.mem_map.mpr ⟨p, hp, q⟩)
  have un2 : Un (frs X.stack) (pr.map (·.1)) H H2 s.heap s'.heap := by
    refine ⟨fun b ob h1 h2 h3 h4 => f3 b ob h1 (noS b h2) (ghN b h2) (np b h4) h3, fun b ob h1 h2 h3 h4 => ?_, fun b ob h1 h2 h4 => f2 b ob h1 h2 (np b h4), fun b ob h1 h4 => f4 b ob h1 (np b h4), fun b xs h => f1 b _ h, fun b ob u h => f1 b _ h, fun b ps h => ⟨#[], by rw [f1 b _ h]; simp⟩⟩
    have hl := lo.fr b h3
    exact un.slot b ob (by show (trunc s.heap n0).get? b = _; rw [trunc_get hl]; exact h1) (by show ghH S H s.heap n0 pr b = none; rw [ghN b h2]; exact fz_low hl) (by rw [g4]; exact h3) (by simp)
  refine ⟨S2, H2, I.call' (ch := pr.map (·.1)) (by rw [h3]; exact sl.os) (by rw [h2]; exact un2) (by rw [h2]; exact hok) hb (fun b hb' => ?_), o.step ⟨fun b v h => ?_, fun b v h => ?_, fun b v h k => ?_⟩, fun b v h => ?_, fun p hp => ?_⟩
  · obtain ⟨p, hp, rfl⟩ := List.mem_map.mp hb'
    have hp0 := (hpr p hp).2.2
    exact ⟨.inr (Nat.le_trans lo.s0 hp0), fun q => absurd lo.L (by rw [← q]; exact Nat.not_lt.mpr hp0), fun x c hc q => absurd (lo.ce x c hc) (by rw [q]; exact Nat.not_lt.mpr hp0), fun q hq z => absurd (lo.pn q hq) (by rw [z]; exact Nat.not_lt.mpr hp0)⟩
  · show (match S' b with | some u => some u | none => S b) = some v
    cases q : strip S b with
    | some v' =>
      have := (strip_of q).1
      rw [h] at this; cases this
      rw [(st1 b _ q).1]
    | none => rw [k1 b v (e b v h) q]; exact h
  · have h : (match S' b with | some u => some u | none => S b) = some v := h
    cases q : S' b with
    | some v' => rw [q] at h; cases h; rw [H2a b _ q]; exact sl.stp.h b _ q
    | none => rw [q] at h; exact f1 b v (e b v h)
  · have sb : strip S b = none := by
      cases z : strip S b with
      | none => rfl
      | some v => rw [(strip_of z).1] at h; cases h
    refine ⟨?_, f1 b v k⟩
    show (match S' b with | some u => some u | none => S b) = none
    rw [k1 b v k sb]; exact h
  · show (match S' b with | some u => some u | none => S b) = some v
    rw [h]
  · obtain ⟨a1, a2, a3, a4, a5⟩ := sl.prv p hp
    have a4 : (trunc s.heap n0).get? p.1 = none := a4
    have a3 : ghH S H s.heap n0 pr p.1 = none := a3
    have hl : n0 ≤ p.1 := by
      by_cases q : p.1 < n0
      · rw [trunc_get q] at a4
        rw [gn.no p.1 (Nat.lt_of_lt_of_le q hn) a4] at a1; cases a1
      · exact Nat.not_lt.mp q
    refine ⟨by rw [h2]; exact a1, ?_, hl, a5⟩
    have hH : H p.1 = none := by
      cases k : H p.1 with
      | none => rfl
      | some u =>
        obtain ⟨ob, hob⟩ := thr p.1 u k
        rcases gh_cases s.heap n0 pr e p.1 with ⟨o', q1, q2, q3⟩ | ⟨q1, xs', q2, q3⟩ | ⟨q1, y, q2, q3, q4⟩ | ⟨q1, q2, q3, q4⟩
        · rw [a3] at q3; cases q3
        · rw [a3] at q3; cases q3
        · rw [a3] at q4; cases q4
        · rw [q4, fz_hi hob hl (npr p.1 u k)] at a3; cases a3
    rw [H2c p.1 (sN _ a2) hH, a2]
end
end Sw

/-! The data layer, 47: for over a generator; the call of a generator def. -/
namespace Sw
open PySem PySem.Spec PySem.Calls PyProof.Rows L2 GenW
abbrev TGnD := DEx → DEnv → (DEnv → List Dat → Option Exn → Prop) → Prop
/-- an expression that makes a generator -/
structure DGn (Γ : Gm) (X : Cx) (W : WX) (k : Nat) (e : Expr) (t : TGnD) : Prop where
  run : ∀ pins s σ H S ρ F E Q, Inv X pins σ H s → StOk Γ S H σ ρ F → LW Γ F E W → t E ρ Q → wpAny (model X.prog X.w) X.A (eval e X.env)
    (fun u s' => ∃ sc H1 S1 ρ1 outs fin, Inv X pins σ H1 sc ∧ StOk Γ S1 H1 σ ρ1 F ∧ GNew X.prog X.w X.K X.mg X.base Γ.T Γ.X k X.stack S1 sc outs fin u s' ∧ Q ρ1 outs fin) X.xe s
/-- a generator def of the module, its promise -/
structure GnG (M : Wd) (Γ : Gm) (name : Str) (k : Nat) (ps : List Str) (ex : List (V × Dat)) (ms : List Bool) (gsp : GSp) : Prop where
  ok : ∃ f fd ds, M.mg name = some (.ref f) ∧ PySem.W.keepIn M.K (.ref f) = true ∧ Binds M.K fd ps ds ∧ Vals (ex.map (·.1)) ds ∧ GFn M.P M.w M.K M.mg M.base Γ.T Γ.X k f fd ps ms gsp
  sc : ∀ x ∈ ex, ∀ S, Is Γ.T Γ.K S x.1 x.2
def pGn (ms : List Bool) (gsp : GSp) (ex : List Dat) (u : TAD) : TGnD := fun E ρ Q => u E ρ fun ρ1 ps => match argL ρ1 ms ps with
  | some ds => ∃ outs fin, gsp (ds ++ ex) outs fin ∧ Q ρ1 outs fin
  | none => False
section
variable {Γ : Gm} {X : Cx} {W : WX} {e a b tg : Expr} {es : List Expr} {pos : Pos} {u : TAD}
theorem dgn_call {Γ' : Gm} {x : Str} {k : Nat} {ps : List Str} {ms ms1 : List Bool} {ex : List (V × Dat)} {exd : List Dat} {gsp : GSp} {p : Pos} (c : GnG (wd X) Γ' x k ps ex ms gsp) (hr : Room k X.A) (hg : Gl X x) (ha : DA Γ X W (e :: es) u)
    (hn : ms = ms1 ++ ex.map fun _ => true) (hx : exd = ex.map (·.2) := by rfl) (hT : Γ'.T = Γ.T := by rfl) (hX : Γ'.X = Γ.X := by rfl) (hK : Γ'.K = Γ.K := by rfl) (hK2 : Γ.K = X.K := by rfl)
    (hdb : (x == ("__debug__" : Str)) = false := by decide) (he : starEach (e :: es) X.env = (false, eval e X.env) :: starEach es X.env := by rfl) (hpl : (backTo pos (starEach es X.env)).any (·.1) = false := by rfl) :
    DGn Γ X W k (.Call (.Name x p) (e :: es) [] pos) (pGn ms1 gsp exd u) := by
  subst hx
  obtain ⟨f, fd, ds0, hm, hk, hb, hd, Fn⟩ := c.ok
  obtain ⟨te, p1, q⟩ := ha.run
  have sc := c.sc
  rw [hT, hX] at Fn
  rw [hT, hK] at sc
  refine ⟨fun pins s σ H S ρ F E Q I o l x => ?_⟩
  have w := p1.run pos pins s σ H _ I (q S H σ ρ F E _ (fun vs H' => ∃ S' ρ' ds outs fin, StOk Γ S' H' σ ρ' F ∧ ArgsOk Γ S' H' ms (vs ++ ex.map (·.1)) ds ∧ gsp ds outs fin ∧ Q ρ' outs fin) o l x fun vs S' H' ρ' ps hp o' x' => by
    split at x'
    · rename_i ds ed
      obtain ⟨outs, fin, h1, h2⟩ := x'
      have a2 := (argL_of o' hp (List.sublist_append_left _ _) ed).more sc
      rw [← hn] at a2
      exact ⟨S', ρ', _, outs, fin, o'.sub (List.sublist_append_right _ _), a2, h1, h2⟩
    · exact x'.elim)
  refine wpAny_Call_Name_kw (ld_glob I hg hm ?_ hdb)
  refine PySem.W.callWith_K (h₀ := X.base) I.ok.mod.kin hk (thn w fun us s1 hh => ?_) he hpl
  obtain ⟨vs, H1, I1, r, S1, ρ1, ds, outs, fin, o1, a1, h1, h2⟩ := hh
  refine ⟨I1.kIn, ?_⟩
  have r2 : Vals (vs ++ ex.map (·.1)) (us ++ ds0) := r.append hd
  have hl2 : (us ++ ds0).length = ps.length := by rw [← r2.length, a1.len.1, Fn.len]
  have a1' : ArgsOk (⟨Γ.T, Γ.X, X.K, fun _ => none, fun _ => none, none⟩ : Gm) S1 H1 ms (vs ++ ex.map (·.1)) ds := ArgsOk.conv (Γ := Γ) (fun v d h => hK2 ▸ h) (fun v d h => by
    obtain ⟨k, f, hk, ow⟩ := h
    exact ⟨k, f, hk, hK2 ▸ ow⟩) a1
  refine wpAny_call (codeAny_mono (Fn.run X.A X.stack s1 H1 ⟨us, []⟩ (us ++ ds0) (vs ++ ex.map (·.1)) S1 ds outs fin hr I1.env0 (hb s1 us I1.kIn hl2) r2 o1.ok.ex a1' h1) fun r s' hq => ?_)
  cases r with
  | error e => exact hq.elim
  | ok fl =>
    cases fl with
    | ret u => exact ⟨s1, H1, S1, ρ1, outs, fin, I1, o1, hq, h2⟩
    | _ => exact hq.elim
end
/-! ### for -/
def sForG (t : TGnD) (g : TGD) (u : TSD) : TSD := fun D ρ => t D.ex ρ fun ρ1 outs fin => fin = none ∧ ∃ I : Nat → DEnv → Prop, I 0 ρ1 ∧
  (∀ i d ρ2, outs[i]? = some d → I i ρ2 → g (.v 0 d) ρ2 fun ρ3 => u { D with nx := I (i + 1), ct := I (i + 1), bk := D.nx } ρ3) ∧ ∀ ρ2, I outs.length ρ2 → D.nx ρ2
abbrev Gm.at0 (Γ : Gm) (S : Hp) : Gm := { Γ with S0 := S }
theorem sep_at0 {Γ : Gm} {S0 S H : Hp} : ∀ {L fs}, Sep Γ S H L fs ↔ Sep (Γ.at0 S0) S H L fs := by
  intro L fs
  constructor
  · exact fun h => h.conv fun e f q => by
      obtain ⟨ov, os⟩ := e
      cases os with
      | none => exact q
      | some sl => cases ov <;> cases sl <;> exact q
  · exact fun h => h.conv fun e f q => by
      obtain ⟨ov, os⟩ := e
      cases os with
      | none => exact q
      | some sl => cases ov <;> cases sl <;> exact q
theorem StOk.at0 {Γ : Gm} {S H : Hp} {σ : L2.St} {ρ : DEnv} {F : Fx} (o : StOk Γ S H σ ρ F) : StOk (Γ.at0 S) S H σ ρ F := by
  obtain ⟨fs, sep, nd, z⟩ := o.ok.sep
  refine ⟨o.len, ⟨fun _ _ h => h, o.ok.ex, fun p u h1 h2 => ?_, fs, sep_at0.mp sep, nd, z⟩, o.me⟩
  cases q : Γ.S0 p with
  | none => exact o.ok.fr p u q h2
  | some v =>
    have h1 : S p = none := h1
    rw [o.ok.ex0 p v q] at h1; cases h1
theorem StOk.from0 {Γ : Gm} {S H S' H' : Hp} {σ σ' : L2.St} {ρ ρ' : DEnv} {F F' : Fx} (o : StOk Γ S H σ ρ F) (o' : StOk (Γ.at0 S) S' H' σ' ρ' F') : StOk Γ S' H' σ' ρ' F' := by
  obtain ⟨fs, sep, nd, z⟩ := o'.ok.sep
  exact ⟨o'.len, ⟨o.ok.ex0.trans o'.ok.ex0, o'.ok.ex, fun p u h1 h2 => o'.ok.fr p u (o.ok.fr p u h1 h2).1 h2, fs, sep_at0.mpr sep, nd, z⟩, o'.me⟩
/-- what flies does not lean on the table of generators -/
def XeG (X : Cx) : Prop := ∀ e s G, Fr G s.gens → X.xe e s → X.xe e (wg s G)
theorem cx_wg {P : Program} {w : World} {outer : List Env} {H : Hp} {s s1 : Shared} {E : XK} {u : Value} {G : Array GenState} (h : CX P w outer H s E u s1) (f : Fr G s1.gens) : CX P w outer H s E u (wg s1 G) := by
  obtain ⟨a, B, H', cls, d, z1, z2, z3, z4, z5, z6, z7, z8⟩ := h
  exact ⟨a, B, H', cls, d, z1, z2, z3, z4, z5, z6, bare_fr f z7, z8⟩
theorem xeG_cx {P : Program} {w : World} {K : PySem.W.Frag} {mg : Str → Option Value} {base : Heap} {N : List Str} {qual : Str} {scope : Scope} {f : Addr} {cd : Value} {A : Around} {outer : List Env} {s : Shared} {H : Hp} {E : XK} :
    XeG (cxOf (L2.CX P w) P w K mg base N qual scope f cd A outer s H E) := fun e s1 G fr h => fun Γ p hΓ =>
  Sem.wp_mono _ Γ _ (fun a p' s' q => by obtain ⟨s2, G', rfl, a2, _, a4⟩ := q; exact cx_wg a4 a2) (fun a p' s' q => by obtain ⟨s2, G', rfl, a2, _, a4⟩ := q; exact cx_wg a4 a2) _ _ (wp_fz _ Γ _ _ _ p s1 G fr (h Γ p hΓ))
section
variable {Γ : Gm} {X : Cx} {W : WX} {tg iter : Expr} {body : List Stmt} {pos : Pos} {t : TGnD} {g : TGD} {u : TSD}
theorem inv_gens {pins : List (Addr × Obj)} {σ : L2.St} {H : Hp} {s : Shared} (I : Inv X pins σ H s) {G : Array GenState} (h : AllBare G) : Inv X pins σ H (wg s G) :=
  ⟨I.ok, I.os, h, I.base, I.loc, I.cell, I.free, I.freeC, I.pin, I.hok, I.len⟩
theorem go_gen {M : Model} {A : Around} {E : Value → Shared → Prop} {s : Shared} {tg : Expr} {a : Addr} {g : Nat} {v : Value} {Q : Unit → Shared → Prop} (hg : s.heap.IsGen a g) (hQ : Q () s) : wpAny M A (letOwnedTupleGo tg (.ref a) v) Q E s := by
  obtain ⟨o, nm, qn, ho, hc, hd, _⟩ := hg
  exact go_of ho hc hd (by decide) hQ
/-- run over frozen generators: what is wanted, what sleeps sleeps on -/
theorem thnG {α : Type} {M : Model} {A : Around} {s : Shared} {t : Sem α} {Q Q' : α → Shared → Prop} {E : Value → Shared → Prop} (hx : ∀ e s1 G, Fr G s1.gens → E e s1 → E e (wg s1 G)) (h : wpAny M A t Q E (wg s (s.gens.map psn)))
    (hq : ∀ a s1 G', Fr G' s1.gens → (∀ (i : Nat) (x : GenState), s.gens[i]? = some x → Susp x → G'[i]? = s.gens[i]?) → Q a s1 → Q' a (wg s1 G')) : wpAny M A t Q' E s :=
  wpAny_mono (wpAny_fz h) (fun a s' q => by obtain ⟨s1, G', rfl, a2, a3, a4⟩ := q; exact hq a s1 G' a2 a3 a4) fun e s' q => by obtain ⟨s1, G', rfl, a2, _, a4⟩ := q; exact hx e s1 G' a2 a4
theorem ds_forG {k : Nat} (hp : PassesOwn (model X.prog X.w) X.A X.env X.xe) (hxe : XeG X) (hc : X.calm = true) (hr : Room (k + 1) X.A) (hi : DGn Γ X W k iter t) (hg : ∀ S0, DG (Γ.at0 S0) X tg g) (hb : ∀ S0, DSs (Γ.at0 S0) X W body u) (hK : Γ.K = X.K := by rfl)
    (hs : ∀ x, foldedSetIterable iter X.env x = pure x := by intro _; rfl) : DS Γ X W (.For tg iter body [] pos) (sForG t g u) := by
  refine ⟨fun Dh σ H => ∃ S ρ F D, StOk Γ S H σ ρ F ∧ LE Γ F D Dh ∧ LW Γ F D.ex W ∧ sForG t g u D ρ, ?_, fun S H σ ρ F D Dh o l w q => ⟨S, ρ, F, D, o, l, w, q⟩⟩
  refine ⟨fun pins s σ H Dh I ⟨S, ρ, F, D, o, le, lw, q⟩ => ?_⟩
  refine wpAny_For (thn (hi.run pins s σ H S ρ F D.ex _ I o lw q) fun v s1 h1 => ?_) hs
  obtain ⟨sc, H1, S1, ρ1, outs, fin, I1, o1, gn, rfl, J, j0, step, fini⟩ := h1
  obtain ⟨N, qual, scope, f, cd, a, gi, go, c, pr, rfl, hgs1, isg, hos, hbare, hkeep, hin, hpr, ready⟩ := gn
  have lo := lo_of I1
  have fr1 : X.A.frames = some X.stack := I1.ok.frames
  have hh : X.A.handled = none := I1.ok.hd hc
  have isg1 : s1.heap.IsGen a gi := isg _ (hpr _ hin).1
  refine wpAny_pyIter_gen isg1 ?_
  have Rdy := ready X.A.in1 hr.in1 fr1
  obtain ⟨Gc0, hGc⟩ : ∃ G, G = gcOf X.prog X.w X.K X.mg X.base Γ.T Γ.X N qual scope f cd X.stack sc.heap.objs.size outs none X.A.in1 [(a, go)] := ⟨_, rfl⟩
  have e1 : Gc0.P = X.prog := by rw [hGc]
  have e2 : Gc0.w = X.w := by rw [hGc]
  have e3 : Gc0.base = X.base := by rw [hGc]
  have e4 : Gc0.outer = X.stack := by rw [hGc]
  have e5 : Gc0.n0 = sc.heap.objs.size := by rw [hGc]
  have e6 : Gc0.outs = outs := by rw [hGc]
  have e7 : Gc0.fin = none := by rw [hGc]
  have e8 : Gc0.pn = [(a, go)] := by rw [hGc]
  have e9 : Gc0.T = Γ.T := by rw [hGc]
  have e10 : Gc0.K = Γ.K := by rw [hGc, hK]
  rw [← hGc] at Rdy
  have I1' : Inv X pins σ H1 s1 := I1.call' (ch := []) hos (Un.kept hkeep) (I1.hok.kept hkeep) hbare fun b z => by cases z
  have young : ∀ p ∈ pr, H1 p.1 = none := fun p hp => I1.hok.fresh (hpr p hp).2.1
  have sz1 : sc.heap.objs.size ≤ s1.heap.objs.size := by
    have := Heap.lt_size (hpr _ hin).1
    have h2 := (hpr _ hin).2.1
    exact Nat.le_of_lt (Nat.lt_of_le_of_lt h2 this)
  let St : Nat → Nat → Shared → Prop := fun m i s => m = outs.length - i ∧ i ≤ outs.length ∧ ∃ σ H S ρ Sy pr gs, Inv X pins σ H s ∧ StOk Γ S H σ ρ F ∧ J i ρ ∧ sc.heap.objs.size ≤ s.heap.objs.size ∧ (a, go) ∈ pr ∧ ExO Sy S ∧ (∀ p ∈ pr, s.heap.get? p.1 = some p.2 ∧ H p.1 = none ∧ sc.heap.objs.size ≤ p.1) ∧
    s.gens[gi]? = some gs ∧ ∀ s'' ω', Wk Gc0 i Sy pr s'' ω' → GoesG (model X.prog X.w) X.A.in1 Gc0.pro (outs.length - i + 1) gs ω' s''
  refine codeAny_forLoop_any (fun n s' => ∃ i, St n i s') ?_ outs.length ⟨0, by simp, Nat.zero_le _, σ, H1, S1, ρ1, S1, pr, .fresh c, I1', o1, j0, sz1, hin, fun _ _ _ h => h, fun p hp => ⟨(hpr p hp).1, young p hp, (hpr p hp).2.1⟩, hgs1, fun s'' ω' wk => Rdy s'' ω' wk⟩
  rintro n s3 ⟨i, rfl, hi, σ3, H3, S3, ρ3, Sy, pr3, gs, I3, o3, j3, sz3, hin3, hSy, hpr3, hgs3, rdy3⟩
  have bare3 : AllBare (s3.setGen gi .running).gens := allBare_setGen I3.bare rfl
  have wk3 := wk_of (G := Gc0) (i := i) I3 o3 lo sz3 hpr3 hSy (s3.setGen gi .running) rfl rfl bare3 e1 e2 e3 e4 e5
  have go3 := rdy3 _ _ wk3
  have gl : gi < s3.gens.size := (Array.getElem?_eq_some_iff.mp hgs3).1
  have dp : X.A.depth < recursionLimit := by have := hr.dp; omega
  refine wpAny_passesOwn hp (nextG hh I3.nolimit dp (isg _ (hpr3 _ hin3).1) hgs3 go3 (fun x s4 gn hx => .inl ?_) fun v s4 gs' gn gz hbr hsu hy => ?_)
  · rcases hx with ⟨hr', ⟨h1, h2⟩, S', Hm, sl⟩ | ⟨e, _, cx, _⟩
    · refine ⟨hr', fun h' hk' => ?_⟩
      have hi' : i = outs.length := by rw [← e6]; exact h1
      subst hi'
      obtain ⟨S5, H5, I5, o5, _, _⟩ := step_of (s2 := s4.setGen gi .finished) I3 o3 lo sz3 hpr3 e1 e2 e4 gn sl rfl rfl (allBare_setGen sl.bare rfl)
      have I6 : Inv X pins σ3 H5 { s4.setGen gi .finished with heap := h' } := I5.call' (ch := []) rfl (Un.kept hk') (I5.hok.kept hk') (allBare_setGen sl.bare rfl) fun b z => by cases z
      exact wpAny_execs_nil ⟨σ3, H5, I6, le.nx S5 H5 σ3 ρ3 o5 (fini ρ3 j3)⟩
    · exfalso
      rcases cx with ⟨_, _, _, _, _, _, _, _, _, _, _, _, z⟩
      obtain ⟨_, _, _, _, _, z⟩ := z
      rw [e7] at z; cases z
  · obtain ⟨d, x, S', Hm, pr', h1, rv, is, sl, wake⟩ := hy
    have hd : outs[i]? = some d := by rw [← e6]; exact h1
    have hlt : i < outs.length := (List.getElem?_eq_some_iff.mp hd).1
    have bare4 : AllBare (s4.setGen gi gs').gens := allBare_setGen sl.bare hbr
    obtain ⟨S5, H5, I5, o5, ex5, pr5⟩ := step_of (s2 := s4.setGen gi gs') I3 o3 lo sz3 hpr3 e1 e2 e4 gn sl rfl rfl bare4
    have in5 : (a, go) ∈ pr' := sl.pn _ (by rw [e8]; exact List.mem_singleton.mpr rfl)
    have ig5 : (s4.setGen gi gs').heap.IsGen a gi := isg _ (pr5 _ in5).1
    have gs5 : (s4.setGen gi gs').gens[gi]? = some gs' := setGen_at (Nat.lt_of_lt_of_le gl gz)
    refine wpAny_passesOwn hp (go_gen ig5 ?_)
    have is5 : Is Γ.T Γ.K S5 x d := by rw [e9, e10] at is; exact is.mono ex5
    have P5 : Inv X (pins ++ pr') σ3 H5 (s4.setGen gi gs') := I5.pins_of fun p hp => by
      rcases List.mem_append.mp hp with z | z
      · exact I5.pin p (List.mem_append_right _ z)
      · obtain ⟨b1, b2, b3, b4⟩ := pr5 p z
        refine ⟨b1, b2, fun q => absurd lo.L (by rw [← q]; exact Nat.not_lt.mpr b3), fun q => ?_, b4⟩
        have hm : p.1 ∈ frs X.stack := by
          rcases I5.ok.stk with y | ⟨y, y2⟩
          · rw [y]; exact q
          · rw [y]
            unfold frs
            rw [List.filterMap_cons, y2]
            exact List.mem_cons_of_mem _ q
        exact absurd (lo.fr _ hm) (Nat.not_lt.mpr b3)
    obtain ⟨g', pg, rg⟩ := (hg S5).run
    obtain ⟨tb, pb, rb⟩ := (hb S5).run
    have lw' : LW (Γ.at0 S5) F D.ex W := fun S H σ ρ x cls d o ea hx => lw S H σ ρ x cls d (o5.from0 o) ea hx
    refine wpAny_passesOwn hp (thnG hxe (pg.run (pins ++ pr') (wg (s4.setGen gi gs') _) σ3 H5 x v (fun σ' H' => ∃ S' ρ', StOk (Γ.at0 S5) S' H' σ' ρ' F ∧ u { D with nx := J (i + 1), ct := J (i + 1), bk := D.nx } ρ') (inv_gens P5 (bare_psn bare4)) rv
      (rg S5 H5 σ3 ρ3 F x (.v 0 d) _ _ (o5.at0.pushS is5) (step i d ρ3 hd j3) fun S' H' σ' ρ' o' q' => ⟨S', ρ', o', q'⟩)) fun _ s6 G6 fr6 kp6 hq6 => ?_)
    obtain ⟨σ6, H6, I6, S6, ρ6, o6, q6⟩ := hq6
    have bare6 : AllBare G6 := bare_fr fr6 I6.bare
    have gs6 : (wg s6 G6).gens[gi]? = some gs' := (kp6 gi gs' gs5 hsu).trans gs5
    -- the body
    let Db : DEnds := { D with nx := J (i + 1), ct := J (i + 1), bk := D.nx }
    let Eb : Ends := { nx := fun σ H => ∃ S ρ, StOk (Γ.at0 S5) S H σ ρ F ∧ J (i + 1) ρ, rt := Dh.rt, bk := Dh.nx, ct := fun σ H => ∃ S ρ, StOk (Γ.at0 S5) S H σ ρ F ∧ J (i + 1) ρ }
    have leb : LE (Γ.at0 S5) F Db Eb := ⟨fun S H σ ρ o q => ⟨S, ρ, o, q⟩, fun S H σ ρ v sl o q => le.rt S H σ ρ v sl (o5.from0 o) q, fun S H σ ρ o q => le.nx S H σ ρ (o5.from0 o) q, fun S H σ ρ o q => ⟨S, ρ, o, q⟩⟩
    refine wpAny_passesOwn hp (thnG hxe (pb.run (pins ++ pr') (wg (wg s6 G6) _) σ6 H6 Eb (inv_gens I6 (bare_psn bare6)) (rb S6 H6 σ6 ρ6 F Db Eb o6 leb lw' q6)) fun fl s7 G7 fr7 kp7 hq7 => ?_)
    have bare7 : ∀ {σ7 H7}, Inv X (pins ++ pr') σ7 H7 s7 → AllBare G7 := fun I7 => bare_fr fr7 I7.bare
    have again : (∃ σ7 H7, Inv X (pins ++ pr') σ7 H7 s7 ∧ ∃ S ρ, StOk (Γ.at0 S5) S H7 σ7 ρ F ∧ J (i + 1) ρ) → ∃ m, m < outs.length - i ∧ ∃ i, St m i (wg s7 G7) := by
      rintro ⟨σ7, H7, I7, S7, ρ7, o7, j7⟩
      refine ⟨outs.length - (i + 1), by omega, i + 1, rfl, hlt, σ7, H7, S7, ρ7, S', pr', gs', (inv_gens I7 (bare7 I7)).unpinned, o5.from0 o7, j7, ?_, in5, fun b o' n q => o7.ok.ex0 _ _ (ex5 b o' q), fun p hp => ?_, ?_, fun s'' ω' wk => ?_⟩
      · have := Heap.lt_size (I7.pin _ (List.mem_append_right _ (List.mem_append_right _ in5))).1
        exact Nat.le_of_lt (Nat.lt_of_le_of_lt (pr5 _ in5).2.2.1 this)
      · obtain ⟨c1, c2, _⟩ := I7.pin p (List.mem_append_right _ (List.mem_append_right _ hp))
        exact ⟨c1, c2, (pr5 p hp).2.2.1⟩
      · exact (kp7 gi gs' gs6 hsu).trans gs6
      · have := wake s'' ω' wk
        have en : outs.length - i = outs.length - (i + 1) + 1 := by omega
        rw [en] at this
        exact this
    cases fl with
    | next => exact again hq7
    | cont => exact again hq7
    | brk => obtain ⟨σ7, H7, I7, q7⟩ := hq7; exact ⟨σ7, H7, (inv_gens I7 (bare7 I7)).unpinned, q7⟩
    | ret v => obtain ⟨x7, σ7, H7, I7, r7, q7⟩ := hq7; exact ⟨x7, σ7, H7, (inv_gens I7 (bare7 I7)).unpinned, r7, q7⟩
end
end Sw

/-! The data layer, 48: the evaluation of a generator's readings. -/
namespace Sw
open PySem L2
theorem pvt_rng {P : Program} {w : World} {lo hi : Int} : Pvt P w (.rng lo hi) where
  own _ h := by cases h
  tup _ h := by cases h
  ok H H' h h' a x k := by obtain ⟨t, u, v, e⟩ := x; exact ⟨t, u, v, k _ e⟩
  nc H h a x := by obtain ⟨t, u, v, e⟩ := x; exact ⟨_, e, fun v q => by cases q⟩
section
variable (t u : TGY) (ts : TSD) (tc : TTD) (ta : TPD) (ua : TAD) (g : TGD) (tg : TGnD) (outs : List Dat) (fin : Option Exn) (D : GEs) (i : Nat) (ρ : DEnv) (ex : Exn → Prop) (E : DEx) (ms : List Bool) (gsp : GSp) (exd : List Dat) (QG : DEnv → List Dat → Option Exn → Prop) (DE : DEnds) (sl : Sl) (x : Exn)
def kxE : DEx := fun x _ => xE outs fin i x
theorem e_yPlain : yPlain ts outs fin D i ρ = ts (pEnds (xE outs fin i) D i) ρ := rfl
theorem e_pNx : (pEnds ex D i).nx ρ = D.nx i ρ := rfl
theorem e_pBk : (pEnds ex D i).bk ρ = D.bk i ρ := rfl
theorem e_pCt : (pEnds ex D i).ct ρ = D.ct i ρ := rfl
theorem e_pRt : (pEnds ex D i).rt ρ sl = (sl = .v 0 .non ∧ D.rt i) := rfl
theorem e_pEx : (pEnds ex D i).ex x ρ = ex x := rfl
def kY : GEs := { D with nx := u outs fin D }
theorem e_ySeq : ySeq t u outs fin D i ρ = t outs fin (kY u outs fin D) i ρ := rfl
theorem e_kYn : (kY u outs fin D).nx i ρ = u outs fin D i ρ := rfl
theorem e_kYb : (kY u outs fin D).bk i ρ = D.bk i ρ := rfl
theorem e_kYc : (kY u outs fin D).ct i ρ = D.ct i ρ := rfl
theorem e_kYr : (kY u outs fin D).rt i = D.rt i := rfl
theorem e_yNil : yNil outs fin D i ρ = D.nx i ρ := rfl
def kYIf (ρ1 : DEnv) (b : Bool) : Prop := if b = true then t outs fin D i ρ1 else u outs fin D i ρ1
theorem e_yIf : yIf tc t u outs fin D i ρ = tc (kxE outs fin i) ρ (kYIf t u outs fin D i) := rfl
def kYi2 (ρ2 : DEnv) (p2 : Pl) : Prop := match p2 with
  | .t (.v 0 d) => outs[i]? = some d ∧ pvD ρ2 = true ∧ D.nx (i + 1) ρ2
  | _ => False
def kYi1 (ρ1 : DEnv) (p : Pl) : Prop := stillP ρ1 p (kYi2 outs D i)
theorem e_yYield : yYield ta outs fin D i ρ = ta (kxE outs fin i) ρ (kYi1 outs D i) := rfl
/-- what is left of a for over a range: stays folded -/
def kYF (n : Int) (ρ1 : DEnv) : Prop := ∃ I : Nat → Nat → DEnv → Prop, I 0 i ρ1 ∧ (∀ (k i : Nat) ρ, (k : Int) < n → I k i ρ → g (.v 0 (.int k)) ρ fun ρ' => t outs fin { D with nx := I (k + 1), ct := I (k + 1), bk := D.nx } i ρ') ∧ ∀ i ρ, I n.toNat i ρ → D.nx i ρ
def kYR (ρ1 : DEnv) (ps : List Pl) : Prop := match datL ρ1 ps with
  | some [.int n] => (-(2 ^ 62) ≤ n ∧ n < 2 ^ 62) ∧ kYF t g outs fin D i n ρ1
  | _ => False
theorem e_yRng : yRng ua g t outs fin D i ρ = ua (kxE outs fin i) ρ (kYR t g outs fin D i) := rfl
def kGn (ρ1 : DEnv) (ps : List Pl) : Prop := match argL ρ1 ms ps with
  | some ds => ∃ outs fin, gsp (ds ++ exd) outs fin ∧ QG ρ1 outs fin
  | none => False
theorem e_pGn : pGn ms gsp exd ua E ρ QG = ua E ρ (kGn ms gsp exd QG) := rfl
/-- what is left of a for over a generator: stays folded -/
def kForG (ρ1 : DEnv) (outs : List Dat) (fin : Option Exn) : Prop := fin = none ∧ ∃ I : Nat → DEnv → Prop, I 0 ρ1 ∧
  (∀ i d ρ2, outs[i]? = some d → I i ρ2 → g (.v 0 d) ρ2 fun ρ3 => ts { DE with nx := I (i + 1), ct := I (i + 1), bk := DE.nx } ρ3) ∧ ∀ ρ2, I outs.length ρ2 → DE.nx ρ2
theorem e_sForG : sForG tg g ts DE ρ = tg DE.ex ρ (kForG ts g DE) := rfl
end
theorem pvD_n : pvD [] = true := rfl
theorem pvD_c (o : Option Sl) (r : DEnv) : pvD (o :: r) = (pvS o && pvD r) := rfl
theorem pvS_n : pvS none = true := rfl
theorem pvS_0 (d : Dat) : pvS (some (.v 0 d)) = true := by cases d <;> rfl
theorem pvS_l (d : List Dat) : pvS (some (.v 1 (.lst d))) = true := rfl
theorem pvS_e (n : Nat) (d : List Dat) : pvS (some (.v 1 (.ext n d))) = true := rfl
end Sw

namespace L12
open PySem L2 Sw
def cell (ns : List Int) (k : Int) : Int := ns.getD k.toNat 0

def pairD (x : Int × Int) : Dat := .tup [.int x.1, .int x.2]
theorem rng_some {a b : Int} {n : Nat} {d : Dat} (h : (rng a b)[n]? = some d) : d = .int (a + n) ∧ (n : Int) < b - a ∧ a + n < b := by
  unfold rng at h
  rw [List.getElem?_map] at h
  rcases Nat.lt_or_ge n (b - a).toNat with hn | hn
  · rw [List.getElem?_range hn] at h
    have e : d = Dat.int (a + (n : Nat)) := (Option.some.inj h).symm
    exact ⟨e, by omega, by omega⟩
  · rw [List.getElem?_eq_none (by simpa using hn)] at h
    cases h
theorem sm_le {i B : Int} (h1 : -B ≤ i) (h2 : i ≤ B) (hB : B < 10 ^ 200 := by decide +kernel) : Sm i := Sm.of (by omega) (by omega)

def nn (xs : List Nat) : List Dat := nums (xs.map fun (n : Nat) => (n : Int))
theorem nn_len (xs : List Nat) : (nn xs).length = xs.length := by unfold nn nums; rw [List.length_map, List.length_map]
theorem nn_get (xs : List Nat) (i : Nat) : (nn xs)[i]? = (xs[i]?).map fun (n : Nat) => Dat.int n := by unfold nn nums; rw [List.getElem?_map, List.getElem?_map]; cases xs[i]? <;> rfl
theorem nn_some {xs : List Nat} {i : Nat} {d : Dat} (h : (nn xs)[i]? = some d) : ∃ x, xs[i]? = some x ∧ d = .int (x : Int) := by
  rw [nn_get] at h
  cases e : xs[i]? with
  | none => rw [e] at h; cases h
  | some x => rw [e] at h; exact ⟨x, rfl, (Option.some.inj h).symm⟩
theorem at_nn {xs : List Nat} {i y : Nat} (h : xs[i]? = some y) : atI (nn xs) (i : Int) = some (.int (y : Int)) := atI_nat (by rw [nn_get, h]; rfl)
theorem at_nni {xs : List Nat} {i : Int} (h0 : 0 ≤ i) (h1 : i < xs.length) : ∃ y, xs[i.toNat]? = some y ∧ atI (nn xs) i = some (.int (y : Int)) := by
  have hk : i.toNat < xs.length := by omega
  refine ⟨xs[i.toNat], List.getElem?_eq_getElem hk, ?_⟩
  have := at_nn (xs := xs) (List.getElem?_eq_getElem hk)
  rw [Int.toNat_of_nonneg h0] at this
  exact this
theorem nn_app (xs : List Nat) (y : Nat) : nn xs ++ [Dat.int (y : Int)] = nn (xs ++ [y]) := by unfold nn nums; rw [List.map_append, List.map_append]; rfl
theorem nn_app2 (xs ys : List Nat) : nn xs ++ nn ys = nn (xs ++ ys) := by unfold nn nums; rw [List.map_append, List.map_append]
theorem nn_set (xs : List Nat) (i y : Nat) : (nn xs).set i (Dat.int (y : Int)) = nn (xs.set i y) := by unfold nn nums; rw [List.map_set, List.map_set]
theorem nn_erase (xs : List Nat) (i : Nat) : (nn xs).eraseIdx i = nn (xs.eraseIdx i) := by
  unfold nn nums
  induction xs generalizing i with
  | nil => rfl
  | cons x xs ih => cases i with
    | zero => rfl
    | succ i => simp only [List.map_cons, List.eraseIdx_cons_succ, ih i]
theorem tk_succ {α : Type} {xs : List α} {n : Nat} {y : α} (h : xs[n]? = some y) : xs.take n ++ [y] = xs.take (n + 1) := by
  rw [List.take_add_one, h]; rfl
theorem nn_tk {xs : List Nat} {n y : Nat} (h : xs[n]? = some y) : nn (xs.take n) ++ [Dat.int (y : Int)] = nn (xs.take (n + 1)) := by rw [nn_app, tk_succ h]
theorem nn_cast (n : Nat) : (nums (intsR 0 n)) = nn (List.range n) := by
  unfold nn intsR
  congr 1
  refine List.map_congr_left fun k _ => ?_
  omega
theorem nn_rep (n y : Nat) : (List.replicate n [Dat.int (y : Int)]).flatten = nn (List.replicate n y) := by
  induction n with
  | zero => rfl
  | succ n ih => rw [List.replicate_succ, List.flatten_cons, ih, List.replicate_succ]; rfl
theorem map_cast_inj {a b : List Nat} (h : (a.map fun (n : Nat) => (n : Int)) = b.map fun (n : Nat) => (n : Int)) : a = b := by
  induction a generalizing b with
  | nil => cases b with
    | nil => rfl
    | cons y ys => simp at h
  | cons x xs ih => cases b with
    | nil => simp at h
    | cons y ys =>
      simp only [List.map_cons, List.cons.injEq] at h
      rw [ih h.2, show x = y by omega]
theorem deqL_nn (a b : List Nat) : deqL (nn a) (nn b) = decide (a = b) := by
  unfold nn
  rw [deqL_ints]
  by_cases h : a = b
  · simp [h]
  · have : ¬ (a.map fun (n : Nat) => (n : Int)) = b.map fun (n : Nat) => (n : Int) := fun e => h (map_cast_inj e)
    simp [h, this]
theorem eqT_nn (a : List Nat) : eqN 1 (.tup (nn a)) := eqN_tup (eqNL_ints _)
theorem eqL_nn (a : List Nat) : eqN 1 (.lst (nn a)) := eqN_lst (eqNL_ints _)
theorem ixN_ok {n : Nat} {i : Int} (h0 : 0 ≤ i) (h1 : i < n) : ixN n i = some i.toNat := by
  unfold ixN
  rw [if_pos h0, if_pos (by omega)]
theorem erase_perm {α : Type} : ∀ {p : List α} {j : Nat} {y : α}, p[j]? = some y → (y :: p.eraseIdx j).Perm p
  | [], _, _, h => by simp at h
  | x :: p, 0, y, h => by
    have e : x = y := by simpa using h
    subst e
    exact .refl _
  | x :: p, j + 1, y, h => by
    rw [List.eraseIdx_cons_succ]
    exact (List.Perm.swap x y _).trans (.cons x (erase_perm (by simpa using h)))
theorem nodup_sub {xs ys : List Nat} (h : xs.Nodup) (k : ∀ x ∈ xs, x ∈ ys) : xs.length ≤ ys.length := by
  induction xs generalizing ys with
  | nil => exact Nat.zero_le _
  | cons x xs ih =>
    have hx := k x (List.mem_cons_self ..)
    have nd := List.nodup_cons.mp h
    have := ih (ys := ys.erase x) nd.2 fun y hy => by
      refine (List.mem_erase_of_ne (fun e => nd.1 (by rw [← e]; exact hy))).mpr (k y (List.mem_cons_of_mem _ hy))
    rw [List.length_erase_of_mem hx] at this
    have := List.length_pos_of_mem hx
    rw [List.length_cons]
    omega
theorem nodup_lt {n : Nat} {xs : List Nat} (h : xs.Nodup) (k : ∀ x ∈ xs, x < n) : xs.length ≤ n := by
  have := nodup_sub (ys := List.range n) h fun x hx => List.mem_range.mpr (k x hx)
  rwa [List.length_range] at this

abbrev Q4 := Int × Int × Int × Int
def stp (d : Nat) (x : Q4) : Q4 := if d = 0 then (x.1, x.2.1, x.1 + x.2.2.1, x.2.1 + x.2.2.2) else (x.1 + x.2.2.1, x.2.1 + x.2.2.2, x.2.2.1, x.2.2.2)
/-- the neighbors of the m-th node of the tree -/
def nbN (m : Nat) : Q4 := if h : m ≤ 1 then (1, 0, 0, 1) else stp (m % 2) (nbN (m / 2))
termination_by m
decreasing_by omega
theorem nbN_1 : nbN 1 = (1, 0, 0, 1) := by rw [nbN]; rfl
theorem nbN_0 (m : Nat) (h : 1 ≤ m) : nbN (2 * m) = stp 0 (nbN m) := by
  rw [nbN, dif_neg (by omega)]
  rw [show 2 * m % 2 = 0 by omega, show 2 * m / 2 = m by omega]
theorem nbN_s (m : Nat) (h : 1 ≤ m) : nbN (2 * m + 1) = stp 1 (nbN m) := by
  rw [nbN, dif_neg (by omega)]
  rw [show (2 * m + 1) % 2 = 1 by omega, show (2 * m + 1) / 2 = m by omega]
def midD (x : Q4) : Dat := .tup [.int (x.1 + x.2.2.1), .int (x.2.1 + x.2.2.2)]
def npD (x : Q4) : Dat := .tup [.tup [.int x.1, .int x.2.1], .tup [.int x.2.2.1, .int x.2.2.2]]
/-- the k-th direction -/
def fdX (k : Nat) : List Int := if k = 0 then [1, 0] else if k = 1 then [0, 1] else [(nbN (k - 1)).1 + (nbN (k - 1)).2.2.1, (nbN (k - 1)).2.1 + (nbN (k - 1)).2.2.2]
def fdD (k : Nat) : Dat := .tup (nums (fdX k))
theorem fdD_mid {k : Nat} (h : 2 ≤ k) : fdD k = midD (nbN (k - 1)) := by
  unfold fdD fdX midD
  rw [if_neg (by omega), if_neg (by omega)]; rfl
def flN (k : Nat) : Nat := if k ≤ 2 then 1 else 2 * k - 3
def flD (n : Nat) : List Dat := (List.range n).map fun j => npD (nbN (j + 1))
theorem flD_len (n : Nat) : (flD n).length = n := by unfold flD; rw [List.length_map, List.length_range]
theorem flD_at {n j : Nat} (h : j < n) : (flD n)[j]? = some (npD (nbN (j + 1))) := by
  unfold flD
  rw [List.getElem?_map, List.getElem?_range h]; rfl
theorem flD_succ (n : Nat) : flD (n + 1) = flD n ++ [npD (nbN (n + 1))] := by unfold flD; rw [List.range_succ, List.map_append]; rfl
theorem outs_at {n i : Nat} (h : i < n) : ((List.range n).map fdD)[i]? = some (fdD i) := by rw [List.getElem?_map, List.getElem?_range h]; rfl
/-- the digits of m behind the leading one, the last one first -/
def dgs (m : Nat) : List Nat := if h : m ≤ 1 then [] else m % 2 :: dgs (m / 2)
termination_by m
decreasing_by omega
theorem dgs_1 {m : Nat} (h : m ≤ 1) : dgs m = [] := by rw [dgs, dif_pos h]
theorem dgs_s {m : Nat} (h : 1 < m) : dgs m = m % 2 :: dgs (m / 2) := by rw [dgs, dif_neg (by omega)]
theorem dgs_nb (m : Nat) : (dgs m).foldr stp (1, 0, 0, 1) = nbN m := by
  induction m using Nat.strongRecOn with
  | ind m ih =>
    by_cases h : m ≤ 1
    · rw [dgs_1 h, nbN, dif_pos h]; rfl
    · rw [dgs_s (by omega), nbN, dif_neg h, List.foldr_cons, ih (m / 2) (by omega)]
theorem dgs_len (m : Nat) : (dgs m).length ≤ m := by
  induction m using Nat.strongRecOn with
  | ind m ih =>
    by_cases h : m ≤ 1
    · rw [dgs_1 h]; exact Nat.zero_le _
    · rw [dgs_s (by omega), List.length_cons]
      have := ih (m / 2) (by omega)
      omega
theorem fdX_len (k : Nat) : (fdX k).length = 2 := by unfold fdX; split; rfl; split <;> rfl

def sp_law_cell : DSp := fun ds Q _ => ∃ ns k, ds = [.scr ns, .int k] ∧ 0 ≤ k ∧ k < 100 ∧ Q 0 (.int (cell ns k))

def sp_first_directions : GSp := fun ds outs fin => ∃ n : Nat, n ≤ 1000 ∧ ds = [.int (n : Int)] ∧ outs = (List.range n).map fdD ∧ fin = none

def sp_law_led : DSp := fun ds Q _ => ∃ m : Nat, 1 ≤ m ∧ m ≤ 1000 ∧ ds = [.int (m : Int)] ∧ Q 0 (midD (nbN m))

def sp_law_is_number : DSp := fun ds Q _ => ∃ i, ds = [.int i] ∧ Q 0 (.bl true)

def sp_law_is_row : DSp := fun ds Q _ => ∃ (xs : List Int) (y : Dat), ds = [.tup (nums xs), y] ∧ (y = .tup (nums xs) ∨ y = .lst (nums xs)) ∧ xs.length ≤ 1000 ∧ Q 0 (.bl true)

def sp_law_are_first : DSp := fun ds Q _ => ∃ n : Nat, n ≤ 1000 ∧ ds = [.int (n : Int)] ∧ Q 0 (.bl true)

def sp_law : DSp := fun ds Q _ => ∃ ns, ds = [.scr ns] ∧ Q 0 (.bl true)

end L12
namespace L12
open PySem L2 Sw
def t_law_cell : TSD := (sSeq (sIf (tdVal (pOp oLt (pName 1) (pCall uLen (aCons (pName 0) aNil)))) (sRet (pOp oIx (pName 0) (pName 1))) sNext)
    (sRet (pC (.int 0))))
def s_first_directions_0 : TGY := (ySeq (yPlain (sApp 1 (aCons (pTup (aCons (pStill (pName 5)) (aCons (pStill (pName 4)) aNil))) aNil)))
    (ySeq (yYield (pName 5))
    yNil))
theorem e_s_first_directions_0 (outs : List Dat) (fin : Option Exn) (D : GEs) (i : Nat) (ρ : DEnv) : s_first_directions_0 outs fin D i ρ = (ySeq (yPlain (sApp 1 (aCons (pTup (aCons (pStill (pName 5)) (aCons (pStill (pName 4)) aNil))) aNil)))
    (ySeq (yYield (pName 5))
    yNil)) outs fin D i ρ := rfl
def s_first_directions_1 : TGY := (ySeq (yPlain (sApp 1 (aCons (pTup (aCons (pStill (pName 3)) (aCons (pStill (pName 5)) aNil))) aNil)))
    s_first_directions_0)
theorem e_s_first_directions_1 (outs : List Dat) (fin : Option Exn) (D : GEs) (i : Nat) (ρ : DEnv) : s_first_directions_1 outs fin D i ρ = (ySeq (yPlain (sApp 1 (aCons (pTup (aCons (pStill (pName 3)) (aCons (pStill (pName 5)) aNil))) aNil)))
    s_first_directions_0) outs fin D i ρ := rfl
def s_first_directions_2 : TGY := (ySeq (yPlain (sAsg (pTup (aCons (pStill (pOp oAdd (pOp oIx (pName 3) (pC (.int 0))) (pOp oIx (pName 4) (pC (.int 0))))) (aCons (pStill (pOp oAdd (pOp oIx (pName 3) (pC (.int 1))) (pOp oIx (pName 4) (pC (.int 1))))) aNil))) (gdName 5)))
    s_first_directions_1)
theorem e_s_first_directions_2 (outs : List Dat) (fin : Option Exn) (D : GEs) (i : Nat) (ρ : DEnv) : s_first_directions_2 outs fin D i ρ = (ySeq (yPlain (sAsg (pTup (aCons (pStill (pOp oAdd (pOp oIx (pName 3) (pC (.int 0))) (pOp oIx (pName 4) (pC (.int 0))))) (aCons (pStill (pOp oAdd (pOp oIx (pName 3) (pC (.int 1))) (pOp oIx (pName 4) (pC (.int 1))))) aNil))) (gdName 5)))
    s_first_directions_1) outs fin D i ρ := rfl
def b_first_directions_0 : TGY := (ySeq (yIf (tdVal (pOp oEq (pName 2) (pC (.int 0)))) (ySeq (yYield (pTup (aCons (pStill (pC (.int 1))) (aCons (pStill (pC (.int 0))) aNil))))
    yNil) (ySeq (yIf (tdVal (pOp oEq (pName 2) (pC (.int 1)))) (ySeq (yYield (pTup (aCons (pStill (pC (.int 0))) (aCons (pStill (pC (.int 1))) aNil))))
    yNil) (ySeq (yPlain (sAsg (pOp oIx (pName 1) (pOp oSub (pName 2) (pC (.int 2)))) (gdSeq 2 (gdCons (gdName 3) (gdCons (gdName 4) gdNil)))))
    s_first_directions_2))
    yNil))
    yNil)
def t_first_directions : TGY := (ySeq (yPlain (sAsg (pLst (aCons (pStill (pTup (aCons (pStill (pTup (aCons (pStill (pC (.int 1))) (aCons (pStill (pC (.int 0))) aNil)))) (aCons (pStill (pTup (aCons (pStill (pC (.int 0))) (aCons (pStill (pC (.int 1))) aNil)))) aNil)))) aNil)) (gdName 1)))
    (ySeq (yRng (aCons (pName 0) aNil) (gdName 2) b_first_directions_0)
    yNil))
def b_law_led_0 : TSD := (sSeq (sApp 1 (aCons (pOp oMod (pCall uInt (aCons (pName 0) aNil)) (pC (.int 2))) aNil))
    (sAsg (pOp oDiv (pName 0) (pC (.int 2))) (gdName 0)))
def b_law_led_1 : TSD := (sSeq (sAsg (pTup (aCons (pStill (pOp oAdd (pOp oIx (pName 2) (pC (.int 0))) (pOp oIx (pName 3) (pC (.int 0))))) (aCons (pStill (pOp oAdd (pOp oIx (pName 2) (pC (.int 1))) (pOp oIx (pName 3) (pC (.int 1))))) aNil))) (gdName 5))
    (sIf (tdVal (pOp oEq (pName 4) (pC (.int 0)))) (sAsg (pName 5) (gdName 3)) (sAsg (pName 5) (gdName 2))))
def k_law_led_2 : TSD := (sRet (pTup (aCons (pStill (pOp oAdd (pOp oIx (pName 2) (pC (.int 0))) (pOp oIx (pName 3) (pC (.int 0))))) (aCons (pStill (pOp oAdd (pOp oIx (pName 2) (pC (.int 1))) (pOp oIx (pName 3) (pC (.int 1))))) aNil))))
def s_law_led_0 : TSD := (sSeq (sAsg (pTup (aCons (pStill (pC (.int 0))) (aCons (pStill (pC (.int 1))) aNil))) (gdName 3))
    (sSeq (sFor (idSeq (pRev (pName 1))) (gdName 4) b_law_led_1)
    k_law_led_2))
theorem e_s_law_led_0 (D : DEnds) (ρ : DEnv) : s_law_led_0 D ρ = (sSeq (sAsg (pTup (aCons (pStill (pC (.int 0))) (aCons (pStill (pC (.int 1))) aNil))) (gdName 3))
    (sSeq (sFor (idSeq (pRev (pName 1))) (gdName 4) b_law_led_1)
    k_law_led_2)) D ρ := rfl
def k_law_led_3 : TSD := (sSeq (sAsg (pTup (aCons (pStill (pC (.int 1))) (aCons (pStill (pC (.int 0))) aNil))) (gdName 2))
    s_law_led_0)
def t_law_led : TSD := (sSeq (sAsg (pLst aNil) (gdName 1))
    (sSeq (sWhile (tdVal (pOp oGt (pName 0) (pC (.int 1)))) b_law_led_0)
    k_law_led_3))
def t_law_is_number : TSD := (sRet (pAnd (pCall uIsi (aCons (pName 0) (aCons (pC (.ty "int")) aNil))) (pNot (pCall uIsi (aCons (pName 0) (aCons (pC (.ty "bool")) aNil))))))
def b_law_is_row_0 : TSD := (sIf (tdOr (tdNot (tdVal (pFn [true] sp_law_is_number [] (aCons (pStill (pOp oIx (pName 0) (pName 2))) aNil)))) (tdVal (pOp oNe (pOp oIx (pName 0) (pName 2)) (pOp oIx (pName 1) (pName 2))))) (sRet (pC (.bl false))) sNext)
def k_law_is_row_1 : TSD := (sRet (pC (.bl true)))
def t_law_is_row : TSD := (sSeq (sIf (tdOr (tdNot (tdVal (pCall uIsi (aCons (pName 0) (aCons (pC (.ty "tuple")) aNil))))) (tdVal (pOp oNe (pCall uLen (aCons (pName 0) aNil)) (pCall uLen (aCons (pName 1) aNil))))) (sRet (pC (.bl false))) sNext)
    (sSeq (sFor (idRng1 (aCons (pCall uLen (aCons (pName 1) aNil)) aNil)) (gdName 2) b_law_is_row_0)
    k_law_is_row_1))
def k_law_are_first_0 : TSD := (sSeq (sIf (tdOr (tdVal (pOp oGe (pName 1) (pName 0))) (tdNot (tdVal (pFn [true, true] sp_law_is_row [] (aCons (pStill (pName 2)) (aCons (pStill (pName 3)) aNil)))))) (sRet (pC (.bl false))) sNext)
    (sAsg (pOp oAdd (pName 1) (pC (.int 1))) (gdName 1)))
def s_law_are_first_0 : TSD := (sSeq (sIf (tdVal (pOp oGt (pName 1) (pC (.int 1)))) (sAsg (pFn [true] sp_law_led [] (aCons (pStill (pOp oSub (pName 1) (pC (.int 1)))) aNil)) (gdName 3)) sNext)
    k_law_are_first_0)
theorem e_s_law_are_first_0 (D : DEnds) (ρ : DEnv) : s_law_are_first_0 D ρ = (sSeq (sIf (tdVal (pOp oGt (pName 1) (pC (.int 1)))) (sAsg (pFn [true] sp_law_led [] (aCons (pStill (pOp oSub (pName 1) (pC (.int 1)))) aNil)) (gdName 3)) sNext)
    k_law_are_first_0) D ρ := rfl
def b_law_are_first_1 : TSD := (sSeq (sAsg (pOp oIx (pLst (aCons (pStill (pTup (aCons (pStill (pC (.int 1))) (aCons (pStill (pC (.int 0))) aNil)))) (aCons (pStill (pTup (aCons (pStill (pC (.int 0))) (aCons (pStill (pC (.int 1))) aNil)))) aNil))) (pOp oMod (pName 1) (pC (.int 2)))) (gdName 3))
    s_law_are_first_0)
def k_law_are_first_2 : TSD := (sRet (pOp oEq (pName 1) (pName 0)))
def s_law_are_first_1 : TSD := (sSeq (sForG (pGn [true] sp_first_directions [] (aCons (pStill (pName 0)) aNil)) (gdName 2) b_law_are_first_1)
    k_law_are_first_2)
theorem e_s_law_are_first_1 (D : DEnds) (ρ : DEnv) : s_law_are_first_1 D ρ = (sSeq (sForG (pGn [true] sp_first_directions [] (aCons (pStill (pName 0)) aNil)) (gdName 2) b_law_are_first_1)
    k_law_are_first_2) D ρ := rfl
def t_law_are_first : TSD := (sSeq (sAsg (pC (.int 0)) (gdName 1))
    s_law_are_first_1)
def s_law_0 : TSD := (sRet (pAnd (pFn [true] sp_law_are_first [] (aCons (pStill (pName 1)) aNil)) (pAnd (pFn [true] sp_law_are_first [] (aCons (pStill (pName 2)) aNil)) (pAnd (pFn [true] sp_law_are_first [] (aCons (pStill (pName 1)) aNil)) (pFn [true] sp_law_are_first [] (aCons (pStill (pC (.int 0))) aNil))))))
theorem e_s_law_0 (D : DEnds) (ρ : DEnv) : s_law_0 D ρ = (sRet (pAnd (pFn [true] sp_law_are_first [] (aCons (pStill (pName 1)) aNil)) (pAnd (pFn [true] sp_law_are_first [] (aCons (pStill (pName 2)) aNil)) (pAnd (pFn [true] sp_law_are_first [] (aCons (pStill (pName 1)) aNil)) (pFn [true] sp_law_are_first [] (aCons (pStill (pC (.int 0))) aNil)))))) D ρ := rfl
def s_law_1 : TSD := (sSeq (sAsg (pOp oMod (pCall uInt (aCons (pFn [true, true] sp_law_cell [] (aCons (pStill (pName 0)) (aCons (pStill (pC (.int 1))) aNil))) aNil)) (pC (.int 20))) (gdName 2))
    s_law_0)
theorem e_s_law_1 (D : DEnds) (ρ : DEnv) : s_law_1 D ρ = (sSeq (sAsg (pOp oMod (pCall uInt (aCons (pFn [true, true] sp_law_cell [] (aCons (pStill (pName 0)) (aCons (pStill (pC (.int 1))) aNil))) aNil)) (pC (.int 20))) (gdName 2))
    s_law_0) D ρ := rfl
def t_law : TSD := (sSeq (sAsg (pOp oMod (pCall uInt (aCons (pFn [true, true] sp_law_cell [] (aCons (pStill (pName 0)) (aCons (pStill (pC (.int 0))) aNil))) aNil)) (pC (.int 301))) (gdName 1))
    s_law_1)
end L12
namespace L12
open PySem L2 Sw
local macro_rules | `(tactic| walk_at "sw") => `(tactic| try simp -implicitDefEqProofs only [e_s_first_directions_0, e_s_first_directions_1, e_s_first_directions_2, e_s_law_led_0, e_s_law_are_first_0, e_s_law_are_first_1, e_s_law_0, e_s_law_1, sSeq, e_yPlain, e_pNx, e_pBk, e_pCt, e_pRt, e_pEx, e_ySeq, e_kYn, e_kYb, e_kYc, e_kYr, e_yNil, e_yIf, kYIf, e_yYield, kYi1, kYi2, e_yRng, kYR, e_pGn, kGn, e_sForG, pvD_n, pvD_c, pvS_n, pvS_0, pvS_l, pvS_e, Bool.and_true, Bool.true_and, kx, e_pLstO, kLO, owL_nil, owL_cons, e_sSetP, kSP0, kSP1, kSP2, e_sAppP, kAP1, kAP2, getP_n, getP_c, putP_n, putP_c, pLend, lendE, List.map_cons, List.map_nil, lendS_0, lendS_1, lendS_b, lendS_n, kLend, okR_0, okR_1, idSeqB, e_sForO, sIns, Nat.reduceEqDiff, if_false, e_sRaise, kRa, intsD1, intsD2, revI1, revI2, allI1, allI2, sRaise0, e_sTry, tEx, e_pFnC, kFnC, pXf, pIsX, look_nil, look_cons, e_sIf, kSIf, e_sAsg, kAs1, kAs2, e_sRet, kRet, sRetN, sNext, sNever, sBreak, sCont, e_sDrop, kDrop, e_sPar, kPar, e_sAug, kAug1, kAug2, e_tdVal, kVal, e_tdNot, kNot, e_tdAnd, kAnd, e_tdOr, kOr, e_tdTru, kTru, tdYes, wipeD, e_pOp, kOp1, kOp2, pName, pC, e_pB, kpB, e_pUn, kUn, e_pCall, kCall, e_pFn, kFn, e_pMe, kMe1, kMe2, e_pProp, kProp, e_pMk, kMk, kmk, e_pFld, kFld, e_pTup, ktup, e_pLst, klst, e_pTake, kTake, e_pStill, kStill, e_pAnd, kpAnd, e_pOr, kpOr, e_pNot, kpNot, e_pIf, kpIf, aNil, e_aCons, kC1, kC2, takeP, stillP, retP, rtOk, gdName, gdNil, e_gdCons, kGC, gdTup, e_idSeq, kIs1, kIs2, e_idRng1, kR1, e_idRng2, e_idRngA, kRA, e_sMatch, kMat1, kMat, e_mNil, e_mCase0, e_mCase1, e_pRevS, kRevS, e_idStr, kIStr, kR2, e_sFor, e_pLc, e_pBm, kBm1, kBm2, isStr, isLst, mJoin, mCount, e_pItem, kIt1, kIt2, e_pPop, kPop, e_pPop0, e_pOw, e_pFnK, kFk1, kFk2, arl, gdSeq, e_pBut, kBut, List.getD_cons_zero, List.getD_cons_succ, e_pOwI, kOwI1, kOwI2, kOw1, kOw2, e_pInv, kInv, uIsC, pSet0, e_sSAdd, kSAdd1, oInS, e_idZip, kZip, e_idEnum, kEnum, uTuple, uMin, uMinL, uMax, uAll, uDivmod, uSorted, uSortedT, uSortedD, uStr, uStrX, e_pRngL, kRngL, e_pSl, kSl1, kSl2, kSl3, poNone, e_poSome, kSome, uSl, e_pRev, kRev, e_pSel, kSel, e_sSetI, kSI0, kSI1, kSI2, uSum, uList, oIsB, e_sApp, kApp1, kApp2, oIAdd, oISub, oIsN, oNotN, e_sFldNew, kFN1, kFN2, ap1, ap2, apL, stL, argL, datL, dstart, dargs, e_fnNx, e_fnRt, e_fnEx, e_inNx, kv, Pl.d, Pl.sl, Sl.rd, truD, flat,
    oI, oIc, oAdd, oSub, oMul, oDiv, oMod, oPow, oShl, oShr, oAnd, oOr, oXor, oLt, oGt, oLe, oGe, oEq, oNe, oIx, uLen, uInt, uAbs, uNeg, uIsi, tyD, deq_int, eqOk_int, eqOk_bl, eqOk_non, List.replicate_zero, Nat.reduceAdd, Nat.reduceSub, pairD, List.getElem?_cons_zero, List.getElem?_cons_succ, List.getElem?_nil, Option.getD_some, Option.getD_none, List.length_cons, List.length_nil, List.set_cons_zero, List.set_cons_succ, List.replicate, List.append_nil, List.cons_append, List.nil_append, Option.bind_some, Option.some.injEq, at_last, ix_last, set_last, List.length_append, at_0, at_1, at_2, at_3, at_4, at_5, true_and, and_true, if_true, decide_eq_true_eq])
theorem p_law_cell : ∀ ds Q E, sp_law_cell ds Q E → ds.length = 2 → t_law_cell (fnEnds Q E) (dstart 2 [true, true] ds) := by
  rintro _ Q E ⟨ns, k, rfl, h0, h1, q⟩ _
  unfold t_law_cell
  walk_at "sw"
  unfold cell at q
  by_cases h : k < (ns.length : Int)
  · rw [if_pos h]
    have hk : k.toNat < ns.length := by omega
    have e : atI ns k = some (ns.getD k.toNat 0) := by
      have := atI_nat (xs := ns) (j := k.toNat) (v := ns[k.toNat]) (List.getElem?_eq_getElem hk)
      rw [Int.toNat_of_nonneg h0] at this
      rw [this, List.getD_eq_getElem?_getD, List.getElem?_eq_getElem hk]; rfl
    rw [e]; exact q
  · rw [if_neg h]
    have hk : ns.length ≤ k.toNat := by omega
    rw [List.getD_eq_getElem?_getD, List.getElem?_eq_none hk] at q
    exact q

theorem p_first_directions : ∀ ds outs fin, sp_first_directions ds outs fin → ds.length = 1 → t_first_directions outs fin { nx := fun i _ => i = outs.length ∧ fin = none, rt := fun i => i = outs.length ∧ fin = none } 0 (dstart 6 [true] ds) := by
  rintro _ _ _ ⟨n, hn, rfl, rfl, rfl⟩ _
  unfold t_first_directions
  walk_at "sw"
  refine ⟨by decide, by decide, by decide, by decide, ⟨by omega, by omega⟩, ?_⟩
  refine ⟨fun k i ρ => i = k ∧ k ≤ n ∧ ∃ o2 o3 o4 o5, pvS o3 = true ∧ pvS o4 = true ∧ pvS o5 = true ∧ ρ = [some (.v 0 (.int (n : Int))), some (.v 1 (.lst (flD (flN k)))), o2, o3, o4, o5], ⟨rfl, Nat.zero_le _, none, none, none, none, rfl, rfl, rfl, ?_⟩, ?_, ?_⟩
  · have : flD (flN 0) = [npD (nbN 1)] := rfl
    rw [this, nbN_1]; rfl
  · rintro k i ρ hk ⟨rfl, hk2, o2, o3, o4, o5, p3, p4, p5, rfl⟩
    have hk3 : i < n := by omega
    have ho := outs_at hk3
    walk_at "sw"
    unfold b_first_directions_0
    walk_at "sw"
    by_cases h0 : i = 0
    · subst h0
      rw [if_pos (by simp)]
      walk_at "sw"
      refine ⟨by decide, ho, by simp [p3, p4, p5], hk3, _, _, _, _, p3, p4, p5, rfl⟩
    · rw [if_neg (by simpa using h0)]
      walk_at "sw"
      by_cases h1 : i = 1
      · subst h1
        rw [if_pos (by simp)]
        walk_at "sw"
        refine ⟨by decide, ho, by simp [p3, p4, p5], hk3, _, _, _, _, p3, p4, p5, rfl⟩
      · rw [if_neg (by omega)]
        have hf : (flD (flN i))[i - 2]? = some (npD (nbN (i - 1))) := by
          rw [flD_at (by unfold flN; split <;> omega), show i - 2 + 1 = i - 1 by omega]
        have ha : atI (flD (flN i)) ((i : Int) - 2) = some (npD (nbN (i - 1))) := by
          rw [show (i : Int) - 2 = ((i - 2 : Nat) : Int) by omega]
          exact atI_nat hf
        walk_at "sw"
        rw [ha]
        unfold npD
        walk_at "sw"
        have fl1 : flN i ≤ 5000 := by unfold flN; split <;> omega
        refine ⟨by decide, by decide, by rw [flD_len]; omega, by decide, by rw [flD_len]; omega, ?_, hk3, some (.v 0 (.int (i : Int))), some (.v 0 (.tup [.int (nbN (i - 1)).1, .int (nbN (i - 1)).2.1])), some (.v 0 (.tup [.int (nbN (i - 1)).2.2.1, .int (nbN (i - 1)).2.2.2])), some (.v 0 (midD (nbN (i - 1)))), pvS_0 _, pvS_0 _, pvS_0 _, ?_⟩
        · rw [ho, fdD_mid (by omega)]; rfl
        · have f1 : flN i + 1 = 2 * (i - 1) := by unfold flN; split <;> omega
          have f2 : flN (i + 1) = flN i + 1 + 1 := by unfold flN; split <;> split <;> omega
          rw [f2, flD_succ, flD_succ, f1, nbN_0 _ (by omega), nbN_s _ (by omega)]
          rfl
  · rintro i ρ ⟨rfl, _, o2, o3, o4, o5, _, _, _, rfl⟩
    walk_at "sw"
    simp

theorem p_law_led : ∀ ds Q E, sp_law_led ds Q E → ds.length = 1 → t_law_led (fnEnds Q E) (dstart 6 [true] ds) := by
  rintro _ Q E ⟨m, h1, h2, rfl, q⟩ _
  unfold t_law_led
  walk_at "sw"
  refine ⟨by decide, fun j ρ => ∃ (x : Nat) (ds : List Nat), j = x ∧ 1 ≤ x ∧ x ≤ 1000 ∧ ds ++ dgs x = dgs m ∧ ρ = [some (.v 0 (.int (x : Int))), some (.v 1 (.lst (nn ds))), none, none, none, none], ⟨m, m, [], rfl, h1, h2, rfl, rfl⟩, ?_⟩
  rintro j ρ ⟨x, ds, rfl, x1, x2, hd, rfl⟩
  walk_at "sw"
  by_cases h : (1 : Int) < (j : Int)
  · rw [if_pos h]
    unfold b_law_led_0
    walk_at "sw"
    have hj : 1 < j := by omega
    have hl : (ds ++ dgs j).length ≤ 1000 := by
      rw [hd]
      exact Nat.le_trans (dgs_len m) (by omega)
    rw [List.length_append] at hl
    refine ⟨by decide, by rw [nn_len]; omega, ⟨by decide, Sm.of (by decide) (by decide)⟩, j / 2, by omega, j / 2, ds ++ [j % 2], rfl, by omega, by omega, ?_, ?_⟩
    · rw [List.append_assoc, List.singleton_append, ← dgs_s hj]; exact hd
    · rw [← nn_app]
      simp only [Int.natCast_ediv, Int.natCast_emod]
      rfl
  · rw [if_neg h]
    unfold k_law_led_3
    walk_at "sw"
    have hj : j ≤ 1 := by omega
    rw [dgs_1 hj, List.append_nil] at hd
    subst hd
    have st : ∀ n d, (nn (dgs m)).reverse[n]? = some d → ∃ x : Nat, d = .int (x : Int) ∧ ((dgs m).reverse.take (n + 1)).foldl (fun a b => stp b a) (1, 0, 0, 1) = stp x (((dgs m).reverse.take n).foldl (fun a b => stp b a) (1, 0, 0, 1)) := by
      intro n d h
      have hr : (nn (dgs m)).reverse = nn (dgs m).reverse := by unfold nn nums; rw [← List.map_reverse, ← List.map_reverse]
      rw [hr] at h
      obtain ⟨x, hx, rfl⟩ := nn_some h
      refine ⟨x, rfl, ?_⟩
      rw [List.take_add_one, hx, List.foldl_append]; rfl
    refine ⟨by decide, by decide, fun n ρ => ∃ (s : Q4) (o4 o5 : Option Sl), s = ((dgs m).reverse.take n).foldl (fun a b => stp b a) (1, 0, 0, 1) ∧ ρ = [some (.v 0 (.int (j : Int))), some (.v 1 (.lst (nn (dgs m)))), some (.v 0 (.tup [.int s.1, .int s.2.1])), some (.v 0 (.tup [.int s.2.2.1, .int s.2.2.2])), o4, o5], ⟨_, _, _, rfl, rfl⟩, ?_, ?_⟩
    · rintro n d ρ hd ⟨s, o4, o5, rfl, rfl⟩
      obtain ⟨x, rfl, hx⟩ := st n d hd
      generalize List.foldl (fun a b => stp b a) (1, 0, 0, 1) (List.take n (dgs m).reverse) = s at *
      walk_at "sw"
      unfold b_law_led_1
      walk_at "sw"
      refine ⟨by decide, ?_⟩
      by_cases h0 : x = 0
      · subst h0
        rw [if_pos (by simp)]
        exact ⟨_, _, _, hx.symm, rfl⟩
      · rw [if_neg (by omega)]
        refine ⟨_, some (.v 0 (.int (x : Int))), some (.v 0 (.tup [.int (s.1 + s.2.2.1), .int (s.2.1 + s.2.2.2)])), hx.symm, ?_⟩
        have e : stp x s = (s.1 + s.2.2.1, s.2.1 + s.2.2.2, s.2.2.1, s.2.2.2) := by unfold stp; rw [if_neg h0]
        rw [e]
    · rintro ρ ⟨s, o4, o5, rfl, rfl⟩
      have e : (nn (dgs m)).reverse.length = (dgs m).reverse.length := by rw [List.length_reverse, List.length_reverse, nn_len]
      rw [e, List.take_length, List.foldl_reverse, dgs_nb]
      unfold k_law_led_2
      walk_at "sw"
      exact ⟨by decide, q⟩

theorem p_law_is_number : ∀ ds Q E, sp_law_is_number ds Q E → ds.length = 1 → t_law_is_number (fnEnds Q E) (dstart 1 [true] ds) := by
  rintro _ Q E ⟨i, rfl, q⟩ _
  unfold t_law_is_number
  walk_at "sw"
  refine ⟨by decide, ?_⟩
  rw [if_pos (by decide)]
  exact ⟨by decide, q⟩

theorem p_law_is_row : ∀ ds Q E, sp_law_is_row ds Q E → ds.length = 2 → t_law_is_row (fnEnds Q E) (dstart 3 [true, true] ds) := by
  rintro _ Q E ⟨xs, y, rfl, hy, hx, qq⟩ _
  have nl : (nums xs).length = xs.length := by unfold nums; rw [List.length_map]
  have key : ∀ z : Dat, (∀ i : Int, atI (nums xs) i = atI (nums xs) i) → True := fun _ _ => trivial
  unfold t_law_is_row
  have body : ∀ (y : Dat), (y = .tup (nums xs) ∨ y = .lst (nums xs)) → ∃ I : Nat → DEnv → Prop, I 0 [some (.v 0 (.tup (nums xs))), some (.v 0 y), none] ∧
      (∀ i d ρ2, (rng 0 (xs.length : Int))[i]? = some d → I i ρ2 → gdName 2 (.v 0 d) ρ2 fun ρ3 => b_law_is_row_0 { (fnEnds Q E) with nx := I (i + 1), ct := I (i + 1), bk := (fnEnds Q E).nx } ρ3) ∧ ∀ ρ2, I (rng 0 (xs.length : Int)).length ρ2 → k_law_is_row_1 (fnEnds Q E) ρ2 := by
    intro y hy
    refine ⟨fun n ρ => ∃ o, ρ = [some (.v 0 (.tup (nums xs))), some (.v 0 y), o], ⟨_, rfl⟩, ?_, ?_⟩
    · rintro n d ρ hd ⟨o, rfl⟩
      obtain ⟨rfl, hd2, hd3⟩ := rng_some hd
      have hk : n < xs.length := by omega
      have hz : atI (nums xs) (0 + (n : Int)) = some (.int xs[n]) := by
        rw [Int.zero_add]
        exact atI_nat (by unfold nums; rw [List.getElem?_map, List.getElem?_eq_getElem hk]; rfl)
      walk_at "sw"
      unfold b_law_is_row_0
      rcases hy with rfl | rfl
      all_goals
        walk_at "sw"
        rw [hz]
        refine ⟨_, rfl, ?_⟩
        walk_at "sw"
        rw [if_neg (by decide), hz]
        walk_at "sw"
        rw [if_neg (by simp)]
        exact ⟨_, rfl⟩
    · rintro ρ ⟨o, rfl⟩
      unfold k_law_is_row_1
      walk_at "sw"
      exact qq
  rcases hy with rfl | rfl
  all_goals
    walk_at "sw"
    refine ⟨by decide, ?_⟩
    rw [if_neg (by decide), nl, if_neg (by simp)]
    refine ⟨⟨by omega, by omega⟩, ?_⟩
    exact body _ (by simp)

theorem p_law_are_first : ∀ ds Q E, sp_law_are_first ds Q E → ds.length = 1 → t_law_are_first (fnEnds Q E) (dstart 4 [true] ds) := by
  rintro _ Q E ⟨n, hn, rfl, q⟩ _
  unfold t_law_are_first
  walk_at "sw"
  refine ⟨_, none, ⟨n, hn, rfl, rfl, rfl⟩, rfl, fun i ρ => ∃ o2 o3, ρ = [some (.v 0 (.int (n : Int))), some (.v 0 (.int (i : Int))), o2, o3], ⟨_, _, rfl⟩, ?_, ?_⟩
  · rintro i d ρ hd ⟨o2, o3, rfl⟩
    have hi : i < n := by have := (List.getElem?_eq_some_iff.mp hd).1; simpa using this
    rw [outs_at hi] at hd
    cases hd
    walk_at "sw"
    unfold b_law_are_first_1
    walk_at "sw"
    refine ⟨by decide, by decide, by decide, by decide, ?_⟩
    have main : ∀ e : Dat, e = fdD i → k_law_are_first_0 { nx := fun ρ => ∃ o2 o3, ρ = [some (.v 0 (.int (n : Int))), some (.v 0 (.int ((i + 1 : Nat) : Int))), o2, o3], rt := (fnEnds Q E).rt, bk := k_law_are_first_2 (fnEnds Q E), ct := fun ρ => ∃ o2 o3, ρ = [some (.v 0 (.int (n : Int))), some (.v 0 (.int ((i + 1 : Nat) : Int))), o2, o3], ex := (fnEnds Q E).ex }
        [some (.v 0 (.int (n : Int))), some (.v 0 (.int (i : Int))), some (.v 0 (fdD i)), some (.v 0 e)] := by
      rintro _ rfl
      unfold k_law_are_first_0
      walk_at "sw"
      rw [if_neg (by omega)]
      refine ⟨fdX i, _, rfl, .inl rfl, by rw [fdX_len]; omega, ?_⟩
      walk_at "sw"
      exact ⟨_, _, by rw [show ((i + 1 : Nat) : Int) = (i : Int) + 1 by omega]⟩
    by_cases h1 : i ≤ 1
    · have h2 : i = 0 ∨ i = 1 := by omega
      rcases h2 with rfl | rfl
      · exact main _ rfl
      · exact main _ rfl
    · have : ∃ d, atI [Dat.tup [Dat.int 1, Dat.int 0], Dat.tup [Dat.int 0, Dat.int 1]] ((i : Int) % 2) = some d := by
        rcases Int.emod_two_eq i with e | e <;> rw [e] <;> exact ⟨_, rfl⟩
      obtain ⟨d, hd⟩ := this
      rw [hd]
      dsimp only
      rw [if_pos (by omega)]
      refine ⟨i - 1, by omega, by omega, by rw [show ((i : Int) - 1) = ((i - 1 : Nat) : Int) by omega], ?_⟩
      walk_at "sw"
      exact main _ (fdD_mid (by omega)).symm
  · rintro ρ ⟨o2, o3, rfl⟩
    unfold k_law_are_first_2
    walk_at "sw"
    simpa using q

end L12

namespace L12
open PySem L2 Sw
local macro_rules | `(tactic| walk_at "sw") => `(tactic| try simp -implicitDefEqProofs only [e_s_first_directions_0, e_s_first_directions_1, e_s_first_directions_2, e_s_law_led_0, e_s_law_are_first_0, e_s_law_are_first_1, e_s_law_0, e_s_law_1, sSeq, e_yPlain, e_pNx, e_pBk, e_pCt, e_pRt, e_pEx, e_ySeq, e_kYn, e_kYb, e_kYc, e_kYr, e_yNil, e_yIf, kYIf, e_yYield, kYi1, kYi2, e_yRng, kYR, e_pGn, kGn, e_sForG, pvD_n, pvD_c, pvS_n, pvS_0, pvS_l, pvS_e, Bool.and_true, Bool.true_and, kx, e_pLstO, kLO, owL_nil, owL_cons, e_sSetP, kSP0, kSP1, kSP2, e_sAppP, kAP1, kAP2, getP_n, getP_c, putP_n, putP_c, pLend, lendE, List.map_cons, List.map_nil, lendS_0, lendS_1, lendS_b, lendS_n, kLend, okR_0, okR_1, idSeqB, e_sForO, sIns, Nat.reduceEqDiff, if_false, e_sRaise, kRa, intsD1, intsD2, revI1, revI2, allI1, allI2, sRaise0, e_sTry, tEx, e_pFnC, kFnC, pXf, pIsX, look_nil, look_cons, e_sIf, kSIf, e_sAsg, kAs1, kAs2, e_sRet, kRet, sRetN, sNext, sNever, sBreak, sCont, e_sDrop, kDrop, e_sPar, kPar, e_sAug, kAug1, kAug2, e_tdVal, kVal, e_tdNot, kNot, e_tdAnd, kAnd, e_tdOr, kOr, e_tdTru, kTru, tdYes, wipeD, e_pOp, kOp1, kOp2, pName, pC, e_pB, kpB, e_pUn, kUn, e_pCall, kCall, e_pFn, kFn, e_pMe, kMe1, kMe2, e_pProp, kProp, e_pMk, kMk, kmk, e_pFld, kFld, e_pTup, ktup, e_pLst, klst, e_pTake, kTake, e_pStill, kStill, e_pAnd, kpAnd, e_pOr, kpOr, e_pNot, kpNot, e_pIf, kpIf, aNil, e_aCons, kC1, kC2, takeP, stillP, retP, rtOk, gdName, gdNil, e_gdCons, kGC, gdTup, e_idSeq, kIs1, kIs2, e_idRng1, kR1, e_idRng2, e_idRngA, kRA, e_sMatch, kMat1, kMat, e_mNil, e_mCase0, e_mCase1, e_pRevS, kRevS, e_idStr, kIStr, kR2, e_sFor, e_pLc, e_pBm, kBm1, kBm2, isStr, isLst, mJoin, mCount, e_pItem, kIt1, kIt2, e_pPop, kPop, e_pPop0, e_pOw, e_pFnK, kFk1, kFk2, arl, gdSeq, e_pBut, kBut, List.getD_cons_zero, List.getD_cons_succ, e_pOwI, kOwI1, kOwI2, kOw1, kOw2, e_pInv, kInv, uIsC, pSet0, e_sSAdd, kSAdd1, oInS, e_idZip, kZip, e_idEnum, kEnum, uTuple, uMin, uMinL, uMax, uAll, uDivmod, uSorted, uSortedT, uSortedD, uStr, uStrX, e_pRngL, kRngL, e_pSl, kSl1, kSl2, kSl3, poNone, e_poSome, kSome, uSl, e_pRev, kRev, e_pSel, kSel, e_sSetI, kSI0, kSI1, kSI2, uSum, uList, oIsB, e_sApp, kApp1, kApp2, oIAdd, oISub, oIsN, oNotN, e_sFldNew, kFN1, kFN2, ap1, ap2, apL, stL, argL, datL, dstart, dargs, e_fnNx, e_fnRt, e_fnEx, e_inNx, kv, Pl.d, Pl.sl, Sl.rd, truD, flat,
    oI, oIc, oAdd, oSub, oMul, oDiv, oMod, oPow, oShl, oShr, oAnd, oOr, oXor, oLt, oGt, oLe, oGe, oEq, oNe, oIx, uLen, uInt, uAbs, uNeg, uIsi, tyD, deq_int, eqOk_int, eqOk_bl, eqOk_non, List.replicate_zero, Nat.reduceAdd, Nat.reduceSub, pairD, List.getElem?_cons_zero, List.getElem?_cons_succ, List.getElem?_nil, Option.getD_some, Option.getD_none, List.length_cons, List.length_nil, List.set_cons_zero, List.set_cons_succ, List.replicate, List.append_nil, List.cons_append, List.nil_append, Option.bind_some, Option.some.injEq, at_last, ix_last, set_last, List.length_append, at_0, at_1, at_2, at_3, at_4, at_5, true_and, and_true, if_true, decide_eq_true_eq])
theorem p_law : ∀ ds Q E, sp_law ds Q E → ds.length = 1 → t_law (fnEnds Q E) (dstart 3 [true] ds) := by
  rintro _ Q E ⟨ns, rfl, q⟩ _
  unfold t_law
  walk_at "sw"
  refine ⟨ns, 0, rfl, by decide, by decide, ?_⟩
  walk_at "sw"
  refine ⟨by decide, ns, 1, rfl, by decide, by decide, ?_⟩
  walk_at "sw"
  have a0 := Int.emod_nonneg (cell ns 0) (b := 301) (by decide)
  have a1 := Int.emod_lt_of_pos (cell ns 0) (b := 301) (by decide)
  have b0 := Int.emod_nonneg (cell ns 1) (b := 20) (by decide)
  have b1 := Int.emod_lt_of_pos (cell ns 1) (b := 20) (by decide)
  refine ⟨by decide, (cell ns 0 % 301).toNat, by omega, by rw [Int.toNat_of_nonneg a0], ?_⟩
  walk_at "sw"
  refine ⟨(cell ns 1 % 20).toNat, by omega, by rw [Int.toNat_of_nonneg b0], ?_⟩
  walk_at "sw"
  refine ⟨(cell ns 0 % 301).toNat, by omega, by rw [Int.toNat_of_nonneg a0], ?_⟩
  walk_at "sw"
  refine ⟨0, by omega, rfl, ?_⟩
  walk_at "sw"
  exact q
theorem law_end (ns : List Int) (hl : ns.length ≤ 63) : sp_law [.scr ns] (fun _ d => d = .bl true) (fun _ => False) := ⟨ns, rfl, rfl⟩

end L12

namespace L12
open PySem L2 PySem.Calls PyProof.Rows Sw
def topS (i : Nat) : Stmt := PySem.Challenge.pw_slantwalk_k12_first_directions.main.body.getD i (.Pass ⟨0, 0, 0, 0⟩)
structure Tx (M : Wd) (T : Tb) (XT : Nat → Cl) : Prop where
  n_bool : M.mg "bool" = none
  n_int : M.mg "int" = none
  n_isinstance : M.mg "isinstance" = none
  n_len : M.mg "len" = none
  n_range : M.mg "range" = none
  n_tuple : M.mg "tuple" = none
  pv : ∀ n a vs, Pvt M.P M.w (T.φ n a vs)
abbrev st_law_cell : Stmt := (topS 3)
theorem sc_law_cell : FnScope ["_law_script", "_law_k"] ["_law_script", "_law_k"] (defScope st_law_cell) := ⟨rfl, rfl, rfl, by decide +kernel, rfl, by decide +kernel, by decide +kernel⟩
theorem d_law_cell {M : Wd} {T : Tb} {XT : Nat → Cl} {f : Addr} {cdv : Value} {A : Around} {outer : List Env} {s : Shared} {H S2 : Hp} {E : XK} (F : Tx M T XT) 
    (hr : Room 0 (A.deeper (envOfC "_law_cell" (defScope st_law_cell) s.heap.objs.size f cdv))) :
    DSs ((gm M T XT).in_ S2 H) (cxOf (L2.CX M.P M.w) M.P M.w M.K M.mg M.base ["_law_script", "_law_k"] "_law_cell" (defScope st_law_cell) f cdv A outer s H E) (fun cls d _ H => E cls d H) (defBody st_law_cell) t_law_cell :=
  have sc := sc_law_cell
  (dss_cons (ds_if (dt_cmp op_lt br_lt (dp_name (pv 1)) (dp_callB call_lenU br_len (by rfl) F.n_len (by decide +kernel) (da_cons (dp_name (pv 0)) da_nil rfl) (by decide) (by decide) rfl rfl) (nomark _)) (dss_one (ds_ret (dp_ix ix_seq br_ix (dp_name (pv 0)) (dp_name (pv 1)) (fun _ _ => rfl)))) dss_nil) (dss_one (ds_ret dp_int)))
theorem g_law_cell {M : Wd} {T : Tb} {XT : Nat → Cl} {f : Addr} {fd : FuncData} (F : Tx M T XT)  (D : FunD M.K "_law_cell" "_law_cell" (defArgs st_law_cell) (defBody st_law_cell) (defScope st_law_cell) [] [] f fd) (hm : M.mg "_law_cell" = some (.ref f)) : FnG M (gm M T XT) "_law_cell" 1 ["_law_script", "_law_k"] [] [true, true] sp_law_cell :=
  ⟨⟨f, fd, [], hm, D.kp, D.bindsN (ps := ["_law_script", "_law_k"]) fun _ _ _ _ _ _ us hl => match us, hl with | [_, _], _ => rfl, .nil, fnD (k := 0) D sc_law_cell rfl (fun cdv A outer s H E S2 hr => d_law_cell F  hr) p_law_cell⟩, (fun _ h => by cases h)⟩
abbrev st_first_directions : Stmt := (topS 1)
theorem sc_first_directions : L2.GScope ["count", "found", "at", "flat", "steep", "middle"] ["count"] (defScope st_first_directions) := ⟨rfl, rfl, rfl, by decide +kernel, rfl, by decide +kernel, by decide +kernel⟩
theorem d_first_directions {M : Wd} {T : Tb} {XT : Nat → Cl} {f : Addr} {cdv : Value} {A : Around} {outer : List Env} {n0 : Nat} {outs : List Dat} {fin : Option Exn} {pn : List (Addr × Obj)} (F : Tx M T XT) 
    (hr : Room 0 (A.deeper (envOfC "first_directions" (defScope st_first_directions) n0 f cdv))) :
    GYs (gcOf M.P M.w M.K M.mg M.base T XT ["count", "found", "at", "flat", "steep", "middle"] "first_directions" (defScope st_first_directions) f cdv outer n0 outs fin A pn) (defBody st_first_directions) t_first_directions :=
  have sc := sc_first_directions
  have hr1 : ∀ ω, Room 0 ((gcOf M.P M.w M.K M.mg M.base T XT ["count", "found", "at", "flat", "steep", "middle"] "first_directions" (defScope st_first_directions) f cdv outer n0 outs fin A pn).cx ω).A := fun ω => ⟨hr.hd, hr.dp, hr.un⟩
  (gys_cons (gy_ds (fun ω hz => (have hr := hr1 ω; (ds_set (i := 1) sc.nd rfl (Or.inl rfl) (dp_lst (da_cons (dp_still (dp_tup (da_cons (dp_still (dp_tup (da_cons (dp_still dp_int) (da_cons (dp_still dp_int) da_nil rfl) rfl))) (da_cons (dp_still (dp_tup (da_cons (dp_still dp_int) (da_cons (dp_still dp_int) da_nil rfl) rfl))) da_nil rfl) rfl))) da_nil rfl)) rfl (by first | exact .inl rfl | exact .inr rfl | assumption) (by (intro v z; cases z)))))) (gys_cons (gy_rng (fun _ => rfl) (fun _ _ => by rfl) F.n_range (fun ω hz => (have hr := hr1 ω; (da_cons (dp_name (pv 0)) da_nil rfl))) (fun ω hz => (have hr := hr1 ω; (dg_name (pg_name (i := 2) sc.nd rfl (Or.inl rfl)) (by (intro v z; cases z))))) (gys_cons (gy_if (fun ω hz => (have hr := hr1 ω; (dt_cmp (op_eqD hr.units) br_eq (dp_name (pv 2)) dp_int (nomark _)))) (gys_cons (gy_yield F.pv (fun _ => rfl) rfl (fun ω hz => (have hr := hr1 ω; (dp_tup (da_cons (dp_still dp_int) (da_cons (dp_still dp_int) da_nil rfl) rfl)))) rfl) gys_nil) (gys_cons (gy_if (fun ω hz => (have hr := hr1 ω; (dt_cmp (op_eqD hr.units) br_eq (dp_name (pv 2)) dp_int (nomark _)))) (gys_cons (gy_yield F.pv (fun _ => rfl) rfl (fun ω hz => (have hr := hr1 ω; (dp_tup (da_cons (dp_still dp_int) (da_cons (dp_still dp_int) da_nil rfl) rfl)))) rfl) gys_nil) (gys_cons (gy_ds (fun ω hz => (have hr := hr1 ω; (ds_asg (dp_ix ix_seq br_ix (dp_name (pv 1)) (dp_op op_sub br_sub (dp_name (pv 2)) dp_int) (fun _ _ => rfl)) (dg_seq rfl (dgs_cons (dg_name (pg_name (i := 3) sc.nd rfl (Or.inl rfl)) (by (intro v z; cases z))) (dgs_cons (dg_name (pg_name (i := 4) sc.nd rfl (Or.inl rfl)) (by (intro v z; cases z))) dgs_nil rfl) rfl) rfl rfl rfl) rfl rfl rfl)))) (gys_cons (gy_ds (fun ω hz => (have hr := hr1 ω; (ds_set (i := 5) sc.nd rfl (Or.inl rfl) (dp_tup (da_cons (dp_still (dp_op op_addU br_add (dp_ix ix_seq br_ix (dp_name (pv 3)) dp_int (fun _ _ => rfl)) (dp_ix ix_seq br_ix (dp_name (pv 4)) dp_int (fun _ _ => rfl)))) (da_cons (dp_still (dp_op op_addU br_add (dp_ix ix_seq br_ix (dp_name (pv 3)) dp_int (fun _ _ => rfl)) (dp_ix ix_seq br_ix (dp_name (pv 4)) dp_int (fun _ _ => rfl)))) da_nil rfl) rfl)) rfl (by first | exact .inl rfl | exact .inr rfl | assumption) (by (intro v z; cases z)))))) (gys_cons (gy_ds (fun ω hz => (have hr := hr1 ω; (ds_app (i := 1) (pv 1) (da_cons (dp_tup (da_cons (dp_still (dp_name (pv 3))) (da_cons (dp_still (dp_name (pv 5))) da_nil rfl) rfl)) da_nil rfl) rfl rfl rfl rfl rfl)))) (gys_cons (gy_ds (fun ω hz => (have hr := hr1 ω; (ds_app (i := 1) (pv 1) (da_cons (dp_tup (da_cons (dp_still (dp_name (pv 5))) (da_cons (dp_still (dp_name (pv 4))) da_nil rfl) rfl)) da_nil rfl) rfl rfl rfl rfl rfl)))) (gys_cons (gy_yield F.pv (fun _ => rfl) rfl (fun ω hz => (have hr := hr1 ω; (dp_name (pv 5)))) rfl) gys_nil)))))) gys_nil)) gys_nil) (by intro _; rfl) (by intro _; rfl)) gys_nil))
theorem g_first_directions {M : Wd} {T : Tb} {XT : Nat → Cl} {f : Addr} {fd : FuncData} (F : Tx M T XT)  (D : FunD M.K "first_directions" "first_directions" (defArgs st_first_directions) (defBody st_first_directions) (defScope st_first_directions) [] [] f fd) (hm : M.mg "first_directions" = some (.ref f)) : GnG M (gm M T XT) "first_directions" 1 ["count"] [] [true] sp_first_directions :=
  ⟨⟨f, fd, [], hm, D.kp, D.bindsN (ps := ["count"]) fun _ _ _ _ _ _ us hl => match us, hl with | [_], _ => rfl, .nil, gfnD (k := 0) D sc_first_directions rfl (by decide) F.pv (fun _ => rfl) (fun cd outer n0 outs fin A pn hr => d_first_directions F  hr) p_first_directions⟩, (fun _ h => by cases h)⟩
abbrev st_law_led : Stmt := (topS 6)
theorem sc_law_led : FnScope ["_law_number", "_law_digits", "_law_low", "_law_high", "_law_digit", "_law_middle"] ["_law_number"] (defScope st_law_led) := ⟨rfl, rfl, rfl, by decide +kernel, rfl, by decide +kernel, by decide +kernel⟩
theorem d_law_led {M : Wd} {T : Tb} {XT : Nat → Cl} {f : Addr} {cdv : Value} {A : Around} {outer : List Env} {s : Shared} {H S2 : Hp} {E : XK} (F : Tx M T XT) 
    (hr : Room 0 (A.deeper (envOfC "_law_led" (defScope st_law_led) s.heap.objs.size f cdv))) :
    DSs ((gm M T XT).in_ S2 H) (cxOf (L2.CX M.P M.w) M.P M.w M.K M.mg M.base ["_law_number", "_law_digits", "_law_low", "_law_high", "_law_digit", "_law_middle"] "_law_led" (defScope st_law_led) f cdv A outer s H E) (fun cls d _ H => E cls d H) (defBody st_law_led) t_law_led :=
  have sc := sc_law_led
  (dss_cons (ds_set (i := 1) sc.nd rfl (Or.inl rfl) (dp_lst da_nil) rfl (by first | exact .inl rfl | exact .inr rfl | assumption) (by (intro v z; cases z))) (dss_cons (ds_while (passes_of rfl) (dt_cmp op_gt br_gt (dp_name (pv 0)) dp_int (nomark _)) (dss_cons (ds_app (i := 1) (pv 1) (da_cons (dp_op op_mod br_mod (dp_callTy call_int1 br_int1 (by rfl) F.n_int (by decide +kernel) (da_cons (dp_name (pv 0)) da_nil rfl) (by decide) (by decide) rfl rfl) dp_int) da_nil rfl) rfl rfl rfl rfl rfl) (dss_one (ds_set (i := 0) sc.nd rfl (Or.inl rfl) (dp_op op_fdivW br_div (dp_name (pv 0)) dp_int) rfl (by first | exact .inl rfl | exact .inr rfl | assumption) (by (intro v z; cases z)))))) (dss_cons (ds_set (i := 2) sc.nd rfl (Or.inl rfl) (dp_tup (da_cons (dp_still dp_int) (da_cons (dp_still dp_int) da_nil rfl) rfl)) rfl (by first | exact .inl rfl | exact .inr rfl | assumption) (by (intro v z; cases z))) (dss_cons (ds_set (i := 3) sc.nd rfl (Or.inl rfl) (dp_tup (da_cons (dp_still dp_int) (da_cons (dp_still dp_int) da_nil rfl) rfl)) rfl (by first | exact .inl rfl | exact .inr rfl | assumption) (by (intro v z; cases z))) (dss_cons (ds_for (passes_of rfl) rfl (di_seq (dp_rev (dp_name (pv 1)) rfl) rfl) (dg_name (pg_name (i := 4) sc.nd rfl (Or.inl rfl)) (by (intro v z; cases z))) (dss_cons (ds_set (i := 5) sc.nd rfl (Or.inl rfl) (dp_tup (da_cons (dp_still (dp_op op_addU br_add (dp_ix ix_seq br_ix (dp_name (pv 2)) dp_int (fun _ _ => rfl)) (dp_ix ix_seq br_ix (dp_name (pv 3)) dp_int (fun _ _ => rfl)))) (da_cons (dp_still (dp_op op_addU br_add (dp_ix ix_seq br_ix (dp_name (pv 2)) dp_int (fun _ _ => rfl)) (dp_ix ix_seq br_ix (dp_name (pv 3)) dp_int (fun _ _ => rfl)))) da_nil rfl) rfl)) rfl (by first | exact .inl rfl | exact .inr rfl | assumption) (by (intro v z; cases z))) (dss_one (ds_if (dt_cmp (op_eqD hr.units) br_eq (dp_name (pv 4)) dp_int (nomark _)) (dss_one (ds_set (i := 3) sc.nd rfl (Or.inl rfl) (dp_name (pv 5)) rfl (by first | exact .inl rfl | exact .inr rfl | assumption) (by (intro v z; cases z)))) (dss_one (ds_set (i := 2) sc.nd rfl (Or.inl rfl) (dp_name (pv 5)) rfl (by first | exact .inl rfl | exact .inr rfl | assumption) (by (intro v z; cases z))))))) (by intro _; rfl)) (dss_one (ds_ret (dp_tup (da_cons (dp_still (dp_op op_addU br_add (dp_ix ix_seq br_ix (dp_name (pv 2)) dp_int (fun _ _ => rfl)) (dp_ix ix_seq br_ix (dp_name (pv 3)) dp_int (fun _ _ => rfl)))) (da_cons (dp_still (dp_op op_addU br_add (dp_ix ix_seq br_ix (dp_name (pv 2)) dp_int (fun _ _ => rfl)) (dp_ix ix_seq br_ix (dp_name (pv 3)) dp_int (fun _ _ => rfl)))) da_nil rfl) rfl)))))))))
theorem g_law_led {M : Wd} {T : Tb} {XT : Nat → Cl} {f : Addr} {fd : FuncData} (F : Tx M T XT)  (D : FunD M.K "_law_led" "_law_led" (defArgs st_law_led) (defBody st_law_led) (defScope st_law_led) [] [] f fd) (hm : M.mg "_law_led" = some (.ref f)) : FnG M (gm M T XT) "_law_led" 1 ["_law_number"] [] [true] sp_law_led :=
  ⟨⟨f, fd, [], hm, D.kp, D.bindsN (ps := ["_law_number"]) fun _ _ _ _ _ _ us hl => match us, hl with | [_], _ => rfl, .nil, fnD (k := 0) D sc_law_led rfl (fun cdv A outer s H E S2 hr => d_law_led F  hr) p_law_led⟩, (fun _ h => by cases h)⟩
abbrev st_law_is_number : Stmt := (topS 4)
theorem sc_law_is_number : FnScope ["_law_value"] ["_law_value"] (defScope st_law_is_number) := ⟨rfl, rfl, rfl, by decide +kernel, rfl, by decide +kernel, by decide +kernel⟩
theorem d_law_is_number {M : Wd} {T : Tb} {XT : Nat → Cl} {f : Addr} {cdv : Value} {A : Around} {outer : List Env} {s : Shared} {H S2 : Hp} {E : XK} (F : Tx M T XT) 
    (hr : Room 0 (A.deeper (envOfC "_law_is_number" (defScope st_law_is_number) s.heap.objs.size f cdv))) :
    DSs ((gm M T XT).in_ S2 H) (cxOf (L2.CX M.P M.w) M.P M.w M.K M.mg M.base ["_law_value"] "_law_is_number" (defScope st_law_is_number) f cdv A outer s H E) (fun cls d _ H => E cls d H) (defBody st_law_is_number) t_law_is_number :=
  have sc := sc_law_is_number
  (dss_one (ds_ret (dp_and (dp_callB call_isi br_isi (by rfl) F.n_isinstance (by decide +kernel) (da_cons (dp_name (pv 0)) (da_cons (dp_ty (by rfl) F.n_int (by decide +kernel) (by decide) (by decide)) da_nil rfl) rfl) (by decide) (by decide) rfl rfl) (dp_and1 (dp_not (dp_callB call_isi br_isi (by rfl) F.n_isinstance (by decide +kernel) (da_cons (dp_name (pv 0)) (da_cons (dp_ty (by rfl) F.n_bool (by decide +kernel) (by decide) (by decide)) da_nil rfl) rfl) (by decide) (by decide) rfl rfl))))))
theorem g_law_is_number {M : Wd} {T : Tb} {XT : Nat → Cl} {f : Addr} {fd : FuncData} (F : Tx M T XT)  (D : FunD M.K "_law_is_number" "_law_is_number" (defArgs st_law_is_number) (defBody st_law_is_number) (defScope st_law_is_number) [] [] f fd) (hm : M.mg "_law_is_number" = some (.ref f)) : FnG M (gm M T XT) "_law_is_number" 1 ["_law_value"] [] [true] sp_law_is_number :=
  ⟨⟨f, fd, [], hm, D.kp, D.bindsN (ps := ["_law_value"]) fun _ _ _ _ _ _ us hl => match us, hl with | [_], _ => rfl, .nil, fnD (k := 0) D sc_law_is_number rfl (fun cdv A outer s H E S2 hr => d_law_is_number F  hr) p_law_is_number⟩, (fun _ h => by cases h)⟩
abbrev st_law_is_row : Stmt := (topS 5)
theorem sc_law_is_row : FnScope ["_law_actual", "_law_expected", "_law_k"] ["_law_actual", "_law_expected"] (defScope st_law_is_row) := ⟨rfl, rfl, rfl, by decide +kernel, rfl, by decide +kernel, by decide +kernel⟩
theorem d_law_is_row {M : Wd} {T : Tb} {XT : Nat → Cl} {f : Addr} {cdv : Value} {A : Around} {outer : List Env} {s : Shared} {H S2 : Hp} {E : XK} (F : Tx M T XT) (c_law_is_number : FnG M (gm M T XT) "_law_is_number" 1 ["_law_value"] [] [true] sp_law_is_number)
    (hr : Room 1 (A.deeper (envOfC "_law_is_row" (defScope st_law_is_row) s.heap.objs.size f cdv))) :
    DSs ((gm M T XT).in_ S2 H) (cxOf (L2.CX M.P M.w) M.P M.w M.K M.mg M.base ["_law_actual", "_law_expected", "_law_k"] "_law_is_row" (defScope st_law_is_row) f cdv A outer s H E) (fun cls d _ H => E cls d H) (defBody st_law_is_row) t_law_is_row :=
  have sc := sc_law_is_row
  (dss_cons (ds_if (DWt.t (dw_or (dt_not (dt_val (dp_callB call_isi br_isi (by rfl) F.n_isinstance (by decide +kernel) (da_cons (dp_name (pv 0)) (da_cons (dp_ty (by rfl) F.n_tuple (by decide +kernel) (by decide) (by decide)) da_nil rfl) rfl) (by decide) (by decide) rfl rfl) (by intro _; rfl))) (dw_or1 (dt_cmp (op_neD hr.units) br_ne (dp_callB call_lenU br_len (by rfl) F.n_len (by decide +kernel) (da_cons (dp_name (pv 0)) da_nil rfl) (by decide) (by decide) rfl rfl) (dp_callB call_lenU br_len (by rfl) F.n_len (by decide +kernel) (da_cons (dp_name (pv 1)) da_nil rfl) (by decide) (by decide) rfl rfl) (nomark _))))) (dss_one (ds_ret dp_bl)) dss_nil) (dss_cons (ds_for (passes_of rfl) rfl (di_rng1 (by rfl) F.n_range (da_cons (dp_callB call_lenU br_len (by rfl) F.n_len (by decide +kernel) (da_cons (dp_name (pv 1)) da_nil rfl) (by decide) (by decide) rfl rfl) da_nil rfl) rfl) (dg_name (pg_name (i := 2) sc.nd rfl (Or.inl rfl)) (by (intro v z; cases z))) (dss_one (ds_if (DWt.t (dw_or (dt_not (dt_val (dp_call c_law_is_number (hr.mono (by decide)) (takes_of rfl rfl rfl rfl) (by rfl) (da_cons (dp_still (dp_ix ix_seq br_ix (dp_name (pv 0)) (dp_name (pv 2)) (fun _ _ => rfl))) da_nil rfl) rfl rfl rfl rfl rfl (by decide) rfl rfl) (by intro _; rfl))) (dw_or1 (dt_cmp (op_neD hr.units) br_ne (dp_ix ix_seq br_ix (dp_name (pv 0)) (dp_name (pv 2)) (fun _ _ => rfl)) (dp_ix ix_seq br_ix (dp_name (pv 1)) (dp_name (pv 2)) (fun _ _ => rfl)) (nomark _))))) (dss_one (ds_ret dp_bl)) dss_nil)) (by intro _; rfl)) (dss_one (ds_ret dp_bl))))
theorem g_law_is_row {M : Wd} {T : Tb} {XT : Nat → Cl} {f : Addr} {fd : FuncData} (F : Tx M T XT) (c_law_is_number : FnG M (gm M T XT) "_law_is_number" 1 ["_law_value"] [] [true] sp_law_is_number) (D : FunD M.K "_law_is_row" "_law_is_row" (defArgs st_law_is_row) (defBody st_law_is_row) (defScope st_law_is_row) [] [] f fd) (hm : M.mg "_law_is_row" = some (.ref f)) : FnG M (gm M T XT) "_law_is_row" 2 ["_law_actual", "_law_expected"] [] [true, true] sp_law_is_row :=
  ⟨⟨f, fd, [], hm, D.kp, D.bindsN (ps := ["_law_actual", "_law_expected"]) fun _ _ _ _ _ _ us hl => match us, hl with | [_, _], _ => rfl, .nil, fnD (k := 1) D sc_law_is_row rfl (fun cdv A outer s H E S2 hr => d_law_is_row F c_law_is_number hr) p_law_is_row⟩, (fun _ h => by cases h)⟩
abbrev st_law_are_first : Stmt := (topS 7)
theorem sc_law_are_first : FnScope ["_law_count", "_law_place", "_law_direction", "_law_expected"] ["_law_count"] (defScope st_law_are_first) := ⟨rfl, rfl, rfl, by decide +kernel, rfl, by decide +kernel, by decide +kernel⟩
theorem d_law_are_first {M : Wd} {T : Tb} {XT : Nat → Cl} {f : Addr} {cdv : Value} {A : Around} {outer : List Env} {s : Shared} {H S2 : Hp} {E : XK} (F : Tx M T XT) (c_law_is_row : FnG M (gm M T XT) "_law_is_row" 2 ["_law_actual", "_law_expected"] [] [true, true] sp_law_is_row) (c_law_led : FnG M (gm M T XT) "_law_led" 1 ["_law_number"] [] [true] sp_law_led) (c_first_directions : GnG M (gm M T XT) "first_directions" 1 ["count"] [] [true] sp_first_directions)
    (hr : Room 2 (A.deeper (envOfC "_law_are_first" (defScope st_law_are_first) s.heap.objs.size f cdv))) :
    DSs ((gm M T XT).in_ S2 H) (cxOf (L2.CX M.P M.w) M.P M.w M.K M.mg M.base ["_law_count", "_law_place", "_law_direction", "_law_expected"] "_law_are_first" (defScope st_law_are_first) f cdv A outer s H E) (fun cls d _ H => E cls d H) (defBody st_law_are_first) t_law_are_first :=
  have sc := sc_law_are_first
  (dss_cons (ds_set (i := 1) sc.nd rfl (Or.inl rfl) dp_int rfl (by first | exact .inl rfl | exact .inr rfl | assumption) (by (intro v z; cases z))) (dss_cons (ds_forG (passes_of rfl) xeG_cx rfl (hr.mono (by decide)) (dgn_call c_first_directions (hr.mono (by decide)) (by rfl) (da_cons (dp_still (dp_name (pv 0))) da_nil rfl) rfl rfl rfl rfl rfl rfl (by decide) rfl rfl) (fun _ => (dg_name (pg_name (i := 2) sc.nd rfl (Or.inl rfl)) (by (intro v z; cases z)))) (fun _ => (dss_cons (ds_set (i := 3) sc.nd rfl (Or.inl rfl) (dp_ix ix_seq br_ix (dp_lst (da_cons (dp_still (dp_tup (da_cons (dp_still dp_int) (da_cons (dp_still dp_int) da_nil rfl) rfl))) (da_cons (dp_still (dp_tup (da_cons (dp_still dp_int) (da_cons (dp_still dp_int) da_nil rfl) rfl))) da_nil rfl) rfl)) (dp_op op_mod br_mod (dp_name (pv 1)) dp_int) (fun _ _ => rfl)) rfl (by first | exact .inl rfl | exact .inr rfl | assumption) (by (intro v z; cases z))) (dss_cons (ds_if (dt_cmp op_gt br_gt (dp_name (pv 1)) dp_int (nomark _)) (dss_one (ds_set (i := 3) sc.nd rfl (Or.inl rfl) (dp_call c_law_led (hr.mono (by decide)) (takes_of rfl rfl rfl rfl) (by rfl) (da_cons (dp_still (dp_op op_sub br_sub (dp_name (pv 1)) dp_int)) da_nil rfl) rfl rfl rfl rfl rfl (by decide) rfl rfl) rfl (by first | exact .inl rfl | exact .inr rfl | assumption) (by (intro v z; cases z)))) dss_nil) (dss_cons (ds_if (DWt.t (dw_or (dt_cmp op_ge br_ge (dp_name (pv 1)) (dp_name (pv 0)) (nomark _)) (dw_or1 (dt_not (dt_val (dp_call c_law_is_row (hr.mono (by decide)) (takes_of rfl rfl rfl rfl) (by rfl) (da_cons (dp_still (dp_name (pv 2))) (da_cons (dp_still (dp_name (pv 3))) da_nil rfl) rfl) rfl rfl rfl rfl rfl (by decide) rfl rfl) (by intro _; rfl)))))) (dss_one (ds_ret dp_bl)) dss_nil) (dss_one (ds_set (i := 1) sc.nd rfl (Or.inl rfl) (dp_op op_addU br_add (dp_name (pv 1)) dp_int) rfl (by first | exact .inl rfl | exact .inr rfl | assumption) (by (intro v z; cases z)))))))) rfl (by intro _; rfl)) (dss_one (ds_ret (dp_cmp (op_eqD hr.units) br_eq (dp_name (pv 1)) (dp_name (pv 0)) (nomark _))))))
theorem g_law_are_first {M : Wd} {T : Tb} {XT : Nat → Cl} {f : Addr} {fd : FuncData} (F : Tx M T XT) (c_law_is_row : FnG M (gm M T XT) "_law_is_row" 2 ["_law_actual", "_law_expected"] [] [true, true] sp_law_is_row) (c_law_led : FnG M (gm M T XT) "_law_led" 1 ["_law_number"] [] [true] sp_law_led) (c_first_directions : GnG M (gm M T XT) "first_directions" 1 ["count"] [] [true] sp_first_directions) (D : FunD M.K "_law_are_first" "_law_are_first" (defArgs st_law_are_first) (defBody st_law_are_first) (defScope st_law_are_first) [] [] f fd) (hm : M.mg "_law_are_first" = some (.ref f)) : FnG M (gm M T XT) "_law_are_first" 3 ["_law_count"] [] [true] sp_law_are_first :=
  ⟨⟨f, fd, [], hm, D.kp, D.bindsN (ps := ["_law_count"]) fun _ _ _ _ _ _ us hl => match us, hl with | [_], _ => rfl, .nil, fnD (k := 2) D sc_law_are_first rfl (fun cdv A outer s H E S2 hr => d_law_are_first F c_law_is_row c_law_led c_first_directions hr) p_law_are_first⟩, (fun _ h => by cases h)⟩
abbrev st_law : Stmt := (topS 8)
theorem sc_law : FnScope ["_law_script", "_law_count", "_law_other"] ["_law_script"] (defScope st_law) := ⟨rfl, rfl, rfl, by decide +kernel, rfl, by decide +kernel, by decide +kernel⟩
theorem d_law {M : Wd} {T : Tb} {XT : Nat → Cl} {f : Addr} {cdv : Value} {A : Around} {outer : List Env} {s : Shared} {H S2 : Hp} {E : XK} (F : Tx M T XT) (c_law_are_first : FnG M (gm M T XT) "_law_are_first" 3 ["_law_count"] [] [true] sp_law_are_first) (c_law_cell : FnG M (gm M T XT) "_law_cell" 1 ["_law_script", "_law_k"] [] [true, true] sp_law_cell)
    (hr : Room 3 (A.deeper (envOfC "law" (defScope st_law) s.heap.objs.size f cdv))) :
    DSs ((gm M T XT).in_ S2 H) (cxOf (L2.CX M.P M.w) M.P M.w M.K M.mg M.base ["_law_script", "_law_count", "_law_other"] "law" (defScope st_law) f cdv A outer s H E) (fun cls d _ H => E cls d H) (defBody st_law) t_law :=
  have sc := sc_law
  (dss_cons (ds_set (i := 1) sc.nd rfl (Or.inl rfl) (dp_op op_mod br_mod (dp_callTy call_int1 br_int1 (by rfl) F.n_int (by decide +kernel) (da_cons (dp_call c_law_cell (hr.mono (by decide)) (takes_of rfl rfl rfl rfl) (by rfl) (da_cons (dp_still (dp_name (pv 0))) (da_cons (dp_still dp_int) da_nil rfl) rfl) rfl rfl rfl rfl rfl (by decide) rfl rfl) da_nil rfl) (by decide) (by decide) rfl rfl) dp_int) rfl (by first | exact .inl rfl | exact .inr rfl | assumption) (by (intro v z; cases z))) (dss_cons (ds_set (i := 2) sc.nd rfl (Or.inl rfl) (dp_op op_mod br_mod (dp_callTy call_int1 br_int1 (by rfl) F.n_int (by decide +kernel) (da_cons (dp_call c_law_cell (hr.mono (by decide)) (takes_of rfl rfl rfl rfl) (by rfl) (da_cons (dp_still (dp_name (pv 0))) (da_cons (dp_still dp_int) da_nil rfl) rfl) rfl rfl rfl rfl rfl (by decide) rfl rfl) da_nil rfl) (by decide) (by decide) rfl rfl) dp_int) rfl (by first | exact .inl rfl | exact .inr rfl | assumption) (by (intro v z; cases z))) (dss_one (ds_ret (dp_and (dp_call c_law_are_first (hr.mono (by decide)) (takes_of rfl rfl rfl rfl) (by rfl) (da_cons (dp_still (dp_name (pv 1))) da_nil rfl) rfl rfl rfl rfl rfl (by decide) rfl rfl) (dp_and (dp_call c_law_are_first (hr.mono (by decide)) (takes_of rfl rfl rfl rfl) (by rfl) (da_cons (dp_still (dp_name (pv 2))) da_nil rfl) rfl rfl rfl rfl rfl (by decide) rfl rfl) (dp_and (dp_call c_law_are_first (hr.mono (by decide)) (takes_of rfl rfl rfl rfl) (by rfl) (da_cons (dp_still (dp_name (pv 1))) da_nil rfl) rfl rfl rfl rfl rfl (by decide) rfl rfl) (dp_and1 (dp_call c_law_are_first (hr.mono (by decide)) (takes_of rfl rfl rfl rfl) (by rfl) (da_cons (dp_still dp_int) da_nil rfl) rfl rfl rfl rfl rfl (by decide) rfl rfl)))))))))
end L12
namespace L12
open PySem PySem.Spec PyProof.Rows L2 Sw
abbrev R : PySem.W.OpenRow := PySem.W.OpenLaw.row PySem.Challenge.rw_slantwalk_k12_first_directions
def tT (w : World) (K : PySem.W.Frag) : Sw.Tb := ⟨fun n => match n with
  | _ => ⟨0, []⟩, w, fun _ _ _ => .rng 0 0⟩
def tX (K : PySem.W.Frag) : Nat → Sw.Cl
  | _ => ⟨0, []⟩
def dn0 : SwH.Dn := ⟨.g "_law_cell", "_law_cell", "_law_cell", defArgs st_law_cell, defBody st_law_cell, defScope st_law_cell, [], [], none⟩
def dn1 : SwH.Dn := ⟨.g "first_directions", "first_directions", "first_directions", defArgs st_first_directions, defBody st_first_directions, defScope st_first_directions, [], [], none⟩
def dn2 : SwH.Dn := ⟨.g "_law_led", "_law_led", "_law_led", defArgs st_law_led, defBody st_law_led, defScope st_law_led, [], [], none⟩
def dn3 : SwH.Dn := ⟨.g "_law_is_number", "_law_is_number", "_law_is_number", defArgs st_law_is_number, defBody st_law_is_number, defScope st_law_is_number, [], [], none⟩
def dn4 : SwH.Dn := ⟨.g "_law_is_row", "_law_is_row", "_law_is_row", defArgs st_law_is_row, defBody st_law_is_row, defScope st_law_is_row, [], [], none⟩
def dn5 : SwH.Dn := ⟨.g "_law_are_first", "_law_are_first", "_law_are_first", defArgs st_law_are_first, defBody st_law_are_first, defScope st_law_are_first, [], [], none⟩
def dn6 : SwH.Dn := ⟨.g "law", "law", "law", defArgs st_law, defBody st_law, defScope st_law, [], [], none⟩
def dns : List SwH.Dn := [dn0, dn1, dn2, dn3, dn4, dn5, dn6]
def fts : List SwH.Ft := [SwH.fa (.glo "law"),
  SwH.fa (.free "bool"),
  SwH.fa (.free "int"),
  SwH.fa (.free "isinstance"),
  SwH.fa (.free "len"),
  SwH.fa (.free "range"),
  SwH.fa (.free "tuple"),
  SwH.fa (.glo "_law_cell"),
  SwH.fa (.glo "first_directions"),
  SwH.fa (.glo "_law_led"),
  SwH.fa (.glo "_law_is_number"),
  SwH.fa (.glo "_law_is_row"),
  SwH.fa (.glo "_law_are_first")]
abbrev hk : PySem.W.Hook := SwH.hook 7 fts dns
def ob (s : PySem.W.SharedT) : He.AlD := SwH.lookG 7 fts dns (HandSHeadRun.getT s)
theorem ob_eq (s : PySem.W.SharedT) : ob s = hk.obs s.abs := SwH.look_eq (HandSHeadRun.getT_eq s)
def loose : List Str := [("first_directions" : Str), ("_law_cell" : Str), ("_law_is_number" : Str), ("_law_is_row" : Str), ("_law_led" : Str), ("_law_are_first" : Str)]
theorem run (w : World) : HandSHeadRun.RunEq R (PySem.W.view R.prog [8]) hk ob 16000 loose w := by
  intro os
  kernel_rfl
theorem facts {P : Program} {w : World} {K : PySem.W.Frag} {h : Heap} {mg : Str → Option Value} {f : Addr} (X : K.In h) (G : h.Ns mainGlobals mg) (hf : mg ("law" : Str) = some (.ref f)) (c : SwH.Says fts dns K) :
    ∃ fd : FuncData, (∀ (s : Shared) (u : Value), BindsTo s fd ⟨[u], []⟩ [("_law_script", u)]) ∧ ∀ base : Heap, K.In base → base.Ns mainGlobals mg → FnOk P w K mg base (L2.CX P w) 4 f fd ["_law_script"] (Sw.lift (gm ⟨P, w, K, mg, h⟩ (tT w K) (tX K)) [true] sp_law) := by
  obtain ⟨fd0, D0⟩ := c.fn 0 rfl
  obtain ⟨fd1, D1⟩ := c.fn 1 rfl
  obtain ⟨fd2, D2⟩ := c.fn 2 rfl
  obtain ⟨fd3, D3⟩ := c.fn 3 rfl
  obtain ⟨fd4, D4⟩ := c.fn 4 rfl
  obtain ⟨fd5, D5⟩ := c.fn 5 rfl
  obtain ⟨fd6, D6⟩ := c.fn 6 rfl
  have e := hf.symm.trans (He.glo_ok X G (c.ft 0 rfl))
  cases e
  refine ⟨fd6, fun s u => FunD.bindsA (ps := ["_law_script"]) D6 (fun _ _ _ _ _ _ us hl => match us, hl with | [_], _ => rfl) s [u] rfl, fun base kin bns => ?_⟩
  have F : Tx (⟨P, w, K, mg, base⟩ : Wd) (tT w K) (tX K) := ⟨He.free_ok X G (c.ft 1 rfl),
    He.free_ok X G (c.ft 2 rfl),
    He.free_ok X G (c.ft 3 rfl),
    He.free_ok X G (c.ft 4 rfl),
    He.free_ok X G (c.ft 5 rfl),
    He.free_ok X G (c.ft 6 rfl),
    (fun _ _ _ => pvt_rng)⟩
  have c_law_cell := g_law_cell (M := (⟨P, w, K, mg, base⟩ : Wd)) (T := tT w K) (XT := tX K) F  D0 (He.glo_ok X G (c.ft 7 rfl))
  have c_first_directions := g_first_directions (M := (⟨P, w, K, mg, base⟩ : Wd)) (T := tT w K) (XT := tX K) F  D1 (He.glo_ok X G (c.ft 8 rfl))
  have c_law_led := g_law_led (M := (⟨P, w, K, mg, base⟩ : Wd)) (T := tT w K) (XT := tX K) F  D2 (He.glo_ok X G (c.ft 9 rfl))
  have c_law_is_number := g_law_is_number (M := (⟨P, w, K, mg, base⟩ : Wd)) (T := tT w K) (XT := tX K) F  D3 (He.glo_ok X G (c.ft 10 rfl))
  have c_law_is_row := g_law_is_row (M := (⟨P, w, K, mg, base⟩ : Wd)) (T := tT w K) (XT := tX K) F c_law_is_number D4 (He.glo_ok X G (c.ft 11 rfl))
  have c_law_are_first := g_law_are_first (M := (⟨P, w, K, mg, base⟩ : Wd)) (T := tT w K) (XT := tX K) F c_law_is_row c_law_led c_first_directions D5 (He.glo_ok X G (c.ft 12 rfl))
  exact fnD (k := 3) D6 sc_law rfl (fun cdv A outer s H E S2 hr => d_law (M := (⟨P, w, K, mg, base⟩ : Wd)) (T := tT w K) (XT := tX K) F c_law_are_first c_law_cell hr) p_law
end L12
open PySem PySem.W PySem.Calls PyProof.Rows
theorem PySem.Challenge.cw_slantwalk_k12_first_directions_holds : PySem.Challenge.rw_slantwalk_k12_first_directions.Holds := by
  w_on; o_law
  refine HandSHeadRun.head_any (r := OpenLaw.row PySem.Challenge.rw_slantwalk_k12_first_directions) (q := view (OpenLaw.row PySem.Challenge.rw_slantwalk_k12_first_directions).prog [8]) (H := L12.hk) (ob := L12.ob) (M := 16000) (loose := L12.loose) (d := HandSHeadRun.topDef (OpenLaw.row PySem.Challenge.rw_slantwalk_k12_first_directions).prog 8) (kwd := []) L12.ob_eq
    (by kernel_rfl) (fun s => by kernel_rfl) L12.run (by kernel_rfl) (by kernel_rfl) (by kernel_rfl) (by rfl) (by first | assumption | decide +kernel) (by decide +kernel) ⟨rfl, rfl, rfl, rfl, rfl, by decide +kernel⟩ ?hw ?hc
  case hw => w_witness2
  case hc =>
    refine SwH.walk_sw (l := PySem.Challenge.rw_slantwalk_k12_first_directions) (n := 63) (k := 4) (x := "_law_script") rfl (by decide) (by kernel_rfl) ⟨rfl, by decide, by decide⟩ ?_
    intro w mg f h Y G hm0
    obtain ⟨K, kin, c⟩ := Y
    have hm : mg ("law" : PySem.Str) = some (.ref f) := by
      have e : (HandSHeadRun.topDef (OpenLaw.row PySem.Challenge.rw_slantwalk_k12_first_directions).prog 8).name = ("law" : PySem.Str) := by kernel_rfl
      rw [← e]; exact hm0
    obtain ⟨fd, b, ok⟩ := L12.facts (P := (PySem.Challenge.rw_slantwalk_k12_first_directions).prog) (w := w) kin G hm c
    exact ⟨K, fd, _, kin, b, fun H a ns hl _ hS => SwH.end_sw (L12.law_end ns hl) hS, ok⟩

