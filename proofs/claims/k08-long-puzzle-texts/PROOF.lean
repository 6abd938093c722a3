import PyProof.Rows.All
import Wide.All
import OpenK.AllK
import Wide.FinOn
import HandS.ForMost
import HandS.ForExc
import HandS.Deep
import HandS.IsInst
import HandS.TupAny
import HandS.TupLe
import HandS.Conv
import HandS.Flow
import HandS.Walk
import PyProof.ReprRoads
import HandS.RaiseMore
import HandS.Codes
import KE.GoesEnum
import KE.GoesMore
import HandS.OwnEq
import OpenK.KOps
import HandS.DictComp
import HandS.TupSets
import HandS.ExcInit
import HandS.ExcField
import HandS.ExcIs
import HandS.WordsExc
import KE.KExcIs
import HandS.Style
import HandS.ReplaceLit
import HandS.ReplaceList
import PySem.Challenge.RW_eightcells_k08_long_puzzle_texts
set_option Elab.async false
set_option linter.all false
set_option maxRecDepth 100000
set_option maxHeartbeats 4000000
/-! Data trees over the abstract heap: what a value stands for, as long as a frozen part F of the heap is kept. -/
namespace Eg
open PySem PySem.Spec L2

inductive D where
  | non
  | bl (b : Bool)
  | int (i : Int)
  | str (s : Str)
  | lst (xs : List D)
  | tup (xs : List D)
  | obj (C : Addr) (fs : List (Str × D))
  | dic (kvs : List (Key × D))

mutual
inductive Is (K : PySem.W.Frag) (F : Hp) : D → V → Prop
  | non : Is K F .non .non
  | bl (b : Bool) : Is K F (.bl b) (.bl b)
  | int (i : Int) : Is K F (.int i) (.int i)
  | str (s : Str) : Is K F (.str s) (.str s)
  | lst {a : Addr} {xs : List V} {ds : List D} : F a = some (.lst xs) → Iss K F ds xs → Is K F (.lst ds) (.ref a)
  | tup {a : Addr} {xs : List V} {ds : List D} : SqT K F a xs → Iss K F ds xs → Is K F (.tup ds) (.ref a)
  | obj {a dx C : Addr} {fs : List (Str × V)} {gs : List (Str × D)} : F a = some (.ins C dx fs) → Isf K F gs fs → Is K F (.obj C gs) (.ref a)
  | dic {a : Addr} {kvs : List (Key × V)} {gs : List (Key × D)} : F a = some (.dK kvs) → Isk K F gs kvs → Is K F (.dic gs) (.ref a)
inductive Iss (K : PySem.W.Frag) (F : Hp) : List D → List V → Prop
  | nil : Iss K F [] []
  | cons {d : D} {ds : List D} {v : V} {vs : List V} : Is K F d v → Iss K F ds vs → Iss K F (d :: ds) (v :: vs)
inductive Isf (K : PySem.W.Frag) (F : Hp) : List (Str × D) → List (Str × V) → Prop
  | nil : Isf K F [] []
  | cons {f : Str} {d : D} {ds : List (Str × D)} {v : V} {vs : List (Str × V)} : Is K F d v → Isf K F ds vs → Isf K F ((f, d) :: ds) ((f, v) :: vs)
inductive Isk (K : PySem.W.Frag) (F : Hp) : List (Key × D) → List (Key × V) → Prop
  | nil : Isk K F [] []
  | cons {f : Key} {d : D} {ds : List (Key × D)} {v : V} {vs : List (Key × V)} : Is K F d v → Isk K F ds vs → Isk K F ((f, d) :: ds) ((f, v) :: vs)
end

section
variable {K : PySem.W.Frag} {F F' G H H' H1 H2 : Hp}
theorem sqT_up {a : Addr} {xs : List V} (e : Same F F') (h : SqT K F a xs) : SqT K F' a xs := by
  rcases h with (h | ⟨o, h⟩) | h
  · exact .inl (.inl (e _ _ h))
  · exact .inl (.inr ⟨o, e _ _ h⟩)
  · exact .inr h
mutual
theorem Is.up (e : Same F F') : ∀ (d : D) (v : V), Is K F d v → Is K F' d v
  | _, _, .non => .non
  | _, _, .bl b => .bl b
  | _, _, .int i => .int i
  | _, _, .str s => .str s
  | .lst ds, _, .lst h r => .lst (e _ _ h) (Iss.up e ds _ r)
  | .tup ds, _, .tup h r => .tup (sqT_up e h) (Iss.up e ds _ r)
  | .obj _ gs, _, .obj h r => .obj (e _ _ h) (Isf.up e gs _ r)
  | .dic gs, _, .dic h r => .dic (e _ _ h) (Isk.up e gs _ r)
theorem Iss.up (e : Same F F') : ∀ (ds : List D) (vs : List V), Iss K F ds vs → Iss K F' ds vs
  | [], _, .nil => .nil
  | d :: ds, _, .cons h r => .cons (Is.up e d _ h) (Iss.up e ds _ r)
theorem Isf.up (e : Same F F') : ∀ (ds : List (Str × D)) (vs : List (Str × V)), Isf K F ds vs → Isf K F' ds vs
  | [], _, .nil => .nil
  | (_, d) :: ds, _, .cons h r => .cons (Is.up e d _ h) (Isf.up e ds _ r)
theorem Isk.up (e : Same F F') : ∀ (ds : List (Key × D)) (vs : List (Key × V)), Isk K F ds vs → Isk K F' ds vs
  | [], _, .nil => .nil
  | (_, d) :: ds, _, .cons h r => .cons (Is.up e d _ h) (Isk.up e ds _ r)
end
end

/-! ### growth: F the frozen part, H the whole; what X names may change -/
structure Fx (X : Addr → Prop) (F H F' H' : Hp) : Prop where
  ff : Same F F'
  fh : Same F' H'
  hh : ∀ b o, ¬ X b → H b = some o → H' b = some o
  th : ∀ b, H b ≠ none → H' b ≠ none
  fr : ∀ b, ¬ X b → F b = none → H b ≠ none → F' b = none
abbrev Nox : Addr → Prop := fun _ => False
abbrev Fz := Fx Nox
section
variable {K : PySem.W.Frag} {X Y : Addr → Prop} {F F' F1 F2 G H H' H1 H2 : Hp} {p : Addr} {o : HO}
theorem some_ne {a : Addr} {o : HO} (h : H a = some o) : H a ≠ none := fun z => by rw [h] at z; cases z
theorem none_of_ne {a : Addr} (h : ¬ H a ≠ none) : H a = none := Classical.byContradiction h
theorem Fx.refl (s : Same F H) : Fx X F H F H := ⟨.refl F, s, fun _ _ _ e => e, fun _ e => e, fun _ _ e _ => e⟩
theorem Fx.trans (a : Fx X F H F1 H1) (b : Fx X F1 H1 F2 H2) : Fx X F H F2 H2 :=
  ⟨a.ff.trans b.ff, b.fh, fun c o n e => b.hh c o n (a.hh c o n e), fun c e => b.th c (a.th c e), fun c x e n => b.fr c x (a.fr c x e n) (a.th c n)⟩
theorem Fx.weak (a : Fx X F H F1 H1) (h : ∀ b, X b → Y b) : Fx Y F H F1 H1 := ⟨a.ff, a.fh, fun c o n e => a.hh c o (fun z => n (h c z)) e, a.th, fun c y e n => a.fr c (fun z => y (h c z)) e n⟩
theorem Fx.of (a : Fz F H F1 H1) : Fx X F H F1 H1 := a.weak fun _ z => z.elim
theorem Fx.same (a : Fz F H F1 H1) : Same H H1 := fun b o e => a.hh b o id e
theorem Fx.is {d : D} {v : V} (a : Fx X F H F1 H1) (h : Is K F d v) : Is K F1 d v := Is.up a.ff d v h
theorem Fx.iss {ds : List D} {vs : List V} (a : Fx X F H F1 H1) (h : Iss K F ds vs) : Iss K F1 ds vs := Iss.up a.ff ds vs h
theorem Fx.isH {d : D} {v : V} (a : Fx X F H F1 H1) (h : Is K F d v) : Is K H1 d v := Is.up a.fh d v (a.is h)
theorem Fx.m (a : Fx X F H F1 H1) (hp : F p = none) (h : H p = some o) (x : ¬ X p) : H1 p = some o ∧ F1 p = none := ⟨a.hh p o x h, a.fr p x hp (some_ne h)⟩
/-- a new object, frozen at once -/
theorem Fx.lay (s : Same F H) (n : H p = none) : Fx X F H (upd F p o) (upd H p o) := by
  have nf : F p = none := s.free n
  refine ⟨fun b u e => ?_, fun b u e => ?_, fun b u _ e => ?_, fun b e z => ?_, fun b _ e k => ?_⟩
  · rw [upd_ne (ne_of_none e nf)]; exact e
  · by_cases hb : b = p
    · subst hb; rw [upd_same] at e ⊢; exact e
    · rw [upd_ne hb] at e ⊢; exact s b u e
  · rw [upd_ne (ne_of_none e n)]; exact e
  · have hb : b ≠ p := fun q => by rw [q, n] at e; exact e rfl
    rw [upd_ne hb] at z; exact e z
  · have hb : b ≠ p := fun q => by rw [q, n] at k; exact k rfl
    rw [upd_ne hb]; exact e
/-- a new object that may still change -/
theorem Fx.make (s : Same F H) (n : H p = none) : Fx X F H F (upd H p o) := by
  refine ⟨.refl F, fun b u e => ?_, fun b u _ e => ?_, fun b e z => ?_, fun b _ e k => e⟩
  · rw [upd_ne (ne_of_none e (s.free n))]; exact s b u e
  · rw [upd_ne (ne_of_none e n)]; exact e
  · have hb : b ≠ p := fun q => by rw [q, n] at e; exact e rfl
    rw [upd_ne hb] at z; exact e z
/-- what was made since, or what X names, is changed -/
theorem Fx.mut (a : Fx X F H F1 H1) (n : H p = none ∨ X p) (nf : F1 p = none) : Fx X F H F1 (upd H1 p o) := by
  refine ⟨a.ff, fun b u e => ?_, fun b u x e => ?_, fun b e z => ?_, a.fr⟩
  · rw [upd_ne (ne_of_none e nf)]; exact a.fh b u e
  · have hb : b ≠ p := fun q => by
      rcases n with n | n
      · rw [q, n] at e; cases e
      · exact x (by rw [q]; exact n)
    rw [upd_ne hb]; exact a.hh b u x e
  · by_cases hb : b = p
    · subst hb; rw [upd_same] at z; cases z
    · rw [upd_ne hb] at z; exact a.th b e z
/-- what was made since is frozen -/
theorem Fx.freeze (a : Fx X F H F1 H1) (s : Same F H) (n : H p = none) (e : H1 p = some o) : Fx X F H (upd F1 p o) H1 := by
  refine ⟨fun b u q => ?_, fun b u q => ?_, a.hh, a.th, fun b x q k => ?_⟩
  · have hb : b ≠ p := fun z => by rw [z, s.free n] at q; cases q
    rw [upd_ne hb]; exact a.ff b u q
  · by_cases hb : b = p
    · subst hb; rw [upd_same] at q; cases q; exact e
    · rw [upd_ne hb] at q; exact a.fh b u q
  · have hb : b ≠ p := fun z => by rw [z, n] at k; exact k rfl
    rw [upd_ne hb]; exact a.fr b x q k
/-- what X names is frozen -/
theorem Fx.freezeX (a : Fx X F H F1 H1) (x : X p) (nf : F p = none) (e : H1 p = some o) : Fx X F H (upd F1 p o) H1 := by
  refine ⟨fun b u q => ?_, fun b u q => ?_, a.hh, a.th, fun b nx q k => ?_⟩
  · have hb : b ≠ p := fun z => by rw [z, nf] at q; cases q
    rw [upd_ne hb]; exact a.ff b u q
  · by_cases hb : b = p
    · subst hb; rw [upd_same] at q; cases q; exact e
    · rw [upd_ne hb] at q; exact a.fh b u q
  · have hb : b ≠ p := fun z => nx (z ▸ x)
    rw [upd_ne hb]; exact a.fr b nx q k
/-- the same at the place itself -/
theorem frz_same (s : Same F H) (nf : F p = none) (e : H p = some o) : Same F (upd F p o) ∧ Same (upd F p o) H := by
  refine ⟨fun b u q => ?_, fun b u q => ?_⟩
  · rw [upd_ne (ne_of_none q nf)]; exact q
  · by_cases hb : b = p
    · subst hb; rw [upd_same] at q; cases q; exact e
    · rw [upd_ne hb] at q; exact s b u q

theorem Iss.length : ∀ {ds : List D} {vs : List V}, Iss K F ds vs → ds.length = vs.length
  | _, _, .nil => rfl
  | _, _, .cons _ r => by rw [List.length_cons, List.length_cons, Iss.length r]
theorem Iss.append : ∀ {ds es : List D} {vs ws : List V}, Iss K F ds vs → Iss K F es ws → Iss K F (ds ++ es) (vs ++ ws)
  | _, _, _, _, .nil, s => s
  | _, _, _, _, .cons r t, s => .cons r (Iss.append t s)
theorem Iss.snoc {ds : List D} {vs : List V} {d : D} {v : V} (h : Iss K F ds vs) (r : Is K F d v) : Iss K F (ds ++ [d]) (vs ++ [v]) := h.append (.cons r .nil)
theorem Iss.get : ∀ {ds : List D} {vs : List V} {i : Nat} {d : D}, Iss K F ds vs → ds[i]? = some d → ∃ v, vs[i]? = some v ∧ Is K F d v
  | _, _, _, _, .nil, e => by simp at e
  | _, _, 0, _, .cons r _, e => by simp at e; subst e; exact ⟨_, rfl, r⟩
  | _, _, i + 1, d, .cons _ t, e => by
    obtain ⟨v, h1, h2⟩ := Iss.get (i := i) (d := d) t (by simpa using e)
    exact ⟨v, by simpa using h1, h2⟩
theorem Iss.getV : ∀ {ds : List D} {vs : List V} {i : Nat} {v : V}, Iss K F ds vs → vs[i]? = some v → ∃ d, ds[i]? = some d ∧ Is K F d v
  | _, _, _, _, .nil, e => by simp at e
  | _, _, 0, _, .cons r _, e => by simp at e; subst e; exact ⟨_, rfl, r⟩
  | _, _, i + 1, d, .cons _ t, e => by
    obtain ⟨v, h1, h2⟩ := Iss.getV (i := i) (v := d) t (by simpa using e)
    exact ⟨v, by simpa using h1, h2⟩
theorem Iss.take : ∀ {ds : List D} {vs : List V} (n : Nat), Iss K F ds vs → Iss K F (ds.take n) (vs.take n)
  | _, _, 0, _ => .nil
  | _, _, _ + 1, .nil => .nil
  | _, _, n + 1, .cons r t => .cons r (Iss.take n t)
theorem Iss.drop : ∀ {ds : List D} {vs : List V} (n : Nat), Iss K F ds vs → Iss K F (ds.drop n) (vs.drop n)
  | _, _, 0, h => h
  | _, _, _ + 1, .nil => .nil
  | _, _, n + 1, .cons _ t => Iss.drop n t
theorem Iss.set : ∀ {ds : List D} {vs : List V} (n : Nat) {d : D} {v : V}, Is K F d v → Iss K F ds vs → Iss K F (ds.set n d) (vs.set n v)
  | _, _, _, _, _, _, .nil => .nil
  | _, _, 0, _, _, q, .cons _ t => .cons q t
  | _, _, n + 1, _, _, q, .cons r t => .cons r (Iss.set n q t)
theorem Iss.ints : ∀ {ns : List Int} {vs : List V}, Iss K F (ns.map D.int) vs → vs = ns.map V.int
  | [], _, .nil => rfl
  | n :: ns, _, .cons r t => by cases r; rw [List.map_cons, Iss.ints t]
theorem iss_ints : ∀ ns : List Int, Iss K F (ns.map D.int) (ns.map V.int)
  | [] => .nil
  | n :: ns => .cons (.int n) (iss_ints ns)
theorem Iss.strs : ∀ {ns : List Str} {vs : List V}, Iss K F (ns.map D.str) vs → vs = ns.map V.str
  | [], _, .nil => rfl
  | n :: ns, _, .cons r t => by cases r; rw [List.map_cons, Iss.strs t]
theorem iss_strs : ∀ ns : List Str, Iss K F (ns.map D.str) (ns.map V.str)
  | [] => .nil
  | n :: ns => .cons (.str n) (iss_strs ns)
theorem Iss.bls : ∀ {ns : List Bool} {vs : List V}, Iss K F (ns.map D.bl) vs → vs = ns.map V.bl
  | [], _, .nil => rfl
  | n :: ns, _, .cons r t => by cases r; rw [List.map_cons, Iss.bls t]
theorem Isf.lookup : ∀ {gs : List (Str × D)} {fs : List (Str × V)} {f : Str} {d : D}, Isf K F gs fs → gs.lookup f = some d → ∃ v, fs.lookup f = some v ∧ Is K F d v
  | _, _, _, _, .nil, e => by simp at e
  | _, _, f, d, .cons (f := g) r t, e => by
    rw [List.lookup_cons] at e ⊢
    cases h : f == g with
    | true => rw [h] at e; cases e; exact ⟨_, rfl, r⟩
    | false => rw [h] at e; exact Isf.lookup t e
theorem Isf.lookupN : ∀ {gs : List (Str × D)} {fs : List (Str × V)} {f : Str}, Isf K F gs fs → gs.lookup f = none → fs.lookup f = none
  | _, _, _, .nil, _ => rfl
  | _, _, f, .cons (f := g) r t, e => by
    rw [List.lookup_cons] at e ⊢
    cases h : f == g with
    | true => rw [h] at e; cases e
    | false => rw [h] at e; exact Isf.lookupN t e
end

/-! ### what an expression comes to -/
def Ev (K : PySem.W.Frag) (te : TE) (σ : St) (F H : Hp) (d : D) : Prop := ∀ F1 H1, Fz F H F1 H1 → ∀ Q : VK, (∀ v F2 H2, Fz F1 H1 F2 H2 → Is K F2 d v → Q v H2) → te σ H1 Q
def EvT (tt : TT) (σ : St) (F H : Hp) (b : Bool) : Prop := ∀ F1 H1, Fz F H F1 H1 → ∀ Q : Bool → Hp → Prop, (∀ F2 H2, Fz F1 H1 F2 H2 → Q b H2) → tt σ H1 Q
def EvA (K : PySem.W.Frag) (ta : TA) (σ : St) (F H : Hp) (ds : List D) : Prop := ∀ F1 H1, Fz F H F1 H1 → ∀ Q : List V → Hp → Prop, (∀ vs F2 H2, Fz F1 H1 F2 H2 → Iss K F2 ds vs → Q vs H2) → ta σ H1 Q
def EvO (to : TO) (σ : St) (F H : Hp) (o : Option Int) : Prop := ∀ F1 H1, Fz F H F1 H1 → ∀ Q : Option Int → Hp → Prop, (∀ F2 H2, Fz F1 H1 F2 H2 → Q o H2) → to σ H1 Q
/-- a two-place operation, a one-place one, a call, on data -/
def R2d (K : PySem.W.Frag) (r : R2) (d e z : D) : Prop := ∀ F H, Same F H → ∀ x y, Is K F d x → Is K F e y → ∀ Q : VK, (∀ v F2 H2, Fz F H F2 H2 → Is K F2 z v → Q v H2) → r x y H Q
def R1d (K : PySem.W.Frag) (r : V → Hp → VK → Prop) (d z : D) : Prop := ∀ F H, Same F H → ∀ x, Is K F d x → ∀ Q : VK, (∀ v F2 H2, Fz F H F2 H2 → Is K F2 z v → Q v H2) → r x H Q
def Rcd (K : PySem.W.Frag) (r : List V → Hp → VK → Prop) (ds : List D) (z : D) : Prop := ∀ F H, Same F H → ∀ xs, Iss K F ds xs → ∀ Q : VK, (∀ v F2 H2, Fz F H F2 H2 → Is K F2 z v → Q v H2) → r xs H Q
section
variable {K : PySem.W.Frag} {X : Addr → Prop} {σ : St} {F F1 H H1 : Hp} {ta tb tc te : TE} {t u : TT} {r r' : R2} {d e z : D} {v : V} {b : Bool}
theorem Ev.up (a : Fz F H F1 H1) (h : Ev K te σ F H d) : Ev K te σ F1 H1 d := fun F2 H2 z Q q => h F2 H2 (a.trans z) Q q
theorem EvT.up (a : Fz F H F1 H1) (h : EvT t σ F H b) : EvT t σ F1 H1 b := fun F2 H2 z Q q => h F2 H2 (a.trans z) Q q
theorem EvA.up {ta : TA} {ds : List D} (a : Fz F H F1 H1) (h : EvA K ta σ F H ds) : EvA K ta σ F1 H1 ds := fun F2 H2 z Q q => h F2 H2 (a.trans z) Q q
theorem Ev.go (s : Same F H) (h : Ev K te σ F H d) {Q : VK} (k : ∀ v F2 H2, Fz F H F2 H2 → Is K F2 d v → Q v H2) : te σ H Q := h F H (Fx.refl s) Q k
theorem EvT.go (s : Same F H) (h : EvT t σ F H b) {Q : Bool → Hp → Prop} (k : ∀ F2 H2, Fz F H F2 H2 → Q b H2) : t σ H Q := h F H (Fx.refl s) Q k
theorem EvA.go {ta : TA} {ds : List D} (s : Same F H) (h : EvA K ta σ F H ds) {Q : List V → Hp → Prop} (k : ∀ vs F2 H2, Fz F H F2 H2 → Iss K F2 ds vs → Q vs H2) : ta σ H Q := h F H (Fx.refl s) Q k
theorem Ev.cast (h : Ev K te σ F H d) (q : d = e) : Ev K te σ F H e := q ▸ h
theorem EvT.cast {b' : Bool} (h : EvT t σ F H b) (q : b = b') : EvT t σ F H b' := q ▸ h
theorem ev_var {i : Nat} (h : σ[i]? = some (some v)) (r : Is K F d v) : Ev K (tVar i) σ F H d := fun F1 H1 z Q q => ⟨v, h, q v F1 H1 (Fx.refl z.fh) (z.is r)⟩
theorem ev_int {i : Int} : Ev K (tC (.int i)) σ F H (.int i) := fun F1 H1 z Q q => q _ F1 H1 (Fx.refl z.fh) (.int i)
theorem ev_bl {i : Bool} : Ev K (tC (.bl i)) σ F H (.bl i) := fun F1 H1 z Q q => q _ F1 H1 (Fx.refl z.fh) (.bl i)
theorem ev_str {i : Str} : Ev K (tC (.str i)) σ F H (.str i) := fun F1 H1 z Q q => q _ F1 H1 (Fx.refl z.fh) (.str i)
theorem ev_non : Ev K (tC .non) σ F H .non := fun F1 H1 z Q q => q _ F1 H1 (Fx.refl z.fh) .non
/-- a constant of the module: a written tuple -/
theorem ev_con {a : Addr} (h : ∀ F, Is K F d (.ref a)) : Ev K (tC (.ref a)) σ F H d := fun F1 H1 z Q q => q _ F1 H1 (Fx.refl z.fh) (h F1)
theorem ev_op (ha : Ev K ta σ F H d) (hb : Ev K tb σ F H e) (hr : R2d K r d e z) : Ev K (tOp r ta tb) σ F H z := fun F1 H1 a Q q =>
  ha F1 H1 a _ fun x F2 H2 a2 hx => hb F2 H2 (a.trans a2) _ fun y F3 H3 a3 hy => hr F3 H3 a3.fh x y (a3.is hx) hy Q fun v F4 H4 a4 hv => q v F4 H4 ((a2.trans a3).trans a4) hv
theorem ev_un {r : V → Hp → VK → Prop} (ha : Ev K ta σ F H d) (hr : R1d K r d z) : Ev K (tUn r ta) σ F H z := fun F1 H1 a Q q =>
  ha F1 H1 a _ fun x F2 H2 a2 hx => hr F2 H2 a2.fh x hx Q fun v F4 H4 a4 hv => q v F4 H4 (a2.trans a4) hv
theorem ev_chain {c : D} {b1 : Bool} (ha : Ev K ta σ F H d) (hb : Ev K tb σ F H e) (hr : R2d K r d e (.bl b1)) (hc : b1 = true → Ev K tc σ F H c ∧ R2d K r' e c (.bl b)) (hn : b1 = false → b = false) : Ev K (tChain r r' ta tb tc) σ F H (.bl b) := fun F1 H1 a Q q =>
  ha F1 H1 a _ fun x F2 H2 a2 hx => hb F2 H2 (a.trans a2) _ fun y F3 H3 a3 hy => hr F3 H3 a3.fh x y (a3.is hx) hy _ fun v F4 H4 a4 hv => by
    cases hv
    refine ⟨b1, rfl, ?_⟩
    cases b1 with
    | false => rw [hn rfl] at q; exact iteF (q _ F4 H4 ((a2.trans a3).trans a4) (.bl false))
    | true =>
      obtain ⟨hc, hr'⟩ := hc rfl
      exact iteT (hc F4 H4 (a.trans ((a2.trans a3).trans a4)) _ fun w F5 H5 a5 hw => hr' F5 H5 a5.fh y w (a5.is (a4.is hy)) hw Q fun v F6 H6 a6 hv => q v F6 H6 ((((a2.trans a3).trans a4).trans a5).trans a6) hv)
theorem ea_nil : EvA K tNil σ F H [] := fun F1 H1 a Q q => q [] F1 H1 (Fx.refl a.fh) .nil
theorem ea_cons {tr : TA} {ds : List D} (ha : Ev K ta σ F H d) (hr : EvA K tr σ F H ds) : EvA K (tCons ta tr) σ F H (d :: ds) := fun F1 H1 a Q q =>
  ha F1 H1 a _ fun x F2 H2 a2 hx => hr F2 H2 (a.trans a2) _ fun xs F3 H3 a3 hxs => q (x :: xs) F3 H3 (a2.trans a3) (.cons (a3.is hx) hxs)
theorem ev_tup {ta : TA} {ds : List D} (ha : EvA K ta σ F H ds) (hz : ds.length ≤ sizeLine) : Ev K (tTup ta) σ F H (.tup ds) := fun F1 H1 a Q q =>
  ha F1 H1 a _ fun xs F2 H2 a2 hx => ⟨by rw [← hx.length]; exact hz, fun p hp => q _ (upd F2 p (.tup xs)) _ (a2.trans (Fx.lay a2.fh hp)) (.tup (.inl (.inl upd_same)) ((Fx.lay (X := Nox) (o := .tup xs) a2.fh hp).iss hx))⟩
theorem ev_lst {ta : TA} {ds : List D} (ha : EvA K ta σ F H ds) (hz : ds.length ≤ sizeLine) : Ev K (tLst ta) σ F H (.lst ds) := fun F1 H1 a Q q =>
  ha F1 H1 a _ fun xs F2 H2 a2 hx => ⟨by rw [← hx.length]; exact hz, fun p hp => q _ (upd F2 p (.lst xs)) _ (a2.trans (Fx.lay a2.fh hp)) (.lst upd_same ((Fx.lay (X := Nox) (o := .lst xs) a2.fh hp).iss hx))⟩
theorem ev_cb {r : List V → Hp → VK → Prop} {ta : TA} {ds : List D} (ha : EvA K ta σ F H ds) (hr : Rcd K r ds z) : Ev K (tCB r ta) σ F H z := fun F1 H1 a Q q =>
  ha F1 H1 a _ fun xs F2 H2 a2 hx => hr F2 H2 a2.fh xs hx Q fun v F3 H3 a3 hv => q v F3 H3 (a2.trans a3) hv
theorem ev_fld {C : Addr} {gs : List (Str × D)} {f : Str} (c : Cls K C) (n : NoAttr K C f) (ha : Ev K ta σ F H (.obj C gs)) (hl : gs.lookup f = some d) : Ev K (tFld K ta f) σ F H d := fun F1 H1 a Q q =>
  ha F1 H1 a _ fun x F2 H2 a2 hx => by
    cases hx with
    | obj h r =>
      obtain ⟨v, e, hv⟩ := r.lookup hl
      exact ⟨_, C, _, _, v, rfl, a2.fh _ _ h, c, n, e, q v F2 H2 a2 hv⟩
theorem ev_if {c : Bool} (h : EvT t σ F H c) (h1 : c = true → Ev K ta σ F H d) (h2 : c = false → Ev K tb σ F H d) : Ev K (tIf t ta tb) σ F H d := fun F1 H1 a Q q =>
  h F1 H1 a _ fun F2 H2 a2 => by
    cases c with
    | true => exact iteT (h1 rfl F2 H2 (a.trans a2) Q fun v F3 H3 a3 hv => q v F3 H3 (a2.trans a3) hv)
    | false => exact iteF (h2 rfl F2 H2 (a.trans a2) Q fun v F3 H3 a3 hv => q v F3 H3 (a2.trans a3) hv)
theorem ev_andV {x y : Bool} (h : Ev K ta σ F H (.bl x)) (h1 : x = true → Ev K tb σ F H (.bl y)) : Ev K (tAndV ta tb) σ F H (.bl (x && y)) := fun F1 H1 a Q q =>
  h F1 H1 a _ fun v F2 H2 a2 hv => by
    cases hv
    refine ⟨x, rfl, ?_⟩
    cases x with
    | true => exact iteT (h1 rfl F2 H2 (a.trans a2) Q fun v F3 H3 a3 hv => q v F3 H3 (a2.trans a3) hv)
    | false => exact iteF (q _ F2 H2 a2 (.bl false))
theorem ev_orV {x y : Bool} (h : Ev K ta σ F H (.bl x)) (h1 : x = false → Ev K tb σ F H (.bl y)) : Ev K (tOrV ta tb) σ F H (.bl (x || y)) := fun F1 H1 a Q q =>
  h F1 H1 a _ fun v F2 H2 a2 hv => by
    cases hv
    refine ⟨x, rfl, ?_⟩
    cases x with
    | false => exact iteF (h1 rfl F2 H2 (a.trans a2) Q fun v F3 H3 a3 hv => q v F3 H3 (a2.trans a3) hv)
    | true => exact iteT (q _ F2 H2 a2 (.bl true))
theorem ev_notV {x : Bool} (h : Ev K ta σ F H (.bl x)) : Ev K (tNotV ta) σ F H (.bl (!x)) := fun F1 H1 a Q q =>
  h F1 H1 a _ fun v F2 H2 a2 hv => by
    cases hv
    exact ⟨x, rfl, q _ F2 H2 a2 (.bl _)⟩
theorem et_B {x : Bool} (h : Ev K te σ F H (.bl x)) : EvT (tB te) σ F H x := fun F1 H1 a Q q => h F1 H1 a _ fun v F2 H2 a2 hv => by
  cases hv
  exact ⟨x, rfl, q F2 H2 a2⟩
theorem et_test {x : Bool} (h : Ev K te σ F H (.bl x)) : EvT (tTest te) σ F H x := fun F1 H1 a Q q => h F1 H1 a _ fun v F2 H2 a2 hv => by
  cases hv
  exact ⟨x, rfl, q F2 H2 a2⟩
theorem et_and {x y : Bool} (h1 : EvT t σ F H x) (h2 : x = true → EvT u σ F H y) : EvT (tAnd t u) σ F H (x && y) := fun F1 H1 a Q q => h1 F1 H1 a _ fun F2 H2 a2 => by
  cases x with
  | true => exact iteT (h2 rfl F2 H2 (a.trans a2) Q fun F3 H3 a3 => q F3 H3 (a2.trans a3))
  | false => exact iteF (q F2 H2 a2)
theorem et_or {x y : Bool} (h1 : EvT t σ F H x) (h2 : x = false → EvT u σ F H y) : EvT (tOr t u) σ F H (x || y) := fun F1 H1 a Q q => h1 F1 H1 a _ fun F2 H2 a2 => by
  cases x with
  | false => exact iteF (h2 rfl F2 H2 (a.trans a2) Q fun F3 H3 a3 => q F3 H3 (a2.trans a3))
  | true => exact iteT (q F2 H2 a2)
theorem et_not {x : Bool} (h1 : EvT t σ F H x) : EvT (tNot t) σ F H (!x) := fun F1 H1 a Q q => h1 F1 H1 a _ fun F2 H2 a2 => q F2 H2 a2
/-- truth of a value -/
def tTru (K : PySem.W.Frag) (ta : TE) : TT := fun σ H Q => ta σ H fun x H' => ∃ k, TruV K x H' k ∧ Q k H'
theorem eo_no : EvO tNoPart σ F H none := fun F1 H1 a Q q => q F1 H1 (Fx.refl a.fh)
theorem eo_some {i : Int} (h : Ev K te σ F H (.int i)) : EvO (tPart te) σ F H (some i) := fun F1 H1 a Q q => h F1 H1 a _ fun v F2 H2 a2 hv => by
  cases hv
  exact ⟨i, rfl, q F2 H2 a2⟩
/-- a slice -/
def Rsd (K : PySem.W.Frag) (r : V → Option Int → Option Int → Hp → VK → Prop) (d : D) (lo hi : Option Int) (z : D) : Prop :=
  ∀ F H, Same F H → ∀ x, Is K F d x → ∀ Q : VK, (∀ v F2 H2, Fz F H F2 H2 → Is K F2 z v → Q v H2) → r x lo hi H Q
theorem ev_sl {r : V → Option Int → Option Int → Hp → VK → Prop} {tl th : TO} {lo hi : Option Int} (ha : Ev K ta σ F H d) (hl : EvO tl σ F H lo) (hh : EvO th σ F H hi) (hr : Rsd K r d lo hi z) : Ev K (tSl r ta tl th) σ F H z := fun F1 H1 a Q q =>
  ha F1 H1 a _ fun x F2 H2 a2 hx => hl F2 H2 (a.trans a2) _ fun F3 H3 a3 => hh F3 H3 (a.trans (a2.trans a3)) _ fun F4 H4 a4 => hr F4 H4 a4.fh x (a4.is (a3.is hx)) Q fun v F5 H5 a5 hv => q v F5 H5 (((a2.trans a3).trans a4).trans a5) hv

/-! ### promises of defs that change nothing -/
/-- R: what the arguments come to -/
def Pu (K : PySem.W.Frag) (R : List D → D → Prop) : Sp := fun vs H Q _ => ∃ F ds d, Same F H ∧ Iss K F ds vs ∧ R ds d ∧ ∀ v F' H', Fz F H F' H' → Is K F' d v → Q v H'
theorem ev_call {R : List D → D → Prop} {ta : TA} {E : XK} {ds : List D} (ha : EvA K ta σ F H ds) (hr : R ds d) : Ev K (tCall (Pu K R) [] E ta) σ F H d := fun F1 H1 a Q q =>
  ha F1 H1 a _ fun xs F2 H2 a2 hx => ⟨F2, ds, d, a2.fh, by rw [List.append_nil]; exact hx, hr, fun v F3 H3 a3 hv => q v F3 H3 (a2.trans a3) hv⟩
theorem ev_meth {R : List D → D → Prop} {ta : TA} {E : XK} {ds : List D} {C : Addr} {m : Str} {gs : List (Str × D)} {to : TE} (ho : Ev K to σ F H (.obj C gs)) (hn : gs.lookup m = none) (ha : EvA K ta σ F H ds) (hr : R (.obj C gs :: ds) d) :
    Ev K (tMeth C m (Pu K R) [] E to ta) σ F H d := fun F1 H1 a Q q =>
  ho F1 H1 a _ fun x F2 H2 a2 hx => by
    have hx' := hx
    cases hx with
    | obj h r =>
      exact ⟨_, _, _, rfl, a2.fh _ _ h, r.lookupN hn, ha F2 H2 (a.trans a2) _ fun xs F3 H3 a3 hxs => ⟨F3, _, d, a3.fh, by rw [List.append_nil]; exact .cons (a3.is hx') hxs, hr, fun v F4 H4 a4 hv => q v F4 H4 ((a2.trans a3).trans a4) hv⟩⟩

/-! ### statements -/
variable {E : Ends} {ts tu : TS}
theorem s_asg {i : Nat} (s : Same F H) (h : Ev K te σ F H d) (k : ∀ v F2 H2, Fz F H F2 H2 → Is K F2 d v → E.nx (σ.set i (some v)) H2) : tAsg te (gName i) E σ H := h.go s k
theorem q_asg {i : Nat} (s : Same F H) (h : Ev K te σ F H d) (k : ∀ v F2 H2, Fz F H F2 H2 → Is K F2 d v → tu E (σ.set i (some v)) H2) : tSeq (tAsg te (gName i)) tu E σ H := h.go s k
theorem s_ret (s : Same F H) (h : Ev K te σ F H d) (k : ∀ v F2 H2, Fz F H F2 H2 → Is K F2 d v → E.rt v H2) : tRet te E σ H := h.go s k
theorem s_if (s : Same F H) (h : EvT t σ F H b) (h1 : b = true → ∀ F2 H2, Fz F H F2 H2 → ts E σ H2) (h2 : b = false → ∀ F2 H2, Fz F H F2 H2 → tu E σ H2) : tIfS t ts tu E σ H := h.go s fun F2 H2 a => by
  cases b with
  | true => exact iteT (h1 rfl F2 H2 a)
  | false => exact iteF (h2 rfl F2 H2 a)
theorem q_if {tw : TS} (s : Same F H) (h : EvT t σ F H b) (h1 : b = true → ∀ F2 H2, Fz F H F2 H2 → ts { E with nx := tw E } σ H2) (h2 : b = false → ∀ F2 H2, Fz F H F2 H2 → tu { E with nx := tw E } σ H2) : tSeq (tIfS t ts tu) tw E σ H := s_if (E := { E with nx := tw E }) s h h1 h2
theorem q_when {tw : TS} (s : Same F H) (h : EvT t σ F H b) (h1 : b = true → ∀ F2 H2, Fz F H F2 H2 → ts { E with nx := tw E } σ H2) (h2 : b = false → ∀ F2 H2, Fz F H F2 H2 → tw E σ H2) : tSeq (tIfS t ts tNext) tw E σ H := s_if (E := { E with nx := tw E }) s h h1 h2
theorem s_drop (s : Same F H) (h : Ev K te σ F H d) (k : ∀ F2 H2, Fz F H F2 H2 → E.nx σ H2) : tDrop te E σ H := h.go s fun _ F2 H2 a _ => k F2 H2 a
/-- x = [] that will be appended to: a new list that may change -/
theorem q_new {i : Nat} (k : ∀ p, H p = none → tu E (σ.set i (some (.ref p))) (upd H p (.lst []))) : tSeq (tAsg (tLst tNil) (gName i)) tu E σ H := ⟨Nat.zero_le _, k⟩
/-- l.append(e), l a name that holds a list that may change -/
theorem s_app {i : Nat} {l : Addr} {xs : List V} (s : Same F H) (hi : σ[i]? = some (some (.ref l))) (nf : F l = none) (hl : H l = some (.lst xs)) (hz : xs.length < sizeLine) (h : Ev K te σ F H d)
    (k : ∀ v F2 H2, Fz F H F2 H2 → Is K F2 d v → F2 l = none → E.nx σ (upd H2 l (.lst (xs ++ [v])))) : tDrop (tBM K "list" rAppend (tVar i) (tCons te tNil)) E σ H :=
  ⟨.ref l, hi, .inl ⟨rfl, xs, SqL.of hl⟩, h.go s fun v F2 H2 a hv => ⟨l, xs, v, rfl, rfl, (a.m nf hl id).1, hz, k v F2 H2 a hv (a.m nf hl id).2⟩⟩
end

/-! ### walks -/
/-- what a walk gives, turn by turn -/
def Wj (K : PySem.W.Frag) (J : It) (F1 : Hp) (ds : List D) : Prop := ∃ (G : Hp → Prop) (Y : Nat → Hp → V → Hp → Prop), Walk J ds.length G Y ∧ (∀ F2 H2, Same F1 F2 → Same F2 H2 → G H2) ∧
  ∀ i d F2 H2 x H3, ds[i]? = some d → Same F1 F2 → Same F2 H2 → Y i H2 x H3 → ∃ F3, Fz F2 H2 F3 H3 ∧ Is K F3 d x
def Wa (K : PySem.W.Frag) (wi : TI) (σ : St) (F H : Hp) (ds : List D) : Prop := ∀ F1 H1, Fz F H F1 H1 → ∀ R : It → Hp → Prop, (∀ J F2 H2, Fz F1 H1 F2 H2 → Wj K J F2 ds → R J H2) → wi σ H1 R
section
variable {K : PySem.W.Frag} {X : Addr → Prop} {σ : St} {F F1 H H1 : Hp} {te : TE} {wi : TI} {ds : List D} {E : Ends} {ts tu : TS} {g : TG} {tt : TT} {vs : List Nat}
theorem wa_list (h : Ev K te σ F H (.lst ds)) : Wa K (iList K te) σ F H ds := fun F1 H1 a R q => h F1 H1 a _ fun v F2 H2 a2 hv => by
  cases hv with
  | @lst l xs _ hl hx =>
    refine ⟨l, rfl, ⟨xs, SqL.of (a2.fh _ _ hl)⟩, q _ F2 H2 a2 ⟨_, _, by rw [hx.length]; exact walk_list, fun F3 H3 s1 s2 => SqL.of (s2 _ _ (s1 _ _ hl)), fun i d F3 H3 x H4 hi s1 s2 y => ?_⟩⟩
    obtain ⟨rfl, y2⟩ := y
    obtain ⟨w, e, hw⟩ := hx.get hi
    rw [y2] at e; cases e
    exact ⟨F3, Fx.refl s2, hw.up s1⟩
theorem wa_tup (h : Ev K te σ F H (.tup ds)) : Wa K (iTup K te) σ F H ds := fun F1 H1 a R q => h F1 H1 a _ fun v F2 H2 a2 hv => by
  cases hv with
  | @tup l xs _ hl hx =>
    refine ⟨l, rfl, ⟨xs, sqT_up a2.fh hl⟩, q _ F2 H2 a2 ⟨_, _, by rw [hx.length]; exact walk_tup, fun F3 H3 s1 s2 => sqT_up s2 (sqT_up s1 hl), fun i d F3 H3 x H4 hi s1 s2 y => ?_⟩⟩
    obtain ⟨rfl, y2⟩ := y
    obtain ⟨w, e, hw⟩ := hx.get hi
    rw [y2] at e; cases e
    exact ⟨F3, Fx.refl s2, hw.up s1⟩
theorem wa_range {ta : TA} {n : Int} (h : EvA K ta σ F H [.int n]) (h0 : n < 2 ^ 62) (h1 : -(2 ^ 62) ≤ n) : Wa K (iRng1 ta) σ F H ((List.range n.toNat).map fun i => D.int (i : Nat)) := fun F1 H1 a R q => h F1 H1 a _ fun vs F2 H2 a2 hv => by
  cases hv with
  | cons r t =>
    cases r; cases t
    refine ⟨n, rfl, h1, h0, q _ F2 H2 a2 ⟨_, _, by rw [List.length_map, List.length_range]; exact walk_range, fun _ _ _ _ => trivial, fun i d F3 H3 x H4 hi s1 s2 y => ?_⟩⟩
    obtain ⟨rfl, y2⟩ := y
    rw [List.getElem?_map] at hi
    cases hj : (List.range n.toNat)[i]? with
    | none => rw [hj] at hi; cases hi
    | some j =>
      rw [hj] at hi; cases hi
      have : j = i := by
        have := List.getElem?_eq_some_iff.mp hj
        obtain ⟨_, e⟩ := this
        rw [List.getElem_range] at e; exact e.symm
      subst this
      rw [y2]
      refine ⟨F3, Fx.refl s2, ?_⟩
      show Is K F3 (.int (j : Nat)) (.int (0 + (j : Nat)))
      rw [Int.zero_add]
      exact .int _
theorem wa_range2 {ta : TA} {m n : Int} (h : EvA K ta σ F H [.int m, .int n]) (h0 : -(2 ^ 62) ≤ m ∧ m < 2 ^ 62 ∧ -(2 ^ 62) ≤ n ∧ n < 2 ^ 62) : Wa K (iRng2 ta) σ F H ((List.range (n - m).toNat).map fun i => D.int (m + (i : Nat))) := fun F1 H1 a R q => h F1 H1 a _ fun vs F2 H2 a2 hv => by
  cases hv with
  | cons r t =>
    cases r
    cases t with
    | cons r t =>
    cases r; cases t
    refine ⟨m, n, rfl, h0, q _ F2 H2 a2 ⟨_, _, by rw [List.length_map, List.length_range]; exact walk_range, fun _ _ _ _ => trivial, fun i d F3 H3 x H4 hi s1 s2 y => ?_⟩⟩
    obtain ⟨rfl, y2⟩ := y
    rw [List.getElem?_map] at hi
    cases hj : (List.range (n - m).toNat)[i]? with
    | none => rw [hj] at hi; cases hi
    | some j =>
      rw [hj] at hi; cases hi
      have : j = i := by
        have := List.getElem?_eq_some_iff.mp hj
        obtain ⟨_, e⟩ := this
        rw [List.getElem_range] at e; exact e.symm
      subst this
      rw [y2]
      exact ⟨F3, Fx.refl s2, .int _⟩
/-- a text, sign by sign -/
theorem wa_str {z : Str} (h : Ev K te σ F H (.str z)) : Wa K (iStr te) σ F H (z.cps.toList.map fun c => D.str ⟨#[c]⟩) := fun F1 H1 a R q => h F1 H1 a _ fun v F2 H2 a2 hv => by
  cases hv
  refine ⟨z, rfl, q _ F2 H2 a2 ⟨_, _, by rw [List.length_map, Array.length_toList]; exact walk_str, fun _ _ _ _ => trivial, fun i d F3 H3 x H4 hi s1 s2 y => ?_⟩⟩
  obtain ⟨rfl, c, hc, rfl⟩ := y
  rw [List.getElem?_map, Array.getElem?_toList, hc] at hi
  cases hi
  exact ⟨F3, Fx.refl s2, .str _⟩

/-- for over a walk: Pv by the items behind and those ahead -/
theorem s_for (s : Same F H) (w : Wa K wi σ F H ds) (Pv : List D → List D → St → Hp → Hp → Prop) (h0 : ∀ F1 H1, Fz F H F1 H1 → Pv [] ds σ F1 H1) (hp : ∀ pre post σ' F' H', Pv pre post σ' F' H' → Same F' H')
    (hs : ∀ B pre d post σ' F' H' x F2 H2, ds = pre ++ d :: post → Same B F' → Pv pre (d :: post) σ' F' H' → Fz F' H' F2 H2 → Is K F2 d x →
      g x σ' H2 fun σ2 H3 => ts { E with nx := fun σ'' H'' => ∃ F'', Same B F'' ∧ Pv (pre ++ [d]) post σ'' F'' H'', ct := fun σ'' H'' => ∃ F'', Same B F'' ∧ Pv (pre ++ [d]) post σ'' F'' H'', bk := E.nx } σ2 H3)
    (hd : ∀ σ' F' H', Pv ds [] σ' F' H' → E.nx σ' H') : tFor wi g ts E σ H := by
  refine w F H (Fx.refl s) _ fun J F2 H2 a2 ⟨G, Y, wk, hG, hY⟩ => ?_
  refine for_it wk (fun i σ' H' => ∃ F', Same F2 F' ∧ Pv (ds.take i) (ds.drop i) σ' F' H') ⟨F2, .refl _, by rw [List.take_zero, List.drop_zero]; exact h0 F2 H2 a2⟩ (fun i σ' H' hi ⟨F', s1, p⟩ => hG F' H' s1 (hp _ _ _ _ _ p)) (fun i x σ' H' H3 hi ⟨F', s1, p⟩ y => ?_) (fun σ' H' ⟨F', s1, p⟩ => ?_)
  · have hi' : ds[i]? = some ds[i] := List.getElem?_eq_getElem hi
    obtain ⟨F3, a3, hx⟩ := hY i _ F' H' x H3 hi' s1 (hp _ _ _ _ _ p) y
    have ed : ds.drop i = ds[i] :: ds.drop (i + 1) := List.drop_eq_getElem_cons hi
    have et : ds.take (i + 1) = ds.take i ++ [ds[i]] := by rw [List.take_add_one, hi']; rfl
    rw [ed] at p
    have q := hs F2 (ds.take i) ds[i] (ds.drop (i + 1)) σ' F' H' x F3 H3 (by rw [← ed, List.take_append_drop]) s1 p a3 hx
    rw [et]; exact q
  · rw [List.take_length, List.drop_length] at p
    exact hd σ' F' H' p
end
end Eg
/-! Operations on data: one rule for a Python operator, its answers on data trees. -/
namespace Eg
open PySem PySem.Spec L2

/-! ### data as the library's data -/
mutual
def py : D → PyData
  | .non => .none
  | .bl b => .bool b
  | .int i => .int i
  | .str s => .str s
  | .lst ds => .list (pys ds)
  | .tup ds => .tuple (pys ds)
  | .obj _ _ => .none
  | .dic _ => .none
def pys : List D → List PyData
  | [] => []
  | d :: ds => py d :: pys ds
end
/-- ints, texts, None, lists and tuples of these, at most n deep -/
def pl : Nat → D → Bool
  | _, .non => true
  | _, .int _ => true
  | _, .str s => PyData.strOk s
  | n + 1, .lst ds => ds.all (pl n)
  | n + 1, .tup ds => ds.all (pl n)
  | _, _ => false
/-- .. and truth values -/
def pb : Nat → D → Bool
  | _, .non => true
  | _, .int _ => true
  | _, .str s => PyData.strOk s
  | _, .bl _ => true
  | n + 1, .lst ds => ds.all (pb n)
  | n + 1, .tup ds => ds.all (pb n)
  | _, _ => false
theorem pys_map : ∀ ds : List D, pys ds = ds.map py
  | [] => by rw [pys]; rfl
  | d :: ds => by rw [pys, pys_map ds]; rfl
theorem all_imp {α : Type} {p q : α → Bool} (h : ∀ x, p x = true → q x = true) : ∀ l : List α, l.all p = true → l.all q = true
  | [], _ => rfl
  | x :: l, e => by
    rw [List.all_cons, Bool.and_eq_true] at e ⊢
    exact ⟨h x e.1, all_imp h l e.2⟩
theorem pb_of_pl : ∀ (n : Nat) (d : D), pl n d = true → pb n d = true
  | n, .non, _ => by cases n <;> rfl
  | n, .int _, _ => by cases n <;> rfl
  | n, .str _, h => by cases n <;> exact h
  | n + 1, .lst ds, h => all_imp (pb_of_pl n) ds h
  | n + 1, .tup ds, h => all_imp (pb_of_pl n) ds h
  | 0, .lst _, h => by cases h
  | 0, .tup _, h => by cases h
  | n, .bl _, h => by cases n <;> cases h
  | n, .obj _ _, h => by cases n <;> cases h
  | n, .dic _, h => by cases n <;> cases h
section
variable {K : PySem.W.Frag} {F H : Hp}
theorem dps_of {p : D → Bool} (h : ∀ (d : D) (v : V), p d = true → Is K F d v → Dp K F v (py d)) : ∀ (ds : List D) (vs : List V), ds.all p = true → Iss K F ds vs → DpAll K F vs (pys ds)
  | [], _, _, .nil => by rw [pys]; exact .nil
  | d :: ds, _, e, .cons r t => by
    rw [List.all_cons, Bool.and_eq_true] at e
    rw [pys]
    exact .cons (h d _ e.1 r) (dps_of h ds _ e.2 t)
theorem dp_of : ∀ (n : Nat) (d : D) (v : V), pb n d = true → Is K F d v → Dp K F v (py d)
  | _, .non, _, _, .non => by rw [py]; exact .non
  | _, .bl b, _, _, .bl _ => by rw [py]; exact .bl b
  | _, .int i, _, _, .int _ => by rw [py]; exact .int i
  | _, .str i, _, _, .str _ => by rw [py]; exact .str i
  | n + 1, .lst ds, _, e, .lst h r => by rw [py]; exact .lst (SqL.of h) (dps_of (dp_of n) ds _ e r)
  | n + 1, .tup ds, _, e, .tup h r => by rw [py]; exact .tup h (dps_of (dp_of n) ds _ e r)
  | 0, .lst _, _, e, _ => by cases e
  | 0, .tup _, _, e, _ => by cases e
  | n, .obj _ _, _, e, _ => by cases n <;> cases e
  | n, .dic _, _, e, _ => by cases n <;> cases e
theorem lays_of {p : D → Bool} (h : ∀ d, p d = true → (py d).canLay0 = true) : ∀ ds : List D, ds.all p = true → PyData.canLayAll0 (pys ds) = true
  | [], _ => by rw [pys]; simp [PyData.canLayAll0]
  | d :: ds, e => by
    rw [List.all_cons, Bool.and_eq_true] at e
    rw [pys]
    simp [PyData.canLayAll0, h d e.1, lays_of h ds e.2]
theorem lay_of : ∀ (n : Nat) (d : D), pb n d = true → (py d).canLay0 = true
  | _, .non, _ => by rw [py]; simp [PyData.canLay0]
  | _, .bl b, _ => by rw [py]; simp [PyData.canLay0]
  | _, .int i, _ => by rw [py]; simp [PyData.canLay0]
  | n, .str i, h => by rw [py]; simp only [PyData.canLay0]; cases n <;> exact h
  | n + 1, .lst ds, e => by rw [py]; simp only [PyData.canLay0]; exact lays_of (lay_of n) ds e
  | n + 1, .tup ds, e => by rw [py]; simp only [PyData.canLay0]; exact lays_of (lay_of n) ds e
  | 0, .lst _, e => by cases e
  | 0, .tup _, e => by cases e
  | n, .obj _ _, e => by cases n <;> cases e
  | n, .dic _, e => by cases n <;> cases e
theorem deps_of {p : D → Bool} {n : Nat} (h : ∀ d, p d = true → (py d).depth ≤ n) : ∀ ds : List D, ds.all p = true → PyData.depthAll (pys ds) ≤ n
  | [], _ => by rw [pys]; simp [PyData.depthAll]
  | d :: ds, e => by
    rw [List.all_cons, Bool.and_eq_true] at e
    have h1 := h d e.1
    have h2 := deps_of h ds e.2
    rw [pys]
    simp only [PyData.depthAll]
    omega
theorem dep_of : ∀ (n : Nat) (d : D), pb n d = true → (py d).depth ≤ n + 1
  | _, .non, _ => by rw [py]; simp [PyData.depth]
  | _, .bl b, _ => by rw [py]; simp [PyData.depth]
  | _, .int i, _ => by rw [py]; simp [PyData.depth]
  | _, .str i, _ => by rw [py]; simp [PyData.depth]
  | n + 1, .lst ds, e => by
    have := deps_of (dep_of n) ds e
    rw [py]; simp only [PyData.depth]; omega
  | n + 1, .tup ds, e => by
    have := deps_of (dep_of n) ds e
    rw [py]; simp only [PyData.depth]; omega
  | 0, .lst _, e => by cases e
  | 0, .tup _, e => by cases e
  | n, .obj _ _, e => by cases n <;> cases e
  | n, .dic _, e => by cases n <;> cases e
theorem shp_of {d : D} {n : Nat} (h : pb n d = true) (hn : n ≤ 60) : SeqAt.shaped (py d) = true := by
  have h1 := lay_of n d h
  have h2 := dep_of n d h
  show ((py d).canLay0 && decide ((py d).depth ≤ 64)) = true
  rw [Bool.and_eq_true]
  exact ⟨h1, decide_eq_true (by omega)⟩
/-- data without truth values are equal if Python says so -/
theorem eqvs_iff {p : D → Bool} (h : ∀ d e, p d = true → p e = true → (PyData.eqv (py d) (py e) = true ↔ d = e)) : ∀ ds es : List D, ds.all p = true → es.all p = true → (PyData.eqvAll (pys ds) (pys es) = true ↔ ds = es)
  | [], [], _, _ => by rw [pys]; simp [PyData.eqvAll]
  | [], e :: es, _, _ => by rw [pys, pys]; simp [PyData.eqvAll]
  | d :: ds, [], _, _ => by rw [pys, pys]; simp [PyData.eqvAll]
  | d :: ds, e :: es, a, b => by
    rw [List.all_cons, Bool.and_eq_true] at a b
    rw [pys, pys]
    simp only [PyData.eqvAll, Bool.and_eq_true, h d e a.1 b.1, eqvs_iff h ds es a.2 b.2, List.cons.injEq]
theorem eqv_iff : ∀ (n : Nat) (d e : D), pl n d = true → pl n e = true → (PyData.eqv (py d) (py e) = true ↔ d = e) := by
  intro n
  induction n with
  | zero =>
    intro d e a b
    cases d with
    | lst _ => cases a
    | tup _ => cases a
    | bl _ => cases a
    | obj _ _ => cases a
    | dic _ => cases a
    | _ => cases e with
      | lst _ => cases b
      | tup _ => cases b
      | bl _ => cases b
      | obj _ _ => cases b
      | dic _ => cases b
      | _ => simp [py, PyData.eqv]
  | succ n ih =>
    intro d e a b
    cases d with
    | lst ds =>
      cases e with
      | lst es =>
        have := eqvs_iff ih ds es a b
        rw [py, py]; simp only [PyData.eqv, this, D.lst.injEq]
      | bl _ => cases b
      | obj _ _ => cases b
      | dic _ => cases b
      | _ => simp [py, PyData.eqv]
    | tup ds =>
      cases e with
      | tup es =>
        have := eqvs_iff ih ds es a b
        rw [py, py]; simp only [PyData.eqv, this, D.tup.injEq]
      | bl _ => cases b
      | obj _ _ => cases b
      | dic _ => cases b
      | _ => simp [py, PyData.eqv]
    | bl _ => cases a
    | obj _ _ => cases a
    | dic _ => cases a
    | _ => cases e with
      | bl _ => cases b
      | obj _ _ => cases b
      | dic _ => cases b
      | _ => simp [py, PyData.eqv]
/-- equal as Python says -/
def deq (d e : D) : Bool := PyData.eqv (py d) (py e)
theorem deq_iff {n : Nat} {d e : D} (a : pl n d = true) (b : pl n e = true) : deq d e = true ↔ d = e := eqv_iff n d e a b
end

/-! ### the operators -/
def rAddS : R2 := fun x y H Q => ∃ i j, x = .str i ∧ y = .str j ∧ i.length + j.length ≤ sizeLine ∧ Q (.str (i ++ j)) H
def rAddA (K : PySem.W.Frag) : R2 := fun x y H Q => (rI0 fun i j => .int (i + j)) x y H Q ∨ (rAddS x y H Q ∨ (rCatA K x y H Q ∨ rCat x y H Q))
def rEqA (K : PySem.W.Frag) : R2 := fun x y H Q => rEq x y H Q ∨ rEqD K x y H Q
def rNeA (K : PySem.W.Frag) : R2 := fun x y H Q => rNe x y H Q ∨ rNeD K x y H Q
/-- x in c: c a list, a tuple, a text, a dict -/
def rInT (K : PySem.W.Frag) : R2 := fun x y H Q => ∃ d ds, Dp K H x d ∧ Dp K H y (.tuple ds) ∧ SeqAt.shaped d = true ∧ SeqAt.shaped (.tuple ds) = true ∧ Q (.bl (ds.any fun z => PyData.eqv z d)) H
def rNotInT (K : PySem.W.Frag) : R2 := fun x y H Q => ∃ d ds, Dp K H x d ∧ Dp K H y (.tuple ds) ∧ SeqAt.shaped d = true ∧ SeqAt.shaped (.tuple ds) = true ∧ Q (.bl (!ds.any fun z => PyData.eqv z d)) H
def rInS : R2 := fun x y H Q => ∃ (c : Nat) (z : Str), x = .str ⟨#[c]⟩ ∧ y = .str z ∧ Q (.bl (decide (c ∈ z.cps.toList))) H
def rNotInS : R2 := fun x y H Q => ∃ (c : Nat) (z : Str), x = .str ⟨#[c]⟩ ∧ y = .str z ∧ Q (.bl (!decide (c ∈ z.cps.toList))) H
def rInA (K : PySem.W.Frag) : R2 := fun x y H Q => rInD K x y H Q ∨ (rInT K x y H Q ∨ rInS x y H Q)
def rNotInA (K : PySem.W.Frag) : R2 := fun x y H Q => rNotInD K x y H Q ∨ (rNotInT K x y H Q ∨ rNotInS x y H Q)
section
variable {X : Cx}
theorem op_addA : OpR X (binaryOp .Add) (rAddA X.K) := OpR.or op_add (OpR.or op_add_str (OpR.or op_catA op_cat))
theorem op_eqA {k : Nat} (hr : Room k X.A) : OpR X (compareOp .Eq) (rEqA X.K) := OpR.or op_eq (op_eqD hr.units)
theorem op_neA {k : Nat} (hr : Room k X.A) : OpR X (compareOp .NotEq) (rNeA X.K) := OpR.or op_ne (op_neD hr.units)
theorem room65 {k : Nat} {A : Around} (r : Room (k + 1) A) : A.units + 65 < cLine := by have := (r.in1).units; exact this
theorem op_inT (hu : X.A.units + 65 < cLine) : OpR X (compareOp .In) (rInT X.K) := by
  intro pins s σ H x y v u Q I rx ry h
  obtain ⟨d, ds, hd, he, sd, se, q⟩ := h
  obtain ⟨as, r1⟩ := Dp.reads I d x v hd rx
  obtain ⟨bs, r2⟩ := Dp.reads I (.tuple ds) y u he ry
  exact SeqAt.in_tuple_reads r2 r1 (SeqAt.canLay_of_shaped se) (SeqAt.canLay_of_shaped sd) (PyProof.Rows.room_in_shaped sd hu) ⟨.bl _, H, I, rfl, q⟩
theorem op_notInT (hu : X.A.units + 65 < cLine) : OpR X (compareOp .NotIn) (rNotInT X.K) := by
  intro pins s σ H x y v u Q I rx ry h
  obtain ⟨d, ds, hd, he, sd, se, q⟩ := h
  obtain ⟨as, r1⟩ := Dp.reads I d x v hd rx
  obtain ⟨bs, r2⟩ := Dp.reads I (.tuple ds) y u he ry
  exact SeqAt.notIn_tuple_reads r2 r1 (SeqAt.canLay_of_shaped se) (SeqAt.canLay_of_shaped sd) (PyProof.Rows.room_in_shaped sd hu) ⟨.bl _, H, I, rfl, q⟩
theorem op_inA {k : Nat} (hr : Room (k + 1) X.A) : OpR X (compareOp .In) (rInA X.K) := OpR.or (op_inD (room65 hr)) (OpR.or (op_inT (room65 hr)) op_in_sign)
theorem op_notInA {k : Nat} (hr : Room (k + 1) X.A) : OpR X (compareOp .NotIn) (rNotInA X.K) := OpR.or (op_notInD (room65 hr)) (OpR.or (op_notInT (room65 hr)) op_notIn_sign)
end

/-! ### answers on data -/
section
variable {K : PySem.W.Frag} {d e z : D} {i j : Int} {a b : Str} {ds es : List D}
theorem q_same {F H : Hp} {Q : VK} {v : V} (s : Same F H) (h : Is K F z v) (q : ∀ v F2 H2, Fz F H F2 H2 → Is K F2 z v → Q v H2) : Q v H := q v F H (Fx.refl s) h
theorem r2_I {C : Int → Int → Prop} {g : Int → Int → V} (hc : C i j) (hz : ∀ F, Is K F z (g i j)) : R2d K (rI C g) (.int i) (.int j) z := fun F H s x y hx hy Q q => by
  cases hx; cases hy
  exact ⟨i, j, rfl, rfl, hc, q_same s (hz F) q⟩
theorem r2_I0 {g : Int → Int → V} (hz : ∀ F, Is K F z (g i j)) : R2d K (rI0 g) (.int i) (.int j) z := fun F H s x y hx hy Q q => by
  cases hx; cases hy
  exact ⟨i, j, rfl, rfl, q_same s (hz F) q⟩
theorem r2_addI : R2d K (rAddA K) (.int i) (.int j) (.int (i + j)) := fun F H s x y hx hy Q q => .inl (r2_I0 (fun _ => .int _) F H s x y hx hy Q q)
theorem r2_addS (hz : a.length + b.length ≤ sizeLine) : R2d K (rAddA K) (.str a) (.str b) (.str (a ++ b)) := fun F H s x y hx hy Q q => by
  cases hx; cases hy
  exact .inr (.inl ⟨a, b, rfl, rfl, hz, q_same s (.str _) q⟩)
theorem r2_addT (hz : ds.length + es.length ≤ sizeLine) : R2d K (rAddA K) (.tup ds) (.tup es) (.tup (ds ++ es)) := fun F H s x y hx hy Q q => by
  have hx' := hx
  have hy' := hy
  cases hx with
  | @tup p xs _ h1 r1 =>
    cases hy with
    | @tup p' ys _ h2 r2 =>
      refine .inr (.inr (.inl ⟨p, p', xs, ys, rfl, rfl, sqT_up s h1, sqT_up s h2, by rw [← r1.length, ← r2.length]; exact hz, fun e => ?_, fun _ e => ?_, fun _ _ m hm => ?_⟩))
      · subst e; cases r1; exact q_same s hy' q
      · subst e; cases r2; rw [List.append_nil] at q; exact q_same s hx' q
      · exact q _ (upd F m (.tup (xs ++ ys))) _ (Fx.lay s hm) (.tup (.inl (.inl upd_same)) ((Fx.lay (X := Nox) (o := .tup (xs ++ ys)) s hm).iss (r1.append r2)))
theorem r2_addL (hz : ds.length + es.length ≤ sizeLine) : R2d K (rAddA K) (.lst ds) (.lst es) (.lst (ds ++ es)) := fun F H s x y hx hy Q q => by
  cases hx with
  | @lst p xs _ h1 r1 =>
    cases hy with
    | @lst p' ys _ h2 r2 =>
      refine .inr (.inr (.inr ⟨p, p', xs, ys, rfl, rfl, s _ _ h1, s _ _ h2, by rw [← r1.length, ← r2.length]; exact hz, fun m hm => ?_⟩))
      exact q _ (upd F m (.lst (xs ++ ys))) _ (Fx.lay s hm) (.lst upd_same ((Fx.lay (X := Nox) (o := .lst (xs ++ ys)) s hm).iss (r1.append r2)))
theorem r2_sub : R2d K (rI0 fun i j => .int (i - j)) (.int i) (.int j) (.int (i - j)) := r2_I0 fun _ => .int _
theorem r2_mul (hc : CMul i j) : R2d K (rI CMul fun i j => .int (i * j)) (.int i) (.int j) (.int (i * j)) := r2_I hc fun _ => .int _
theorem r2_fdiv (hc : CDivN i j) : R2d K (rI CDivN fun i j => .int (i.fdiv j)) (.int i) (.int j) (.int (i.fdiv j)) := r2_I hc fun _ => .int _
theorem r2_mod (hc : j ≠ 0) : R2d K (rI (fun _ j => j ≠ 0) fun i j => .int (i.fmod j)) (.int i) (.int j) (.int (i.fmod j)) := r2_I (C := fun _ j => j ≠ 0) hc fun _ => .int _
theorem r2_pow (hc : CPow i j) : R2d K (rI CPow fun i j => .int (i ^ j.toNat)) (.int i) (.int j) (.int (i ^ j.toNat)) := r2_I hc fun _ => .int _
theorem r2_lt : R2d K (rI0 fun i j => .bl (decide (i < j))) (.int i) (.int j) (.bl (decide (i < j))) := r2_I0 fun _ => .bl _
theorem r2_le : R2d K (rI0 fun i j => .bl (decide (i ≤ j))) (.int i) (.int j) (.bl (decide (i ≤ j))) := r2_I0 fun _ => .bl _
theorem r2_gt : R2d K (rI0 fun i j => .bl (decide (j < i))) (.int i) (.int j) (.bl (decide (j < i))) := r2_I0 fun _ => .bl _
theorem r2_ge : R2d K (rI0 fun i j => .bl (decide (j ≤ i))) (.int i) (.int j) (.bl (decide (j ≤ i))) := r2_I0 fun _ => .bl _
theorem dec_i : decide (V.int i = V.int j) = decide (i = j) := by
  by_cases h : i = j
  · subst h; simp
  · rw [decide_eq_false h]; exact decide_eq_false fun z => h (V.int.inj z)
theorem dec_s : decide (V.str a = V.str b) = decide (a = b) := by
  by_cases h : a = b
  · subst h; simp
  · rw [decide_eq_false h]; exact decide_eq_false fun z => h (V.str.inj z)
theorem r2_eqI : R2d K (rEqA K) (.int i) (.int j) (.bl (decide (i = j))) := fun F H s x y hx hy Q q => by
  cases hx; cases hy
  exact .inl ⟨rfl, by rw [dec_i]; exact q_same s (.bl _) q⟩
theorem r2_eqS : R2d K (rEqA K) (.str a) (.str b) (.bl (decide (a = b))) := fun F H s x y hx hy Q q => by
  cases hx; cases hy
  exact .inl ⟨rfl, by rw [dec_s]; exact q_same s (.bl _) q⟩
theorem r2_neI : R2d K (rNeA K) (.int i) (.int j) (.bl (!decide (i = j))) := fun F H s x y hx hy Q q => by
  cases hx; cases hy
  exact .inl ⟨rfl, by rw [dec_i]; exact q_same s (.bl _) q⟩
theorem r2_neS : R2d K (rNeA K) (.str a) (.str b) (.bl (!decide (a = b))) := fun F H s x y hx hy Q q => by
  cases hx; cases hy
  exact .inl ⟨rfl, by rw [dec_s]; exact q_same s (.bl _) q⟩
theorem r2_eqD {n : Nat} (hn : n ≤ 60) (h1 : pb n d = true) (h2 : pb n e = true) : R2d K (rEqA K) d e (.bl (deq d e)) := fun F H s x y hx hy Q q =>
  .inr ⟨py d, py e, dp_of n d x h1 (hx.up s), dp_of n e y h2 (hy.up s), shp_of h1 hn, shp_of h2 hn, q_same s (.bl _) q⟩
theorem r2_neD {n : Nat} (hn : n ≤ 60) (h1 : pb n d = true) (h2 : pb n e = true) : R2d K (rNeA K) d e (.bl (!deq d e)) := fun F H s x y hx hy Q q =>
  .inr ⟨py d, py e, dp_of n d x h1 (hx.up s), dp_of n e y h2 (hy.up s), shp_of h1 hn, shp_of h2 hn, q_same s (.bl _) q⟩
def isNon : D → Bool
  | .non => true
  | _ => false
def rIsN : R2 := fun x y H Q => y = .non ∧ Q (.bl (decide (x = .non))) H
def rNotN : R2 := fun x y H Q => y = .non ∧ Q (.bl (!decide (x = .non))) H
theorem op_isN1 {X : Cx} : OpR X (compareOp .Is) rIsN := op_isN
theorem op_notN1 {X : Cx} : OpR X (compareOp .IsNot) rNotN := op_notN
theorem Is.dnon {F : Hp} {v : V} (h : Is K F d v) : decide (v = .non) = isNon d := by
  cases h <;> simp [isNon]
theorem r2_isN : R2d K rIsN d .non (.bl (isNon d)) := fun F H s x y hx hy Q q => by
  cases hy
  exact ⟨rfl, by rw [hx.dnon]; exact q_same s (.bl _) q⟩
theorem r2_notN : R2d K rNotN d .non (.bl (!isNon d)) := fun F H s x y hx hy Q q => by
  cases hy
  exact ⟨rfl, by rw [hx.dnon]; exact q_same s (.bl _) q⟩
theorem any_pys (f : PyData → Bool) : ∀ ds : List D, (pys ds).any f = ds.any fun z => f (py z)
  | [] => by rw [pys]; rfl
  | d :: ds => by rw [pys, List.any_cons, List.any_cons, any_pys f ds]
theorem r2_inL {n : Nat} (hn : n ≤ 60) (h1 : pb n d = true) (h2 : pb n (.lst ds) = true) : R2d K (rInA K) d (.lst ds) (.bl (ds.any fun z => deq z d)) := fun F H s x y hx hy Q q => by
  have a1 := dp_of n d x h1 (hx.up s)
  have a2 := dp_of n (.lst ds) y h2 (hy.up s)
  have a3 := shp_of h2 hn
  rw [py] at a2 a3
  exact .inl ⟨py d, pys ds, a1, a2, shp_of h1 hn, a3, by rw [any_pys]; exact q_same s (.bl _) q⟩
theorem r2_ninL {n : Nat} (hn : n ≤ 60) (h1 : pb n d = true) (h2 : pb n (.lst ds) = true) : R2d K (rNotInA K) d (.lst ds) (.bl (!ds.any fun z => deq z d)) := fun F H s x y hx hy Q q => by
  have a1 := dp_of n d x h1 (hx.up s)
  have a2 := dp_of n (.lst ds) y h2 (hy.up s)
  have a3 := shp_of h2 hn
  rw [py] at a2 a3
  exact .inl ⟨py d, pys ds, a1, a2, shp_of h1 hn, a3, by rw [any_pys]; exact q_same s (.bl _) q⟩
theorem r2_inT {n : Nat} (hn : n ≤ 60) (h1 : pb n d = true) (h2 : pb n (.tup ds) = true) : R2d K (rInA K) d (.tup ds) (.bl (ds.any fun z => deq z d)) := fun F H s x y hx hy Q q => by
  have a1 := dp_of n d x h1 (hx.up s)
  have a2 := dp_of n (.tup ds) y h2 (hy.up s)
  have a3 := shp_of h2 hn
  rw [py] at a2 a3
  exact .inr (.inl ⟨py d, pys ds, a1, a2, shp_of h1 hn, a3, by rw [any_pys]; exact q_same s (.bl _) q⟩)
theorem r2_ninT {n : Nat} (hn : n ≤ 60) (h1 : pb n d = true) (h2 : pb n (.tup ds) = true) : R2d K (rNotInA K) d (.tup ds) (.bl (!ds.any fun z => deq z d)) := fun F H s x y hx hy Q q => by
  have a1 := dp_of n d x h1 (hx.up s)
  have a2 := dp_of n (.tup ds) y h2 (hy.up s)
  have a3 := shp_of h2 hn
  rw [py] at a2 a3
  exact .inr (.inl ⟨py d, pys ds, a1, a2, shp_of h1 hn, a3, by rw [any_pys]; exact q_same s (.bl _) q⟩)
theorem r2_inS {c : Nat} : R2d K (rInA K) (.str ⟨#[c]⟩) (.str a) (.bl (decide (c ∈ a.cps.toList))) := fun F H s x y hx hy Q q => by
  cases hx; cases hy
  exact .inr (.inr ⟨c, a, rfl, rfl, q_same s (.bl _) q⟩)
theorem r2_ninS {c : Nat} : R2d K (rNotInA K) (.str ⟨#[c]⟩) (.str a) (.bl (!decide (c ∈ a.cps.toList))) := fun F H s x y hx hy Q q => by
  cases hx; cases hy
  exact .inr (.inr ⟨c, a, rfl, rfl, q_same s (.bl _) q⟩)
/-! subscripts -/
theorem Iss.atI {F : Hp} {vs : List V} {i : Int} (h : Iss K F ds vs) (e : L2.atI ds i = some z) : ∃ v, L2.atI vs i = some v ∧ Is K F z v := by
  unfold L2.atI at e ⊢
  rw [← h.length]
  cases hi : ixN ds.length i with
  | none => rw [hi] at e; cases e
  | some k =>
    rw [hi] at e
    exact h.get e
theorem r2_ixL (h : L2.atI ds i = some z) : R2d K (rIx K) (.lst ds) (.int i) z := fun F H s x y hx hy Q q => by
  cases hy
  cases hx with
  | @lst p xs _ h1 r1 =>
    obtain ⟨v, e, hv⟩ := r1.atI h
    exact .inl ⟨p, xs, i, v, rfl, rfl, SqL.of (s _ _ h1), e, q_same s hv q⟩
theorem r2_ixT (h : L2.atI ds i = some z) : R2d K (rIx K) (.tup ds) (.int i) z := fun F H s x y hx hy Q q => by
  cases hy
  cases hx with
  | @tup p xs _ h1 r1 =>
    obtain ⟨v, e, hv⟩ := r1.atI h
    exact .inr (.inl ⟨p, xs, i, v, rfl, rfl, sqT_up s h1, e, q_same s hv q⟩)
theorem r2_ixS {c : Nat} (hz : a.length ≤ sizeLine) (h : L2.atI a.cps.toList i = some c) : R2d K (rIx K) (.str a) (.int i) (.str ⟨#[c]⟩) := fun F H s x y hx hy Q q => by
  cases hy; cases hx
  exact .inr (.inr ⟨a, i, c, rfl, rfl, hz, h, q_same s (.str _) q⟩)
/-! slices -/
def cut {α : Type} (xs : List α) (lo hi : Option Int) : List α := (xs.drop (HT.sIx xs.length 0 lo)).take (HT.sIx xs.length xs.length hi - HT.sIx xs.length 0 lo)
def rSlX (K : PySem.W.Frag) : V → Option Int → Option Int → Hp → VK → Prop := fun x lo hi H Q => rSlL K x lo hi H Q ∨ (rSlA K x lo hi H Q ∨ rSlS x lo hi H Q)
theorem sl_X {X : Cx} : SlR X (rSlX X.K) := SlR.or sl_list (SlR.or sl_tupA sl_str)
theorem Iss.cut {F : Hp} {vs : List V} {lo hi : Option Int} (h : Iss K F ds vs) : Iss K F (cut ds lo hi) (cutV vs lo hi) := by
  unfold Eg.cut cutV
  rw [← h.length]
  exact (h.drop _).take _
theorem rs_lst {lo hi : Option Int} : Rsd K (rSlX K) (.lst ds) lo hi (.lst (cut ds lo hi)) := fun F H s x hx Q q => by
  cases hx with
  | @lst p xs _ h1 r1 =>
    refine .inl ⟨p, xs, rfl, SqL.of (s _ _ h1), fun m hm => q _ (upd F m (.lst (cutV xs lo hi))) _ (Fx.lay s hm) (.lst upd_same ((Fx.lay (X := Nox) (o := .lst (cutV xs lo hi)) s hm).iss r1.cut))⟩
theorem cut_whole {α : Type} {xs : List α} {lo hi : Option Int} (h : HT.sIx xs.length 0 lo = 0 ∧ HT.sIx xs.length xs.length hi = xs.length) : cut xs lo hi = xs := by
  unfold cut
  rw [h.1, h.2, List.drop_zero, Nat.sub_zero, List.take_length]
theorem rs_tup {lo hi : Option Int} : Rsd K (rSlX K) (.tup ds) lo hi (.tup (cut ds lo hi)) := fun F H s x hx Q q => by
  have hx' := hx
  cases hx with
  | @tup p xs _ h1 r1 =>
    refine .inr (.inl ⟨p, xs, rfl, sqT_up s h1, fun hw => ?_, fun _ m hm => q _ (upd F m (.tup (cutV xs lo hi))) _ (Fx.lay s hm) (.tup (.inl (.inl upd_same)) ((Fx.lay (X := Nox) (o := .tup (cutV xs lo hi)) s hm).iss r1.cut))⟩)
    rw [← r1.length] at hw
    rw [cut_whole hw] at q
    exact q_same s hx' q
theorem rs_str {lo hi : Option Int} (hz : a.length ≤ sizeLine) : Rsd K (rSlX K) (.str a) lo hi (.str (cutS a lo hi)) := fun F H s x hx Q q => by
  cases hx
  exact .inr (.inr ⟨a, rfl, hz, q_same s (.str _) q⟩)
theorem cut_to {α : Type} {xs : List α} {k : Nat} (h : k ≤ xs.length) : cut xs none (some (k : Int)) = xs.take k := by
  unfold cut
  rw [HT.sIx_none, HT.sIx_nat, Nat.min_eq_left h, List.drop_zero, Nat.sub_zero]
theorem cut_from {α : Type} {xs : List α} {k : Nat} (h : k ≤ xs.length) : cut xs (some (k : Int)) none = xs.drop k := by
  unfold cut
  rw [HT.sIx_none, HT.sIx_nat, Nat.min_eq_left h]
  exact List.take_of_length_le (by rw [List.length_drop]; exact Nat.le_refl _)
/-! calls of built-ins -/
def rLen (K : PySem.W.Frag) : List V → Hp → VK → Prop := fun xs H Q => ∃ x n, xs = [x] ∧ LenV K x H n ∧ Q (.int n) H
theorem call_lenA {X : Cx} : CallR X (.builtin "len") (rLen X.K) := call_len
def lenD : D → Option Nat
  | .lst ds => some ds.length
  | .tup ds => some ds.length
  | .str s => if s.length ≤ sizeLine then some s.length else none
  | _ => none
theorem rc_len {n : Nat} (h : lenD d = some n) : Rcd K (rLen K) [d] (.int n) := fun F H s xs hxs Q q => by
  cases hxs with
  | cons hx t =>
    cases t
    cases hx with
    | lst h1 r1 => cases h; exact ⟨_, _, rfl, .inl ⟨_, SqL.of (s _ _ h1), r1.length⟩, q_same s (.int _) q⟩
    | tup h1 r1 => cases h; exact ⟨_, _, rfl, .inr ⟨_, sqT_up s h1, r1.length⟩, q_same s (.int _) q⟩
    | str x =>
      have h : (if x.length ≤ sizeLine then some x.length else none) = some n := h
      by_cases hz : x.length ≤ sizeLine
      · rw [if_pos hz] at h; cases h; exact ⟨_, _, rfl, ⟨hz, rfl⟩, q_same s (.int _) q⟩
      · rw [if_neg hz] at h; cases h
    | _ => cases h
def rInt : List V → Hp → VK → Prop := fun xs H Q => ((∃ i, xs = [.int i] ∧ Q (.int i) H) ∨ ∃ k, xs = [.bl k] ∧ Q (.int (if k then 1 else 0)) H) ∨ ∃ a n, xs = [.str a] ∧ PySem.intText? a = some n ∧ a.length ≤ 640 ∧ Q (.int n) H
theorem call_intA {X : Cx} : CallR X (.type "int") rInt := CallR.or call_int1 call_int_str
theorem rc_intI : Rcd K rInt [.int i] (.int i) := fun F H s xs hxs Q q => by
  cases hxs with
  | cons hx t => cases t; cases hx; exact .inl (.inl ⟨i, rfl, q_same s (.int _) q⟩)
theorem rc_intS {n : Int} (h : PySem.intText? a = some n) (hz : a.length ≤ 640) : Rcd K rInt [.str a] (.int n) := fun F H s xs hxs Q q => by
  cases hxs with
  | cons hx t => cases t; cases hx; exact .inr ⟨a, n, rfl, h, hz, q_same s (.int _) q⟩
def rStr : List V → Hp → VK → Prop := fun xs H Q => ∃ i, xs = [.int i] ∧ i.natAbs.log2 < 1920 ∧ Q (.str (toString i)) H
theorem call_strA {X : Cx} : CallR X (.type "str") rStr := call_str_int
theorem rc_str (h : i.natAbs.log2 < 1920) : Rcd K rStr [.int i] (.str (toString i)) := fun F H s xs hxs Q q => by
  cases hxs with
  | cons hx t => cases t; cases hx; exact ⟨i, rfl, h, q_same s (.str _) q⟩
def rAbs : List V → Hp → VK → Prop := fun xs H Q => ∃ i, xs = [.int i] ∧ Q (.int (if i < 0 then -i else i)) H
theorem call_absA {X : Cx} : CallR X (.builtin "abs") rAbs := call_abs
theorem rc_abs : Rcd K rAbs [.int i] (.int (if i < 0 then -i else i)) := fun F H s xs hxs Q q => by
  cases hxs with
  | cons hx t => cases t; cases hx; exact ⟨i, rfl, q_same s (.int _) q⟩
theorem rc_sum {ns : List Int} : Rcd K (rSum K) [.lst (ns.map D.int)] (.int ns.sum) := fun F H s xs hxs Q q => by
  cases hxs with
  | cons hx t =>
    cases t
    cases hx with
    | lst h1 r1 => rw [r1.ints] at h1; exact ⟨_, ns, rfl, SqL.of (s _ _ h1), q_same s (.int _) q⟩
theorem rc_all {bs : List Bool} : Rcd K (rAll K) [.lst (bs.map D.bl)] (.bl (bs.all id)) := fun F H s xs hxs Q q => by
  cases hxs with
  | cons hx t =>
    cases t
    cases hx with
    | lst h1 r1 => rw [r1.bls] at h1; exact ⟨_, bs, rfl, SqL.of (s _ _ h1), q_same s (.bl _) q⟩
theorem rc_any {bs : List Bool} : Rcd K (rAny K) [.lst (bs.map D.bl)] (.bl (bs.any id)) := fun F H s xs hxs Q q => by
  cases hxs with
  | cons hx t =>
    cases t
    cases hx with
    | lst h1 r1 => rw [r1.bls] at h1; exact ⟨_, bs, rfl, SqL.of (s _ _ h1), q_same s (.bl _) q⟩
def rTupOf (K : PySem.W.Frag) : List V → Hp → VK → Prop := fun xs H Q => ∃ p ys, xs = [.ref p] ∧ ((SqL K H p ys ∧ ∀ l, H l = none → Q (.ref l) (upd H l (.tup ys))) ∨ (SqT K H p ys ∧ Q (.ref p) H))
theorem call_tupOf {X : Cx} : CallR X (.type "tuple") (rTupOf X.K) := call_tuple_of
theorem rc_tupL : Rcd K (rTupOf K) [.lst ds] (.tup ds) := fun F H s xs hxs Q q => by
  cases hxs with
  | cons hx t =>
    cases t
    cases hx with
    | @lst p ys _ h1 r1 => exact ⟨p, ys, rfl, .inl ⟨SqL.of (s _ _ h1), fun m hm => q _ (upd F m (.tup ys)) _ (Fx.lay s hm) (.tup (.inl (.inl upd_same)) ((Fx.lay (X := Nox) (o := .tup ys) s hm).iss r1))⟩⟩
theorem rc_tupT : Rcd K (rTupOf K) [.tup ds] (.tup ds) := fun F H s xs hxs Q q => by
  cases hxs with
  | cons hx t =>
    cases t
    have hx' := hx
    cases hx with
    | @tup p ys _ h1 r1 => exact ⟨p, ys, rfl, .inr ⟨sqT_up s h1, q_same s hx' q⟩⟩
def rLstOf (K : PySem.W.Frag) : List V → Hp → VK → Prop := fun xs H Q => ∃ p ys, xs = [.ref p] ∧ (SqL K H p ys ∨ SqT K H p ys) ∧ ∀ l, H l = none → Q (.ref l) (upd H l (.lst ys))
theorem call_lstOf {X : Cx} : CallR X (.type "list") (rLstOf X.K) := call_list_of
/-! methods -/
def Rmd (K : PySem.W.Frag) (r : V → List V → Hp → VK → Prop) (d : D) (ds : List D) (z : D) : Prop := ∀ F H, Same F H → ∀ x xs, Is K F d x → Iss K F ds xs → ∀ Q : VK, (∀ v F2 H2, Fz F H F2 H2 → Is K F2 z v → Q v H2) → r x xs H Q
theorem ev_bmS {r : V → List V → Hp → VK → Prop} {to : TE} {ta : TA} {σ : St} {F H : Hp} (ho : Ev K to σ F H (.str a)) (ha : EvA K ta σ F H ds) (hr : Rmd K r (.str a) ds z) : Ev K (tBM K "str" r to ta) σ F H z := fun F1 H1 z1 Q q =>
  ho F1 H1 z1 _ fun x F2 H2 z2 hx => by
    cases hx
    exact ⟨rfl, ha F2 H2 (z1.trans z2) _ fun xs F3 H3 z3 hxs => hr F3 H3 z3.fh _ xs (.str _) hxs Q fun v F4 H4 z4 hv => q v F4 H4 ((z2.trans z3).trans z4) hv⟩
def rSplit : V → List V → Hp → VK → Prop := fun x xs H Q => ∃ a b, x = .str a ∧ xs = [.str b] ∧ (b.length == 0) = false ∧ a.length + 2 ≤ sizeLine ∧ rNewStrs (Txt.split a b) H Q
theorem mt_splitA {X : Cx} : MtR X "str.split" rSplit := mt_split
theorem rm_split (hb : (b.length == 0) = false) (hz : a.length + 2 ≤ sizeLine) : Rmd K rSplit (.str a) [.str b] (.lst ((Txt.split a b).map D.str)) := fun F H s x xs hx hxs Q q => by
  cases hx
  cases hxs with
  | cons h t =>
    cases t; cases h
    exact ⟨a, b, rfl, rfl, hb, hz, fun m hm => q _ (upd F m (.lst ((Txt.split a b).map V.str))) _ (Fx.lay s hm) (.lst upd_same (iss_strs _))⟩
def rJoin (K : PySem.W.Frag) : V → List V → Hp → VK → Prop := fun x xs H Q => ∃ a p, ∃ ys : List Str, x = .str a ∧ xs = [.ref p] ∧ (SqL K H p (ys.map V.str) ∨ SqT K H p (ys.map V.str)) ∧ (ys.map (·.length)).sum + ys.length * a.length ≤ 16777216 ∧ Q (.str (Txt.join a ys)) H
theorem mt_joinA {X : Cx} : MtR X "str.join" (rJoin X.K) := mt_join
theorem rm_join {ys : List Str} (hz : (ys.map (·.length)).sum + ys.length * a.length ≤ 16777216) : Rmd K (rJoin K) (.str a) [.lst (ys.map D.str)] (.str (Txt.join a ys)) := fun F H s x xs hx hxs Q q => by
  cases hx
  cases hxs with
  | cons h t =>
    cases t
    cases h with
    | lst h1 r1 => rw [r1.strs] at h1; exact ⟨a, _, ys, rfl, rfl, .inl (SqL.of (s _ _ h1)), hz, q_same s (.str _) q⟩
end

/-! ### isinstance -/
structure Own (K : PySem.W.Frag) (C : Addr) : Prop where
  cl : Cls K C
  ha : PySem.W.findIn K (.ref C) "__class__" = some (some (.builtin "object.__class__"))
  hn : PySem.W.specialIn K (.builtin "object.__class__") "__get__" = some (some (.builtin "getset_descriptor.__get__"))
  ht : PySem.W.takesIn K (.builtin "object.__class__") = some true
  hm : PySem.W.mroIn K C (.type "object") = some true
section
variable {K : PySem.W.Frag} {d e z : D} {σ : St} {F H : Hp} {te : TE}
/-- the built-in class of a thing -/
def tyD : D → Option String
  | .non => some "NoneType"
  | .bl _ => some "bool"
  | .int _ => some "int"
  | .str _ => some "str"
  | .lst _ => some "list"
  | .tup _ => some "tuple"
  | .dic _ => some "dict"
  | .obj _ _ => none
theorem Is.tyX {v : V} {t : String} (s : Same F H) (h : Is K F d v) (e : tyD d = some t) : TyX K H v (.type t) := by
  cases h with
  | non => cases e; exact .base .non
  | bl b => cases e; exact .base (.bl b)
  | int i => cases e; exact .base (.int i)
  | str i => cases e; exact .base (.str i)
  | lst h1 => cases e; exact .base (.lst (s _ _ h1))
  | tup h1 =>
    cases e
    rcases h1 with (h1 | ⟨o, h1⟩) | ⟨o, its, n, h1, h2, _⟩
    · exact .base (.tup (s _ _ h1))
    · exact .fTuple (s _ _ h1)
    · exact .kTuple h1 h2
  | obj => cases e
  | dic h1 => cases e; exact .base (.dK (s _ _ h1))
theorem ev_isi {t n : String} {b : Bool} (h : Ev K te σ F H d) (ht : tyD d = some t) (hb : kitB t n = some b) : Ev K (tCB (rIsi K) (tCons te (tCons (tC (.ty n)) tNil))) σ F H (.bl b) := fun F1 H1 a Q q =>
  h F1 H1 a _ fun x F2 H2 a2 hx => ⟨x, .ty n, _, _, b, rfl, .ty n, hx.tyX a2.fh ht, kit_ty hb, q _ F2 H2 a2 (.bl b)⟩
theorem ev_isiO {C C' : Addr} {gs : List (Str × D)} {b : Bool} (o : Own K C) (h : Ev K te σ F H (.obj C gs)) (hb : PySem.W.kitOne K (.ref C) (.ref C') = some b) : Ev K (tCB (rIsi K) (tCons te (tCons (tC (.ref C')) tNil))) σ F H (.bl b) := fun F1 H1 a Q q =>
  h F1 H1 a _ fun x F2 H2 a2 hx => by
    cases hx with
    | obj h1 _ => exact ⟨_, .ref C', _, _, b, rfl, .own C', .base (.ins (a2.fh _ _ h1) o.cl o.ha o.hn o.ht o.hm), hb, q _ F2 H2 a2 (.bl b)⟩
theorem ev_isi2 {t n1 n2 : String} {b : Bool} (h : Ev K te σ F H d) (ht : tyD d = some t) (hb : ∀ K : PySem.W.Frag, PySem.W.kitAny K (.type t) [.type n1, .type n2] = some b) :
    Ev K (tCB (rIsiT K) (tCons te (tCons (tTup (tCons (tC (.ty n1)) (tCons (tC (.ty n2)) tNil))) tNil))) σ F H (.bl b) := fun F1 H1 a Q q =>
  h F1 H1 a _ fun x F2 H2 a2 hx => ⟨by show 2 ≤ sizeLine; decide, fun p hp => ⟨x, p, [.ty n1, .ty n2], _, [.type n1, .type n2], b, rfl, upd_same, .cons (.ty n1) (.cons (.ty n2) .nil), (hx.up (Fx.lay (X := Nox) (o := .tup [.ty n1, .ty n2]) a2.fh hp).ff).tyX (Fx.lay (X := Nox) (o := .tup [.ty n1, .ty n2]) a2.fh hp).fh ht, hb K,
    q _ (upd F2 p (.tup [.ty n1, .ty n2])) _ (a2.trans (Fx.lay a2.fh hp)) (.bl b)⟩⟩
end

/-! ### comprehensions that change nothing -/
section
variable {K : PySem.W.Frag} {σ : St} {F H : Hp} {te : TE} {wi : TI} {ds : List D} {g : TG} {tt : TT} {vs : List Nat}
theorem et_yes : EvT tYes σ F H true := fun F1 H1 a Q q => q F1 H1 (Fx.refl a.fh)
theorem ev_lc (w : Wa K wi σ F H ds) (ok : D → Bool) (f : D → D)
    (ht : ∀ d, d ∈ ds → ∀ F1 H1 x, Fz F H F1 H1 → Is K F1 d x → ∀ R : St → Hp → Prop, (∀ σ2 F2 H2, Fz F1 H1 F2 H2 → wipe σ2 vs = wipe σ vs → EvT tt σ2 F2 H2 (ok d) → (ok d = true → Ev K te σ2 F2 H2 (f d)) → R σ2 H2) → g x (wipe σ vs) H1 R)
    (hz : ds.length < sizeLine) : Ev K (tLc wi g tt te vs) σ F H (.lst ((ds.filter ok).map f)) := fun F0 H0 a0 Q q => by
  refine w F0 H0 a0 _ fun J F1 H1 a1 ⟨G, Y, wk, hG, hY⟩ Dl hD => ?_
  have nF : F1 Dl = none := a1.fh.free hD
  refine lc_it wk (fun i H' => ∃ F' acc, Fz F1 H1 F' H' ∧ F' Dl = none ∧ H' Dl = some (.lst acc) ∧ Iss K F' (((ds.take i).filter ok).map f) acc) ?_ (fun i H' hi ⟨F', acc, z, n, e, r⟩ => hG F' H' z.ff z.fh) (fun i x H' H3 hi ⟨F', acc, z, n, e, r⟩ y => ?_) (fun H' ⟨F', acc, z, n, e, r⟩ => ?_)
  · exact ⟨F1, [], Fx.make a1.fh hD, nF, upd_same, by rw [List.take_zero]; exact .nil⟩
  · have hi' : ds[i]? = some ds[i] := List.getElem?_eq_getElem hi
    have et : ds.take (i + 1) = ds.take i ++ [ds[i]] := by rw [List.take_add_one, hi']; rfl
    obtain ⟨F3, z3, hx⟩ := hY i _ F' H' x H3 hi' z.ff z.fh y
    have za : Fz F H F3 H3 := a0.trans (a1.trans (z.trans z3))
    refine ht _ (List.getElem_mem hi) F3 H3 x za hx _ fun σ2 F4 H4 z4 hw h1 h2 => ⟨hw, ?_⟩
    refine h1 F4 H4 (Fx.refl z4.fh) _ fun F5 H5 z5 => ?_
    cases ho : ok ds[i] with
    | true =>
      refine iteT ((h2 ho) F5 H5 z5 _ fun v F6 H6 z6 hv => ?_)
      have zz : Fz F' H' F6 H6 := ((z3.trans z4).trans z5).trans z6
      have m := zz.m n e id
      refine ⟨acc, m.1, ?_, F6, acc ++ [v], (z.trans zz).mut (.inl hD) m.2, m.2, upd_same, ?_⟩
      · rw [← r.length, List.length_map]
        have l1 : ((ds.take i).filter ok).length ≤ (ds.take i).length := List.length_filter_le _ _
        rw [List.length_take] at l1
        omega
      · rw [et, List.filter_append, List.map_append, List.filter_cons, if_pos ho]
        exact (zz.iss r).snoc hv
    | false =>
      have zz : Fz F' H' F5 H5 := (z3.trans z4).trans z5
      have m := zz.m n e id
      refine iteF ⟨F5, acc, z.trans zz, m.2, m.1, ?_⟩
      rw [et, List.filter_append, List.map_append, List.filter_cons, if_neg (by rw [ho]; exact Bool.false_ne_true)]
      show Iss K F5 (_ ++ []) acc
      rw [List.append_nil]
      exact zz.iss r
  · rw [List.take_length] at r
    have s2 := frz_same z.fh n e
    exact q _ (upd F' Dl (.lst acc)) H' (a1.trans (z.freeze a1.fh hD e)) (.lst upd_same (Iss.up s2.1 _ _ r))
/-- the target a name -/
theorem ev_lc1 {j : Nat} (w : Wa K wi σ F H ds) (ok : D → Bool) (f : D → D) (hw : ∀ x, wipe ((wipe σ vs).set j (some x)) vs = wipe σ vs)
    (ht : ∀ d, d ∈ ds → ∀ F1 H1 x, Fz F H F1 H1 → Is K F1 d x → EvT tt ((wipe σ vs).set j (some x)) F1 H1 (ok d) ∧ (ok d = true → Ev K te ((wipe σ vs).set j (some x)) F1 H1 (f d)))
    (hz : ds.length < sizeLine) : Ev K (tLc wi (gName j) tt te vs) σ F H (.lst ((ds.filter ok).map f)) :=
  ev_lc w ok f (fun d hd F1 H1 x a hx R k => k _ F1 H1 (Fx.refl a.fh) (hw x) (ht d hd F1 H1 x a hx).1 (ht d hd F1 H1 x a hx).2) hz
/-- .. without a test -/
theorem ev_lcM {j : Nat} (w : Wa K wi σ F H ds) (f : D → D) (hw : ∀ x, wipe ((wipe σ vs).set j (some x)) vs = wipe σ vs)
    (ht : ∀ d, d ∈ ds → ∀ F1 H1 x, Fz F H F1 H1 → Is K F1 d x → Ev K te ((wipe σ vs).set j (some x)) F1 H1 (f d))
    (hz : ds.length < sizeLine) : Ev K (tLc wi (gName j) tYes te vs) σ F H (.lst (ds.map f)) := by
  have h := ev_lc1 (vs := vs) w (fun _ => true) f hw (fun d hd F1 H1 x a hx => ⟨et_yes, fun _ => ht d hd F1 H1 x a hx⟩) hz
  rw [List.filter_eq_self.mpr (fun _ _ => rfl)] at h
  exact h
/-- the target a pair of names -/
theorem ev_lc2 {i j : Nat} (w : Wa K wi σ F H ds) (f : D → D) (hw : ∀ x y, wipe (((wipe σ vs).set i (some x)).set j (some y)) vs = wipe σ vs)
    (ht : ∀ d, d ∈ ds → ∃ d1 d2, d = .tup [d1, d2] ∧ ∀ F1 H1 x y, Fz F H F1 H1 → Is K F1 d1 x → Is K F1 d2 y → Ev K te (((wipe σ vs).set i (some x)).set j (some y)) F1 H1 (f d))
    (hz : ds.length < sizeLine) : Ev K (tLc wi (gTup K 2 (gCons (gName i) (gCons (gName j) gNil))) tYes te vs) σ F H (.lst (ds.map f)) := by
  have h := ev_lc (vs := vs) (tt := tYes) (te := te) (g := gTup K 2 (gCons (gName i) (gCons (gName j) gNil))) w (fun _ => true) f (fun d hd F1 H1 x a hx R k => ?_) hz
  · rw [List.filter_eq_self.mpr (fun _ _ => rfl)] at h
    exact h
  · obtain ⟨d1, d2, rfl, h2⟩ := ht d hd
    cases hx with
    | @tup p xs _ h1 r1 =>
      cases r1 with
      | cons ra rb =>
        cases rb with
        | cons rb rc =>
          cases rc
          refine ⟨p, _, rfl, sqT_up a.fh h1, rfl, _, _, rfl, ?_⟩
          refine ⟨_, _, rfl, ?_⟩
          exact ⟨rfl, k _ F1 H1 (Fx.refl a.fh) (hw _ _) et_yes fun _ => h2 F1 H1 _ _ a ra rb⟩
end
end Eg
/-! Further rules: a for over a list, a tuple or a text alike; enumerate of a list or a tuple; repr of data. -/
namespace PySem
namespace Egx
open Builtin
/-- enumerate(t), t a tuple: its iterator and its record are laid -/
theorem meets_enum_tup (t : Addr) (its : Array Value) : Meets (Builtin.«enumerate.__new__» ⟨[.type "enumerate", .ref t], []⟩) (fun _ R s => s.heap.IsTuple t its ∧
    R (.ok (.ret (.ref (s.heap.push { cls := .type "tuple_iterator", data := .fields #[.ref t, .int 0 0] }).objs.size)))
      { s with heap := (s.heap.push { cls := .type "tuple_iterator", data := .fields #[.ref t, .int 0 0] }).push { cls := .type "enumerate", data := .fields #[.none, .bool false, .ref s.heap.objs.size, rawInt 0, .none, .none] } }) :=
  .of_wp fun P w A R st h => by
    obtain ⟨hp, gs, dr, k, os⟩ := st
    obtain ⟨ht, hR⟩ := h
    have sub_e := sub_enumerate
    have go : ∀ {A' : Around} {E Q : Value → Shared → Prop}, Q (.ref hp.objs.size) ⟨hp.push { cls := .type "tuple_iterator", data := .fields #[.ref t, .int 0 0] }, gs, dr, k, os⟩ → wpAny (model P w) A' (pyIter (.ref t)) Q E ⟨hp, gs, dr, k, os⟩ := fun q => wpAny_pyIter_tuple ht q
    wp_walk using go
    refine wpAny_stack_any fun fr => wpAny_pure ?_
    split
    · rename_i cl _ _ _ _ _
      cases (cl == Value.type "enumerate") <;> (wp_walk using go; exact ⟨_, rfl, hR⟩)
    · wp_walk using go
      exact ⟨_, rfl, hR⟩
theorem call_enum_tup {P : Program} {w : World} {A : Around} {E Q : Value → Shared → Prop} {s : Shared} {t : Addr} {its : Array Value} (ht : s.heap.IsTuple t its)
    (k : ∀ h', IsEnum h' (s.heap.objs.size + 1) s.heap.objs.size 0 .none → h'.IsTupleIter s.heap.objs.size t 0 → (∀ b o, s.heap.get? b = some o → h'.get? b = some o) → Q (.ref (s.heap.objs.size + 1)) { s with heap := h' }) :
    wpAny (model P w) A (call (.type "enumerate") [.ref t]) Q E s := by
  refine callType_new F.called_enumerate (by decide) (F.typeCall_enumerate_1 _) (F.newCall_enumerate_1 _) (fun ob => F.args_object_init_2 ob _) F.entry_enumerate_new (meets_enum_tup t its) ⟨ht, ?_⟩
  have sz : (s.heap.push { cls := .type "tuple_iterator", data := .fields #[.ref t, .int 0 0] }).objs.size = s.heap.objs.size + 1 := Heap.size_push ..
  have new := Heap.get?_push_size (s.heap.push { cls := .type "tuple_iterator", data := .fields #[.ref t, .int 0 0] }) (o := { cls := .type "enumerate", data := .fields #[.none, .bool false, .ref s.heap.objs.size, rawInt 0, .none, .none] }) rfl
  rw [sz] at new
  show _ ∧ _
  rw [sz]
  exact ⟨⟨_, new, rfl⟩, k _ new ⟨_, Heap.get?_push_of_some _ (Heap.get?_push_size _ rfl), rfl, rfl⟩ fun b o e => Heap.get?_push_of_some _ (Heap.get?_push_of_some _ e)⟩
end Egx
end PySem

namespace Eg
open PySem PySem.Spec L2
section
variable {X : Cx} {tg : Expr}
/-- a list, a tuple, a text -/
def iSeq (K : PySem.W.Frag) (te : TE) : TI := fun σ H R => te σ H fun x H1 => (∃ a xs, x = .ref a ∧ SqL K H1 a xs ∧ R (Itl K a) H1) ∨ ((∃ a xs, x = .ref a ∧ SqT K H1 a xs ∧ R (Itt K a) H1) ∨ ∃ z, x = .str z ∧ R (Its z) H1)
theorem pi_seq {e : Expr} {te : TE} (he : PE X e te) : PI X tg e (iSeq X.K te) := by
  refine ⟨fun pins s σ H R I h => thn (he.run pins s σ H _ I h) fun v s1 ⟨x, H1, I1, rx, q⟩ => ?_⟩
  rcases q with ⟨a, xs, rfl, hq, q⟩ | ⟨a, xs, rfl, hq, q⟩ | ⟨z, rfl, q⟩
  · cases rx
    obtain ⟨its, _, p, _⟩ := I1.list hq
    exact wpAny_pyIter_list p.isList (pi_one (tk := s1.toks) I1 _ (turn_list a _) ⟨_, Heap.get?_push_size _ rfl, rfl, rfl⟩ q)
  · cases rx
    obtain ⟨its, _, p, _⟩ := I1.tuple hq
    exact wpAny_pyIter_tuple p (pi_one (tk := s1.toks) I1 _ (turn_tuple a _) ⟨_, Heap.get?_push_size _ rfl, rfl, rfl⟩ q)
  · obtain ⟨t, rfl⟩ := rx
    cases ha : z.cps.all (· < 128) with
    | false => exact wpAny_pyIter_wide ha (pi_one (tk := s1.toks) I1 _ (turn_str _ z t "str_iterator" (.inr rfl)) ⟨_, Heap.get?_push_size _ rfl, rfl, rfl⟩ q)
    | true => exact wpAny_pyIter_ascii ha (pi_one (tk := s1.toks) I1 _ (turn_str _ z t "str_ascii_iterator" (.inl rfl)) ⟨_, Heap.get?_push_size _ rfl, rfl, rfl⟩ q)
/-- enumerate of a tuple, turn by turn -/
def IteT (K : PySem.W.Frag) (a : Addr) : It :=
  ⟨fun i H => ∃ (xs : List V) (x : V), SqT K H a xs ∧ xs[i]? = some x, fun i H v H' => ∃ T x, v = .ref T ∧ H T = none ∧ H' = upd H T (.tup [.int (i : Nat), x]) ∧ ∀ xs, SqT K H a xs → xs[i]? = some x, fun i H => ∃ xs : List V, SqT K H a xs ∧ xs.length = i⟩
theorem turn_enumT {P : Program} {w : World} {K : PySem.W.Frag} {elts : List Expr} {kk : Nat} {tpos : Pos} (a e it : Addr) :
    Turn P w K (.Tuple elts kk tpos) (IteT K a) [e, it] e (fun i h => (∃ old, IsEnum h e it ((i : Nat) : Int) old) ∧ h.IsTupleIter it a i ∧ e ≠ it ∧ a ≠ it ∧ e ≠ a) := by
  refine ⟨by simp, fun i h st b hb => ?_, fun i h h' st k => ?_, ?_, ?_, fun A i s Q E st q => ?_⟩
  · obtain ⟨⟨old, he⟩, ⟨o, ho, hc, hd⟩, _⟩ := st
    rcases (show b = e ∨ b = it by simpa using hb) with rfl | rfl
    · exact ⟨_, he, fun v z => nomatch z⟩
    · exact ⟨o, ho, fun v z => by rw [hd] at z; cases z⟩
  · obtain ⟨⟨old, he⟩, hi, ne⟩ := st
    exact ⟨⟨old, k e (by simp) _ he⟩, hi.at fun o q => k it (by simp) o q, ne⟩
  · intro X hP hw hK hc i pins s σ H E I hf st hg
    subst hP hw hK
    obtain ⟨⟨old, he⟩, hit, ne1, ne2, ne3⟩ := st
    obtain ⟨xs, x, hq, hx⟩ := hg
    obtain ⟨its, rv, p, hz⟩ := I.tuple hq
    obtain ⟨u, hu, ru⟩ := rv.get hx
    have eL : e < s.heap.objs.size := Heap.lt_size he
    have iL : it < s.heap.objs.size := by obtain ⟨_, z, _⟩ := hit; exact Heap.lt_size z
    have hlt : i < its.toArray.size := by
      have := (List.getElem?_eq_some_iff.mp hu).1
      simpa using this
    have hh : X.A.in1.handled = none := I.ok.hd hc
    refine wpAny_pyNext_enum_itemC (Draws.tuple hh it a ne2 its.toArray) he ⟨hit, p⟩ hlt ne1 (by simp [ne1, ne3]) fun y h' tk hy ho st' hT hsz hk => ?_
    have ey : y = u := by
      have h1 : its.toArray[i]? = some y := hy
      have h2 : its.toArray[i]? = some u := by simpa using hu
      rw [h1] at h2; exact Option.some.inj h2
    subst ey
    refine ⟨_, rfl, wpAny_letOwnedTupleGo_enum (s := { s with heap := h', toks := tk + 1 }) ho fun h2 he2 sb => ?_⟩
    have T2 : h2.get? s.heap.objs.size = some { cls := .type "tuple", data := .seq #[.int i tk, y] } := (sb.2 _ (Nat.ne_of_gt eL)).trans hT
    have new : ObjOk X.prog X.w (upd H s.heap.objs.size (.tup [.int (i : Nat), x])) h2 s.heap.objs.size (.tup [.int (i : Nat), x]) :=
      ⟨by show 2 ≤ sizeLine; decide, [.int i tk, y], .cons ⟨_, rfl⟩ (.cons ru .nil), ⟨_, T2, rfl, _, rfl⟩⟩
    have I1 : Inv X pins σ (upd H s.heap.objs.size (.tup [.int (i : Nat), x])) { s with heap := h2, toks := tk + 1 } :=
      I.turnedNew (ch := [e, it]) (fun b ob hb q => (sb.2 b (fun z => hb (by simp [z]))).trans (hk b ob (fun z => hb (by simp [z])) (fun z => hb (by simp [z])) q)) hf (Nat.le_refl _) new
    refine ⟨.ref s.heap.objs.size, _, I1, rfl, ⟨_, x, rfl, I.hok.fresh (Nat.le_refl _), rfl, fun ys hy => by rw [I.tuple_inj hy hq]; exact hx⟩, ⟨⟨y, ?_⟩, st'.1.at fun o q => (sb.2 it (Ne.symm ne1)).trans q, ne1, ne2, ne3⟩, fun b hb => ?_⟩
    · rw [show ((i + 1 : Nat) : Int) = (i : Int) + 1 by omega]; exact he2
    · have bl : b < s.heap.objs.size := by
        rcases (show b = e ∨ b = it by simpa using hb) with rfl | rfl
        · exact eL
        · exact iL
      rw [upd_ne (Nat.ne_of_lt bl)]; exact (hf b hb).1
  · intro X hP hw hK hc i pins s σ H E I hf st hg
    subst hP hw hK
    obtain ⟨⟨old, he⟩, hit, ne1, ne2, ne3⟩ := st
    obtain ⟨xs, hq, hx⟩ := hg
    obtain ⟨its, rv, p, hz⟩ := I.tuple hq
    obtain ⟨f0, f1, f2, f3, f4, f5⟩ := hf it (by simp)
    have hh : X.A.in1.handled = none := I.ok.hd hc
    have hn : its.toArray.size = i := by rw [List.size_toArray, ← rv.length]; exact hx
    refine wpAny_pyNext_enum_endD (Draws.tuple hh it a ne2 its.toArray) he (by rw [hn]; exact ⟨hit, p⟩) fun h' eb => ⟨rfl, I.turned (t' := s.toks) (fun b o hb q => eb b o hb q) f0 f1 f3 f4 f5⟩
  · obtain ⟨⟨old, he⟩, _⟩ := st
    exact wpAny_pyIter_enum he q

/-- enumerate(e), e a list or a tuple -/
def iEnumA (K : PySem.W.Frag) (ta : TA) : TI := fun σ H R => ta σ H fun vs H1 => ∃ a xs, vs = [.ref a] ∧ ((SqL K H1 a xs ∧ R (Ite K a) H1) ∨ (SqT K H1 a xs ∧ R (IteT K a) H1))
theorem pi_enumA {e : Expr} {ta : TA} {p pos tpos : Pos} {elts : List Expr} {kk : Nat} (hg : Gl X "enumerate") (hm : X.mg "enumerate" = none) (ha : PA X [e] ta) (hs : starEach [e] X.env = [(false, eval e X.env)] := by rfl) :
    PI X (.Tuple elts kk tpos) (.Call (.Name "enumerate" p) [e] [] pos) (iEnumA X.K ta) := by
  refine ⟨fun pins s σ H R I h => PyProof.Rows.Call_ (ld_blt I hg hm PyProof.Rows.boot_enumerate (PyProof.Rows.callWith_type1 (thn (ha.run pos pins s σ H _ I h) fun us s1 ⟨vs, H1, I1, r1, a, xs, ex, q1⟩ => ?_) hs rfl))⟩
  subst ex
  obtain ⟨u, rfl, ru⟩ := vals1 r1
  cases ru
  rcases q1 with ⟨hq, q⟩ | ⟨hq, q⟩
  · obtain ⟨its, _, p', _⟩ := I1.list hq
    refine call_enumerate_list p'.isList fun h' he hit _ hk => wpAny_pyIter_enum he ?_
    refine ⟨s1.heap.objs.size + 1, [s1.heap.objs.size + 1, s1.heap.objs.size], _, _, H1, rfl, I1.kept (t' := s1.toks) hk, turn_enum a _ _, ⟨⟨.none, he⟩, hit, Nat.succ_ne_self _⟩, fun b hb => ?_, q⟩
    have hle : s1.heap.objs.size ≤ b := by
      rcases (show b = s1.heap.objs.size + 1 ∨ b = s1.heap.objs.size by simpa using hb) with rfl | rfl <;> omega
    exact I1.fpOk hle (I1.hok.fresh hle)
  · obtain ⟨its, _, p', _⟩ := I1.tuple hq
    have hal : a < s1.heap.objs.size := p'.lt
    refine Egx.call_enum_tup p' fun h' he hit hk => wpAny_pyIter_enum he ?_
    refine ⟨s1.heap.objs.size + 1, [s1.heap.objs.size + 1, s1.heap.objs.size], _, _, H1, rfl, I1.kept (t' := s1.toks) hk, turn_enumT a _ _, ⟨⟨.none, he⟩, hit, Nat.succ_ne_self _, Nat.ne_of_lt hal, Nat.ne_of_gt (Nat.lt_succ_of_lt hal)⟩, fun b hb => ?_, q⟩
    have hle : s1.heap.objs.size ≤ b := by
      rcases (show b = s1.heap.objs.size + 1 ∨ b = s1.heap.objs.size by simpa using hb) with rfl | rfl <;> omega
    exact I1.fpOk hle (I1.hok.fresh hle)
/-- repr of data -/
def rRepr (K : PySem.W.Frag) : List V → Hp → VK → Prop := fun xs H Q => ∃ x d, xs = [x] ∧ Dp K H x d ∧ d.showable = true ∧ d.hasDict = false ∧ d.depth ≤ 60 ∧ d.shown.length ≤ sizeLine ∧ Q (.str d.shown) H
theorem call_reprA {k : Nat} (hr : Room k X.A) (hg : X.A.guards = some []) : CallR X (.builtin "repr") (rRepr X.K) := by
  intro pins s σ H xs us Q I r h
  obtain ⟨x, d, rfl, hd, h1, h2, h3, h4, q⟩ := h
  obtain ⟨u, rfl, ru⟩ := vals1 r
  have hu := hr.units
  have done : ∀ t : Tok, EP X pins σ Q (.str d.shown t) { s with toks := s.toks + 1 } := fun t => ⟨.str _, H, I.tok _, ⟨_, rfl⟩, q⟩
  cases hd with
  | non => cases ru; simp only [PyData.shown] at done; exact PySem.P.repr_of_none (done _)
  | bl b => cases ru; simp only [PyData.shown] at done; exact PySem.P.repr_of_bool (done _)
  | int i =>
    obtain ⟨t, rfl⟩ := ru
    simp only [PyData.shown] at done
    exact PySem.P.repr_of_int (by simpa [PyData.showable] using h1) (done _)
  | str z =>
    obtain ⟨t, rfl⟩ := ru
    simp only [PyData.shown] at done h4
    exact PySem.P.repr_of_str (done _) h4
  | lst hs ha =>
    cases ru
    obtain ⟨as, rd⟩ := Dp.reads I _ _ _ (.lst hs ha) rfl
    exact repr_of_reads' rd h1 (PyData.noDict_hsm h2) hg (by omega) (fun _ _ e => e) (fun h' t tk k => ⟨.str _, H, I.kept k, ⟨_, rfl⟩, q⟩) h4
  | tup hs ha =>
    cases ru
    obtain ⟨as, rd⟩ := Dp.reads I _ _ _ (.tup hs ha) rfl
    exact repr_of_reads' rd h1 (PyData.noDict_hsm h2) hg (by omega) (fun _ _ e => e) (fun h' t tk k => ⟨.str _, H, I.kept k, ⟨_, rfl⟩, q⟩) h4
end
end Eg
/-! len of an own instance; walks of data sequences. -/
namespace Eg
open PySem PySem.Spec L2
section
variable {X : Cx}
def rLenO (C : Addr) (sp : Sp) (E : XK) : List V → Hp → VK → Prop := fun xs H Q => ∃ a dx fs, xs = [.ref a] ∧ H a = some (.ins C dx fs) ∧ sp [.ref a] H (fun v H' => ∃ n : Int, v = .int n ∧ 0 ≤ n ∧ n < 2 ^ 63 ∧ Q (.int n) H') E
theorem call_lenO {CX : CXT} {k : Nat} {C f : Addr} {fd : FuncData} {ps : List Str} {sp : Sp} {E : XK} (G : FnOk X.prog X.w X.K X.mg X.base CX k f fd ps sp) (hr : Room (k + 1) X.A)
    (hs : PySem.W.findIn X.K (.ref C) "__len__" = some (some (.ref f))) (hf : PySem.W.isFn X.K (.ref f) = true) (hb : Binds X.K fd ps []) (hx : Passes CX X E) : CallR X (.builtin "len") (rLenO C sp E) := by
  intro pins s σ H xs us Q I r h
  obtain ⟨a, dx, fs, rfl, ha, hsp⟩ := h
  obtain ⟨u, rfl, ru⟩ := vals1 r
  cases ru
  obtain ⟨mA, J0, _⟩ := ins_get I.hok ha
  obtain ⟨od, J, _⟩ := J0.look
  obtain ⟨m, hF⟩ := I.fr
  refine PySem.W.len_K hF I.ok.mod.kin J hs hf ?_
  have rv : Vals [V.ref a] [Value.ref a] := .cons rfl .nil
  have bind := hb s [.ref a] I.kIn (by simpa using G.len _ _ _ _ hsp)
  refine wpAny_call (codeAny_mono (G.run X.A.in1 X.stack s H ⟨[.ref a], []⟩ [.ref a] [.ref a] _ E hr.in1 I.env0.in1 (by simpa using bind) rv hsp) fun res s' q => ?_)
  cases res with
  | error e => exact hx pins σ H s e s' I q
  | ok fl =>
    cases fl with
    | next => exact q.elim
    | brk => exact q.elim
    | cont => exact q.elim
    | ret w =>
      obtain ⟨v, H', I', rw', n, rfl, n0, n1, q'⟩ := I.after q
      obtain ⟨t, rfl⟩ := rw'
      exact ⟨⟨n0, n1⟩, .int n, H', I'.tok _, ⟨_, rfl⟩, q'⟩
end
section
variable {K : PySem.W.Frag} {σ : St} {F H : Hp} {te : TE} {ds : List D} {z : D}
theorem ev_lenO {C : Addr} {gs : List (Str × D)} {R : List D → D → Prop} {E : XK} {n : Int} (h : Ev K te σ F H (.obj C gs)) (hr : R [.obj C gs] (.int n)) (h0 : 0 ≤ n) (h1 : n < 2 ^ 63) :
    Ev K (tCB (rLenO C (Pu K R) E) (tCons te tNil)) σ F H (.int n) := fun F1 H1 a Q q => h F1 H1 a _ fun x F2 H2 a2 hx => by
  have hx' := hx
  cases hx with
  | obj h2 r => exact ⟨_, _, _, rfl, a2.fh _ _ h2, F2, _, _, a2.fh, .cons hx' .nil, hr, fun v F3 H3 a3 hv => by
      cases hv
      exact ⟨n, rfl, h0, h1, q _ F3 H3 (a2.trans a3) (.int n)⟩⟩
theorem wa_seqL (h : Ev K te σ F H (.lst ds)) : Wa K (iSeq K te) σ F H ds := fun F1 H1 a R q => h F1 H1 a _ fun v F2 H2 a2 hv => by
  cases hv with
  | @lst l xs _ hl hx =>
    refine .inl ⟨l, xs, rfl, SqL.of (a2.fh _ _ hl), q _ F2 H2 a2 ⟨_, _, by rw [hx.length]; exact walk_list, fun F3 H3 s1 s2 => SqL.of (s2 _ _ (s1 _ _ hl)), fun i d F3 H3 x H4 hi s1 s2 y => ?_⟩⟩
    obtain ⟨rfl, y2⟩ := y
    obtain ⟨w, e, hw⟩ := hx.get hi
    rw [y2] at e; cases e
    exact ⟨F3, Fx.refl s2, hw.up s1⟩
theorem wa_seqT (h : Ev K te σ F H (.tup ds)) : Wa K (iSeq K te) σ F H ds := fun F1 H1 a R q => h F1 H1 a _ fun v F2 H2 a2 hv => by
  cases hv with
  | @tup l xs _ hl hx =>
    refine .inr (.inl ⟨l, xs, rfl, sqT_up a2.fh hl, q _ F2 H2 a2 ⟨_, _, by rw [hx.length]; exact walk_tup, fun F3 H3 s1 s2 => sqT_up s2 (sqT_up s1 hl), fun i d F3 H3 x H4 hi s1 s2 y => ?_⟩⟩)
    obtain ⟨rfl, y2⟩ := y
    obtain ⟨w, e, hw⟩ := hx.get hi
    rw [y2] at e; cases e
    exact ⟨F3, Fx.refl s2, hw.up s1⟩
theorem wa_seqS {t : Str} (h : Ev K te σ F H (.str t)) : Wa K (iSeq K te) σ F H (t.cps.toList.map fun c => D.str ⟨#[c]⟩) := fun F1 H1 a R q => h F1 H1 a _ fun v F2 H2 a2 hv => by
  cases hv
  refine .inr (.inr ⟨t, rfl, q _ F2 H2 a2 ⟨_, _, by rw [List.length_map, Array.length_toList]; exact walk_str, fun _ _ _ _ => trivial, fun i d F3 H3 x H4 hi s1 s2 y => ?_⟩⟩)
  obtain ⟨rfl, c, hc, rfl⟩ := y
  rw [List.getElem?_map, Array.getElem?_toList, hc] at hi
  cases hi
  exact ⟨F3, Fx.refl s2, .str _⟩
/-- the pairs (i, item) -/
def enumD (ds : List D) : List D := ds.zipIdx.map fun p => .tup [.int (p.2 : Nat), p.1]
theorem enumD_length : (enumD ds).length = ds.length := by unfold enumD; rw [List.length_map, List.length_zipIdx]
theorem enumD_get {i : Nat} {d : D} (h : (enumD ds)[i]? = some d) : ∃ e, ds[i]? = some e ∧ d = .tup [.int (i : Nat), e] := by
  unfold enumD at h
  rw [List.getElem?_map, List.getElem?_zipIdx] at h
  cases e : ds[i]? with
  | none => rw [e] at h; cases h
  | some y => rw [e] at h; cases h; exact ⟨y, rfl, by simp⟩
theorem walk_enumT {a : Addr} {xs : List V} : Walk (IteT K a) xs.length (fun H => SqT K H a xs) (YPair (fun i => some (.int (i : Nat))) (fun i => xs[i]?)) := by
  refine ⟨fun i _ hi q => ⟨xs, xs[i], q, by simp [hi]⟩, fun _ q => ⟨xs, q, rfl⟩, fun i H v H' _ q y => ?_⟩
  obtain ⟨T, x, e1, e2, e3, e4⟩ := y
  exact ⟨T, .int (i : Nat), x, e1, e2, e3, rfl, e4 xs q⟩
theorem enum_yld {xs : List V} {i : Nat} {d : D} {F2 F3 H3 H4 : Hp} {x : V} (hx : Iss K F2 ds xs) (hi : (enumD ds)[i]? = some d) (s1 : Same F2 F3) (s2 : Same F3 H3) (y : YPair (fun i => some (.int (i : Nat))) (fun i => xs[i]?) i H3 x H4) :
    ∃ F4, Fz F3 H3 F4 H4 ∧ Is K F4 d x := by
  obtain ⟨e, he, rfl⟩ := enumD_get hi
  obtain ⟨T, a, b, rfl, n, rfl, ea, eb⟩ := y
  obtain ⟨w, ew, hw⟩ := hx.get he
  cases ea
  have eb : xs[i]? = some b := eb
  rw [ew] at eb
  rw [Option.some.inj eb] at hw
  have z := Fx.lay (X := Nox) (o := .tup [.int (i : Nat), b]) s2 n
  exact ⟨_, z, .tup (.inl (.inl upd_same)) (.cons (.int _) (.cons ((hw.up s1).up z.ff) .nil))⟩
theorem wa_enumL (h : Ev K te σ F H (.lst ds)) : Wa K (iEnumA K (tCons te tNil)) σ F H (enumD ds) := fun F1 H1 a R q => h F1 H1 a _ fun v F2 H2 a2 hv => by
  cases hv with
  | @lst l xs _ hl hx =>
    exact ⟨l, xs, rfl, .inl ⟨SqL.of (a2.fh _ _ hl), q _ F2 H2 a2 ⟨_, _, by rw [enumD_length, hx.length]; exact walk_enum, fun F3 H3 s1 s2 => SqL.of (s2 _ _ (s1 _ _ hl)), fun i d F3 H3 x H4 hi s1 s2 y => enum_yld hx hi s1 s2 y⟩⟩⟩
theorem wa_enumT (h : Ev K te σ F H (.tup ds)) : Wa K (iEnumA K (tCons te tNil)) σ F H (enumD ds) := fun F1 H1 a R q => h F1 H1 a _ fun v F2 H2 a2 hv => by
  cases hv with
  | @tup l xs _ hl hx =>
    exact ⟨l, xs, rfl, .inr ⟨sqT_up a2.fh hl, q _ F2 H2 a2 ⟨_, _, by rw [enumD_length, hx.length]; exact walk_enumT, fun F3 H3 s1 s2 => sqT_up s2 (sqT_up s1 hl), fun i d F3 H3 x H4 hi s1 s2 y => enum_yld hx hi s1 s2 y⟩⟩⟩
/-- repr -/
theorem rc_repr {d : D} {n : Nat} (h1 : pb n d = true) (hn : n ≤ 50) (hs : (py d).showable = true) (hz : (py d).shown.length ≤ sizeLine) : Rcd K (rRepr K) [d] (.str (py d).shown) := fun F H s xs hxs Q q => by
  cases hxs with
  | cons hx t =>
    cases t
    have h2 := dep_of n d h1
    exact ⟨_, py d, rfl, dp_of n d _ h1 (hx.up s), hs, PyData.hasDict_of_canLay _ (lay_of n d h1), by omega, hz, q_same s (.str _) q⟩
end
end Eg
namespace Eg
open PySem PySem.Spec L2
section
variable {K : PySem.W.Frag} {F H : Hp}
theorem pu_len {R : List D → D → Prop} {n : Nat} {vs : List V} {Q : VK} {E : XK} (h : ∀ ds d, R ds d → ds.length = n) (q : Pu K R vs H Q E) : vs.length = n := by
  obtain ⟨F, ds, d, _, hi, hr, _⟩ := q
  rw [← hi.length]; exact h ds d hr
theorem iss1 {a : D} {vs : List V} (h : Iss K F [a] vs) : ∃ x, vs = [x] ∧ Is K F a x := by
  cases h with
  | cons h1 t => cases t; exact ⟨_, rfl, h1⟩
theorem iss2 {a b : D} {vs : List V} (h : Iss K F [a, b] vs) : ∃ x y, vs = [x, y] ∧ Is K F a x ∧ Is K F b y := by
  cases h with
  | cons h1 t => obtain ⟨y, rfl, h2⟩ := iss1 t; exact ⟨_, y, rfl, h1, h2⟩
theorem iss3 {a b c : D} {vs : List V} (h : Iss K F [a, b, c] vs) : ∃ x y z, vs = [x, y, z] ∧ Is K F a x ∧ Is K F b y ∧ Is K F c z := by
  cases h with
  | cons h1 t => obtain ⟨y, z, rfl, h2, h3⟩ := iss2 t; exact ⟨_, y, z, rfl, h1, h2, h3⟩
theorem iss4 {a b c d : D} {vs : List V} (h : Iss K F [a, b, c, d] vs) : ∃ x y z w, vs = [x, y, z, w] ∧ Is K F a x ∧ Is K F b y ∧ Is K F c z ∧ Is K F d w := by
  cases h with
  | cons h1 t => obtain ⟨y, z, w, rfl, h2, h3, h4⟩ := iss3 t; exact ⟨_, y, z, w, rfl, h1, h2, h3, h4⟩
theorem iss5 {a b c d e : D} {vs : List V} (h : Iss K F [a, b, c, d, e] vs) : ∃ x y z w u, vs = [x, y, z, w, u] ∧ Is K F a x ∧ Is K F b y ∧ Is K F c z ∧ Is K F d w ∧ Is K F e u := by
  cases h with
  | cons h1 t => obtain ⟨y, z, w, u, rfl, h2, h3, h4, h5⟩ := iss4 t; exact ⟨_, y, z, w, u, rfl, h1, h2, h3, h4, h5⟩

/-- isinstance(d, n) as Python says, n a built-in class -/
def isaD (d : D) (n : String) : Bool := match tyD d with
  | some t => (t == n) || (t == "bool" && n == "int")
  | none => false
theorem kit_isa : ∀ t ∈ ["NoneType", "bool", "int", "str", "list", "tuple", "dict"], ∀ n ∈ ["int", "bool", "tuple", "list", "str"], kitB t n = some ((t == n) || (t == "bool" && n == "int")) := by decide +kernel
theorem tyD_mem {d : D} {t : String} (h : tyD d = some t) : t ∈ ["NoneType", "bool", "int", "str", "list", "tuple", "dict"] := by
  cases d <;> first | (cases h; done) | (cases h; decide)
theorem ev_isa {te : TE} {σ : L2.St} {d : D} {n : String} (h : Ev K te σ F H d) (ht : (tyD d).isSome = true) (hn : n ∈ ["int", "bool", "tuple", "list", "str"]) :
    Ev K (tCB (rIsi K) (tCons te (tCons (tC (.ty n)) tNil))) σ F H (.bl (isaD d n)) := by
  cases e : tyD d with
  | none => rw [e] at ht; cases ht
  | some t =>
    have q : isaD d n = ((t == n) || (t == "bool" && n == "int")) := by unfold isaD; rw [e]
    rw [q]
    exact ev_isi h e (kit_isa t (tyD_mem e) n hn)
theorem kit_isa2 : ∀ t ∈ ["NoneType", "bool", "int", "str", "list", "tuple", "dict"], kitB t "list" = some (t == "list") ∧ kitB t "tuple" = some (t == "tuple") := by decide +kernel
theorem ev_isaLT {te : TE} {σ : L2.St} {d : D} (h : Ev K te σ F H d) (ht : (tyD d).isSome = true) :
    Ev K (tCB (rIsiT K) (tCons te (tCons (tTup (tCons (tC (.ty "list")) (tCons (tC (.ty "tuple")) tNil))) tNil))) σ F H (.bl (isaD d "list" || isaD d "tuple")) := by
  cases e : tyD d with
  | none => rw [e] at ht; cases ht
  | some t =>
    have q1 : isaD d "list" = (t == "list") := by unfold isaD; rw [e]; simp
    have q2 : isaD d "tuple" = (t == "tuple") := by unfold isaD; rw [e]; simp
    rw [q1, q2]
    refine ev_isi2 h e fun K' => ?_
    obtain ⟨a, b⟩ := kit_isa2 t (tyD_mem e)
    refine kitAny_cons (kit_ty a) (fun z => ?_) (fun z => by rw [z]; rfl)
    rw [z]
    exact kitAny_cons (kit_ty b) (fun z2 => by rw [z2]; rfl) (fun z2 => by rw [z2]; rfl)
end
end Eg
/-! {row: True for row in rows} with rows of ints, and sorted of it. -/
namespace Eg
open PySem PySem.Spec L2
/-- an entry of the dict -/
def ent3 (x : List Int × Addr) : List Key × Addr × Value := (x.1.map Sum.inl, x.2, .bool true)
/-- what the dict at D holds -/
def PhX (P : Program) (w : World) (D : Addr) (l : List (List Int × Addr)) : Heap → Prop := fun h => (D == sysModules) = false ∧
  (∃ o es ep, h.get? D = some o ∧ o.ExactDict ∧ o.data = .dict es ep ∧ es.toList = (l.map ent3).map (entryOfKey (tupleKind (mixKind P w)))) ∧ ((l.map ent3).map (·.1)).Nodup
def DX (P : Program) (w : World) (D : Addr) (l : List (List Int × Addr)) : HO := .ext (PhX P w D l)
def addX (l : List (List Int × Addr)) (ns : List Int) (b : Addr) : List (List Int × Addr) := if ns ∈ l.map (·.1) then l else l ++ [(ns, b)]
theorem inl_inj : ∀ {a b : List Int}, a.map (Sum.inl (β := Str)) = b.map Sum.inl → a = b
  | [], [], _ => rfl
  | [], _ :: _, e => by simp at e
  | _ :: _, [], e => by simp at e
  | x :: a, y :: b, e => by
    rw [List.map_cons, List.map_cons] at e
    injection e with e1 e2
    injection e1 with e1
    rw [e1, inl_inj e2]
theorem put_ent {ns : List Int} : ∀ l : List (List Int × Addr), (l.map ent3).map (putAt (ns.map Sum.inl) (.bool true)) = l.map ent3
  | [] => rfl
  | x :: l => by
    rw [List.map_cons, List.map_cons, put_ent l]
    unfold putAt
    split <;> rfl
theorem at_ent {ns : List Int} : ∀ l : List (List Int × Addr), (atKey (l.map ent3) (ns.map Sum.inl)).isSome = decide (ns ∈ l.map (·.1))
  | [] => rfl
  | x :: l => by
    have ih := at_ent (ns := ns) l
    unfold atKey at ih ⊢
    rw [List.map_cons, List.find?_cons]
    by_cases e : x.1 = ns
    · have d : decide ((ent3 x).1 = ns.map Sum.inl) = true := decide_eq_true (congrArg (List.map Sum.inl) e)
      rw [d]
      subst e
      simp
    · have d : decide ((ent3 x).1 = ns.map Sum.inl) = false := decide_eq_false fun z => e (inl_inj z)
      rw [d]
      have e' : ¬ ns = x.1 := fun z => e z.symm
      simp only [List.map_cons, List.mem_cons, e', false_or]
      exact ih
theorem stored_ent {l : List (List Int × Addr)} {ns : List Int} {b : Addr} : storedH (l.map ent3) (ns.map Sum.inl) b (.bool true) = (addX l ns b).map ent3 := by
  unfold storedH addX
  rw [at_ent]
  by_cases h : ns ∈ l.map (·.1)
  · rw [if_pos (decide_eq_true h), if_pos h, put_ent]
  · rw [if_neg (by rw [decide_eq_false h]; exact Bool.false_ne_true), if_neg h, List.map_append]; rfl
theorem inl_vals (ns : List Int) : (ns.map (Sum.inl (β := Str))).map kV = ns.map V.int := by rw [List.map_map]; rfl
section
variable {X : Cx} {pins : List (Addr × Obj)} {σ : L2.St} {H : Hp} {s : Shared}
theorem key_is {b : Addr} {ns : List Int} (I : Inv X pins σ H s) (h : SqT X.K H b (ns.map V.int)) : (tupleKind (mixKind X.prog X.w)).is s.heap (ns.map Sum.inl) b := by
  obtain ⟨its, r, ⟨o, h1, h2, n, h3⟩, _⟩ := I.tuple h
  rw [← inl_vals] at r
  exact ⟨o, its.toArray, n, h1, h2, h3, by simpa using items_are r⟩
theorem tup_is {b : Addr} {ns : List Int} (I : Inv X pins σ H s) (h : SqT X.K H b (ns.map V.int)) : TS.TupInts s.heap (.ref b) ns := by
  obtain ⟨its, r, t, _⟩ := I.tuple h
  exact ⟨b, its.toArray, rfl, t, by simpa using L2.Vals.ints r⟩
/-- the dict as the library says it -/
theorem dx_of {D : Addr} {l : List (List Int × Addr)} (I : Inv X pins σ H s) (hD : H D = some (DX X.prog X.w D l)) (hk : ∀ x ∈ l, SqT X.K H x.2 (x.1.map V.int)) : (D == sysModules) = false ∧ s.heap.DictOfH (tupleKind (mixKind X.prog X.w)) D (l.map ent3) := by
  obtain ⟨⟨h0, ⟨o, es, ep, h1, h2, h3, h4⟩, h5⟩, _, _⟩ := (show ObjOk X.prog X.w H s.heap D (.ext (PhX X.prog X.w D l)) from I.hok D _ hD)
  refine ⟨h0, o, es, ep, h1, h2, h3, h4, fun x hx => ?_, h5⟩
  obtain ⟨y, hy, rfl⟩ := List.mem_map.mp hx
  exact key_is I (hk y hy)
theorem dx_ok {P : Program} {w : World} {H' : Hp} {h' : Heap} {D : Addr} {l : List (List Int × Addr)} (h0 : (D == sysModules) = false) (dd : h'.DictOfH (tupleKind (mixKind P w)) D (l.map ent3)) : ObjOk P w H' h' D (DX P w D l) := by
  obtain ⟨o, es, ep, h1, h2, h3, h4, _, h5⟩ := dd
  refine ⟨⟨h0, ⟨o, es, ep, h1, h2, h3, h4⟩, h5⟩, ⟨o, h1⟩, fun g1 g2 ⟨a0, ⟨o', es', ep', a1, a2, a3, a4⟩, a5⟩ k => ⟨a0, ⟨o', es', ep', k _ a1, a2, a3, a4⟩, a5⟩⟩
/-- d[row] = True -/
theorem dx_set {D b : Addr} {l : List (List Int × Addr)} {ns : List Int} {E : Value → Shared → Prop} {Q : Unit → Shared → Prop} (hu : X.A.units < cLine) (I : Inv X pins σ H s) (hD : H D = some (DX X.prog X.w D l)) (hk : ∀ x ∈ l, SqT X.K H x.2 (x.1.map V.int)) (hb : SqT X.K H b (ns.map V.int))
    (hz : l.length < sizeLine) (q : ∀ s', Inv X pins σ (upd H D (DX X.prog X.w D (addX l ns b))) s' → Q () s') : wpAny (model X.prog X.w) X.A (dictSet D (.ref b) (.bool true)) Q E s := by
  obtain ⟨h0, dd⟩ := dx_of I hD hk
  refine wpAny_dictSet_heap (hsz := by rw [List.length_map]; omega) hu (key_is I hb) dd fun h' dd' hs => q _ ?_
  rw [stored_ent] at dd'
  have he : ∃ q, h'.get? D = some q := let ⟨q, _, _, hq, _⟩ := dd'; ⟨q, hq⟩
  exact d_write I (by rw [hD]; exact True.intro) hs he (dx_ok h0 dd')
end

section
variable {X : Cx}
/-- {k: True for target in iter}, the keys tuples of ints: D the new dict -/
def tDx (P : Program) (w : World) (K : PySem.W.Frag) (wi : TI) (g : TG) (tk : TE) (vs : List Nat) : TE := fun σ H Q => wi σ H fun J H1 => ∀ D, H1 D = none → ∃ W : Nat → Nat → Hp → Prop, (∃ m, W 0 m (upd H1 D (DX P w D []))) ∧ ∀ i m H2, W i m H2 →
  (J.stop i H2 ∧ Q (.ref D) H2) ∨ (J.go i H2 ∧ ∃ Nx : Hp → Prop, (∀ H', Nx H' → ∃ m', m' < m ∧ W (i + 1) m' H') ∧ ∀ x H', J.yld i H2 x H' → g x (wipe σ vs) H' fun σ2 H3 => wipe σ2 vs = wipe σ vs ∧ tk σ2 H3 fun y H4 =>
    ∃ l ns b, y = .ref b ∧ SqT K H4 b (ns.map V.int) ∧ H4 D = some (DX P w D l) ∧ (∀ x ∈ l, SqT K H4 x.2 (x.1.map V.int)) ∧ l.length < sizeLine ∧ Nx (upd H4 D (DX P w D (addX l ns b))))
theorem dx_core {pins : List (Addr × Obj)} {s : Shared} {σ : L2.St} {H : Hp} {Q : VK} {kx tg iter : Expr} {scope : Scope} {own : List (Str × Nat)} {pos pos' vpos : Pos} {vn : Nat} {wi : TI} {g : TG} {tk : TE} {Qf : Value → Shared → Prop}
    (hu : X.A.units < cLine) (hcalm : X.calm = true) (hN : X.N.Nodup) (I : Inv X pins σ H s) (hi : PI X tg iter wi) (blk : BlkOk X.N X.env.scope scope own)
    (hg : ∀ (s' : Shared) (H' : Hp) (C : Addr) (cl : List (Str × Addr)) (fp : List Addr), PG (X.blk s' H' scope (compEnvC scope cl C X.env) fp) tg g)
    (hk : ∀ (s' : Shared) (H' : Hp) (C : Addr) (cl : List (Str × Addr)) (fp : List Addr), PE (X.blk s' H' scope (compEnvC scope cl C X.env) fp) kx tk) (hfold : ∀ x, foldedSetIterable iter X.env x = pure x)
    (h : tDx X.prog X.w X.K wi g tk (own.map (·.2)) σ H Q)
    (hend : ∀ D C s' m H', Inv X pins σ H' s' → Q (.ref D) H' → s'.heap.Ns C m → FpOk X pins H' C → compPost (model X.prog X.w) X.A X.xe none Qf (.ref D) C (.ok .next) s') :
    wpAny (model X.prog X.w) X.A (comprehension (.DictComp kx (.Constant (.bool true) vn vpos) [⟨tg, iter, [], 0⟩] scope pos) scope X.env pos' newDict false (eval iter X.env) none) Qf X.xe s := by
  have hfr : ∀ y ∈ scope.names, y.2 = .free → ∃ c, X.env.cells.lookup y.1 = some c := fun y hy e => (blk.free y hy e).elim (fun k => I.ok.has _ (.inl k)) fun k => I.ok.has _ (.inr k)
  refine wpAny_comprehension_free (use := none) rfl hfold (closure_ok hfr) blk.kind (fun y hy e => by rw [blk.uniq y hy, e])
    (thn (hi.run pins s σ H _ I h) fun xv s1 hx => thn hx fun itv s2 ⟨it, fp, tn, J, H2, e, I2, T, st2, f2, q⟩ => ?_)
  subst e
  refine wpAny_newObj_type (newEnv_comp ?_)
  obtain ⟨D, hD⟩ : ∃ D, s2.heap.objs.size = D := ⟨_, rfl⟩
  rw [hD]
  have hDn : H2 D = none := I2.hok.fresh (Nat.le_of_eq hD)
  obtain ⟨W, ⟨m0, w0⟩, turn⟩ := q D hDn
  obtain ⟨s3, hs3⟩ : ∃ s3 : Shared, ({ s2 with heap := s2.heap.push { cls := .type "dict", data := .dict #[] } } : Shared) = s3 := ⟨_, rfl⟩
  rw [hs3]
  have I3 : Inv X pins σ (upd H2 D (DX X.prog X.w D [])) s3 := by
    rw [← hs3]
    refine I2.laid (t' := s2.toks) (fun b o z => Heap.get?_push_of_some _ z) (Nat.le_of_eq hD) ?_
    rw [← hD]
    refine dx_ok ?_ (Heap.DictOfH.new s2.heap)
    exact beq_eq_false_iff_ne.mpr (Nat.ne_of_gt I2.big)
  have h3 : s3.heap = s2.heap.push { cls := .type "dict", data := .dict #[] } := by rw [← hs3]
  have old : ∀ b ∈ fp, b < s2.heap.objs.size := fun b hb => let ⟨o, z, _⟩ := T.obj _ _ st2 b hb; Heap.lt_size z
  have f3 : ∀ b ∈ fp, FpOk X pins (upd H2 D (DX X.prog X.w D [])) b ∧ b < s3.heap.objs.size := fun b hb => by
    have lt := old b hb
    refine ⟨⟨?_, (f2 b hb).2⟩, by rw [h3, Heap.size_push]; exact Nat.lt_succ_of_lt lt⟩
    rw [upd_ne (by rw [← hD]; exact Nat.ne_of_lt lt)]
    exact (f2 b hb).1
  have st3 : tn 0 s3.heap := T.keep _ _ _ st2 fun b _ o z => by rw [h3]; exact Heap.get?_push_of_some _ z
  have I4 := block_start I3 blk hN f3
  have pg := hg s3 (upd H2 D (DX X.prog X.w D [])) s3.heap.objs.size (cellsFrom (s3.heap.objs.size + 1) scope.names (cloFrom X.env.cells scope.names [])) fp
  have pk := hk s3 (upd H2 D (DX X.prog X.w D [])) s3.heap.objs.size (cellsFrom (s3.heap.objs.size + 1) scope.names (cloFrom X.env.cells scope.names [])) fp
  show codeAny _ _ (.compStart (.DictComp kx (.Constant (.bool true) vn vpos) [⟨tg, iter, [], 0⟩] scope pos) 0 (.ref it) (.ref D) (compEnvC scope (cellsFrom (s3.heap.objs.size + 1) scope.names (cloFrom X.env.cells scope.names [])) s3.heap.objs.size X.env)) (compPost (model X.prog X.w) X.A X.xe none Qf (.ref D) s3.heap.objs.size) { s3 with heap := pushCells (s3.heap.push { cls := .type "dict", data := .dict #[] }) scope.names }
  have nfp : ∀ b ∈ fp, (upd H2 D (DX X.prog X.w D [])) b = none := fun b hb => (f3 b hb).1.1
  generalize hce : compEnvC scope (cellsFrom (s3.heap.objs.size + 1) scope.names (cloFrom X.env.cells scope.names [])) s3.heap.objs.size X.env = ce at I4 pg pk ⊢
  have cL : ce.locals = s3.heap.objs.size := by subst hce; rfl
  generalize hH3 : upd H2 D (DX X.prog X.w D []) = H3 at I3 I4 pg pk w0 nfp f3
  generalize hs4 : ({ s3 with heap := pushCells (s3.heap.push { cls := .type "dict", data := .dict #[] }) scope.names } : Shared) = s4 at I4 ⊢
  have st4 : tn 0 s4.heap := T.keep _ _ _ st3 fun b _ o z => by rw [← hs4]; exact pushCells_keeps _ _ _ _ (Heap.get?_push_of_some _ z)
  have stat : ∀ {σ' : L2.St} {H' : Hp} {s' : Shared}, Inv (X.blk s3 H3 scope ce fp) [] σ' H' s' → (∀ b ∈ fp, H' b = none) → ∀ b ∈ fp, FpOk (X.blk s3 H3 scope ce fp) [] H' b := fun {σ' H' s'} J' hn b hb =>
    ⟨hn b hb, (J'.ok.exf b hb).1, J'.ok.exfs b hb, .inl hb, fun x c z => (J'.ok.exf b hb).2 x c z, fun p hp => absurd (show p ∈ ([] : List (Addr × Obj)) ++ [] from hp) (by simp)⟩
  have loop : codeAny (model X.prog X.w) X.A (.compLoop (.DictComp kx (.Constant (.bool true) vn vpos) [⟨tg, iter, [], 0⟩] scope pos) 0 (.ref it) (.ref D) ce) (compPost (model X.prog X.w) X.A X.xe none Qf (.ref D) s3.heap.objs.size) s4 := by
    refine compLoop_anyD (fun n s' => ∃ i H', Inv (X.blk s3 H3 scope ce fp) [] (wipe σ (own.map (·.2))) H' s' ∧ tn i s'.heap ∧ (∀ b ∈ fp, H' b = none) ∧ W i n H') ?_ m0 ⟨0, H3, I4, st4, nfp, w0⟩
    rintro n s5 ⟨i, H5, I5, st5, n5, w5⟩
    rcases turn i n H5 w5 with ⟨stop, qq⟩ | ⟨go, Nx, hNx, step⟩
    · refine thnF (T.done (X.blk s3 H3 scope ce fp) rfl rfl rfl hcalm i [] s5 _ H5 (fun _ _ => False) I5 (stat I5 n5) st5 stop) fun r s6 ⟨hr, I6⟩ => ?_
      subst hr
      have I7 : Inv X pins σ H5 s6 := I3.call' (ch := fp) I6.os I6.base I6.hok I6.bare fun b hb => ⟨(f3 b hb).1.2.2.2.1, (f3 b hb).1.2.1, (f3 b hb).1.2.2.2.2.1, (f3 b hb).1.2.2.2.2.2⟩
      have nC : H5 s3.heap.objs.size = none := cL ▸ (show H5 ce.locals = none from I6.free)
      obtain ⟨m, hn, _⟩ := I6.loc
      exact hend D s3.heap.objs.size s6 m H5 I7 qq (cL ▸ (show s6.heap.Ns ce.locals m from hn)) (I3.fpOk (Nat.le_refl _) nC)
    · refine thnF (T.item (X.blk s3 H3 scope ce fp) rfl rfl rfl hcalm i [] s5 _ H5 (fun _ _ => False) I5 (stat I5 n5) st5 go) fun r s6 ⟨u, hr, h6⟩ => ?_
      subst hr
      refine thnF h6 fun _ s7 ⟨x, H7, I7, r7, y7, st7, n7⟩ => ?_
      refine thnF (pg.run _ s7 _ H7 x u _ (I7.pinned (stat I7 n7) (T.obj _ _ st7)) r7 (step x H7 y7)) fun _ s8 ⟨σ8, H8, I8, hw8, q8⟩ => ?_
      refine wpAny_pure ?_
      rw [if_pos rfl]
      refine thnF (pk.run _ s8 σ8 H8 _ I8 q8) fun z s10 ⟨yk, H10, I10, r10, l, ns, b, ek, hb, hD10, hl10, hz10, nx⟩ => ?_
      subst ek
      cases (show z = Value.ref b from r10)
      refine wpAny_pure ?_
      refine dx_set (X := X.blk s3 H3 scope ce fp) hu I10 hD10 hl10 hb hz10 fun s12 I12 => ?_
      obtain ⟨m', hm, w'⟩ := hNx _ nx
      have pin' : ∀ c ∈ fp, ∀ o, s7.heap.get? c = some o → s12.heap.get? c = some o ∧ (upd H10 D (DX X.prog X.w D (addX l ns b))) c = none := fun c hc o z =>
        let y := I12.pin (c, o) (List.mem_append_right _ (List.mem_append_right _ (mem_pinsAt hc z)))
        ⟨y.1, y.2.1⟩
      refine ⟨m', hm, i + 1, _, (I12.unpinned (pins := [])).weak (by rw [← hw8, wipe_length]) (fun j v z => ?_), T.keep _ _ _ st7 fun c hc o z => (pin' c hc o z).1, fun c hc => ?_, w'⟩
      · rw [← hw8] at z
        exact (wipe_some z).1
      · obtain ⟨o, z, _⟩ := T.obj _ _ st7 c hc
        exact (pin' c hc o z).2
  exact codeAny_compStart_dict loop (T.self X.A 0 _ _ _ st4 loop)
theorem pe_dx {kx tg iter : Expr} {scope : Scope} {own : List (Str × Nat)} {pos vpos : Pos} {vn : Nat} {wi : TI} {g : TG} {tk : TE} (hu : X.A.units < cLine) (hcalm : X.calm = true) (hN : X.N.Nodup) (hi : PI X tg iter wi) (blk : BlkOk X.N X.env.scope scope own)
    (hg : ∀ (s' : Shared) (H' : Hp) (C : Addr) (cl : List (Str × Addr)) (fp : List Addr), PG (X.blk s' H' scope (compEnvC scope cl C X.env) fp) tg g)
    (hk : ∀ (s' : Shared) (H' : Hp) (C : Addr) (cl : List (Str × Addr)) (fp : List Addr), PE (X.blk s' H' scope (compEnvC scope cl C X.env) fp) kx tk) (hfold : ∀ x, foldedSetIterable iter X.env x = pure x := by intro _; rfl) :
    PE X (.DictComp kx (.Constant (.bool true) vn vpos) [⟨tg, iter, [], 0⟩] scope pos) (tDx X.prog X.w X.K wi g tk (own.map (·.2))) := by
  refine ⟨fun pins s σ H Q I h => ?_⟩
  rw [arm_eval_DictComp]
  refine dx_core hu hcalm hN I hi blk hg hk hfold h fun D C s' m H' I' q hn ⟨f0, f1, f2, f3, f4, f5⟩ => ⟨m, hn, fun h'' sb => ⟨.ref D, H', ?_, rfl, q⟩⟩
  exact I'.turned (t' := s'.toks) (fun b o hb z => (sb.2 b hb).trans z) f0 f1 f3 f4 f5

/-- sorted of such a dict -/
def rSortX (P : Program) (w : World) (K : PySem.W.Frag) : List V → Hp → VK → Prop := fun xs H Q => ∃ (D : Addr) (l : List (List Int × Addr)) (d : Nat) (B : Int), xs = [.ref D] ∧ H D = some (DX P w D l) ∧ (∀ x ∈ l, SqT K H x.2 (x.1.map V.int) ∧ x.1.length = d ∧ TS.Bd B x.1) ∧ l.length < 64 ∧ 1 ≤ d ∧
  ∀ (l' : List (List Int × Addr)) (p : Addr), l'.Perm l → l'.Pairwise (fun x y => TS.code B x.1 ≤ TS.code B y.1) → H p = none → Q (.ref p) (upd H p (.lst (l'.map fun x => V.ref x.2)))
theorem nth_all {us : List Value} {bs : List Addr} (hl : us.length = bs.length) (h : ∀ (j : Nat) (v : Value), us[j]? = some v → ∃ b, bs[j]? = some b ∧ v = .ref b) : us = bs.map Value.ref := by
  apply List.ext_getElem?
  intro j
  rw [List.getElem?_map]
  cases hj : us[j]? with
  | none => rw [List.getElem?_eq_none (by rw [← hl]; exact List.getElem?_eq_none_iff.mp hj)]; rfl
  | some v => obtain ⟨b, e, rfl⟩ := h j v hj; rw [e]; rfl
theorem perm_pull {α β : Type} {f : α → β} : ∀ {bs : List β} {l : List α}, bs.Perm (l.map f) → ∃ l' : List α, l'.Perm l ∧ bs = l'.map f := by
  intro bs l h
  generalize hm : l.map f = cs at h
  induction h generalizing l with
  | nil => cases l with
    | nil => exact ⟨[], .nil, rfl⟩
    | cons _ _ => simp at hm
  | cons x _ ih => cases l with
    | nil => simp at hm
    | cons a l =>
      rw [List.map_cons] at hm
      injection hm with e1 e2
      obtain ⟨l', p, rfl⟩ := ih e2
      exact ⟨a :: l', p.cons a, by rw [List.map_cons, e1]⟩
  | swap x y cs => cases l with
    | nil => simp at hm
    | cons a l => cases l with
      | nil => simp at hm
      | cons b l =>
        rw [List.map_cons, List.map_cons] at hm
        injection hm with e1 e2
        injection e2 with e2 e3
        exact ⟨b :: a :: l, .swap a b l, by rw [List.map_cons, List.map_cons, e1, e2, e3]⟩
  | trans _ _ ih1 ih2 =>
    obtain ⟨l', p, rfl⟩ := ih2 hm
    obtain ⟨l'', p', e⟩ := ih1 rfl
    exact ⟨l'', p'.trans p, e⟩
theorem vals_ref : ∀ bs : List Addr, Vals (bs.map V.ref) (bs.map Value.ref)
  | [] => .nil
  | _ :: r => .cons rfl (vals_ref r)
theorem call_sortX (hcalm : X.calm = true) : CallR X (.builtin "sorted") (rSortX X.prog X.w X.K) := by
  intro pins s σ H xs us Q I r ⟨D, l, d, B, ex, hD, hl, h64, hd1, q⟩
  subst ex
  obtain ⟨u, rfl, rx⟩ := vals1 r
  cases rx
  obtain ⟨h0, o, es, ep, ho, hx, hdt, he, hn⟩ := dx_of I hD fun x hx => (hl x hx).1
  have l1 : es.size = l.length := by rw [← Array.length_toList, he, List.length_map, List.length_map]
  refine Calls.call_function_entry PyProof.Rows.kind_sorted PyProof.Rows.plain_sorted PyProof.Rows.entry_sorted (PyProof.Rows.args_sorted1 _) ?_
  unfold Builtin.«sorted»
  refine wpAny_bind (m := checkCount "sorted" 1 1 _) (wpAny_pure ?_)
  refine wpAny_bind (PySem.W.kdu_collect (A := X.A.in1) (kdl_raw h0 hx hdt) (I.ok.hd hcalm) ho (by rw [l1, sizeLine_eq]; omega) fun h' tk acc keep hacc => ?_)
  have ea : acc.toList = (l.map (·.2)).map Value.ref := nth_all (by rw [Array.length_toList, hacc.1, l1, List.length_map]) fun j v e => by
    obtain ⟨en, e1, e2⟩ := hacc.2 j v (by rw [← Array.getElem?_toList]; exact e)
    rw [← Array.getElem?_toList, he, List.getElem?_map, List.getElem?_map] at e1
    rw [List.getElem?_map]
    cases hj : l[j]? with
    | none => rw [hj] at e1; cases e1
    | some y =>
      rw [hj] at e1
      have e3 : entryOfKey (tupleKind (mixKind X.prog X.w)) (ent3 y) = en := Option.some.inj e1
      exact ⟨y.2, rfl, by rw [e2, ← e3]; rfl⟩
  have I1 : Inv X pins σ H { s with heap := h', toks := tk } := I.kept keep
  have al : acc.toList.length = l.length := by rw [ea, List.length_map, List.length_map]
  refine wpAny_bind (wpAny_newList ?_ (by rw [al, sizeLine_eq]; omega))
  have hoL : (h'.push (PyProof.Rows.seqObj "list" acc.toList.toArray 0)).get? h'.objs.size = some (PyProof.Rows.seqObj "list" acc.toList.toArray 0) := Heap.get?_push_size _ rfl
  have tk1 : ∀ x ∈ l, TS.TupInts (h'.push (PyProof.Rows.seqObj "list" acc.toList.toArray 0)) (.ref x.2) x.1 := fun x hx => (tup_is I1 (hl x hx).1).keeps fun b o e _ => Heap.get?_push_of_some _ e
  have ok : TS.TupsOk (h'.push (PyProof.Rows.seqObj "list" acc.toList.toArray 0)) d B acc.toList := fun v hv => by
    rw [ea] at hv
    obtain ⟨b, hb, rfl⟩ := List.mem_map.mp hv
    obtain ⟨x, hx, rfl⟩ := List.mem_map.mp hb
    exact ⟨x.1, tk1 x hx, (hl x hx).2.1, (hl x hx).2.2⟩
  show wpAny _ _ _ _ _ { s with heap := h'.push (PyProof.Rows.seqObj "list" acc.toList.toArray 0), toks := tk }
  refine wpAny_bind (wpAny_holding (TS.call_sort_tups (s := { s with heap := h'.push (PyProof.Rows.seqObj "list" acc.toList.toArray 0), toks := tk }) hoL (by rw [al]; exact h64) hd1 ok fun out a1 a2 => ?_))
  rw [ea, List.map_map] at a1
  obtain ⟨l', pl, eo⟩ := perm_pull a1
  rw [eo] at a2
  obtain ⟨c, hc⟩ := PyProof.Rows.sortedHeap_at (vs := acc.toList) (out := out) hoL
  have pw : l'.Pairwise (fun x y => TS.code B x.1 ≤ TS.code B y.1) := by
    refine List.Pairwise.imp_of_mem (fun {x y} hx hy hle => ?_) (List.pairwise_map.mp a2)
    have f1 := (tk1 x (pl.mem_iff.mp hx)).ints
    have f2 := (tk1 y (pl.mem_iff.mp hy)).ints
    show TS.code B x.1 ≤ TS.code B y.1
    rw [← f1, ← f2]
    exact hle
  refine wpAny_pure ⟨_, rfl, .ref h'.objs.size, upd H h'.objs.size (.lst (l'.map fun x => V.ref x.2)), I1.laid (t' := tk) (fun b u e => ?_) (Nat.le_refl _) (show ObjOk X.prog X.w _ _ _ (.lst (l'.map fun x => V.ref x.2)) from ⟨?_, out.toList, c, ?_, by rw [Array.toArray_toList]; exact hc⟩), rfl, q l' _ pl pw (I1.hok.fresh (Nat.le_refl _))⟩
  · have lt : b < h'.objs.size := Heap.lt_size e
    rw [PyProof.Rows.sortedHeap_old (Nat.ne_of_lt lt) (by rw [PyProof.Rows.size_push']; exact Nat.lt_succ_of_lt lt)]
    exact Heap.get?_push_of_some _ e
  · rw [List.length_map, pl.length_eq, sizeLine_eq]; omega
  · rw [eo]
    have z := vals_ref (l'.map (·.2))
    rw [List.map_map, List.map_map] at z
    exact z
end
end Eg
/-! rows: tuples of 0 and 1, ascending and each once. -/
namespace Eg
open PySem PySem.Spec L2
abbrev rowD (r : List Int) : D := .tup (r.map D.int)
/-- a row of d values -/
def IsRow (d : Nat) (r : List Int) : Prop := r.length = d ∧ TS.Bd 2 r
def dedX (acc : List (List Int)) (r : List Int) : List (List Int) := if r ∈ acc then acc else acc ++ [r]
def ded (rows : List (List Int)) : List (List Int) := rows.foldl dedX []
abbrev cd (r : List Int) : Int := TS.code 2 r
/-- ascending -/
def Asc (rows : List (List Int)) : Prop := rows.Pairwise fun r q => cd r < cd q
def insR (r : List Int) : List (List Int) → List (List Int)
  | [] => [r]
  | q :: l => if cd r < cd q then r :: q :: l else if cd r = cd q then q :: l else q :: insR r l
/-- ascending, each once -/
def srt (rows : List (List Int)) : List (List Int) := rows.foldr insR []

theorem cd_inj {d : Nat} : ∀ {r q : List Int}, r.length = d → q.length = d → TS.Bd 2 r → TS.Bd 2 q → cd r = cd q → r = q := by
  induction d with
  | zero =>
    intro r q a b _ _ _
    rw [List.length_eq_zero_iff] at a b
    rw [a, b]
  | succ d ih =>
    intro r q a b h1 h2 e
    match r, q, a, b with
    | x :: r, y :: q, a, b =>
      have a' : r.length = d := by simpa using a
      have b' : q.length = d := by simpa using b
      rcases Int.lt_trichotomy x y with h | h | h
      · exact absurd (TS.code_lt (by rw [a', b']) h1.tail h2.tail h) (by show ¬ cd (x :: r) < cd (y :: q); omega)
      · subst h
        have e2 : cd r = cd q := by
          have z : x * 2 ^ r.length + cd r = x * 2 ^ q.length + cd q := e
          rw [a', b'] at z
          omega
        rw [ih a' b' h1.tail h2.tail e2]
      · exact absurd (TS.code_lt (by rw [a', b']) h2.tail h1.tail h) (by show ¬ cd (y :: q) < cd (x :: r); omega)
theorem ins_mem {r x : List Int} {d : Nat} (hr : IsRow d r) : ∀ {l : List (List Int)}, (∀ q ∈ l, IsRow d q) → (x ∈ insR r l ↔ x = r ∨ x ∈ l)
  | [], _ => by simp [insR]
  | q :: l, h => by
    unfold insR
    split
    · simp
    · split
      · rename_i h1 h2
        have e : r = q := cd_inj hr.1 (h q (List.mem_cons_self ..)).1 hr.2 (h q (List.mem_cons_self ..)).2 h2
        subst e
        simp
      · rw [List.mem_cons, ins_mem hr (fun z hz => h z (List.mem_cons_of_mem _ hz)), List.mem_cons]
        constructor
        · rintro (z | z | z)
          · exact .inr (.inl z)
          · exact .inl z
          · exact .inr (.inr z)
        · rintro (z | z | z)
          · exact .inr (.inl z)
          · exact .inl z
          · exact .inr (.inr z)
theorem ins_asc {r : List Int} {d : Nat} (hr : IsRow d r) : ∀ {l : List (List Int)}, (∀ q ∈ l, IsRow d q) → Asc l → Asc (insR r l)
  | [], _, _ => by unfold insR Asc; simp
  | q :: l, h, a => by
    have h' : ∀ z ∈ l, IsRow d z := fun z hz => h z (List.mem_cons_of_mem _ hz)
    unfold Asc at a ⊢
    unfold insR
    rw [List.pairwise_cons] at a
    split
    · rename_i lt
      rw [List.pairwise_cons, List.pairwise_cons]
      refine ⟨fun z hz => ?_, a⟩
      rcases List.mem_cons.mp hz with rfl | hz
      · exact lt
      · exact Int.lt_trans lt (a.1 z hz)
    · split
      · rw [List.pairwise_cons]; exact a
      · rename_i n1 n2
        rw [List.pairwise_cons]
        refine ⟨fun z hz => ?_, ins_asc hr h' a.2⟩
        rcases (ins_mem hr h').mp hz with rfl | hz
        · show cd q < cd z; omega
        · exact a.1 z hz
theorem srt_mem {d : Nat} {x : List Int} : ∀ {rows : List (List Int)}, (∀ q ∈ rows, IsRow d q) → (x ∈ srt rows ↔ x ∈ rows)
  | [], _ => Iff.rfl
  | r :: rows, h => by
    have h' : ∀ z ∈ rows, IsRow d z := fun z hz => h z (List.mem_cons_of_mem _ hz)
    show x ∈ insR r (srt rows) ↔ _
    rw [ins_mem (h r (List.mem_cons_self ..)) (fun q hq => h' q ((srt_mem h').mp hq)), srt_mem h', List.mem_cons]
theorem srt_asc {d : Nat} : ∀ {rows : List (List Int)}, (∀ q ∈ rows, IsRow d q) → Asc (srt rows)
  | [], _ => List.Pairwise.nil
  | r :: rows, h => by
    have h' : ∀ z ∈ rows, IsRow d z := fun z hz => h z (List.mem_cons_of_mem _ hz)
    exact ins_asc (h r (List.mem_cons_self ..)) (fun q hq => h' q ((srt_mem h').mp hq)) (srt_asc h')
/-- ascending lists of the same rows are one -/
theorem asc_eq : ∀ {l m : List (List Int)}, Asc l → Asc m → (∀ x, x ∈ l ↔ x ∈ m) → l = m
  | [], [], _, _, _ => rfl
  | [], y :: m, _, _, h => by have := (h y).mpr (List.mem_cons_self ..); simp at this
  | x :: l, [], _, _, h => by have := (h x).mp (List.mem_cons_self ..); simp at this
  | x :: l, y :: m, a, b, h => by
    unfold Asc at a b
    rw [List.pairwise_cons] at a b
    have e : x = y := by
      rcases List.mem_cons.mp ((h x).mp (List.mem_cons_self ..)) with e | e
      · exact e
      · rcases List.mem_cons.mp ((h y).mpr (List.mem_cons_self ..)) with e2 | e2
        · exact e2.symm
        · have := a.1 y e2; have := b.1 x e; omega
    subst e
    refine congrArg (x :: ·) (asc_eq a.2 b.2 fun z => ⟨fun hz => ?_, fun hz => ?_⟩)
    · rcases List.mem_cons.mp ((h z).mp (List.mem_cons_of_mem _ hz)) with e | e
      · subst e; have := a.1 z hz; omega
      · exact e
    · rcases List.mem_cons.mp ((h z).mpr (List.mem_cons_of_mem _ hz)) with e | e
      · subst e; have := b.1 z hz; omega
      · exact e
theorem srt_self {d : Nat} {rows : List (List Int)} (h : ∀ q ∈ rows, IsRow d q) (a : Asc rows) : srt rows = rows := asc_eq (srt_asc h) a fun _ => srt_mem h
theorem ded_mem {x : List Int} : ∀ {rows acc : List (List Int)}, x ∈ rows.foldl dedX acc ↔ x ∈ acc ∨ x ∈ rows
  | [], acc => by simp
  | r :: rows, acc => by
    show x ∈ rows.foldl dedX (dedX acc r) ↔ _
    rw [ded_mem, List.mem_cons]
    unfold dedX
    split
    · rename_i h
      constructor
      · rintro (z | z)
        · exact .inl z
        · exact .inr (.inr z)
      · rintro (z | rfl | z)
        · exact .inl z
        · exact .inl h
        · exact .inr z
    · rw [List.mem_append, List.mem_singleton, or_assoc]
theorem ded_nodup : ∀ {rows acc : List (List Int)}, acc.Nodup → (rows.foldl dedX acc).Nodup
  | [], _, h => h
  | r :: rows, acc, h => by
    show (rows.foldl dedX (dedX acc r)).Nodup
    refine ded_nodup ?_
    unfold dedX
    split
    · exact h
    · rename_i n
      rw [List.nodup_append]
      refine ⟨h, by simp, fun a ha b hb => ?_⟩
      rw [List.mem_singleton] at hb
      subst hb
      exact fun e => n (e ▸ ha)
/-- what sorting the keys gives -/
theorem srt_of {d : Nat} {rows l : List (List Int)} (h : ∀ q ∈ rows, IsRow d q) (p : l.Perm (ded rows)) (a : l.Pairwise fun r q => cd r ≤ cd q) : l = srt rows := by
  have mem : ∀ x, x ∈ l ↔ x ∈ rows := fun x => by rw [p.mem_iff]; unfold ded; rw [ded_mem]; simp
  have nd : l.Nodup := p.nodup_iff.mpr (ded_nodup List.nodup_nil)
  refine asc_eq ?_ (srt_asc h) fun x => by rw [mem, srt_mem h]
  refine List.Pairwise.imp_of_mem (fun {x y} hx hy ⟨le, ne⟩ => ?_) (a.and nd)
  have hx' := h x ((mem x).mp hx)
  have hy' := h y ((mem y).mp hy)
  have : cd x ≠ cd y := fun e => ne (cd_inj hx'.1 hy'.1 hx'.2 hy'.2 e)
  omega
/-- few of them -/
theorem asc_few : ∀ {l : List (List Int)} {lo hi : Int}, Asc l → (∀ r ∈ l, lo ≤ cd r ∧ cd r < hi) → (l.length : Int) ≤ max 0 (hi - lo)
  | [], _, _, _, _ => by simp only [List.length_nil]; omega
  | r :: l, lo, hi, a, h => by
    unfold Asc at a
    rw [List.pairwise_cons] at a
    have h0 := h r (List.mem_cons_self ..)
    have ih := asc_few (lo := cd r + 1) (hi := hi) a.2 fun q hq => ⟨by have := a.1 q hq; omega, (h q (List.mem_cons_of_mem _ hq)).2⟩
    rw [List.length_cons]
    push_cast
    omega
theorem asc_16 {d : Nat} {l : List (List Int)} (hd : d ≤ 4) (a : Asc l) (h : ∀ r ∈ l, IsRow d r) : l.length ≤ 16 := by
  have := asc_few (lo := 0) (hi := 2 ^ d) a fun r hr => by
    have := TS.code_bd r (h r hr).2
    rw [(h r hr).1] at this
    exact this
  have h2 : (2 : Int) ^ d ≤ 16 := by
    have : d = 0 ∨ d = 1 ∨ d = 2 ∨ d = 3 ∨ d = 4 := by omega
    rcases this with rfl | rfl | rfl | rfl | rfl <;> decide
  omega

section
variable {P : Program} {w : World} {K : PySem.W.Frag} {σ : L2.St} {F H : Hp}
theorem is_row {r : List Int} {v : V} (h : Is K F (rowD r) v) : ∃ b, v = .ref b ∧ SqT K F b (r.map V.int) := by
  cases h with
  | @tup b xs _ h1 r1 => exact ⟨b, rfl, by rw [← r1.ints]; exact h1⟩
theorem is_row' {r : List Int} {b : Addr} (h : SqT K F b (r.map V.int)) : Is K F (rowD r) (.ref b) := .tup h (iss_ints r)
theorem add_fst {l : List (List Int × Addr)} {r : List Int} {b : Addr} : (addX l r b).map (·.1) = dedX (l.map (·.1)) r := by
  unfold addX dedX
  split
  · rfl
  · rw [List.map_append]; rfl
theorem ded_len : ∀ {rows acc : List (List Int)}, (rows.foldl dedX acc).length ≤ acc.length + rows.length
  | [], _ => Nat.le_refl _
  | r :: rows, acc => by
    show (rows.foldl dedX (dedX acc r)).length ≤ _
    have h1 := ded_len (rows := rows) (acc := dedX acc r)
    have h2 : (dedX acc r).length ≤ acc.length + 1 := by unfold dedX; split <;> simp
    rw [List.length_cons]; omega
/-- tuple(sorted({row: True for row in rows})) -/
theorem ev_rows {j d : Nat} {wi : TI} {rows : List (List Int)} {vs : List Nat} (ww : Wa K wi σ F H (rows.map rowD)) (hw : ∀ x, wipe ((wipe σ vs).set j (some x)) vs = wipe σ vs) (hj : ∀ x, ((wipe σ vs).set j (some x))[j]? = some (some x))
    (hr : ∀ r ∈ rows, IsRow d r) (hd : 1 ≤ d) (hd4 : d ≤ 4) (hz : rows.length < sizeLine) :
    Ev K (tCB (rTupOf K) (tCons (tCB (rSortX P w K) (tCons (tDx P w K wi (gName j) (tVar j) vs) tNil)) tNil)) σ F H (.tup ((srt rows).map rowD)) := fun F0 H0 a0 Q q => by
  refine ww F0 H0 a0 _ fun J F1 H1 a1 ⟨G, Y, wk, hG, hY⟩ Dl hD => ?_
  rw [List.length_map] at wk
  have nF : F1 Dl = none := a1.fh.free hD
  refine ⟨fun i m H' => m = rows.length - i ∧ i ≤ rows.length ∧ ∃ F' l, Fz F1 H1 F' H' ∧ F' Dl = none ∧ H' Dl = some (DX P w Dl l) ∧ l.map (·.1) = ded (rows.take i) ∧ ∀ x ∈ l, SqT K F' x.2 (x.1.map V.int),
    ⟨rows.length, rfl, Nat.zero_le _, F1, [], Fx.make a1.fh hD, nF, upd_same, rfl, fun x hx => by simp at hx⟩, ?_⟩
  rintro i m H' ⟨rfl, hi, F', l, z, n, e, el, hl⟩
  have gg : G H' := hG F' H' z.ff z.fh
  by_cases hlt : i < rows.length
  · refine .inr ⟨wk.goes i H' hlt gg, fun H'' => ∃ F'' l', Fz F1 H1 F'' H'' ∧ F'' Dl = none ∧ H'' Dl = some (DX P w Dl l') ∧ l'.map (·.1) = ded (rows.take (i + 1)) ∧ ∀ x ∈ l', SqT K F'' x.2 (x.1.map V.int),
      fun H'' t => ⟨rows.length - (i + 1), by omega, rfl, hlt, t⟩, fun x H3 y => ?_⟩
    have hi' : (rows.map rowD)[i]? = some (rowD rows[i]) := by rw [List.getElem?_map, List.getElem?_eq_getElem hlt]; rfl
    obtain ⟨F3, z3, hx⟩ := hY i _ F' H' x H3 hi' z.ff z.fh (wk.yields i H' x H3 hlt gg y)
    obtain ⟨b, rfl, hb⟩ := is_row hx
    have zz : Fz F1 H1 F3 H3 := z.trans z3
    have mm := z3.m n e id
    refine ⟨hw _, _, hj _, l, rows[i], b, rfl, sqT_up z3.fh hb, mm.1, fun x hx => sqT_up z3.fh (sqT_up z3.ff (hl x hx)), ?_, ?_⟩
    · have h1 : l.length = (ded (rows.take i)).length := by rw [← el, List.length_map]
      have h2 := ded_len (rows := rows.take i) (acc := [])
      rw [List.length_take] at h2
      have h3 : (ded (rows.take i)).length ≤ ([] : List (List Int)).length + min i rows.length := h2
      simp only [List.length_nil] at h3
      omega
    · refine ⟨F3, addX l rows[i] b, zz.mut (.inl hD) mm.2, mm.2, upd_same, ?_, fun x hx => ?_⟩
      · rw [add_fst, el]
        have : rows.take (i + 1) = rows.take i ++ [rows[i]] := by rw [List.take_add_one, List.getElem?_eq_getElem hlt]; rfl
        rw [this]
        unfold ded
        rw [List.foldl_append]
        rfl
      · unfold addX at hx
        split at hx
        · exact sqT_up z3.ff (hl x hx)
        · rcases List.mem_append.mp hx with h | h
          · exact sqT_up z3.ff (hl x h)
          · rw [List.mem_singleton] at h; subst h; exact hb
  · have ei : i = rows.length := by omega
    subst ei
    rw [List.take_length] at el
    refine .inl ⟨wk.stops H' gg, ?_⟩
    have hrow : ∀ x ∈ l, x.1 ∈ rows := fun x hx => by
      have : x.1 ∈ ded rows := by rw [← el]; exact List.mem_map.mpr ⟨x, hx, rfl⟩
      unfold ded at this
      rw [ded_mem] at this
      simpa using this
    refine ⟨Dl, l, d, 2, rfl, e, fun x hx => ⟨sqT_up z.fh (hl x hx), (hr _ (hrow x hx)).1, (hr _ (hrow x hx)).2⟩, ?_, hd, fun l' p pl pw hp => ?_⟩
    · have hs : (ded rows).Perm (srt rows) := by
        refine (List.perm_ext_iff_of_nodup (ded_nodup List.nodup_nil) ?_).mpr fun x => ?_
        · refine List.Pairwise.imp (fun {x y} (lt : cd x < cd y) e => ?_) (srt_asc hr)
          subst e; omega
        · rw [srt_mem hr]
          refine (ded_mem (acc := [])).trans ?_
          simp
      have h1 : l.length = (srt rows).length := by rw [← hs.length_eq, ← el, List.length_map]
      have := asc_16 hd4 (srt_asc hr) fun r h => hr r ((srt_mem hr).mp h)
      omega
    · have e1 : l'.map (·.1) = srt rows := srt_of hr (by rw [← el]; exact pl.map _) (List.pairwise_map.mpr pw)
      have is1 : Iss K F' ((srt rows).map rowD) (l'.map fun x => V.ref x.2) := by
        rw [← e1, List.map_map]
        have : ∀ l'' : List (List Int × Addr), (∀ x ∈ l'', SqT K F' x.2 (x.1.map V.int)) → Iss K F' (l''.map (rowD ∘ fun x => x.1)) (l''.map fun x => V.ref x.2) := by
          intro l''
          induction l'' with
          | nil => intro _; exact .nil
          | cons x l'' ih => intro h; exact .cons (is_row' (h x (List.mem_cons_self ..))) (ih fun y hy => h y (List.mem_cons_of_mem _ hy))
        exact this l' fun x hx => hl x (pl.mem_iff.mp hx)
      have z2 := Fx.lay (X := Nox) (o := .lst (l'.map fun x => V.ref x.2)) z.fh hp
      refine ⟨p, l'.map fun x => V.ref x.2, rfl, .inl ⟨SqL.of upd_same, fun t ht => ?_⟩⟩
      have z3 := Fx.lay (X := Nox) (o := .tup (l'.map fun x => V.ref x.2)) z2.fh ht
      exact q _ _ _ (((a1.trans z).trans z2).trans z3) (.tup (.inl (.inl upd_same)) (z3.iss (z2.iss is1)))
end

/-! a loop that ends the def where a test fails -/
section
variable {K : PySem.W.Frag} {σ : L2.St} {F F1 H H1 : Hp} {te : TE} {wi : TI} {ds : List D} {E : Ends} {tw : TS} {tt : TT} {z : D}
theorem q_all {j : Nat} (s : Same F H) (w : Wa K wi σ F H ds) (ok : D → Bool) (ht : ∀ d ∈ ds, ∀ F1 H1 x, Fz F H F1 H1 → Is K F1 d x → EvT tt (σ.set j (some x)) F1 H1 (!ok d))
    (he : ∀ x F1 H1, Fz F H F1 H1 → Ev K te (σ.set j (some x)) F1 H1 z) (hf : ds.all ok = false → ∀ v F2 H2, Fz F H F2 H2 → Is K F2 z v → E.rt v H2)
    (hn : ds.all ok = true → ∀ σ' F2 H2, Fz F H F2 H2 → (∀ i, i ≠ j → σ'[i]? = σ[i]?) → tw E σ' H2) : tSeq (tFor wi (gName j) (tIfS tt (tRet te) tNext)) tw E σ H := by
  refine s_for (E := { E with nx := tw E }) s w (fun pre post σ' F' H' => Fz F H F' H' ∧ (σ' = σ ∨ ∃ x, σ' = σ.set j (some x)) ∧ pre.all ok = true) (fun F1 H1 a => ⟨a, .inl rfl, rfl⟩) (fun _ _ _ _ _ h => h.1.fh) ?_ ?_
  · intro B pre d post σ' F' H' x F2 H2 e sB ⟨a, hσ, hp⟩ a2 hx
    have a3 := a.trans a2
    have eσ : σ'.set j (some x) = σ.set j (some x) := by
      rcases hσ with rfl | ⟨y, rfl⟩
      · rfl
      · rw [List.set_set]
    have md : d ∈ ds := by rw [e]; simp
    show tIfS tt (tRet te) tNext _ (σ'.set j (some x)) H2
    rw [eσ]
    refine s_if a2.fh (ht d md F2 H2 x a3 hx) (fun hb F3 H3 a4 => ?_) (fun hb F3 H3 a4 => ?_)
    · have hk : ok d = false := by cases h : ok d <;> rw [h] at hb <;> trivial
      refine s_ret a4.fh (he x F3 H3 (a3.trans a4)) fun v F4 H4 a5 hv => hf ?_ v F4 H4 ((a3.trans a4).trans a5) hv
      rw [e, List.all_append, List.all_cons, hk]; simp
    · have hk : ok d = true := by cases h : ok d <;> rw [h] at hb <;> trivial
      exact ⟨F3, sB.trans (a2.trans a4).ff, a3.trans a4, .inr ⟨x, rfl⟩, by rw [List.all_append, hp, List.all_cons, hk]; rfl⟩
  · intro σ' F' H' ⟨a, hσ, hp⟩
    refine hn hp σ' F' H' a fun i hi => ?_
    rcases hσ with rfl | ⟨y, rfl⟩
    · rfl
    · rw [List.getElem?_set_ne (Ne.symm hi)]
end
end Eg
/-! objects made; the hand. -/
namespace Eg
open PySem PySem.Spec L2
/-! ### __init__ of a class whose objects do not change -/
/-- R: what the fields come to -/
def Pin (K : PySem.W.Frag) (C : Addr) (R : List D → List (Str × D) → Prop) : Sp := fun vs H Q _ => ∃ F ds gs p dx ws, Same F H ∧ vs = V.ref p :: ws ∧ F p = none ∧ H p = some (.ins C dx []) ∧ Iss K F ds ws ∧ R ds gs ∧
  ∀ F' H' fs, Fx (· = p) F H F' H' → H' p = some (.ins C dx fs) → F' p = none → Isf K F' gs fs → Q .non H'
section
variable {K : PySem.W.Frag} {X : Addr → Prop} {σ : L2.St} {F F1 H H1 : Hp} {ta tb te : TE} {d e z : D} {E : Ends} {tu : TS} {C : Addr}
theorem Fx.new {p : Addr} (a : Fx (· = p) F H F1 H1) (n : H p = none) : Fz F H F1 H1 := ⟨a.ff, a.fh, fun b o _ q => a.hh b o (fun z => by rw [z, n] at q; cases q) q, a.th, fun b _ q k => a.fr b (fun z => k (by rw [z]; exact n)) q k⟩
theorem ev_make {R : List D → List (Str × D) → Prop} {ta : TA} {E : XK} {ds : List D} {gs : List (Str × D)} (ha : EvA K ta σ F H ds) (hr : R ds gs) : Ev K (tMake C (Pin K C R) [] E ta) σ F H (.obj C gs) := fun F1 H1 a Q q =>
  ha F1 H1 a _ fun xs F2 H2 a2 hx p dx hp hd ne => by
    have m1 : Fz F2 H2 F2 (upd H2 dx (.own p)) := Fx.make a2.fh hd
    have hp' : upd H2 dx (HO.own p) p = none := by rw [upd_ne (Ne.symm ne)]; exact hp
    have m2 : Fz F2 (upd H2 dx (.own p)) F2 (upd (upd H2 dx (.own p)) p (.ins C dx [])) := Fx.make m1.fh hp'
    have m := m1.trans m2
    refine ⟨F2, ds, gs, p, dx, xs, m.fh, by rw [List.append_nil], a2.fh.free hp, upd_same, hx, hr, fun F' H' fs b hb nf r => ⟨rfl, ?_⟩⟩
    have whole : Fz F2 H2 F' H' := ((m.of (X := (· = p))).trans b).new hp
    have fz := whole.freeze a2.fh hp hb
    exact q (.ref p) _ H' (a2.trans fz) (.obj upd_same (by
      have s2 := frz_same whole.fh nf hb
      have : ∀ (gs : List (Str × D)) (fs : List (Str × V)), Isf K F' gs fs → Isf K (upd F' p (.ins C dx fs)) gs fs := fun gs fs r => by
        exact Isf.up (by intro c u ec; rw [upd_ne (ne_of_none ec nf)]; exact ec) gs fs r
      exact this gs fs r))
/-- self.f = e, self new -/
theorem s_fld {i : Nat} {p dx : Addr} {fs : List (Str × V)} {f : Str} (c : Cls K C) (n : NoAttr K C f) (s : Same F H) (hi : σ[i]? = some (some (.ref p))) (nf : F p = none) (hp : H p = some (.ins C dx fs)) (hz : fs.length < 1000) (h : Ev K te σ F H d)
    (k : ∀ v F2 H2, Fz F H F2 H2 → Is K F2 d v → F2 p = none → E.nx σ (upd H2 p (.ins C dx (putF f v fs)))) : sFld K (tVar i) te f E σ H :=
  h.go s fun v F2 H2 a hv => ⟨.ref p, hi, p, C, dx, fs, rfl, (a.m nf hp id).1, c, n, hz, k v F2 H2 a hv (a.m nf hp id).2⟩
theorem q_fld {i : Nat} {p dx : Addr} {fs : List (Str × V)} {f : Str} (c : Cls K C) (n : NoAttr K C f) (s : Same F H) (hi : σ[i]? = some (some (.ref p))) (nf : F p = none) (hp : H p = some (.ins C dx fs)) (hz : fs.length < 1000) (h : Ev K te σ F H d)
    (k : ∀ v F2 H2, Fz F H F2 H2 → Is K F2 d v → F2 p = none → tu E σ (upd H2 p (.ins C dx (putF f v fs)))) : tSeq (sFld K (tVar i) te f) tu E σ H := s_fld (E := { E with nx := tu E }) c n s hi nf hp hz h k
end

theorem len_putF (f : Str) (v : V) : ∀ fs : List (Str × V), (putF f v fs).length ≤ fs.length + 1
  | [] => Nat.le_refl _
  | (g, x) :: r => by
    unfold putF
    split
    · simp
    · rw [List.length_cons, List.length_cons]; have := len_putF f v r; omega
theorem fz0 : ([] : List (Str × V)).length < 1000 := by decide
section
variable {f1 f2 f3 f4 f5 f6 : Str} {v1 v2 v3 v4 v5 v6 : V}
theorem fz1 : (putF f1 v1 []).length < 1000 := by have := len_putF f1 v1 []; simp only [List.length_nil] at this; omega
theorem fz2 : (putF f2 v2 (putF f1 v1 [])).length < 1000 := by have := len_putF f1 v1 []; have := len_putF f2 v2 (putF f1 v1 []); simp only [List.length_nil] at *; omega
theorem fz3 : (putF f3 v3 (putF f2 v2 (putF f1 v1 []))).length < 1000 := by have := len_putF f1 v1 []; have := len_putF f2 v2 (putF f1 v1 []); have := len_putF f3 v3 (putF f2 v2 (putF f1 v1 [])); simp only [List.length_nil] at *; omega
end
/-! ### the hand: [script, rests, k] -/
def Hx (p q : Addr) : Addr → Prop := fun b => b = p ∨ b = q
def HandAt (K : PySem.W.Frag) (F H : Hp) (p q : Addr) : Prop := F p = none ∧ F q = none ∧ p ≠ q ∧ ∃ sc, ∃ st ns : List Int, ∃ k : Int, H p = some (.lst [.ref sc, .ref q, .int k]) ∧ H q = some (.lst (ns.map V.int)) ∧ SqL K F sc (st.map V.int) ∧ st.length = ns.length ∧ st.length ≤ 63
theorem sqL_up {K : PySem.W.Frag} {F F' : Hp} {a : Addr} {xs : List V} (e : Same F F') (h : SqL K F a xs) : SqL K F' a xs := by
  rcases h with (h | ⟨o, h⟩) | h
  · exact .inl (.inl (e _ _ h))
  · exact .inl (.inr ⟨o, e _ _ h⟩)
  · exact .inr h
section
variable {K : PySem.W.Frag} {σ : L2.St} {F F1 H H1 F2 H2 : Hp} {ta tb te : TE} {d e z : D} {E : Ends} {ts tu : TS} {C p q : Addr} {A B R : D → Prop}
theorem HandAt.keep (h : HandAt K F H p q) (a : Fz F H F1 H1) : HandAt K F1 H1 p q := by
  obtain ⟨n1, n2, ne, sc, st, ns, k, h1, h2, h3, h4, h5⟩ := h
  exact ⟨(a.m n1 h1 id).2, (a.m n2 h2 id).2, ne, sc, st, ns, k, (a.m n1 h1 id).1, (a.m n2 h2 id).1, sqL_up a.ff h3, h4, h5⟩
/-- a promise of a def that draws: Pre what it asks, R what it may come to -/
def Ph (K : PySem.W.Frag) (Pre : List D → Prop) (R : List D → D → Prop) : Sp := fun vs H Q _ => ∃ F p q ds ws, Same F H ∧ HandAt K F H p q ∧ vs = V.ref p :: ws ∧ Iss K F ds ws ∧ Pre ds ∧
  ∀ v d F' H', Fx (Hx p q) F H F' H' → HandAt K F' H' p q → R ds d → Is K F' d v → Q v H'
/-- an expression that may draw: what it may come to -/
def EvH (K : PySem.W.Frag) (p q : Addr) (te : TE) (σ : L2.St) (F H : Hp) (R : D → Prop) : Prop := ∀ F1 H1, Fx (Hx p q) F H F1 H1 → HandAt K F1 H1 p q → ∀ Q : VK, (∀ v d F2 H2, Fx (Hx p q) F1 H1 F2 H2 → HandAt K F2 H2 p q → R d → Is K F2 d v → Q v H2) → te σ H1 Q
def EvHA (K : PySem.W.Frag) (p q : Addr) (ta : TA) (σ : L2.St) (F H : Hp) (R : List D → Prop) : Prop := ∀ F1 H1, Fx (Hx p q) F H F1 H1 → HandAt K F1 H1 p q → ∀ Q : List V → Hp → Prop, (∀ vs ds F2 H2, Fx (Hx p q) F1 H1 F2 H2 → HandAt K F2 H2 p q → R ds → Iss K F2 ds vs → Q vs H2) → ta σ H1 Q
/-- it draws nothing -/
theorem evh_of (h : ∀ F1 H1, Fx (Hx p q) F H F1 H1 → HandAt K F1 H1 p q → Ev K te σ F1 H1 d) (r : R d) : EvH K p q te σ F H R := fun F1 H1 a hh Q k =>
  (h F1 H1 a hh).go a.fh fun v F2 H2 a2 hv => k v d F2 H2 a2.of (hh.keep a2) r hv
theorem evha_of {ta : TA} {ds : List D} {R : List D → Prop} (h : ∀ F1 H1, Fx (Hx p q) F H F1 H1 → HandAt K F1 H1 p q → EvA K ta σ F1 H1 ds) (r : R ds) : EvHA K p q ta σ F H R := fun F1 H1 a hh Q k =>
  (h F1 H1 a hh).go a.fh fun v F2 H2 a2 hv => k v ds F2 H2 a2.of (hh.keep a2) r hv
theorem EvH.imp (h : EvH K p q te σ F H A) (r : ∀ d, A d → R d) : EvH K p q te σ F H R := fun F1 H1 a hh Q k => h F1 H1 a hh Q fun v d F2 H2 a2 h2 hd hv => k v d F2 H2 a2 h2 (r d hd) hv
theorem EvH.up (a : Fx (Hx p q) F H F1 H1) (h : EvH K p q te σ F H R) : EvH K p q te σ F1 H1 R := fun F2 H2 z hh Q k => h F2 H2 (a.trans z) hh Q k
theorem EvH.go (hh : HandAt K F H p q) (s : Same F H) (h : EvH K p q te σ F H R) {Q : VK} (k : ∀ v d F2 H2, Fx (Hx p q) F H F2 H2 → HandAt K F2 H2 p q → R d → Is K F2 d v → Q v H2) : te σ H Q := h F H (Fx.refl s) hh Q k
theorem evh_op {r : R2} (ha : EvH K p q ta σ F H A) (hb : EvH K p q tb σ F H B) (hr : ∀ d e, A d → B e → ∃ z, R z ∧ R2d K r d e z) : EvH K p q (tOp r ta tb) σ F H R := fun F1 H1 a hh Q k =>
  ha F1 H1 a hh _ fun x d F2 H2 a2 h2 hd hx => hb F2 H2 (a.trans a2) h2 _ fun y e F3 H3 a3 h3 he hy => by
    obtain ⟨z, hz, rr⟩ := hr d e hd he
    exact rr F3 H3 a3.fh x y (a3.is hx) hy Q fun v F4 H4 a4 hv => k v z F4 H4 ((a2.trans a3).trans a4.of) (h3.keep a4) hz hv
theorem evha_nil : EvHA K p q tNil σ F H (fun ds => ds = []) := fun F1 H1 a hh Q k => k [] [] F1 H1 (Fx.refl a.fh) hh rfl .nil
theorem evha_cons {tr : TA} {S : List D → Prop} {R : List D → Prop} (ha : EvH K p q ta σ F H A) (hb : EvHA K p q tr σ F H S) (hr : ∀ d ds, A d → S ds → R (d :: ds)) : EvHA K p q (tCons ta tr) σ F H R := fun F1 H1 a hh Q k =>
  ha F1 H1 a hh _ fun x d F2 H2 a2 h2 hd hx => hb F2 H2 (a.trans a2) h2 _ fun xs ds F3 H3 a3 h3 hds hxs => k (x :: xs) (d :: ds) F3 H3 (a2.trans a3) h3 (hr d ds hd hds) (.cons (a3.is hx) hxs)
theorem evh_cb {r : List V → Hp → VK → Prop} {ta : TA} {S : List D → Prop} (ha : EvHA K p q ta σ F H S) (hr : ∀ ds, S ds → ∃ z, R z ∧ Rcd K r ds z) : EvH K p q (tCB r ta) σ F H R := fun F1 H1 a hh Q k =>
  ha F1 H1 a hh _ fun xs ds F2 H2 a2 h2 hds hx => by
    obtain ⟨z, hz, rr⟩ := hr ds hds
    exact rr F2 H2 a2.fh xs hx Q fun v F3 H3 a3 hv => k v z F3 H3 (a2.trans a3.of) (h2.keep a3) hz hv
theorem evh_tup {ta : TA} {S : List D → Prop} (ha : EvHA K p q ta σ F H S) (hr : ∀ ds, S ds → ds.length ≤ sizeLine ∧ R (.tup ds)) : EvH K p q (tTup ta) σ F H R := fun F1 H1 a hh Q k =>
  ha F1 H1 a hh _ fun xs ds F2 H2 a2 h2 hds hx => ⟨by rw [← hx.length]; exact (hr ds hds).1, fun m hm => by
    have z := Fx.lay (X := Nox) (o := .tup xs) a2.fh hm
    exact k _ _ _ _ (a2.trans z.of) (h2.keep z) (hr ds hds).2 (.tup (.inl (.inl upd_same)) (z.iss hx))⟩
theorem evh_lst {ta : TA} {S : List D → Prop} (ha : EvHA K p q ta σ F H S) (hr : ∀ ds, S ds → ds.length ≤ sizeLine ∧ R (.lst ds)) : EvH K p q (tLst ta) σ F H R := fun F1 H1 a hh Q k =>
  ha F1 H1 a hh _ fun xs ds F2 H2 a2 h2 hds hx => ⟨by rw [← hx.length]; exact (hr ds hds).1, fun m hm => by
    have z := Fx.lay (X := Nox) (o := .lst xs) a2.fh hm
    exact k _ _ _ _ (a2.trans z.of) (h2.keep z) (hr ds hds).2 (.lst upd_same (z.iss hx))⟩
/-- f(hand, ..) -/
theorem evh_call {Pre : List D → Prop} {R' : List D → D → Prop} {ta : TA} {XE : XK} {S : List D → Prop} {i : Nat} (hi : σ[i]? = some (some (.ref p))) (ha : EvHA K p q ta σ F H S) (hr : ∀ ds, S ds → Pre ds ∧ ∀ d, R' ds d → R d) :
    EvH K p q (tCall (Ph K Pre R') [] XE (tCons (tVar i) ta)) σ F H R := fun F1 H1 a hh Q k => ⟨.ref p, hi, ha F1 H1 a hh _ fun xs ds F2 H2 a2 h2 hds hx =>
  ⟨F2, p, q, ds, xs, a2.fh, h2, by rw [List.append_nil], hx, (hr ds hds).1, fun v d F3 H3 a3 h3 hd hv => k v d F3 H3 (a2.trans a3) h3 ((hr ds hds).2 d hd) hv⟩⟩
theorem evh_if {t : TT} {b : Bool} (h : ∀ F1 H1, Fx (Hx p q) F H F1 H1 → HandAt K F1 H1 p q → EvT t σ F1 H1 b) (h1 : b = true → EvH K p q ta σ F H R) (h2 : b = false → EvH K p q tb σ F H R) : EvH K p q (tIf t ta tb) σ F H R := fun F1 H1 a hh Q k =>
  (h F1 H1 a hh).go a.fh fun F2 H2 a2 => by
    cases b with
    | true => exact iteT (h1 rfl F2 H2 (a.trans a2.of) (hh.keep a2) Q fun v d F3 H3 a3 h3 hd hv => k v d F3 H3 (a2.of.trans a3) h3 hd hv)
    | false => exact iteF (h2 rfl F2 H2 (a.trans a2.of) (hh.keep a2) Q fun v d F3 H3 a3 h3 hd hv => k v d F3 H3 (a2.of.trans a3) h3 hd hv)
/-- [e for j in ..], e may draw -/
theorem evh_lc {j : Nat} {wi : TI} {ds : List D} {vs : List Nat} (w : ∀ F1 H1, Fx (Hx p q) F H F1 H1 → HandAt K F1 H1 p q → Wa K wi σ F1 H1 ds) (hw : ∀ x, wipe ((wipe σ vs).set j (some x)) vs = wipe σ vs)
    (ht : ∀ d, d ∈ ds → ∀ F1 H1 x, Fx (Hx p q) F H F1 H1 → Is K F1 d x → EvH K p q te ((wipe σ vs).set j (some x)) F1 H1 A) (hz : ds.length < sizeLine) (hr : ∀ es, es.length = ds.length → (∀ e ∈ es, A e) → R (.lst es)) :
    EvH K p q (tLc wi (gName j) tYes te vs) σ F H R := fun F0 H0 a0 hh0 Q k => by
  refine w F0 H0 a0 hh0 F0 H0 (Fx.refl a0.fh) _ fun J F1 H1 a1 ⟨G, Y, wk, hG, hY⟩ Dl hD => ?_
  have hh1 := hh0.keep a1
  have nF : F1 Dl = none := a1.fh.free hD
  have nep : Dl ≠ p ∧ Dl ≠ q := by
    obtain ⟨_, _, _, sc, st, ns, kk, e1, e2, _⟩ := hh1
    exact ⟨fun z => (by rw [z, e1] at hD; cases hD), fun z => (by rw [z, e2] at hD; cases hD)⟩
  have nx : ¬ Hx p q Dl := fun z => z.elim nep.1 nep.2
  have hupd : ∀ {F' H' : Hp} {o : HO}, HandAt K F' H' p q → HandAt K F' (upd H' Dl o) p q := fun {F' H' o} h => by
    obtain ⟨n1, n2, ne, sc, st, ns, kk, e1, e2, e3, e4⟩ := h
    exact ⟨n1, n2, ne, sc, st, ns, kk, by rw [upd_ne (Ne.symm nep.1)]; exact e1, by rw [upd_ne (Ne.symm nep.2)]; exact e2, e3, e4⟩
  refine lc_it wk (fun i H' => ∃ F' acc es, Fx (Hx p q) F1 H1 F' H' ∧ HandAt K F' H' p q ∧ F' Dl = none ∧ H' Dl = some (.lst acc) ∧ Iss K F' es acc ∧ es.length = i ∧ ∀ e ∈ es, A e) ?_ (fun i H' hi ⟨F', acc, es, z, _⟩ => hG F' H' z.ff z.fh) (fun i x H' H3 hi ⟨F', acc, es, z, h', n, e, r, le, al⟩ y => ?_) (fun H' ⟨F', acc, es, z, h', n, e, r, le, al⟩ => ?_)
  · exact ⟨F1, [], [], Fx.make a1.fh hD, hupd hh1, nF, upd_same, .nil, rfl, fun _ h => by simp at h⟩
  · have hi' : ds[i]? = some ds[i] := List.getElem?_eq_getElem hi
    obtain ⟨F3, z3, hx⟩ := hY i _ F' H' x H3 hi' z.ff z.fh y
    have za : Fx (Hx p q) F H F3 H3 := a0.trans (a1.of.trans (z.trans z3.of))
    refine ⟨hw x, ?_⟩
    refine et_yes F3 H3 (Fx.refl z3.fh) _ fun F5 H5 z5 => ?_
    refine iteT (ht _ (List.getElem_mem hi) F3 H3 x za hx F5 H5 z5.of ((h'.keep z3).keep z5) _ fun v d F4 H4 z4 h4 hd hv => ?_)
    have zz : Fx (Hx p q) F' H' F4 H4 := z3.of.trans (z5.of.trans z4)
    have m := zz.m n e nx
    refine ⟨acc, m.1, by rw [← r.length]; omega, F4, acc ++ [v], es ++ [d], (z.trans zz).mut (.inl hD) m.2, hupd h4, m.2, upd_same, (zz.iss r).snoc hv, by rw [List.length_append, le]; rfl, fun e he => ?_⟩
    rcases List.mem_append.mp he with he | he
    · exact al e he
    · rw [List.mem_singleton] at he; subst he; exact hd
  · have s2 := frz_same z.fh n e
    have hf : HandAt K (upd F' Dl (.lst acc)) H' p q := by
      obtain ⟨n1, n2, ne, sc, st, ns, kk, e1, e2, e3, e4⟩ := h'
      exact ⟨by rw [upd_ne (Ne.symm nep.1)]; exact n1, by rw [upd_ne (Ne.symm nep.2)]; exact n2, ne, sc, st, ns, kk, e1, e2, sqL_up s2.1 e3, e4⟩
    exact k _ _ (upd F' Dl (.lst acc)) H' (a1.of.trans (z.freeze a1.fh hD e)) hf (hr es le al) (.lst upd_same (Iss.up s2.1 _ _ r))
/-! statements -/
theorem h_asg {i : Nat} (hh : HandAt K F H p q) (s : Same F H) (h : EvH K p q te σ F H R) (k : ∀ v d F2 H2, Fx (Hx p q) F H F2 H2 → HandAt K F2 H2 p q → R d → Is K F2 d v → tu E (σ.set i (some v)) H2) : tSeq (tAsg te (gName i)) tu E σ H := h.go hh s k
theorem h_ret (hh : HandAt K F H p q) (s : Same F H) (h : EvH K p q te σ F H R) (k : ∀ v d F2 H2, Fx (Hx p q) F H F2 H2 → HandAt K F2 H2 p q → R d → Is K F2 d v → E.rt v H2) : tRet te E σ H := h.go hh s k
end

/-! ### targets that are pairs; own classes told; texts by their signs -/
section
variable {K : PySem.W.Frag} {σ : L2.St} {F F1 H H1 F2 H2 : Hp} {ta tb te : TE} {d e z : D} {E : Ends} {ts tu : TS}
theorem g_pair {i j : Nat} {d1 d2 : D} {v : V} {R : L2.St → Hp → Prop} (s : Same F H) (h : Is K F (.tup [d1, d2]) v) (k : ∀ x y, Is K F d1 x → Is K F d2 y → R ((σ.set i (some x)).set j (some y)) H) : gTup K 2 (gCons (gName i) (gCons (gName j) gNil)) v σ H R := by
  cases h with
  | @tup p xs _ h1 r1 =>
    cases r1 with
    | cons ra rb =>
      cases rb with
      | cons rb rc =>
        cases rc
        exact ⟨p, _, rfl, sqT_up s h1, rfl, _, _, rfl, ⟨_, _, rfl, ⟨rfl, k _ _ ra rb⟩⟩⟩
/-- two comprehension targets, a test that never ends the loop: for a, b in walk: if test: .. never -/
theorem q_pairs {i j : Nat} {wi : TI} {ds : List D} {tt : TT} {tw : TS} (s : Same F H) (w : Wa K wi σ F H ds)
    (ht : ∀ d ∈ ds, ∃ d1 d2, d = .tup [d1, d2] ∧ ∀ F1 H1 x y, Fz F H F1 H1 → Is K F1 d1 x → Is K F1 d2 y → ∀ σ' : L2.St, (∀ l, l ≠ i → l ≠ j → σ'[l]? = σ[l]?) → σ'.length = σ.length → EvT tt ((σ'.set i (some x)).set j (some y)) F1 H1 false)
    (hn : ∀ (σ' : L2.St) F2 H2, Fz F H F2 H2 → (∀ l, l ≠ i → l ≠ j → σ'[l]? = σ[l]?) → tw E σ' H2) : tSeq (tFor wi (gTup K 2 (gCons (gName i) (gCons (gName j) gNil))) (tIfS tt tNever tNext)) tw E σ H := by
  refine s_for (E := { E with nx := tw E }) s w (fun pre post σ' F' H' => Fz F H F' H' ∧ (∀ l, l ≠ i → l ≠ j → σ'[l]? = σ[l]?) ∧ σ'.length = σ.length) (fun F1 H1 a => ⟨a, fun _ _ _ => rfl, rfl⟩) (fun _ _ _ _ _ h => h.1.fh) ?_ ?_
  · intro B pre d post σ' F' H' x F2 H2 e sB ⟨a, hσ, hl⟩ a2 hx
    have md : d ∈ ds := by rw [e]; simp
    obtain ⟨d1, d2, rfl, h⟩ := ht d md
    have a3 := a.trans a2
    refine g_pair a2.fh hx fun x y h1 h2 => ?_
    refine s_if a2.fh (h F2 H2 x y a3 h1 h2 σ' hσ hl) (fun z => by cases z) fun _ F3 H3 a4 => ?_
    exact ⟨F3, sB.trans (a2.trans a4).ff, a3.trans a4, fun l n1 n2 => by rw [List.getElem?_set_ne (Ne.symm n2), List.getElem?_set_ne (Ne.symm n1)]; exact hσ l n1 n2, by rw [List.length_set, List.length_set]; exact hl⟩
  · intro σ' F' H' ⟨a, hσ, _⟩
    exact hn σ' F' H' a hσ
theorem kit_self {C : Addr} : PySem.W.kitOne K (.ref C) (.ref C) = some true := by
  unfold PySem.W.kitOne
  rw [if_pos (by rw [beq_self_eq_true])]
theorem ev_own {C : Addr} {gs : List (Str × D)} (o : Own K C) (h : Ev K te σ F H (.obj C gs)) : Ev K (tCB (rIsi K) (tCons te (tCons (tC (.ref C)) tNil))) σ F H (.bl true) := ev_isiO o h kit_self
/-- the signs of a text -/
abbrev cs (s : String) : List Nat := s.toList.map Char.toNat
theorem of_cs (s : String) : Str.ofString s = SX.S (cs s) := TL.ext_tl (TL.tl_ofString s)
theorem ev_txt {s : String} : Ev K (tC (.str (Str.ofString s))) σ F H (.str (SX.S (cs s))) := by rw [of_cs]; exact ev_str
variable {a b : List Nat}
theorem r2_addX (hz : a.length + b.length ≤ sizeLine) : R2d K (rAddA K) (.str (SX.S a)) (.str (SX.S b)) (.str (SX.S (a ++ b))) := by
  rw [← SX.S_cat]
  exact r2_addS (by rw [SX.S_len, SX.S_len]; exact hz)
theorem dec_S : decide (SX.S a = SX.S b) = decide (a = b) := by
  by_cases h : a = b
  · subst h; simp
  · rw [decide_eq_false h]; exact decide_eq_false fun z => h (SX.S_inj z)
theorem r2_eqX : R2d K (rEqA K) (.str (SX.S a)) (.str (SX.S b)) (.bl (decide (a = b))) := by rw [← dec_S]; exact r2_eqS
theorem r2_neX : R2d K (rNeA K) (.str (SX.S a)) (.str (SX.S b)) (.bl (!decide (a = b))) := by rw [← dec_S]; exact r2_neS
theorem rc_strN {n : Nat} (h : n < 2 ^ 64) : Rcd K rStr [.int (n : Nat)] (.str (SX.S (TL.numL n))) := by
  rw [← SX.num_S]
  refine rc_str ?_
  have : (n : Int).natAbs = n := rfl
  rw [this]
  have h1 : n.log2 < 64 := by
    by_cases h0 : n = 0
    · subst h0; decide
    · exact (Nat.log2_lt h0).mpr h
  omega
theorem rm_joinX {ys : List (List Nat)} (hz : (ys.map (·.length)).sum + ys.length * a.length ≤ 16777216) : Rmd K (rJoin K) (.str (SX.S a)) [.lst (ys.map fun y => D.str (SX.S y))] (.str (SX.S (TL.joinL a ys))) := by
  have h := rm_join (K := K) (a := SX.S a) (ys := ys.map SX.S) (by rw [SX.lens, List.length_map, SX.S_len]; exact hz)
  rw [SX.join_S, List.map_map] at h
  exact h
theorem rm_splitX (hb : b ≠ []) (hk : b.all (· < 256) = true) (hz : a.length + 2 ≤ sizeLine) : Rmd K rSplit (.str (SX.S a)) [.str (SX.S b)] (.lst ((TL.spl b 0 [] a).map fun y => D.str (SX.S y))) := by
  have h := rm_split (K := K) (a := SX.S a) (b := SX.S b) (by rw [SX.S_len]; cases b with | nil => exact absurd rfl hb | cons _ _ => rfl) (by rw [SX.S_len]; exact hz)
  rw [SX.split_S hb hk, List.map_map] at h
  exact h
theorem rc_lenX (hz : a.length ≤ sizeLine) : Rcd K (rLen K) [.str (SX.S a)] (.int a.length) := by
  refine rc_len ?_
  show (if (SX.S a).length ≤ sizeLine then some (SX.S a).length else none) = some a.length
  rw [SX.S_len, if_pos hz]
theorem wa_txt (h : Ev K te σ F H (.str (SX.S a))) : Wa K (iSeq K te) σ F H (a.map fun c => D.str (SX.S [c])) := wa_seqS h
end
end Eg
/-! the rules again, the constants' part K named (a block's own context has it under a definition). -/
namespace Eg
open PySem PySem.Spec L2
section
variable {X : Cx} {P : Program} {w : World} {ta to : TE} {t : TA} {f : Str} {e o : Expr} {es : List Expr}
theorem opK (K : PySem.W.Frag) (r : PySem.W.Frag → R2) {g : Value → Value → Sem Value} (h : OpR X g (r X.K)) (hK : X.K = K := by rfl) : OpR X g (r K) := hK ▸ h
theorem callK (K : PySem.W.Frag) (r : PySem.W.Frag → List V → Hp → VK → Prop) {g : Value} (h : CallR X g (r X.K)) (hK : X.K = K := by rfl) : CallR X g (r K) := hK ▸ h
theorem ixK (K : PySem.W.Frag) (h : IxR X (rIx X.K)) (hK : X.K = K := by rfl) : IxR X (rIx K) := hK ▸ h
theorem slK (K : PySem.W.Frag) (h : SlR X (rSlX X.K)) (hK : X.K = K := by rfl) : SlR X (rSlX K) := hK ▸ h
theorem mtK (K : PySem.W.Frag) (r : PySem.W.Frag → V → List V → Hp → VK → Prop) {id : String} (h : MtR X id (r X.K)) (hK : X.K = K := by rfl) : MtR X id (r K) := hK ▸ h
theorem pe_fldK (K : PySem.W.Frag) {pos : Pos} (he : PE X e ta) (hb : attributeBase e f X.env (eval e X.env) = eval e X.env) (hK : X.K = K := by rfl) : PE X (.Attribute e f pos) (tFld K ta f) := hK ▸ pe_fld he hb
theorem pi_seqK (K : PySem.W.Frag) {tg : Expr} (he : PE X e ta) (hK : X.K = K := by rfl) : PI X tg e (iSeq K ta) := hK ▸ pi_seq he
theorem pi_enumAK (K : PySem.W.Frag) {p pos tpos : Pos} {elts : List Expr} {kk : Nat} (hg : Gl X "enumerate") (hm : X.mg "enumerate" = none) (ha : PA X [e] t) (hs : starEach [e] X.env = [(false, eval e X.env)] := by rfl) (hK : X.K = K := by rfl) :
    PI X (.Tuple elts kk tpos) (.Call (.Name "enumerate" p) [e] [] pos) (iEnumA K t) := hK ▸ pi_enumA hg hm ha hs
theorem pg_tupK (K : PySem.W.Frag) {es : List Expr} {k n : Nat} {t : TGs} {pos : Pos} (hc : X.calm = true) (h : PGs X es t) (hn : (assignEach es X.env).length = n := by rfl) (hst : (assignEach es X.env).findIdx? (·.1) = none := by rfl) (hK : X.K = K := by rfl) :
    PG X (.Tuple es k pos) (gTup K n t) := hK ▸ pg_tup hc h hn hst
theorem pe_bmK (K : PySem.W.Frag) {T id : String} {name : Str} {r : V → List V → Hp → VK → Prop} {apos cpos : Pos} (pa : PlainAttrs T) (slot : Slot T name id) (hty : typeOf (.builtin id) = pure (.type "method_descriptor")) (hm : MtR X id r) (ho : PE X o to) (ha : PA X (e :: es) t)
    (hbase : attributeBase o name X.env (eval o X.env) = eval o X.env := by rfl)
    (hfew : ((backTo cpos (starEach (e :: es) X.env)).all (fun x => !x.1) && (backToKw cpos (keywordEach [] X.env)).all (fun x => x.1.isSome) && decide ((e :: es).length + ([] : List Keyword).length + (if ([] : List Keyword).isEmpty then 0 else 1) < 30)) = true := by rfl)
    (hline : (apos.endLine == cpos.line) = true := by rfl) (hs : starEach (e :: es) X.env = (false, eval e X.env) :: starEach es X.env := by rfl) (hplain : (backTo cpos (starEach es X.env)).any (·.1) = false := by rfl) (hK : X.K = K := by rfl) :
    PE X (.Call (.Attribute o name apos) (e :: es) [] cpos) (tBM K T r to t) := hK ▸ pe_bm pa slot hty hm ho ha hbase hfew hline hs hplain
theorem pe_bm0K (K : PySem.W.Frag) {T id : String} {name : Str} {r : V → List V → Hp → VK → Prop} {apos cpos : Pos} (pa : PlainAttrs T) (slot : Slot T name id) (hty : typeOf (.builtin id) = pure (.type "method_descriptor")) (hm : MtR X id r) (ho : PE X o to)
    (hbase : attributeBase o name X.env (eval o X.env) = eval o X.env := by rfl) (hline : (apos.endLine == cpos.line) = true := by rfl) (hK : X.K = K := by rfl) :
    PE X (.Call (.Attribute o name apos) [] [] cpos) (tBM0 K T r to) := hK ▸ pe_bm0 pa slot hty hm ho hbase hline
end
end Eg
/-! comprehensions and loops over items of any kind. -/
namespace Eg
open PySem PySem.Spec L2
section
variable {α : Type} {K : PySem.W.Frag} {σ : L2.St} {F H : Hp} {te : TE} {wi : TI} {xs : List α} {dd : α → D} {g : TG} {tt : TT} {vs : List Nat} {E : Ends} {ts tu : TS}
/-- a new list that may change -/
def EvL (K : PySem.W.Frag) (te : TE) (σ : L2.St) (F H : Hp) (ds : List D) : Prop := ∀ F1 H1, Fz F H F1 H1 → ∀ Q : VK, (∀ l acc F2 H2, Fz F1 H1 F2 H2 → F2 l = none → H1 l = none → H2 l = some (.lst acc) → Iss K F2 ds acc → Q (.ref l) H2) → te σ H1 Q
theorem EvL.frz {ds : List D} (h : EvL K te σ F H ds) : Ev K te σ F H (.lst ds) := fun F1 H1 a Q q => h F1 H1 a Q fun l acc F2 H2 z n n1 e r => by
  have s2 := frz_same z.fh n e
  exact q _ (upd F2 l (.lst acc)) H2 (z.freeze a.fh n1 e) (.lst upd_same (Iss.up s2.1 _ _ r))
theorem evl_la (w : Wa K wi σ F H (xs.map dd)) (ok : α → Bool) (f : α → D)
    (ht : ∀ d, d ∈ xs → ∀ F1 H1 x, Fz F H F1 H1 → Is K F1 (dd d) x → ∀ R : L2.St → Hp → Prop, (∀ σ2 F2 H2, Fz F1 H1 F2 H2 → wipe σ2 vs = wipe σ vs → EvT tt σ2 F2 H2 (ok d) → (ok d = true → Ev K te σ2 F2 H2 (f d)) → R σ2 H2) → g x (wipe σ vs) H1 R)
    (hz : xs.length < sizeLine) : EvL K (tLc wi g tt te vs) σ F H ((xs.filter ok).map f) := fun F0 H0 a0 Q q => by
  refine w F0 H0 a0 _ fun J F1 H1 a1 ⟨G, Y, wk, hG, hY⟩ Dl hD => ?_
  rw [List.length_map] at wk
  have nF : F1 Dl = none := a1.fh.free hD
  refine lc_it wk (fun i H' => ∃ F' acc, Fz F1 H1 F' H' ∧ F' Dl = none ∧ H' Dl = some (.lst acc) ∧ Iss K F' (((xs.take i).filter ok).map f) acc) ?_ (fun i H' hi ⟨F', acc, z, n, e, r⟩ => hG F' H' z.ff z.fh) (fun i x H' H3 hi ⟨F', acc, z, n, e, r⟩ y => ?_) (fun H' ⟨F', acc, z, n, e, r⟩ => ?_)
  · exact ⟨F1, [], Fx.make a1.fh hD, nF, upd_same, by rw [List.take_zero]; exact .nil⟩
  · have hi' : (xs.map dd)[i]? = some (dd xs[i]) := by rw [List.getElem?_map, List.getElem?_eq_getElem hi]; rfl
    have et : xs.take (i + 1) = xs.take i ++ [xs[i]] := by rw [List.take_add_one, List.getElem?_eq_getElem hi]; rfl
    obtain ⟨F3, z3, hx⟩ := hY i _ F' H' x H3 hi' z.ff z.fh y
    have za : Fz F H F3 H3 := a0.trans (a1.trans (z.trans z3))
    refine ht _ (List.getElem_mem hi) F3 H3 x za hx _ fun σ2 F4 H4 z4 hw h1 h2 => ⟨hw, ?_⟩
    refine h1 F4 H4 (Fx.refl z4.fh) _ fun F5 H5 z5 => ?_
    cases ho : ok xs[i] with
    | true =>
      refine iteT ((h2 ho) F5 H5 z5 _ fun v F6 H6 z6 hv => ?_)
      have zz : Fz F' H' F6 H6 := ((z3.trans z4).trans z5).trans z6
      have m := zz.m n e id
      refine ⟨acc, m.1, ?_, F6, acc ++ [v], (z.trans zz).mut (.inl hD) m.2, m.2, upd_same, ?_⟩
      · rw [← r.length, List.length_map]
        have l1 : ((xs.take i).filter ok).length ≤ (xs.take i).length := List.length_filter_le _ _
        rw [List.length_take] at l1
        omega
      · rw [et, List.filter_append, List.map_append, List.filter_cons, if_pos ho]
        exact (zz.iss r).snoc hv
    | false =>
      have zz : Fz F' H' F5 H5 := (z3.trans z4).trans z5
      have m := zz.m n e id
      refine iteF ⟨F5, acc, z.trans zz, m.2, m.1, ?_⟩
      rw [et, List.filter_append, List.map_append, List.filter_cons, if_neg (by rw [ho]; exact Bool.false_ne_true)]
      show Iss K F5 (_ ++ []) acc
      rw [List.append_nil]
      exact zz.iss r
  · rw [List.take_length] at r
    exact q Dl acc F' H' (a1.trans z) n (none_of_ne fun hne => a1.th Dl hne hD) e r
theorem ev_la (w : Wa K wi σ F H (xs.map dd)) (ok : α → Bool) (f : α → D)
    (ht : ∀ d, d ∈ xs → ∀ F1 H1 x, Fz F H F1 H1 → Is K F1 (dd d) x → ∀ R : L2.St → Hp → Prop, (∀ σ2 F2 H2, Fz F1 H1 F2 H2 → wipe σ2 vs = wipe σ vs → EvT tt σ2 F2 H2 (ok d) → (ok d = true → Ev K te σ2 F2 H2 (f d)) → R σ2 H2) → g x (wipe σ vs) H1 R)
    (hz : xs.length < sizeLine) : Ev K (tLc wi g tt te vs) σ F H (.lst ((xs.filter ok).map f)) := (evl_la w ok f ht hz).frz
/-- [e for j in ..] -/
theorem ev_la1 {j : Nat} (w : Wa K wi σ F H (xs.map dd)) (f : α → D) (hw : ∀ x, wipe ((wipe σ vs).set j (some x)) vs = wipe σ vs)
    (ht : ∀ d, d ∈ xs → ∀ F1 H1 x, Fz F H F1 H1 → Is K F1 (dd d) x → Ev K te ((wipe σ vs).set j (some x)) F1 H1 (f d)) (hz : xs.length < sizeLine) : Ev K (tLc wi (gName j) tYes te vs) σ F H (.lst (xs.map f)) := by
  have h := ev_la (vs := vs) (tt := tYes) (te := te) (g := gName j) w (fun _ => true) f (fun d hd F1 H1 x a hx R k => k _ F1 H1 (Fx.refl a.fh) (hw x) et_yes fun _ => ht d hd F1 H1 x a hx) hz
  rw [List.filter_eq_self.mpr (fun _ _ => rfl)] at h
  exact h
theorem evl_la1 {j : Nat} (w : Wa K wi σ F H (xs.map dd)) (f : α → D) (hw : ∀ x, wipe ((wipe σ vs).set j (some x)) vs = wipe σ vs)
    (ht : ∀ d, d ∈ xs → ∀ F1 H1 x, Fz F H F1 H1 → Is K F1 (dd d) x → Ev K te ((wipe σ vs).set j (some x)) F1 H1 (f d)) (hz : xs.length < sizeLine) : EvL K (tLc wi (gName j) tYes te vs) σ F H (xs.map f) := by
  have h := evl_la (vs := vs) (tt := tYes) (te := te) (g := gName j) w (fun _ => true) f (fun d hd F1 H1 x a hx R k => k _ F1 H1 (Fx.refl a.fh) (hw x) et_yes fun _ => ht d hd F1 H1 x a hx) hz
  rw [List.filter_eq_self.mpr (fun _ _ => rfl)] at h
  exact h
theorem q_asgL {i : Nat} {ds : List D} (s : Same F H) (h : EvL K te σ F H ds) (k : ∀ l acc F2 H2, Fz F H F2 H2 → F2 l = none → H l = none → H2 l = some (.lst acc) → Iss K F2 ds acc → tu E (σ.set i (some (.ref l))) H2) : tSeq (tAsg te (gName i)) tu E σ H := h F H (Fx.refl s) _ k
/-- [e for j in .. if t] -/
theorem ev_lat {j : Nat} (w : Wa K wi σ F H (xs.map dd)) (ok : α → Bool) (f : α → D) (hw : ∀ x, wipe ((wipe σ vs).set j (some x)) vs = wipe σ vs)
    (ht : ∀ d, d ∈ xs → ∀ F1 H1 x, Fz F H F1 H1 → Is K F1 (dd d) x → EvT tt ((wipe σ vs).set j (some x)) F1 H1 (ok d) ∧ (ok d = true → Ev K te ((wipe σ vs).set j (some x)) F1 H1 (f d))) (hz : xs.length < sizeLine) :
    Ev K (tLc wi (gName j) tt te vs) σ F H (.lst ((xs.filter ok).map f)) :=
  ev_la w ok f (fun d hd F1 H1 x a hx R k => k _ F1 H1 (Fx.refl a.fh) (hw x) (ht d hd F1 H1 x a hx).1 (ht d hd F1 H1 x a hx).2) hz
/-- [e for i, j in ..] -/
theorem ev_la2 {i j : Nat} {d1 d2 : α → D} (w : Wa K wi σ F H (xs.map fun a => .tup [d1 a, d2 a])) (f : α → D) (hw : ∀ x y, wipe (((wipe σ vs).set i (some x)).set j (some y)) vs = wipe σ vs)
    (ht : ∀ d, d ∈ xs → ∀ F1 H1 x y, Fz F H F1 H1 → Is K F1 (d1 d) x → Is K F1 (d2 d) y → Ev K te (((wipe σ vs).set i (some x)).set j (some y)) F1 H1 (f d)) (hz : xs.length < sizeLine) :
    Ev K (tLc wi (gTup K 2 (gCons (gName i) (gCons (gName j) gNil))) tYes te vs) σ F H (.lst (xs.map f)) := by
  have h := ev_la (vs := vs) (tt := tYes) (te := te) (g := gTup K 2 (gCons (gName i) (gCons (gName j) gNil))) w (fun _ => true) f (fun d hd F1 H1 x a hx R k => g_pair a.fh hx fun y z hy hz => k _ F1 H1 (Fx.refl a.fh) (hw y z) et_yes fun _ => ht d hd F1 H1 y z a hy hz) hz
  rw [List.filter_eq_self.mpr (fun _ _ => rfl)] at h
  exact h
/-- for over items: Pv by the items behind and those ahead -/
theorem s_fora (s : Same F H) (w : Wa K wi σ F H (xs.map dd)) (Pv : List α → List α → L2.St → Hp → Hp → Prop) (h0 : ∀ F1 H1, Fz F H F1 H1 → Pv [] xs σ F1 H1) (hp : ∀ pre post σ' F' H', Pv pre post σ' F' H' → Same F' H')
    (hs : ∀ B pre d post σ' F' H' x F2 H2, xs = pre ++ d :: post → Same B F' → Pv pre (d :: post) σ' F' H' → Fz F' H' F2 H2 → Is K F2 (dd d) x →
      g x σ' H2 fun σ2 H3 => ts { E with nx := fun σ'' H'' => ∃ F'', Same B F'' ∧ Pv (pre ++ [d]) post σ'' F'' H'', ct := fun σ'' H'' => ∃ F'', Same B F'' ∧ Pv (pre ++ [d]) post σ'' F'' H'', bk := E.nx } σ2 H3)
    (hd : ∀ σ' F' H', Pv xs [] σ' F' H' → E.nx σ' H') : tFor wi g ts E σ H := by
  refine w F H (Fx.refl s) _ fun J F2 H2 a2 ⟨G, Y, wk, hG, hY⟩ => ?_
  rw [List.length_map] at wk
  refine for_it wk (fun i σ' H' => ∃ F', Same F2 F' ∧ Pv (xs.take i) (xs.drop i) σ' F' H') ⟨F2, .refl _, by rw [List.take_zero, List.drop_zero]; exact h0 F2 H2 a2⟩ (fun i σ' H' hi ⟨F', s1, p⟩ => hG F' H' s1 (hp _ _ _ _ _ p)) (fun i x σ' H' H3 hi ⟨F', s1, p⟩ y => ?_) (fun σ' H' ⟨F', s1, p⟩ => ?_)
  · have hi' : (xs.map dd)[i]? = some (dd xs[i]) := by rw [List.getElem?_map, List.getElem?_eq_getElem hi]; rfl
    obtain ⟨F3, a3, hx⟩ := hY i _ F' H' x H3 hi' s1 (hp _ _ _ _ _ p) y
    have ed : xs.drop i = xs[i] :: xs.drop (i + 1) := List.drop_eq_getElem_cons hi
    have et : xs.take (i + 1) = xs.take i ++ [xs[i]] := by rw [List.take_add_one, List.getElem?_eq_getElem hi]; rfl
    rw [ed] at p
    have q := hs F2 (xs.take i) xs[i] (xs.drop (i + 1)) σ' F' H' x F3 H3 (by rw [← ed, List.take_append_drop]) s1 p a3 hx
    rw [et]; exact q
  · rw [List.take_length, List.drop_length] at p
    exact hd σ' F' H' p
theorem q_fora (s : Same F H) (w : Wa K wi σ F H (xs.map dd)) (Pv : List α → List α → L2.St → Hp → Hp → Prop) (h0 : ∀ F1 H1, Fz F H F1 H1 → Pv [] xs σ F1 H1) (hp : ∀ pre post σ' F' H', Pv pre post σ' F' H' → Same F' H')
    (hs : ∀ B pre d post σ' F' H' x F2 H2, xs = pre ++ d :: post → Same B F' → Pv pre (d :: post) σ' F' H' → Fz F' H' F2 H2 → Is K F2 (dd d) x →
      g x σ' H2 fun σ2 H3 => ts { nx := fun σ'' H'' => ∃ F'', Same B F'' ∧ Pv (pre ++ [d]) post σ'' F'' H'', rt := E.rt, ct := fun σ'' H'' => ∃ F'', Same B F'' ∧ Pv (pre ++ [d]) post σ'' F'' H'', bk := tu E } σ2 H3)
    (hd : ∀ σ' F' H', Pv xs [] σ' F' H' → tu E σ' H') : tSeq (tFor wi g ts) tu E σ H := s_fora (E := { E with nx := tu E }) s w Pv h0 hp hs hd
theorem q_app {d : D} {i : Nat} {l : Addr} {ys : List V} (s : Same F H) (hi : σ[i]? = some (some (.ref l))) (nf : F l = none) (hl : H l = some (.lst ys)) (hz : ys.length < sizeLine) (h : Ev K te σ F H d)
    (k : ∀ v F2 H2, Fz F H F2 H2 → Is K F2 d v → F2 l = none → tu E σ (upd H2 l (.lst (ys ++ [v])))) : tSeq (tDrop (tBM K "list" rAppend (tVar i) (tCons te tNil))) tu E σ H := s_app (E := { E with nx := tu E }) s hi nf hl hz h k
/-! lengths of texts -/
theorem sum_le {β : Type} {f : β → Nat} {c : Nat} : ∀ l : List β, (∀ y ∈ l, f y ≤ c) → (l.map f).sum ≤ l.length * c
  | [], _ => by simp
  | y :: l, h => by
    have h1 := h y (List.mem_cons_self ..)
    have h2 := sum_le l fun z hz => h z (List.mem_cons_of_mem _ hz)
    rw [List.map_cons, List.sum_cons, List.length_cons, Nat.add_mul, Nat.one_mul]
    omega
theorem len_joinL {a : List Nat} : ∀ l : List (List Nat), (TL.joinL a l).length ≤ (l.map (·.length)).sum + l.length * a.length
  | [] => by simp [TL.joinL]
  | [p] => by simp [TL.joinL]
  | p :: q :: r => by
    have h := len_joinL (a := a) (q :: r)
    show (p ++ (a ++ TL.joinL a (q :: r))).length ≤ _
    rw [List.length_append, List.length_append, List.map_cons, List.sum_cons, List.length_cons, Nat.add_mul, Nat.one_mul]
    omega
theorem join_size {a : List Nat} {l : List (List Nat)} {n c : Nat} (hn : l.length ≤ n) (hc : ∀ y ∈ l, y.length ≤ c) : (l.map (·.length)).sum + l.length * a.length ≤ n * (c + a.length) := by
  have h := sum_le (f := fun x : List Nat => x.length) l hc
  have h2 : l.length * c + l.length * a.length ≤ n * (c + a.length) := by rw [← Nat.mul_add]; exact Nat.mul_le_mul_right _ hn
  omega
theorem join_len {a : List Nat} {l : List (List Nat)} {n c : Nat} (hn : l.length ≤ n) (hc : ∀ y ∈ l, y.length ≤ c) : (TL.joinL a l).length ≤ n * (c + a.length) := Nat.le_trans (len_joinL l) (join_size hn hc)
end
end Eg
/-! t >= u of two rows; loops that end the def, over items of any kind. -/
namespace Eg
open PySem PySem.Spec L2
def rGeT (K : PySem.W.Frag) : R2 := fun x y H Q => ∃ (a b : Addr) (ns ms : List Int), x = .ref a ∧ y = .ref b ∧ SqT K H a (ns.map V.int) ∧ SqT K H b (ms.map V.int) ∧
  Q (.bl (Ob.lexAt (fun j => decide (ns.getD j 0 = ms.getD j 0)) (fun j => decide (ms.getD j 0 ≤ ns.getD j 0)) (decide (ms.length ≤ ns.length)) 0 (min ns.length ms.length))) H
theorem int_nth {us : List Value} {ns : List Int} (h : PyProof.Rows.IntsAre us ns) {j : Nat} (h1 : j < us.toArray.size) : ∃ t, us.toArray[j] = .int (ns.getD j 0) t :=
  PyProof.Rows.IntsAre.int_at h _ _ (by simp at h1; simp [h1])
theorem op_geT {X : Cx} (hu : X.A.units < PySem.cLine) : OpR X (compareOp .GtE) (rGeT X.K) := by
  intro pins s σ H x y v u Q I rx ry ⟨a, b, ns, ms, ex, ey, ha, hb, q⟩
  subst ex ey
  cases rx
  cases ry
  obtain ⟨us, r1, p1, _⟩ := I.tuple ha
  obtain ⟨ws, r2, p2, _⟩ := I.tuple hb
  have i1 : PyProof.Rows.IntsAre us ns := L2.Vals.ints r1
  have i2 : PyProof.Rows.IntsAre ws ms := L2.Vals.ints r2
  have R := Ob.RcOp.tuples_ge (A := X.A) (s := s) (e := fun j => decide (ns.getD j 0 = ms.getD j 0)) (r := fun j => decide (ms.getD j 0 ≤ ns.getD j 0)) p1 p2 hu
    (fun j h1 h2 => by
      obtain ⟨t, et⟩ := int_nth i1 h1
      obtain ⟨t', et'⟩ := int_nth i2 h2
      rw [et, et']
      have z : decide (ns.getD j 0 = ms.getD j 0) = (ns.getD j 0 == ms.getD j 0) := by
        cases h : (ns.getD j 0 == ms.getD j 0)
        · exact decide_eq_false (beq_eq_false_iff_ne.mp h)
        · exact decide_eq_true (beq_iff_eq.mp h)
      show SeqAt.EqAt X.A.in1 s _ _ (decide (ns.getD j 0 = ms.getD j 0))
      rw [z]
      exact SeqAt.EqAt.int_int _ _ _ _)
    (fun j h1 h2 _ => by
      obtain ⟨t, et⟩ := int_nth i1 h1
      obtain ⟨t', et'⟩ := int_nth i2 h2
      rw [et, et']
      exact Ob.RcOp.ge_int _ _ _ _)
  have e1 : us.toArray.size = ns.length := by rw [List.size_toArray]; exact i1.length
  have e2 : ws.toArray.size = ms.length := by rw [List.size_toArray]; exact i2.length
  rw [e1, e2] at R
  exact (R X.prog X.w X.xe (EP X pins σ Q) ⟨.bl _, H, I, rfl, q⟩ : wpAny (model X.prog X.w) X.A (compareOp .GtE (.ref a) (.ref b)) (EP X pins σ Q) X.xe s)
theorem lex_cd {d : Nat} {r q : List Int} (hr : IsRow d r) (hq : IsRow d q) : ∀ k i, i + k = d → Ob.lexAt (fun j => decide (r.getD j 0 = q.getD j 0)) (fun j => decide (q.getD j 0 ≤ r.getD j 0)) true i k = decide (cd (q.drop i) ≤ cd (r.drop i))
  | 0, i, e => by
    have e1 : r.drop i = [] := List.drop_eq_nil_of_le (by rw [hr.1]; omega)
    have e2 : q.drop i = [] := List.drop_eq_nil_of_le (by rw [hq.1]; omega)
    rw [e1, e2]; rfl
  | k + 1, i, e => by
    have l1 : i < r.length := by rw [hr.1]; omega
    have l2 : i < q.length := by rw [hq.1]; omega
    have d1 : r.drop i = r[i] :: r.drop (i + 1) := List.drop_eq_getElem_cons l1
    have d2 : q.drop i = q[i] :: q.drop (i + 1) := List.drop_eq_getElem_cons l2
    have g1 : r.getD i 0 = r[i] := by rw [List.getD_eq_getElem?_getD, List.getElem?_eq_getElem l1]; rfl
    have g2 : q.getD i 0 = q[i] := by rw [List.getD_eq_getElem?_getD, List.getElem?_eq_getElem l2]; rfl
    have b1 : TS.Bd 2 (r.drop (i + 1)) := fun m hm => hr.2 m (List.mem_of_mem_drop hm)
    have b2 : TS.Bd 2 (q.drop (i + 1)) := fun m hm => hq.2 m (List.mem_of_mem_drop hm)
    have ll : (r.drop (i + 1)).length = (q.drop (i + 1)).length := by rw [List.length_drop, List.length_drop, hr.1, hq.1]
    rw [Ob.lexAt_succ, lex_cd hr hq k (i + 1) (by omega)]
    simp only [g1, g2]
    rw [d1, d2]
    by_cases h : r[i] = q[i]
    · rw [if_pos (decide_eq_true h), h]
      refine decide_eq_decide.mpr ?_
      have this : cd (q[i] :: r.drop (i + 1)) < cd (q[i] :: q.drop (i + 1)) ↔ cd (r.drop (i + 1)) < cd (q.drop (i + 1)) := TS.code_same ll
      constructor <;> intro z
      · exact Int.not_lt.mp fun y => Int.not_lt.mpr z (this.mp y)
      · exact Int.not_lt.mp fun y => Int.not_lt.mpr z (this.mpr y)
    · rw [if_neg (by rw [decide_eq_false h]; exact Bool.false_ne_true)]
      refine decide_eq_decide.mpr ?_
      rcases Int.lt_trichotomy r[i] q[i] with lt | lt | lt
      · have := TS.code_lt (B := 2) ll b1 b2 lt
        have : cd (r[i] :: r.drop (i + 1)) < cd (q[i] :: q.drop (i + 1)) := this
        omega
      · exact absurd lt h
      · have := TS.code_lt (B := 2) ll.symm b2 b1 lt
        have : cd (q[i] :: q.drop (i + 1)) < cd (r[i] :: r.drop (i + 1)) := this
        omega
section
variable {K : PySem.W.Frag} {σ : L2.St} {F F1 H H1 : Hp} {te : TE} {wi : TI} {E : Ends} {tw : TS} {tt : TT} {z : D}
theorem r2_geT {d : Nat} {r q : List Int} (hr : IsRow d r) (hq : IsRow d q) : R2d K (rGeT K) (rowD r) (rowD q) (.bl (decide (cd q ≤ cd r))) := fun F H s x y hx hy Q k => by
  obtain ⟨a, rfl, ha⟩ := is_row hx
  obtain ⟨b, rfl, hb⟩ := is_row hy
  refine ⟨a, b, r, q, rfl, rfl, sqT_up s ha, sqT_up s hb, ?_⟩
  rw [hr.1, hq.1, Nat.min_self, decide_eq_true (Nat.le_refl d), lex_cd hr hq d 0 (by omega), List.drop_zero, List.drop_zero]
  exact q_same s (.bl _) k
theorem q_alla {α : Type} {xs : List α} {dd : α → D} {j : Nat} (s : Same F H) (w : Wa K wi σ F H (xs.map dd)) (ok : α → Bool) (ht : ∀ d ∈ xs, ∀ F1 H1 x, Fz F H F1 H1 → Is K F1 (dd d) x → EvT tt (σ.set j (some x)) F1 H1 (!ok d))
    (he : ∀ x F1 H1, Fz F H F1 H1 → Ev K te (σ.set j (some x)) F1 H1 z) (hf : xs.all ok = false → ∀ v F2 H2, Fz F H F2 H2 → Is K F2 z v → E.rt v H2)
    (hn : xs.all ok = true → ∀ (σ' : L2.St) F2 H2, Fz F H F2 H2 → (∀ i, i ≠ j → σ'[i]? = σ[i]?) → σ'.length = σ.length → tw E σ' H2) : tSeq (tFor wi (gName j) (tIfS tt (tRet te) tNext)) tw E σ H := by
  refine q_fora s w (fun pre post σ' F' H' => Fz F H F' H' ∧ (σ' = σ ∨ ∃ x, σ' = σ.set j (some x)) ∧ pre.all ok = true) (fun F1 H1 a => ⟨a, .inl rfl, rfl⟩) (fun _ _ _ _ _ h => h.1.fh) ?_ ?_
  · intro B pre d post σ' F' H' x F2 H2 e sB ⟨a, hσ, hp⟩ a2 hx
    have a3 := a.trans a2
    have eσ : σ'.set j (some x) = σ.set j (some x) := by
      rcases hσ with rfl | ⟨y, rfl⟩
      · rfl
      · rw [List.set_set]
    have md : d ∈ xs := by rw [e]; simp
    show tIfS tt (tRet te) tNext _ (σ'.set j (some x)) H2
    rw [eσ]
    refine s_if a2.fh (ht d md F2 H2 x a3 hx) (fun hb F3 H3 a4 => ?_) (fun hb F3 H3 a4 => ?_)
    · have hk : ok d = false := by cases h : ok d <;> rw [h] at hb <;> trivial
      refine s_ret a4.fh (he x F3 H3 (a3.trans a4)) fun v F4 H4 a5 hv => hf ?_ v F4 H4 ((a3.trans a4).trans a5) hv
      rw [e, List.all_append, List.all_cons, hk]; simp
    · have hk : ok d = true := by cases h : ok d <;> rw [h] at hb <;> trivial
      exact ⟨F3, sB.trans (a2.trans a4).ff, a3.trans a4, .inr ⟨x, rfl⟩, by rw [List.all_append, hp, List.all_cons, hk]; rfl⟩
  · intro σ' F' H' ⟨a, hσ, hp⟩
    refine hn hp σ' F' H' a (fun i hi => ?_) ?_
    · rcases hσ with rfl | ⟨y, rfl⟩
      · rfl
      · rw [List.getElem?_set_ne (Ne.symm hi)]
    · rcases hσ with rfl | ⟨y, rfl⟩
      · rfl
      · rw [List.length_set]
end
end Eg
/-! objects that change. -/
namespace Eg
open PySem PySem.Spec L2
section
variable {K : PySem.W.Frag} {X : Addr → Prop} {σ : L2.St} {F F1 H H1 : Hp} {ta te : TE} {E : Ends} {ts tu : TS} {d : D} {C p dx l : Addr} {fs : List (Str × V)} {f : Str} {i : Nat} {ys : List V}
theorem Fx.newX (a : Fx X F H F1 H1) (n : ∀ b, X b → H b = none) : Fz F H F1 H1 :=
  ⟨a.ff, a.fh, fun b o _ q => a.hh b o (fun z => by rw [n b z] at q; cases q) q, a.th, fun b _ q k => a.fr b (fun z => k (n b z)) q k⟩
theorem new_obj {p dx : Addr} (s : Same F H) (hp : H p = none) (hd : H dx = none) (ne : dx ≠ p) : Fz F H F (upd (upd H dx (.own p)) p (.ins C dx [])) := by
  have m1 : Fz F H F (upd H dx (.own p)) := Fx.make s hd
  have hp' : upd H dx (HO.own p) p = none := by rw [upd_ne (Ne.symm ne)]; exact hp
  exact m1.trans (Fx.make m1.fh hp')
theorem evl_nil : EvL K (tLst tNil) σ F H [] := fun F1 H1 a Q q => ⟨Nat.zero_le _, fun p hp => q p [] F1 _ (Fx.make a.fh hp) (a.fh.free hp) hp upd_same .nil⟩
/-- self.f = [..], self may change -/
theorem q_fldL {ds : List D} (c : Cls K C) (n : NoAttr K C f) (s : Same F H) (hi : σ[i]? = some (some (.ref p))) (nf : F p = none) (hp : H p = some (.ins C dx fs)) (hz : fs.length < 1000) (h : EvL K te σ F H ds)
    (k : ∀ l acc F2 H2, Fz F H F2 H2 → F2 l = none → H l = none → H2 l = some (.lst acc) → Iss K F2 ds acc → F2 p = none → p ≠ l → tu E σ (upd H2 p (.ins C dx (putF f (.ref l) fs)))) : tSeq (sFld K (tVar i) te f) tu E σ H :=
  h F H (Fx.refl s) _ fun l acc F2 H2 a n2 n1 e r => ⟨.ref p, hi, p, C, dx, fs, rfl, (a.m nf hp id).1, c, n, hz, k l acc F2 H2 a n2 n1 e r (a.m nf hp id).2 fun z => by rw [z, n1] at hp; cases hp⟩
theorem s_fldL {ds : List D} (c : Cls K C) (n : NoAttr K C f) (s : Same F H) (hi : σ[i]? = some (some (.ref p))) (nf : F p = none) (hp : H p = some (.ins C dx fs)) (hz : fs.length < 1000) (h : EvL K te σ F H ds)
    (k : ∀ l acc F2 H2, Fz F H F2 H2 → F2 l = none → H l = none → H2 l = some (.lst acc) → Iss K F2 ds acc → F2 p = none → p ≠ l → E.nx σ (upd H2 p (.ins C dx (putF f (.ref l) fs)))) : sFld K (tVar i) te f E σ H :=
  h F H (Fx.refl s) _ fun l acc F2 H2 a n2 n1 e r => ⟨.ref p, hi, p, C, dx, fs, rfl, (a.m nf hp id).1, c, n, hz, k l acc F2 H2 a n2 n1 e r (a.m nf hp id).2 fun z => by rw [z, n1] at hp; cases hp⟩
/-- self.f, self may change -/
theorem ev_fldM {v : V} (c : Cls K C) (n : NoAttr K C f) (hi : σ[i]? = some (some (.ref p))) (nf : F p = none) (hp : H p = some (.ins C dx fs)) (hl : fs.lookup f = some v) (hv : Is K F d v) : Ev K (tFld K (tVar i) f) σ F H d := fun F1 H1 a Q q =>
  ⟨.ref p, hi, p, C, dx, fs, v, rfl, (a.m nf hp id).1, c, n, hl, q v F1 H1 (Fx.refl a.fh) (a.is hv)⟩
/-- len(self.f), both may change -/
theorem ev_lenM (c : Cls K C) (n : NoAttr K C f) (hi : σ[i]? = some (some (.ref p))) (nf : F p = none) (hp : H p = some (.ins C dx fs)) (hf : fs.lookup f = some (.ref l)) (hl : H l = some (.lst ys)) :
    Ev K (tCB (Eg.rLen K) (tCons (tFld K (tVar i) f) tNil)) σ F H (.int ys.length) := fun F1 H1 a Q q =>
  ⟨.ref p, hi, p, C, dx, fs, .ref l, rfl, (a.m nf hp id).1, c, n, hf, ⟨_, _, rfl, .inl ⟨ys, SqL.of (a.hh l _ id hl), rfl⟩, q _ F1 H1 (Fx.refl a.fh) (.int _)⟩⟩
/-- self.f.append(e) -/
theorem s_appF (c : Cls K C) (n : NoAttr K C f) (s : Same F H) (hi : σ[i]? = some (some (.ref p))) (hp : H p = some (.ins C dx fs)) (hf : fs.lookup f = some (.ref l)) (nf : F l = none) (hl : H l = some (.lst ys)) (hz : ys.length < sizeLine) (h : Ev K te σ F H d)
    (k : ∀ v F2 H2, Fz F H F2 H2 → Is K F2 d v → F2 l = none → E.nx σ (upd H2 l (.lst (ys ++ [v])))) : tDrop (tBM K "list" rAppend (tFld K (tVar i) f) (tCons te tNil)) E σ H :=
  ⟨.ref p, hi, p, C, dx, fs, .ref l, rfl, hp, c, n, hf, .inl ⟨rfl, ys, SqL.of hl⟩, h.go s fun v F2 H2 a hv => ⟨l, ys, v, rfl, rfl, (a.m nf hl id).1, hz, k v F2 H2 a hv (a.m nf hl id).2⟩⟩
theorem q_appF (c : Cls K C) (n : NoAttr K C f) (s : Same F H) (hi : σ[i]? = some (some (.ref p))) (hp : H p = some (.ins C dx fs)) (hf : fs.lookup f = some (.ref l)) (nf : F l = none) (hl : H l = some (.lst ys)) (hz : ys.length < sizeLine) (h : Ev K te σ F H d)
    (k : ∀ v F2 H2, Fz F H F2 H2 → Is K F2 d v → F2 l = none → tu E σ (upd H2 l (.lst (ys ++ [v])))) : tSeq (tDrop (tBM K "list" rAppend (tFld K (tVar i) f) (tCons te tNil))) tu E σ H := s_appF (E := { E with nx := tu E }) c n s hi hp hf nf hl hz h k
/-- self.f = e, self changes (an older field or a new one) -/
theorem q_fldM (c : Cls K C) (n : NoAttr K C f) (s : Same F H) (hi : σ[i]? = some (some (.ref p))) (nf : F p = none) (hp : H p = some (.ins C dx fs)) (hz : fs.length < 1000) (h : Ev K te σ F H d)
    (k : ∀ v F2 H2, Fz F H F2 H2 → Is K F2 d v → F2 p = none → tu E σ (upd H2 p (.ins C dx (putF f v fs)))) : tSeq (sFld K (tVar i) te f) tu E σ H := q_fld c n s hi nf hp hz h k
/-- self.m(..), self may change -/
theorem m_call {m : Str} {sp : Sp} {XE : XK} {tb : TA} {Q : VK} (hi : σ[i]? = some (some (.ref p))) (hp : H p = some (.ins C dx fs)) (hn : fs.lookup m = none) (h : tb σ H fun vs H2 => sp (V.ref p :: vs) H2 Q XE) : tMeth C m sp [] XE (tVar i) tb σ H Q :=
  ⟨.ref p, hi, p, dx, fs, rfl, hp, hn, by
    have e : (fun (vs : List V) (H2 : Hp) => sp (V.ref p :: vs) H2 Q XE) = fun vs H2 => sp (V.ref p :: (vs ++ [])) H2 Q XE := by funext vs H2; rw [List.append_nil]
    rw [e] at h
    exact h⟩
end
end Eg
/-! own exceptions with fields: made, caught, asked. -/
namespace Eg
open PySem PySem.Spec L2
/-- __init__(self, f1, f2): both kept -/
def Pxi (C : Addr) (f1 f2 : Str) : Sp := fun vs H Q _ => ∃ a y z, vs = [V.ref a, y, z] ∧ H a = some (exo a C none) ∧ ∀ dx, H dx = none → dx ≠ a → Q .non (upd (upd (upd H dx (exd dx [(f1, y)])) a (exo a C (some dx))) dx (exd dx [(f2, z), (f1, y)]))
section
variable {K : PySem.W.Frag} {σ : L2.St} {F H : Hp} {d1 d2 : D} {C : Addr} {f1 f2 : Str}
theorem exo_ne {a dx : Addr} {d : Option Addr} {fs : List (Str × V)} {C : Addr} {H : Hp} : ∀ _ : dx ≠ a, (upd (upd H dx (exd dx fs)) a (exo a C d)) dx = some (exd dx fs) := fun h => by rw [upd_ne h, upd_same]
theorem mk_exc {ta : TA} {Q : XK} (s : Same F H) (ha : EvA K ta σ F H [d1, d2]) (k : ∀ y z d F2 H2, Fz F H F2 H2 → Is K F2 d1 y → Is K F2 d2 z → H2 d = none → Q (.ref C) (some d) (upd H2 d (.xd [(f2, z), (f1, y)]))) : tMkO C (Pxi C f1 f2) [] ta σ H Q :=
  ha.go s fun vs F2 H2 a hvs => by
    cases hvs with
    | @cons _ _ v1 _ h1 r =>
      cases r with
      | @cons _ _ v2 _ h2 r =>
        cases r
        refine ⟨by show (2 : Nat) ≤ 1000; decide, fun x hx => ⟨x, _, _, rfl, upd_same, fun dx hd ne => ⟨rfl, dx, _, ?_, upd_same, ?_, ?_⟩⟩⟩
        · rw [upd_ne (Ne.symm ne), upd_same]
        · rw [upd_ne ne] at hd; exact hd
        · rw [upd_ne ne] at hd
          have e : upd (del (upd (upd (upd (upd H2 x (exo x C none)) dx (exd dx [(f1, v1)])) x (exo x C (some dx))) dx (exd dx [(f2, v2), (f1, v1)])) x) dx (.xd [(f2, v2), (f1, v1)]) = upd H2 dx (.xd [(f2, v2), (f1, v1)]) := by
            funext b
            by_cases hb : b = dx
            · subst hb; rw [upd_same, upd_same]
            · rw [upd_ne hb, upd_ne hb]
              by_cases hx' : b = x
              · subst hx'; rw [del_same, hx]
              · rw [del_ne hx', upd_ne hb, upd_ne hx', upd_ne hb, upd_ne hx']
          rw [e]
          exact k _ _ dx F2 H2 a h1 h2 hd
end
/-! isinstance(e, c), e the caught exception with fields -/
def rIsEd (K : PySem.W.Frag) (C a : Addr) (cls : Value) (d : Option Addr) : List V → Hp → VK → Prop := fun xs H Q => cls = .ref C ∧ ∃ (dd : Addr) (fs : List (Str × V)) (c : V) (cv : Value) (b : Bool), d = some dd ∧ H dd = some (.xd fs) ∧ xs = [.ref a, c] ∧ (∀ u, RelV c u → u = cv) ∧ PySem.W.kitOne K (.ref C) cv = some b ∧ Q (.bl b) H
theorem call_isEd {X : Cx} {a C : Addr} {oe : Obj} {cls : Value} {d : Option Addr} {pn : List (Addr × Obj)} (T : L2.ExcC X.K C) (hz : Zc cls d oe) (hf : ∃ vs, oe.data = .fields vs) : CallR (X.suite a ((a, oe) :: pn)) (.builtin "isinstance") (rIsEd X.K C a cls d) := by
  intro pins s σ H xs us Q I r ⟨ec, dd, fs, c, cv, b, ed, hdd, ex, hcv, e, q⟩
  subst ex ec ed
  cases r with
  | cons rx rr =>
    cases rr with
    | cons rt rr =>
      cases rr
      cases rx
      have ec := hcv _ rt
      subst ec
      obtain ⟨hget, _⟩ := I.pin (a, oe) (List.mem_append_left _ List.mem_cons_self)
      obtain ⟨vs, hv⟩ := hf
      have hx : ObjOk X.prog X.w H s.heap dd (.xd fs) := I.hok dd _ hdd
      obtain ⟨mA, hns, hr⟩ := hx
      obtain ⟨od, ho, hl⟩ := lookIn_ns hns
      have J : PySem.W.InstAt s.heap a oe C (some od) := ⟨hget, hz.1, by unfold PySem.W.notCls; rw [hv] <;> rfl, by rw [hz.2]; exact ho⟩
      have hcl : (PySem.W.clsIn X.K C).isSome = true := by obtain ⟨cd, hc, _⟩ := PySem.W.any_some T.hd; rw [hc]; rfl
      exact PySem.W.kia_one (PySem.W.kitx_exc (od := some od) hcl T.hg T.hk T.hs T.ha T.hn T.ht T.hm) I.kIn J e (fun z => nomatch z) fun tk => ⟨.bl b, H, I.kept (t' := tk) fun _ _ z => z, rfl, q⟩
theorem xf_of {K : PySem.W.Frag} {C : Addr} (T : L2.ExcC K C) : XfC K C := ⟨T.hg, T.hk, T.hs, T.hd⟩
theorem op_neU {X : Cx} (hu : X.A.units + 64 < PySem.cLine) : OpR X (compareOp .NotEq) (rNeA X.K) := OpR.or op_ne (op_neD hu)
end Eg
/-! lists known by their ints alone: the script, the rests. -/
namespace Eg
open PySem PySem.Spec L2
section
variable {K : PySem.W.Frag} {σ : L2.St} {F F1 H H1 : Hp} {te : TE} {E : Ends} {ts tu : TS} {i : Nat} {a p q : Addr} {ns : List Int} {v : V} {xs : List V} {j n : Int}
theorem ix_raw {Q : VK} (hi : σ[i]? = some (some (.ref a))) (h : H a = some (.lst xs)) (e : L2.atI xs j = some v) (k : Q v H) : tOp (rIx K) (tVar i) (tC (.int j)) σ H Q := ⟨.ref a, hi, .inl ⟨a, xs, j, v, rfl, rfl, SqL.of h, e, k⟩⟩
theorem atI_map {α β : Type} {f : α → β} {l : List α} {x : α} (h : L2.atI l j = some x) : L2.atI (l.map f) j = some (f x) := by
  unfold L2.atI at h ⊢
  rw [List.length_map]
  cases e : ixN l.length j with
  | none => rw [e] at h; cases h
  | some k =>
    rw [e] at h
    have h : l[k]? = some x := h
    show (l.map f)[k]? = some (f x)
    rw [List.getElem?_map, h]; rfl
theorem evq_ix (hi : σ[i]? = some (some (.ref a))) (h : ∀ F1 H1, Fz F H F1 H1 → SqL K H1 a (ns.map V.int)) (hj : Ev K te σ F H (.int j)) (e : L2.atI ns j = some n) : Ev K (tOp (rIx K) (tVar i) te) σ F H (.int n) := fun F1 H1 z Q k =>
  ⟨.ref a, hi, hj F1 H1 z _ fun u F2 H2 z2 hu => by
    cases hu
    exact .inl ⟨a, _, j, .int n, rfl, rfl, h F2 H2 (z.trans z2), atI_map e, k _ F2 H2 z2 (.int _)⟩⟩
theorem evq_len (hi : σ[i]? = some (some (.ref a))) (h : ∀ F1 H1, Fz F H F1 H1 → SqL K H1 a (ns.map V.int)) : Ev K (tCB (Eg.rLen K) (tCons (tVar i) tNil)) σ F H (.int ns.length) := fun F1 H1 z Q k =>
  ⟨.ref a, hi, ⟨_, _, rfl, .inl ⟨_, h F1 H1 z, by rw [List.length_map]⟩, k _ F1 H1 (Fx.refl z.fh) (.int _)⟩⟩
theorem wa_sql (hi : σ[i]? = some (some (.ref a))) (h : SqL K F a (ns.map V.int)) : Wa K (iSeq K (tVar i)) σ F H (ns.map D.int) := fun F1 H1 z R k =>
  ⟨.ref a, hi, .inl ⟨a, _, rfl, sqL_up z.fh (sqL_up z.ff h), k _ F1 H1 (Fx.refl z.fh) ⟨_, _, by rw [List.length_map, ← List.length_map (f := V.int)]; exact walk_list, fun F3 H3 s1 s2 => sqL_up s2 (sqL_up s1 (sqL_up z.ff h)), fun m d F3 H3 x H4 hm s1 s2 y => by
    obtain ⟨rfl, y2⟩ := y
    rw [List.getElem?_map] at hm y2
    cases e : ns[m]? with
    | none => rw [e] at hm; cases hm
    | some n =>
      rw [e] at hm y2
      cases hm
      cases y2
      exact ⟨F3, Fx.refl s2, .int _⟩⟩⟩⟩
theorem fmod_in {x m : Int} (h : 0 < m) : 0 ≤ x.fmod m ∧ x.fmod m < m := by
  rw [Int.fmod_eq_emod_of_nonneg x (Int.le_of_lt h)]
  exact ⟨Int.emod_nonneg x (by omega), Int.emod_lt_of_pos x h⟩
/-- what follows an if that has no else, said once -/
theorem q_whenT {t : TT} {b : Bool} {tw : TS} (Pt : L2.St → Hp → Prop) (s : Same F H) (h : EvT t σ F H b) (tl : ∀ σ' H', Pt σ' H' → tw E σ' H') (h1 : (∀ σ' H', Pt σ' H' → tw E σ' H') → b = true → ∀ F2 H2, Fz F H F2 H2 → ts { E with nx := tw E } σ H2)
    (h2 : b = false → ∀ F2 H2, Fz F H F2 H2 → Pt σ H2) : tSeq (tIfS t ts tNext) tw E σ H := q_when s h (h1 tl) fun hb F2 H2 a => tl σ H2 (h2 hb F2 H2 a)
end
end Eg
/-! loops and comprehensions that draw. -/
namespace Eg
open PySem PySem.Spec L2
section
variable {α : Type} {K : PySem.W.Frag} {σ : L2.St} {F F1 H H1 : Hp} {te : TE} {wi : TI} {dd : α → D} {g : TG} {vs : List Nat} {E : Ends} {ts tu : TS} {p q : Addr} {A R : D → Prop} {PX : List α → Prop}
def WaH (K : PySem.W.Frag) (p q : Addr) (wi : TI) (σ : L2.St) (F H : Hp) (dd : α → D) (PX : List α → Prop) : Prop := ∀ F1 H1, Fx (Hx p q) F H F1 H1 → HandAt K F1 H1 p q → ∀ R : It → Hp → Prop, (∀ xs J F2 H2, Fx (Hx p q) F1 H1 F2 H2 → HandAt K F2 H2 p q → PX xs → Wj K J F2 (xs.map dd) → R J H2) → wi σ H1 R
theorem waH_of {xs : List α} (h : ∀ F1 H1, Fx (Hx p q) F H F1 H1 → HandAt K F1 H1 p q → Wa K wi σ F1 H1 (xs.map dd)) (r : PX xs) : WaH K p q wi σ F H dd PX := fun F1 H1 a hh R k =>
  h F1 H1 a hh F1 H1 (Fx.refl a.fh) R fun J F2 H2 a2 w => k xs J F2 H2 a2.of (hh.keep a2) r w
theorem waH_range {ta : TA} {S : List D → Prop} {PX : List Nat → Prop} (h : EvHA K p q ta σ F H S) (hs : ∀ ds, S ds → ∃ n : Nat, ds = [.int n] ∧ n < 2 ^ 62 ∧ PX (List.range n)) : WaH K p q (iRng1 ta) σ F H (fun i : Nat => D.int i) PX := fun F1 H1 a hh R k =>
  h F1 H1 a hh _ fun xs ds F2 H2 a2 h2 hd hx => by
    obtain ⟨n, rfl, hn, hp⟩ := hs ds hd
    cases hx with
    | cons r t =>
      cases r; cases t
      refine ⟨(n : Nat), rfl, by omega, by omega, k (List.range n) _ F2 H2 a2 h2 hp ⟨_, _, by rw [List.length_map, List.length_range]; exact walk_range, fun _ _ _ _ => trivial, fun i d F3 H3 x H4 hi s1 s2 y => ?_⟩⟩
      obtain ⟨rfl, y2⟩ := y
      rw [List.getElem?_map] at hi
      cases hj : (List.range n)[i]? with
      | none => rw [hj] at hi; cases hi
      | some j =>
        rw [hj] at hi; cases hi
        obtain ⟨_, e⟩ := List.getElem?_eq_some_iff.mp hj
        rw [List.getElem_range] at e
        subst e
        rw [y2]
        refine ⟨F3, Fx.refl s2, ?_⟩
        show Is K F3 (.int (i : Nat)) (.int (0 + (i : Nat)))
        rw [Int.zero_add]
        exact .int _
theorem h_fora (hh : HandAt K F H p q) (s : Same F H) (w : WaH K p q wi σ F H dd PX) (Pv : List α → List α → List α → L2.St → Hp → Hp → Prop) (h0 : ∀ xs F1 H1, PX xs → Fx (Hx p q) F H F1 H1 → HandAt K F1 H1 p q → Pv xs [] xs σ F1 H1) (hp : ∀ xs pre post σ' F' H', Pv xs pre post σ' F' H' → Same F' H')
    (hs : ∀ xs B pre d post σ' F' H' x F2 H2, PX xs → xs = pre ++ d :: post → Same B F' → Pv xs pre (d :: post) σ' F' H' → Fz F' H' F2 H2 → Is K F2 (dd d) x →
      g x σ' H2 fun σ2 H3 => ts { E with nx := fun σ'' H'' => ∃ F'', Same B F'' ∧ Pv xs (pre ++ [d]) post σ'' F'' H'', ct := fun σ'' H'' => ∃ F'', Same B F'' ∧ Pv xs (pre ++ [d]) post σ'' F'' H'', bk := E.nx } σ2 H3)
    (hd : ∀ xs σ' F' H', PX xs → Pv xs xs [] σ' F' H' → E.nx σ' H') : tFor wi g ts E σ H := by
  refine w F H (Fx.refl s) hh _ fun xs J F2 H2 a2 h2 px ⟨G, Y, wk, hG, hY⟩ => ?_
  rw [List.length_map] at wk
  refine for_it wk (fun i σ' H' => ∃ F', Same F2 F' ∧ Pv xs (xs.take i) (xs.drop i) σ' F' H') ⟨F2, .refl _, by rw [List.take_zero, List.drop_zero]; exact h0 xs F2 H2 px a2 h2⟩ (fun i σ' H' hi ⟨F', s1, pv⟩ => hG F' H' s1 (hp _ _ _ _ _ _ pv)) (fun i x σ' H' H3 hi ⟨F', s1, pv⟩ y => ?_) (fun σ' H' ⟨F', s1, pv⟩ => ?_)
  · have hi' : (xs.map dd)[i]? = some (dd xs[i]) := by rw [List.getElem?_map, List.getElem?_eq_getElem hi]; rfl
    obtain ⟨F3, a3, hx⟩ := hY i _ F' H' x H3 hi' s1 (hp _ _ _ _ _ _ pv) y
    have ed : xs.drop i = xs[i] :: xs.drop (i + 1) := List.drop_eq_getElem_cons hi
    have et : xs.take (i + 1) = xs.take i ++ [xs[i]] := by rw [List.take_add_one, List.getElem?_eq_getElem hi]; rfl
    rw [ed] at pv
    have q := hs xs F2 (xs.take i) xs[i] (xs.drop (i + 1)) σ' F' H' x F3 H3 px (by rw [← ed, List.take_append_drop]) s1 pv a3 hx
    rw [et]; exact q
  · rw [List.take_length, List.drop_length] at pv
    exact hd xs σ' F' H' px pv
theorem hq_fora (hh : HandAt K F H p q) (s : Same F H) (w : WaH K p q wi σ F H dd PX) (Pv : List α → List α → List α → L2.St → Hp → Hp → Prop) (h0 : ∀ xs F1 H1, PX xs → Fx (Hx p q) F H F1 H1 → HandAt K F1 H1 p q → Pv xs [] xs σ F1 H1) (hp : ∀ xs pre post σ' F' H', Pv xs pre post σ' F' H' → Same F' H')
    (hs : ∀ xs B pre d post σ' F' H' x F2 H2, PX xs → xs = pre ++ d :: post → Same B F' → Pv xs pre (d :: post) σ' F' H' → Fz F' H' F2 H2 → Is K F2 (dd d) x →
      g x σ' H2 fun σ2 H3 => ts { nx := fun σ'' H'' => ∃ F'', Same B F'' ∧ Pv xs (pre ++ [d]) post σ'' F'' H'', rt := E.rt, ct := fun σ'' H'' => ∃ F'', Same B F'' ∧ Pv xs (pre ++ [d]) post σ'' F'' H'', bk := tu E } σ2 H3)
    (hd : ∀ xs σ' F' H', PX xs → Pv xs xs [] σ' F' H' → tu E σ' H') : tSeq (tFor wi g ts) tu E σ H := h_fora (E := { E with nx := tu E }) hh s w Pv h0 hp hs hd
theorem HandAt.other {F' H' : Hp} {o : HO} {l : Addr} (h : HandAt K F' H' p q) (n1 : l ≠ p) (n2 : l ≠ q) : HandAt K F' (upd H' l o) p q := by
  obtain ⟨m1, m2, ne, sc, st, ns, kk, e1, e2, e3, e4⟩ := h
  exact ⟨m1, m2, ne, sc, st, ns, kk, by rw [upd_ne (Ne.symm n1)]; exact e1, by rw [upd_ne (Ne.symm n2)]; exact e2, e3, e4⟩
theorem HandAt.ne_of {F' H' : Hp} {l : Addr} (h : HandAt K F' H' p q) (hl : H' l = none) : l ≠ p ∧ l ≠ q := by
  obtain ⟨_, _, _, sc, st, ns, kk, e1, e2, _⟩ := h
  exact ⟨fun z => (by rw [z, e1] at hl; cases hl), fun z => (by rw [z, e2] at hl; cases hl)⟩
theorem HandAt.frz {F' H' : Hp} {o : HO} {l : Addr} (h : HandAt K F' H' p q) (n1 : l ≠ p) (n2 : l ≠ q) (nl : F' l = none) : HandAt K (upd F' l o) H' p q := by
  obtain ⟨m1, m2, ne, sc, st, ns, kk, e1, e2, e3, e4⟩ := h
  exact ⟨by rw [upd_ne (Ne.symm n1)]; exact m1, by rw [upd_ne (Ne.symm n2)]; exact m2, ne, sc, st, ns, kk, e1, e2, sqL_up (fun c u ec => by rw [upd_ne (ne_of_none ec nl)]; exact ec) e3, e4⟩
/-- a new list that may change, drawn: what it may be -/
def EvHL (K : PySem.W.Frag) (p q : Addr) (te : TE) (σ : L2.St) (F H : Hp) (R : List D → Prop) : Prop := ∀ F1 H1, Fx (Hx p q) F H F1 H1 → HandAt K F1 H1 p q → ∀ Q : VK, (∀ l acc ds F2 H2, Fx (Hx p q) F1 H1 F2 H2 → HandAt K F2 H2 p q → F2 l = none → H1 l = none → H2 l = some (.lst acc) → Iss K F2 ds acc → R ds → Q (.ref l) H2) → te σ H1 Q
theorem EvHL.frz {R : List D → Prop} {S : D → Prop} (h : EvHL K p q te σ F H R) (r : ∀ ds, R ds → S (.lst ds)) : EvH K p q te σ F H S := fun F1 H1 a hh Q k => h F1 H1 a hh Q fun l acc ds F2 H2 z h2 n n1 e i rr => by
  have s2 := frz_same z.fh n e
  obtain ⟨m1, m2⟩ := hh.ne_of n1
  exact k _ _ (upd F2 l (.lst acc)) H2 (z.freeze a.fh n1 e) (h2.frz m1 m2 n) (r ds rr) (.lst upd_same (Iss.up s2.1 _ _ i))
/-- [e for j in ..], all may draw -/
theorem evhl_la {j : Nat} {R : List D → Prop} (w : WaH K p q wi σ F H dd PX) (hw : ∀ x, wipe ((wipe σ vs).set j (some x)) vs = wipe σ vs)
    (ht : ∀ xs, PX xs → ∀ d, d ∈ xs → ∀ F1 H1 x, Fx (Hx p q) F H F1 H1 → Is K F1 (dd d) x → EvH K p q te ((wipe σ vs).set j (some x)) F1 H1 A) (hz : ∀ xs, PX xs → xs.length < sizeLine) (hr : ∀ xs es, PX xs → es.length = xs.length → (∀ e ∈ es, A e) → R es) :
    EvHL K p q (tLc wi (gName j) tYes te vs) σ F H R := fun F0 H0 a0 hh0 Q k => by
  refine w F0 H0 a0 hh0 _ fun xs J F1 H1 a1 hh1 px ⟨G, Y, wk, hG, hY⟩ Dl hD => ?_
  rw [List.length_map] at wk
  have nF : F1 Dl = none := a1.fh.free hD
  obtain ⟨np, nq⟩ := hh1.ne_of hD
  have nx : ¬ Hx p q Dl := fun z => z.elim np nq
  refine lc_it wk (fun i H' => ∃ F' acc es, Fx (Hx p q) F1 H1 F' H' ∧ HandAt K F' H' p q ∧ F' Dl = none ∧ H' Dl = some (.lst acc) ∧ Iss K F' es acc ∧ es.length = i ∧ ∀ e ∈ es, A e) ?_ (fun i H' hi ⟨F', acc, es, z, _⟩ => hG F' H' z.ff z.fh) (fun i x H' H3 hi ⟨F', acc, es, z, h', n, e, r, le, al⟩ y => ?_) (fun H' ⟨F', acc, es, z, h', n, e, r, le, al⟩ => ?_)
  · exact ⟨F1, [], [], Fx.make a1.fh hD, hh1.other np nq, nF, upd_same, .nil, rfl, fun _ h => by simp at h⟩
  · have hi' : (xs.map dd)[i]? = some (dd xs[i]) := by rw [List.getElem?_map, List.getElem?_eq_getElem hi]; rfl
    obtain ⟨F3, z3, hx⟩ := hY i _ F' H' x H3 hi' z.ff z.fh y
    have za : Fx (Hx p q) F H F3 H3 := a0.trans (a1.trans (z.trans z3.of))
    refine ⟨hw x, ?_⟩
    refine et_yes F3 H3 (Fx.refl z3.fh) _ fun F5 H5 z5 => ?_
    refine iteT (ht xs px _ (List.getElem_mem hi) F3 H3 x za hx F5 H5 z5.of ((h'.keep z3).keep z5) _ fun v d F4 H4 z4 h4 hd hv => ?_)
    have zz : Fx (Hx p q) F' H' F4 H4 := z3.of.trans (z5.of.trans z4)
    have m := zz.m n e nx
    have hl := hz xs px
    refine ⟨acc, m.1, by rw [← r.length]; omega, F4, acc ++ [v], es ++ [d], (z.trans zz).mut (.inl hD) m.2, h4.other np nq, m.2, upd_same, (zz.iss r).snoc hv, by rw [List.length_append, le]; rfl, fun e he => ?_⟩
    rcases List.mem_append.mp he with he | he
    · exact al e he
    · rw [List.mem_singleton] at he; subst he; exact hd
  · exact k Dl acc es F' H' (a1.trans z) h' n (none_of_ne fun hne => a1.th Dl hne hD) e r (hr xs es px le al)
theorem evh_la {j : Nat} {S : D → Prop} (w : WaH K p q wi σ F H dd PX) (hw : ∀ x, wipe ((wipe σ vs).set j (some x)) vs = wipe σ vs)
    (ht : ∀ xs, PX xs → ∀ d, d ∈ xs → ∀ F1 H1 x, Fx (Hx p q) F H F1 H1 → Is K F1 (dd d) x → EvH K p q te ((wipe σ vs).set j (some x)) F1 H1 A) (hz : ∀ xs, PX xs → xs.length < sizeLine) (hr : ∀ xs es, PX xs → es.length = xs.length → (∀ e ∈ es, A e) → S (.lst es)) :
    EvH K p q (tLc wi (gName j) tYes te vs) σ F H S := (evhl_la (R := fun es => S (.lst es)) w hw ht hz hr).frz fun _ h => h
/-! statements -/
theorem h_asgL {i : Nat} {R : List D → Prop} (hh : HandAt K F H p q) (s : Same F H) (h : EvHL K p q te σ F H R) (k : ∀ l acc ds F2 H2, Fx (Hx p q) F H F2 H2 → HandAt K F2 H2 p q → F2 l = none → H l = none → H2 l = some (.lst acc) → Iss K F2 ds acc → R ds → tu E (σ.set i (some (.ref l))) H2) : tSeq (tAsg te (gName i)) tu E σ H := h F H (Fx.refl s) hh _ k
/-- tests that draw -/
def EvHT (K : PySem.W.Frag) (p q : Addr) (tt : TT) (σ : L2.St) (F H : Hp) : Prop := ∀ F1 H1, Fx (Hx p q) F H F1 H1 → HandAt K F1 H1 p q → ∀ Q : Bool → Hp → Prop, (∀ b F2 H2, Fx (Hx p q) F1 H1 F2 H2 → HandAt K F2 H2 p q → Q b H2) → tt σ H1 Q
theorem eht_test (h : EvH K p q te σ F H fun d => ∃ b, d = .bl b) : EvHT K p q (tTest te) σ F H := fun F1 H1 a hh Q k => h F1 H1 a hh _ fun v d F2 H2 a2 h2 ⟨b, e⟩ hv => by
  subst e; cases hv
  exact ⟨b, rfl, k b F2 H2 a2 h2⟩
theorem hq_if {t : TT} {tw : TS} (hh : HandAt K F H p q) (s : Same F H) (h : EvHT K p q t σ F H) (h1 : ∀ F2 H2, Fx (Hx p q) F H F2 H2 → HandAt K F2 H2 p q → ts { E with nx := tw E } σ H2) (h2 : ∀ F2 H2, Fx (Hx p q) F H F2 H2 → HandAt K F2 H2 p q → tu { E with nx := tw E } σ H2) :
    tSeq (tIfS t ts tu) tw E σ H := h F H (Fx.refl s) hh _ fun b F2 H2 a h' => by
  cases b with
  | true => exact iteT (h1 F2 H2 a h')
  | false => exact iteF (h2 F2 H2 a h')
theorem hq_whenT {t : TT} {tw : TS} (Pt : L2.St → Hp → Prop) (hh : HandAt K F H p q) (s : Same F H) (h : EvHT K p q t σ F H) (tl : ∀ σ' H', Pt σ' H' → tw E σ' H') (h1 : (∀ σ' H', Pt σ' H' → tw E σ' H') → ∀ F2 H2, Fx (Hx p q) F H F2 H2 → HandAt K F2 H2 p q → ts { E with nx := tw E } σ H2)
    (h2 : ∀ F2 H2, Fx (Hx p q) F H F2 H2 → HandAt K F2 H2 p q → Pt σ H2) : tSeq (tIfS t ts tNext) tw E σ H := hq_if hh s h (h1 tl) fun F2 H2 a h' => tl σ H2 (h2 F2 H2 a h')
end
end Eg
/-! what is asked of a caught exception; defs whose repr is asked. -/
namespace Eg
open PySem PySem.Spec L2
section
variable {K : PySem.W.Frag} {σ : L2.St} {F F1 H H1 : Hp} {i : Nat} {a C dd : Addr} {fs : List (Str × V)} {f : Str} {v : V} {d : D}
theorem ev_isEd {c : Addr} {b : Bool} (hi : σ[i]? = some (some (.ref a))) (h : H dd = some (.xd fs)) (hk : PySem.W.kitOne K (.ref C) (.ref c) = some b) : Ev K (tCB (rIsEd K C a (.ref C) (some dd)) (tCons (tVar i) (tCons (tC (.ref c)) tNil))) σ F H (.bl b) := fun F1 H1 z Q k =>
  ⟨.ref a, hi, rfl, dd, fs, .ref c, .ref c, b, rfl, z.hh _ _ id h, rfl, fun u hu => hu, hk, k _ F1 H1 (Fx.refl z.fh) (.bl b)⟩
theorem ev_xf (hi : σ[i]? = some (some (.ref a))) (h : H dd = some (.xd fs)) (hl : fs.lookup f = some v) (hv : Is K F d v) : Ev K (tXf a (.ref C) (some dd) C f (tVar i)) σ F H d := fun F1 H1 z Q k =>
  ⟨.ref a, hi, rfl, rfl, dd, fs, v, rfl, z.hh _ _ id h, hl, k v F1 H1 (Fx.refl z.fh) (z.is hv)⟩
end
/-! ### defs that ask a repr: no repr stands around them -/
structure FnG (P : Program) (w : World) (K : PySem.W.Frag) (mg : Str → Option Value) (base : Heap) (CX : CXT) (k : Nat) (f : Addr) (fd : FuncData) (ps : List Str) (sp : Sp) : Prop where
  len : ∀ vs H Q E, sp vs H Q E → vs.length = ps.length
  run : ∀ (A : Around) (outer : List Env) (s : Shared) (H : Hp) (args : Args) (us : List Value) (vs : List V) (Q : VK) (E : XK), A.guards = some [] → Room k A → Env0 P w K mg base A outer s H → BindsTo s fd args (ps.zip us) → Vals vs us → sp vs H Q E →
    codeAny (model P w) A (.call (.ref f) args) (CR CX outer P w H s Q E) s
section
variable {CX : CXT} {P : Program} {w : World} {K : PySem.W.Frag} {mg : Str → Option Value} {base : Heap} {k : Nat}
open PyProof.Rows in
theorem fnG_of {f : Addr} {name qual : Str} {params : Arguments} {body : List Stmt} {scope : Scope} {dV kV doc pm cdv ct oc : Value} {an od : Option Addr} {osl : Array (Option Value)} {N ps : List Str} {sp : Sp}
    (lk : K.lookup f = some ⟨oc, od, .func (PySem.W.fnOf name qual params body scope dV kV doc pm an cdv ct), osl⟩) (hcd : PySem.W.codeIn K cdv qual = true) (S : FnScope N ps scope) (len : ∀ vs H Q E, sp vs H Q E → vs.length = ps.length)
    (hbody : ∀ (A : Around) (outer : List Env) (s : Shared) (H : Hp) (vs : List V) (Q : VK) (E : XK), A.guards = some [] → Room k (A.deeper (envOfC qual scope s.heap.objs.size f cdv)) → sp vs H Q E →
      ∃ t, PSs (cxOf CX P w K mg base N qual scope f cdv A outer s H E) body t ∧ t { nx := fun _ H' => Q .non H', rt := Q } (L2.start N vs) H) :
    FnG P w K mg base CX (k + 1) f (PySem.W.fnOf name qual params body scope dV kV doc pm an cdv ct) ps sp := by
  refine ⟨len, fun A outer s H args us vs Q E hgd hr e0 hb r hsp => ?_⟩
  have hlen := len _ _ _ _ hsp
  have inK : K.In s.heap := e0.mod.kin.keeps fun b o e => (e0.bs b o e).1
  have lim : s.heap.NoLimit := e0.mod.nolimit.keeps fun b o e => (e0.bs b o e).1
  have kinds : ∀ y ∈ ps.zip us, scope.names.lookup y.1 = some .local ∨ (scope.names.lookup y.1 = some .cell ∧ ((cellsFrom (s.heap.objs.size + 1) scope.names []).lookup y.1).isSome = true) := fun ⟨n, v⟩ hy =>
    (S.par n (List.of_mem_zip hy).1).elim .inl fun q => .inr ⟨q, PySem.W.cellsFrom_some _ _ _ (.inl q)⟩
  refine codeAny_call_function hr.depth (inK _ _ lk) rfl S.co S.gen rfl (PySem.W.codeRec_of inK hcd) (hb _ _ _ _ ?_)
  refine wpAny_newFunctionEnv_cells S.kind kinds fun env he s1 x => ?_
  subst he
  refine ⟨lim.keeps x.toInCall.keep, codeAny_func ?_⟩
  obtain ⟨t, ht, hq⟩ := hbody A outer s H vs Q E hgd (hr.deeper _) hsp
  have I : Inv (cxOf CX P w K mg base N qual scope f cdv A outer s H E) [] (L2.start N vs) H s1 := inv_start S hr.hd e0 hlen r x
  refine wpAny_mono (ht.run [] s1 (L2.start N vs) H _ I hq) (fun fl s' hs => ?_) fun e s' hs => hs
  have fin : ∀ {σ' : L2.St} {H' : Hp} {v : V} {u : Value}, Inv (cxOf CX P w K mg base N qual scope f cdv A outer s H E) [] σ' H' s' → RelV v u → Q v H' → CE outer P w H s Q u s' := fun {σ' H' v u} J rv q => ⟨v, H', J.os, J.bare, J.base, J.hok, rv, q⟩
  cases fl with
  | ret u => obtain ⟨v, σ', H', J, rv, q⟩ := hs; exact fin J rv q
  | next => obtain ⟨σ', H', J, q⟩ := hs; exact fin (v := V.non) (u := Value.none) J rfl q
  | brk => obtain ⟨_, _, _, q⟩ := hs; exact q.elim
  | cont => obtain ⟨_, _, _, q⟩ := hs; exact q.elim
theorem Fun.okG {x qual : Str} {st : Stmt} {f : Addr} {fd : FuncData} {N ps : List Str} {sp : Sp} (F : L2.Fun K x qual st f fd) (S : FnScope N ps (defScope st)) (len : ∀ vs H Q E, sp vs H Q E → vs.length = ps.length)
    (hbody : ∀ (cdv : Value) (A : Around) (outer : List Env) (s : Shared) (H : Hp) (vs : List V) (Q : VK) (E : XK), A.guards = some [] → Room k (A.deeper (PyProof.Rows.envOfC qual (defScope st) s.heap.objs.size f cdv)) → sp vs H Q E →
      ∃ t, PSs (cxOf CX0 P w K mg base N qual (defScope st) f cdv A outer s H E).nox (defBody st) t ∧ t { nx := fun _ H' => Q .non H', rt := Q } (L2.start N vs) H) : FnG P w K mg base CX0 (k + 1) f fd ps sp := by
  obtain ⟨oc, od, kV, doc, pm, an, cdv, ct, osl, rfl, lk, hcd⟩ := F.ex
  refine fnG_of lk hcd S len fun A outer s H vs Q E hgd hr hsp => ?_
  obtain ⟨t, h, q⟩ := hbody cdv A outer s H vs Q E hgd hr hsp
  exact ⟨t, h.nox, q⟩
theorem FnG.of {f : Addr} {fd : FuncData} {ps : List Str} {sp : Sp} (F : FnOk P w K mg base CX k f fd ps sp) : FnG P w K mg base CX k f fd ps sp := ⟨F.len, fun A outer s H args us vs Q E _ => F.run A outer s H args us vs Q E⟩
end
section
variable {X : Cx} {CX : CXT} {k : Nat} {f : Addr} {fd : FuncData} {ps : List Str} {sp : Sp} {E : XK} {x : Str} {p pos : Pos} {e : Expr} {es : List Expr} {t : TA}
open PyProof.Rows in
theorem pe_callG (hgd : X.A.guards = some []) (F : FnG X.prog X.w X.K X.mg X.base CX k f fd ps sp) (hr : Room k X.A) (hg : Gl X x) (hm : X.mg x = some (.ref f)) (hk : PySem.W.keepIn X.K (.ref f) = true) (hb : Binds X.K fd ps []) (hx : Passes CX X E)
    (ha : PA X (e :: es) t) (hdb : (x == ("__debug__" : Str)) = false := by decide) (he : starEach (e :: es) X.env = (false, eval e X.env) :: starEach es X.env := by rfl) (hpl : (backTo pos (starEach es X.env)).any (·.1) = false := by rfl) :
    PE X (.Call (.Name x p) (e :: es) [] pos) (tCall sp [] E t) := by
  refine ⟨fun pins s σ H Q I h => ?_⟩
  refine wpAny_Call_Name_kw (ld_glob I hg hm ?_ hdb)
  refine PySem.W.callWith_K (h₀ := X.base) I.ok.mod.kin hk (L2.thn (ha.run pos pins s σ H _ I h) fun us s1 ⟨vs, H1, I1, r, q⟩ => ⟨I1.kIn, ?_⟩) he hpl
  have q : sp (vs ++ []) H1 Q E := q
  rw [List.append_nil] at q
  have hl : us.length = ps.length := by rw [← r.length]; exact F.len _ _ _ _ q
  have b := hb s1 us I1.kIn (by rw [List.append_nil]; exact hl)
  rw [List.append_nil] at b
  refine wpAny_call (codeAny_mono (F.run X.A X.stack s1 H1 ⟨us, []⟩ us vs Q E hgd hr I1.env0 b r q) fun r s' hq => ?_)
  cases r with
  | error e => exact hx pins σ H1 s1 e s' I1 hq
  | ok fl =>
    cases fl with
    | ret u => exact I1.after hq
    | next => exact hq.elim
    | brk => exact hq.elim
    | cont => exact hq.elim
end
end Eg
/-! repr of small data. -/
namespace Eg
open PySem PySem.Spec L2
/-- small numbers, texts, None, lists and tuples of these, at most n deep -/
def sm : Nat → D → Bool
  | _, .non => true
  | _, .int i => decide (i.natAbs < 10 ^ 12)
  | _, .str s => PyData.strOk s
  | n + 1, .lst ds => ds.all (sm n)
  | n + 1, .tup ds => ds.all (sm n)
  | _, _ => false
theorem pb_of_sm : ∀ (n : Nat) (d : D), sm n d = true → pb n d = true
  | n, .non, _ => by cases n <;> rfl
  | n, .int _, _ => by cases n <;> rfl
  | n, .str _, h => by cases n <;> exact h
  | n + 1, .lst ds, h => all_imp (pb_of_sm n) ds h
  | n + 1, .tup ds, h => all_imp (pb_of_sm n) ds h
  | 0, .lst _, h => by cases h
  | 0, .tup _, h => by cases h
  | n, .bl _, h => by cases n <;> cases h
  | n, .obj _ _, h => by cases n <;> cases h
  | n, .dic _, h => by cases n <;> cases h
theorem shows_of {p : D → Bool} (h : ∀ d, p d = true → (py d).showable = true) : ∀ ds : List D, ds.all p = true → PyData.showableAll (pys ds) = true
  | [], _ => by rw [pys]; simp [PyData.showableAll]
  | d :: ds, e => by
    rw [List.all_cons, Bool.and_eq_true] at e
    rw [pys]
    simp [PyData.showableAll, h d e.1, shows_of h ds e.2]
theorem log_small {m : Nat} (h : m < 10 ^ 12) : m.log2 < 1920 := by
  by_cases h0 : m = 0
  · subst h0; decide
  · have : m.log2 < 40 := (Nat.log2_lt h0).mpr (Nat.lt_of_lt_of_le h (by decide))
    omega
theorem show_of : ∀ (n : Nat) (d : D), sm n d = true → (py d).showable = true
  | _, .non, _ => by rw [py]; simp [PyData.showable]
  | n, .int i, h => by
    rw [py]
    have h : i.natAbs < 10 ^ 12 := by cases n <;> simpa [sm] using h
    simp only [PyData.showable, decide_eq_true_eq]
    exact log_small h
  | _, .str i, _ => by rw [py]; simp [PyData.showable]
  | n + 1, .lst ds, e => by rw [py]; simp only [PyData.showable]; exact shows_of (show_of n) ds e
  | n + 1, .tup ds, e => by rw [py]; simp only [PyData.showable]; exact shows_of (show_of n) ds e
  | 0, .lst _, e => by cases e
  | 0, .tup _, e => by cases e
  | n, .bl _, e => by cases n <;> cases e
  | n, .obj _ _, e => by cases n <;> cases e
  | n, .dic _, e => by cases n <;> cases e
theorem shorts_of {p : D → Bool} (h : ∀ d, p d = true → (py d).intsShort 13 = true) : ∀ ds : List D, ds.all p = true → PyData.intsShortAll 13 (pys ds) = true
  | [], _ => by rw [pys]; simp [PyData.intsShortAll]
  | d :: ds, e => by
    rw [List.all_cons, Bool.and_eq_true] at e
    rw [pys]
    simp [PyData.intsShortAll, h d e.1, shorts_of h ds e.2]
theorem short_of : ∀ (n : Nat) (d : D), sm n d = true → (py d).intsShort 13 = true
  | _, .non, _ => by rw [py]; simp [PyData.intsShort]
  | n, .int i, h => by
    rw [py]
    have h : i.natAbs < 10 ^ 12 := by cases n <;> simpa [sm] using h
    simp only [PyData.intsShort, decide_eq_true_eq]
    exact PyData.shown_int_le h
  | _, .str i, _ => by rw [py]; simp [PyData.intsShort]
  | n + 1, .lst ds, e => by rw [py]; simp only [PyData.intsShort]; exact shorts_of (short_of n) ds e
  | n + 1, .tup ds, e => by rw [py]; simp only [PyData.intsShort]; exact shorts_of (short_of n) ds e
  | 0, .lst _, e => by cases e
  | 0, .tup _, e => by cases e
  | n, .bl _, e => by cases n <;> cases e
  | n, .obj _ _, e => by cases n <;> cases e
  | n, .dic _, e => by cases n <;> cases e
theorem weights_le {c : Nat} : ∀ ds : List D, (∀ d ∈ ds, (py d).weight ≤ c) → PyData.weightAll (pys ds) ≤ ds.length * (c + 1)
  | [], _ => by rw [pys]; simp [PyData.weightAll]
  | d :: ds, h => by
    have h1 := h d (List.mem_cons_self ..)
    have h2 := weights_le ds fun e he => h e (List.mem_cons_of_mem _ he)
    rw [pys, List.length_cons, Nat.add_mul, Nat.one_mul]
    simp only [PyData.weightAll]
    omega
theorem weight_int {i : Int} (h : i.natAbs < 10 ^ 12) : (py (.int i)).weight ≤ 41 := by
  rw [py]
  simp only [PyData.weight]
  split
  · omega
  · rename_i h0
    have : i.natAbs ≠ 0 := by simpa using h0
    have : i.natAbs.log2 < 40 := (Nat.log2_lt this).mpr (Nat.lt_of_lt_of_le h (by decide))
    omega
theorem weight_tup {c n : Nat} {ds : List D} (hl : ds.length ≤ n) (h : ∀ d ∈ ds, (py d).weight ≤ c) : (py (.tup ds)).weight ≤ n * (c + 1) := by
  rw [py]
  have := weights_le ds h
  have h2 : ds.length * (c + 1) ≤ n * (c + 1) := Nat.mul_le_mul_right _ hl
  simp only [PyData.weight]
  omega
theorem weight_lst {c n : Nat} {ds : List D} (hl : ds.length ≤ n) (h : ∀ d ∈ ds, (py d).weight ≤ c) : (py (.lst ds)).weight ≤ n * (c + 1) := by
  rw [py]
  have := weights_le ds h
  have h2 : ds.length * (c + 1) ≤ n * (c + 1) := Nat.mul_le_mul_right _ hl
  simp only [PyData.weight]
  omega
theorem rc_reprS {K : PySem.W.Frag} {d : D} {n : Nat} (h : sm n d = true) (hn : n ≤ 50) (hw : (py d).weight ≤ 2 ^ 20) : Rcd K (rRepr K) [d] (.str (py d).shown) :=
  rc_repr (pb_of_sm n d h) hn (show_of n d h) (PyData.shown_fits (B := 13) (by decide) (by decide) (PyData.leavesShort_of_canLay0 13 _ (lay_of n d (pb_of_sm n d h)) (short_of n d h)) hw)
end Eg
/-! s.replace of written texts behind a test against a written number. -/
namespace Eg
open PySem PySem.Spec L2
section
variable {X : Cx} {a : Expr} {ta te : TE} {op : CmpOp} {r : R2} {n : Int} {j : Nat} {cp pos pos' : Pos} {body orelse : List Stmt} {t u : TS}
theorem ps_ifK (ho : OpR X (compareOp op) r) (ha : PE X a ta) (hm : behindInMarks op (.Constant (.int n) j cp) = false) (hb : PSsT X body t) (he : PSs X orelse u) : PS X (.If (.Compare a [op] [.Constant (.int n) j cp] pos') body orelse pos) (tIfS (tTest (tOp r ta (tC (.int n)))) t u) := by
  refine ⟨fun pins s σ H D I h => wpAny_If (wpAny_isTrue_Compare1 (L2.thn (ha.run pins s σ H _ I h) fun v s1 ⟨x, H1, I1, r1, q1⟩ => wpAny_Constant_int ?_) hm)⟩
  refine wpAny_mono (PySem.wpAny_toks (ho pins { s1 with toks := s1.toks + 1 } σ H1 x (.int n) v _ _ (I1.tok _) r1 ⟨_, rfl⟩ q1)) (fun c s3 ⟨hk, z, H3, I3, r3, k, e, q3⟩ => ?_) fun _ _ z => z.2
  subst e
  cases r3
  have hk : s1.toks + 1 ≤ s3.toks := hk
  refine wpAny_truthy_bool ?_
  cases k with
  | true => exact hb pins s3 σ H3 D (by omega) I3 (by simpa using q3)
  | false => exact he.run pins s3 σ H3 D I3 (by simpa using q3)
theorem pst_set {i : Nat} {x : Str} {e : Expr} (hN : X.N.Nodup) (hi : X.N[i]? = some x) (hx : Loc X.env.scope x) (he : PET X e te) (hs : swapsWith e (some (.Name x pos')) pos.line X.env = pure false := by rfl)
    (hf : X.fn x = true ∨ X.env.scope.names.lookup x = some .local := by first | exact .inl rfl | exact .inr rfl | assumption) : PST X (.Assign [.Name x pos'] e pos) (tAsg te (gName i)) := fun pins s σ H D h0 I h =>
  wpAny_Assign_Name (L2.thn (he pins s σ H _ h0 I h) fun v s1 ⟨y, H1, I1, r1, q1⟩ => store_ok I1 hN hi hx r1 (fun s2 I2 => ⟨_, H1, I2, q1⟩) hf) hs
end
abbrev replL := PySem.StrLaws.replL
section
variable {K : PySem.W.Frag} {σ : L2.St} {F H : Hp} {to : TE} {l : List Nat} {y z : String}
theorem repl_S {y z l : List Nat} (hy : 1 ≤ y.length) : Txt.replace (SX.S l) (SX.S y) (SX.S z) = SX.S (replL y z l) := TL.ext_tl (by
  have h := PySem.StrLaws.replace_list (x := SX.S l) (y := SX.S y) (z := SX.S z) (by rw [SX.S_len]; exact hy)
  exact h)
theorem ev_repl (h : Ev K to σ F H (.str (SX.S l))) (hy : 1 ≤ (cs y).length) (hz : l.length + (l.length + 1) * (cs z).length ≤ 16777216) : Ev K (CwR.tReplC to (Str.ofString y) (Str.ofString z)) σ F H (.str (SX.S (replL (cs y) (cs z) l))) := fun F1 H1 a Q k =>
  h F1 H1 a _ fun v F2 H2 a2 hv => by
    cases hv
    refine ⟨SX.S l, rfl, ?_, ?_⟩
    · rw [SX.S_len, of_cs z, SX.S_len]; exact hz
    · rw [of_cs y, of_cs z, repl_S hy]
      exact k _ F2 H2 a2 (.str _)
end
/-- a replaced sign -/
theorem repl1 (c : Nat) (z : List Nat) : ∀ l : List Nat, replL [c] z l = l.flatMap fun d => if d = c then z else [d]
  | [] => PySem.StrLaws.replL_nil
  | d :: l => by
    rw [List.flatMap_cons, ← repl1 c z l]
    by_cases h : d = c
    · rw [if_pos h]
      have := PySem.StrLaws.replL_hit (y := [c]) (z := z) (c := d) (r := l) (by simp) (by simp [h])
      exact this
    · rw [if_neg h]
      exact PySem.StrLaws.replL_miss (y := [c]) (z := z) (c := d) (r := l) (by simp [h])
theorem repl1_len (c : Nat) (z : List Nat) (l : List Nat) : (replL [c] z l).length ≤ l.length * (z.length + 1) := by
  rw [repl1]
  induction l with
  | nil => simp
  | cons d l ih =>
    rw [List.flatMap_cons, List.length_append, List.length_cons, Nat.add_mul, Nat.one_mul]
    have : (if d = c then z else [d]).length ≤ z.length + 1 := by split <;> simp
    omega
section
variable {K : PySem.W.Frag} {a : List Nat}
/-- s[k:] -/
theorem rs_strX {lo : Nat} {hi : Option Int} (h : hi = none := by rfl) (hl : a.length ≤ sizeLine := by first | assumption | omega) : Rsd K (rSlX K) (.str (SX.S a)) (some (lo : Int)) hi (.str (SX.S (a.drop lo))) := by
  subst h
  have e : cutS (SX.S a) (some (lo : Int)) none = SX.S (a.drop lo) := by
    refine TL.ext_tl ?_
    show (a.drop (HT.sIx (SX.S a).length 0 (some (lo : Int)))).take (HT.sIx (SX.S a).length (SX.S a).length none - HT.sIx (SX.S a).length 0 (some (lo : Int))) = a.drop lo
    rw [HT.sIx_none, HT.sIx_nat, SX.S_len]
    by_cases hlo : lo ≤ a.length
    · rw [Nat.min_eq_left hlo]
      exact List.take_of_length_le (by rw [List.length_drop]; exact Nat.le_refl _)
    · rw [Nat.min_eq_right (by omega), List.drop_eq_nil_of_le (Nat.le_refl _), List.drop_eq_nil_of_le (by omega), List.take_nil]
  have h := rs_str (K := K) (a := SX.S a) (lo := some (lo : Int)) (hi := none) (by rw [SX.S_len]; exact hl)
  rw [e] at h
  exact h
theorem un_negD {i : Int} : R1d K (fun x H Q => ∃ n, x = .int n ∧ Q (.int (-n)) H) (.int i) (.int (-i)) := fun F H s x hx Q q => by
  cases hx
  exact ⟨i, rfl, q_same s (.int _) q⟩
theorem atI_last {α β : Type} {f : α → β} {W : List α} {x : α} (h : W.getLast? = some x) : L2.atI (W.map f) (-1) = some (f x) := by
  have hl : 0 < W.length := by cases W with | nil => simp at h | cons _ _ => simp
  unfold L2.atI L2.ixN
  rw [List.length_map, if_neg (by decide), if_pos (by omega)]
  show (W.map f)[((-1 : Int) + (W.length : Nat)).toNat]? = _
  rw [List.getElem?_map, show ((-1 : Int) + (W.length : Nat)).toNat = W.length - 1 by omega, ← List.getLast?_eq_getElem?, h]
  rfl
end
end Eg
namespace K08
open PySem L2 Eg
open PyProof.Rows (boot_int boot_tuple)
def top (i : Nat) : Stmt := PySem.Challenge.pw_eightcells_k08_long_puzzle_texts.main.body.getD i (.Pass ⟨0, 0, 0, 0⟩)
abbrev s_InvalidText_init : Stmt := inClass (top 6) 0
abbrev N_InvalidText_init : List Str := ["self", "text", "at"]
theorem sc_InvalidText_init : FnScope N_InvalidText_init ["self", "text", "at"] (defScope s_InvalidText_init) := ⟨rfl, rfl, rfl, by decide +kernel, rfl, by decide +kernel, by decide +kernel⟩
abbrev s_is_below : Stmt := top 9
abbrev N_is_below : List Str := ["value", "limit"]
theorem sc_is_below : FnScope N_is_below ["value", "limit"] (defScope s_is_below) := ⟨rfl, rfl, rfl, by decide +kernel, rfl, by decide +kernel, by decide +kernel⟩
abbrev s_is_row : Stmt := top 10
abbrev N_is_row : List Str := ["value", "size", "one"]
theorem sc_is_row : FnScope N_is_row ["value", "size"] (defScope s_is_row) := ⟨rfl, rfl, rfl, by decide +kernel, rfl, by decide +kernel, by decide +kernel⟩
abbrev s_are_rows : Stmt := top 11
abbrev N_are_rows : List Str := ["rows", "size", "row"]
theorem sc_are_rows : FnScope N_are_rows ["rows", "size"] (defScope s_are_rows) := ⟨rfl, rfl, rfl, by decide +kernel, rfl, by decide +kernel, by decide +kernel⟩
abbrev s_Relation_init : Stmt := inClass (top 12) 0
abbrev N_Relation_init : List Str := ["self", "size", "rows", "row"]
theorem sc_Relation_init : FnScope N_Relation_init ["self", "size", "rows"] (defScope s_Relation_init) := ⟨rfl, rfl, rfl, by decide +kernel, rfl, by decide +kernel, by decide +kernel⟩
abbrev s_are_relations : Stmt := top 15
abbrev N_are_relations : List Str := ["relations", "relation"]
theorem sc_are_relations : FnScope N_are_relations ["relations"] (defScope s_are_relations) := ⟨rfl, rfl, rfl, by decide +kernel, rfl, by decide +kernel, by decide +kernel⟩
abbrev s_Book_init : Stmt := inClass (top 16) 0
abbrev N_Book_init : List Str := ["self", "relations", "relation"]
theorem sc_Book_init : FnScope N_Book_init ["self", "relations"] (defScope s_Book_init) := ⟨rfl, rfl, rfl, by decide +kernel, rfl, by decide +kernel, by decide +kernel⟩
abbrev s_Book_len : Stmt := inClass (top 16) 2
abbrev N_Book_len : List Str := ["self"]
theorem sc_Book_len : FnScope N_Book_len ["self"] (defScope s_Book_len) := ⟨rfl, rfl, rfl, by decide +kernel, rfl, by decide +kernel, by decide +kernel⟩
abbrev s_are_cells : Stmt := top 18
abbrev N_are_cells : List Str := ["value", "count", "cell_count", "cell"]
theorem sc_are_cells : FnScope N_are_cells ["value", "count", "cell_count"] (defScope s_are_cells) := ⟨rfl, rfl, rfl, by decide +kernel, rfl, by decide +kernel, by decide +kernel⟩
abbrev s_is_tie : Stmt := top 19
abbrev N_is_tie : List Str := ["book", "cell_count", "value"]
theorem sc_is_tie : FnScope N_is_tie ["book", "cell_count", "value"] (defScope s_is_tie) := ⟨rfl, rfl, rfl, by decide +kernel, rfl, by decide +kernel, by decide +kernel⟩
abbrev s_Puzzle_init : Stmt := inClass (top 20) 0
abbrev N_Puzzle_init : List Str := ["self", "book", "cell_count", "ties", "t", "tie"]
theorem sc_Puzzle_init : FnScope N_Puzzle_init ["self", "book", "cell_count", "ties"] (defScope s_Puzzle_init) := ⟨rfl, rfl, rfl, by decide +kernel, rfl, by decide +kernel, by decide +kernel⟩
abbrev s_Puzzle_eq : Stmt := inClass (top 20) 1
abbrev N_Puzzle_eq : List Str := ["self", "other"]
theorem sc_Puzzle_eq : FnScope N_Puzzle_eq ["self", "other"] (defScope s_Puzzle_eq) := ⟨rfl, rfl, rfl, by decide +kernel, rfl, by decide +kernel, by decide +kernel⟩
abbrev s_joined_by_commas : Stmt := top 24
abbrev N_joined_by_commas : List Str := ["numbers", "number"]
theorem sc_joined_by_commas : FnScope N_joined_by_commas ["numbers"] (defScope s_joined_by_commas) := ⟨rfl, rfl, rfl, by decide +kernel, rfl, by decide +kernel, by decide +kernel⟩
abbrev s_write_relation : Stmt := top 25
abbrev N_write_relation : List Str := ["relation", "rows", "row", "value"]
theorem sc_write_relation : FnScope N_write_relation ["relation"] (defScope s_write_relation) := ⟨rfl, rfl, rfl, by decide +kernel, rfl, by decide +kernel, by decide +kernel⟩
abbrev s_write_puzzle : Stmt := top 26
abbrev N_write_puzzle : List Str := ["puzzle", "lines", "relation", "cells"]
theorem sc_write_puzzle : FnScope N_write_puzzle ["puzzle"] (defScope s_write_puzzle) := ⟨rfl, rfl, rfl, by decide +kernel, rfl, by decide +kernel, by decide +kernel⟩
abbrev s_number_told : Stmt := top 27
abbrev N_number_told : List Str := ["word", "figure"]
theorem sc_number_told : FnScope N_number_told ["word"] (defScope s_number_told) := ⟨rfl, rfl, rfl, by decide +kernel, rfl, by decide +kernel, by decide +kernel⟩
abbrev s_row_told : Stmt := top 28
abbrev N_row_told : List Str := ["word", "size", "figure"]
theorem sc_row_told : FnScope N_row_told ["word", "size"] (defScope s_row_told) := ⟨rfl, rfl, rfl, by decide +kernel, rfl, by decide +kernel, by decide +kernel⟩
abbrev s_relation_told : Stmt := top 29
abbrev N_relation_told : List Str := ["size_word", "rows_word", "size", "rows", "word", "at"]
theorem sc_relation_told : FnScope N_relation_told ["size_word", "rows_word"] (defScope s_relation_told) := ⟨rfl, rfl, rfl, by decide +kernel, rfl, by decide +kernel, by decide +kernel⟩
abbrev s_PuzzleReading_init : Stmt := inClass (top 30) 0
abbrev N_PuzzleReading_init : List Str := ["self"]
theorem sc_PuzzleReading_init : FnScope N_PuzzleReading_init ["self"] (defScope s_PuzzleReading_init) := ⟨rfl, rfl, rfl, by decide +kernel, rfl, by decide +kernel, by decide +kernel⟩
abbrev s_PuzzleReading_take : Stmt := inClass (top 30) 1
abbrev N_PuzzleReading_take : List Str := ["self", "line", "words"]
theorem sc_PuzzleReading_take : FnScope N_PuzzleReading_take ["self", "line"] (defScope s_PuzzleReading_take) := ⟨rfl, rfl, rfl, by decide +kernel, rfl, by decide +kernel, by decide +kernel⟩
abbrev s_PuzzleReading_take_relation : Stmt := inClass (top 30) 2
abbrev N_PuzzleReading_take_relation : List Str := ["self", "words", "relation"]
theorem sc_PuzzleReading_take_relation : FnScope N_PuzzleReading_take_relation ["self", "words"] (defScope s_PuzzleReading_take_relation) := ⟨rfl, rfl, rfl, by decide +kernel, rfl, by decide +kernel, by decide +kernel⟩
abbrev s_PuzzleReading_take_cells : Stmt := inClass (top 30) 3
abbrev N_PuzzleReading_take_cells : List Str := ["self", "words", "number"]
theorem sc_PuzzleReading_take_cells : FnScope N_PuzzleReading_take_cells ["self", "words"] (defScope s_PuzzleReading_take_cells) := ⟨rfl, rfl, rfl, by decide +kernel, rfl, by decide +kernel, by decide +kernel⟩
abbrev s_PuzzleReading_take_tie : Stmt := inClass (top 30) 4
abbrev N_PuzzleReading_take_tie : List Str := ["self", "words", "tie", "word"]
theorem sc_PuzzleReading_take_tie : FnScope N_PuzzleReading_take_tie ["self", "words"] (defScope s_PuzzleReading_take_tie) := ⟨rfl, rfl, rfl, by decide +kernel, rfl, by decide +kernel, by decide +kernel⟩
abbrev s_read_puzzle : Stmt := top 31
abbrev N_read_puzzle : List Str := ["text", "reading", "at", "line"]
theorem sc_read_puzzle : FnScope N_read_puzzle ["text"] (defScope s_read_puzzle) := ⟨rfl, rfl, rfl, by decide +kernel, rfl, by decide +kernel, by decide +kernel⟩
abbrev s_law_hand : Stmt := top 33
abbrev N_law_hand : List Str := ["script", "cell"]
theorem sc_law_hand : FnScope N_law_hand ["script"] (defScope s_law_hand) := ⟨rfl, rfl, rfl, by decide +kernel, rfl, by decide +kernel, by decide +kernel⟩
abbrev s_law_take : Stmt := top 34
abbrev N_law_take : List Str := ["hand", "many", "script", "rests", "k", "cell", "at", "number", "mixed"]
theorem sc_law_take : FnScope N_law_take ["hand", "many"] (defScope s_law_take) := ⟨rfl, rfl, rfl, by decide +kernel, rfl, by decide +kernel, by decide +kernel⟩
abbrev s_law_every : Stmt := top 35
abbrev N_law_every : List Str := ["many", "found", "k", "longer", "row"]
theorem sc_law_every : FnScope N_law_every ["many"] (defScope s_law_every) := ⟨rfl, rfl, rfl, by decide +kernel, rfl, by decide +kernel, by decide +kernel⟩
abbrev s_law_each_once : Stmt := top 36
abbrev N_law_each_once : List Str := ["size", "rows", "row"]
theorem sc_law_each_once : FnScope N_law_each_once ["size", "rows"] (defScope s_law_each_once) := ⟨rfl, rfl, rfl, by decide +kernel, rfl, by decide +kernel, by decide +kernel⟩
abbrev s_law_book : Stmt := top 37
abbrev N_law_book : List Str := ["hand", "most", "book", "k", "size", "every", "rows", "j"]
theorem sc_law_book : FnScope N_law_book ["hand", "most"] (defScope s_law_book) := ⟨rfl, rfl, rfl, by decide +kernel, rfl, by decide +kernel, by decide +kernel⟩
abbrev s_law_lines : Stmt := top 38
abbrev N_law_lines : List Str := ["book", "many", "ties", "lines", "size", "rows", "words", "row", "value", "r", "cells", "cell"]
theorem sc_law_lines : FnScope N_law_lines ["book", "many", "ties"] (defScope s_law_lines) := ⟨rfl, rfl, rfl, by decide +kernel, rfl, by decide +kernel, by decide +kernel⟩
abbrev s_law_read : Stmt := top 39
abbrev N_law_read : List Str := ["text", "e"]
theorem sc_law_read : FnScope N_law_read ["text"] (defScope s_law_read) := ⟨rfl, rfl, rfl, by decide +kernel, rfl, by decide +kernel, by decide +kernel⟩
abbrev s_law_is_same : Stmt := top 40
abbrev N_law_is_same : List Str := ["puzzle", "book", "many", "ties", "relations", "one"]
theorem sc_law_is_same : FnScope N_law_is_same ["puzzle", "book", "many", "ties"] (defScope s_law_is_same) := ⟨rfl, rfl, rfl, by decide +kernel, rfl, by decide +kernel, by decide +kernel⟩
abbrev s_law_bent_tie : Stmt := top 41
abbrev N_law_bent_tie : List Str := ["hand", "line", "tie", "book", "many", "r", "cells", "words", "cell", "at", "kind", "lines"]
theorem sc_law_bent_tie : FnScope N_law_bent_tie ["hand", "line", "tie", "book", "many"] (defScope s_law_bent_tie) := ⟨rfl, rfl, rfl, by decide +kernel, rfl, by decide +kernel, by decide +kernel⟩
abbrev s_law_bent_relation : Stmt := top 42
abbrev N_law_bent_relation : List Str := ["hand", "line", "size", "rows", "words", "row", "value", "kind"]
theorem sc_law_bent_relation : FnScope N_law_bent_relation ["hand", "line", "size", "rows"] (defScope s_law_bent_relation) := ⟨rfl, rfl, rfl, by decide +kernel, rfl, by decide +kernel, by decide +kernel⟩
abbrev s_law_bent : Stmt := top 43
abbrev N_law_bent : List Str := ["hand", "book", "many", "ties", "lines", "kind", "last", "t", "at", "words"]
theorem sc_law_bent : FnScope N_law_bent ["hand", "book", "many", "ties", "lines"] (defScope s_law_bent) := ⟨rfl, rfl, rfl, by decide +kernel, rfl, by decide +kernel, by decide +kernel⟩
abbrev s_law_is_told : Stmt := top 44
abbrev N_law_is_told : List Str := ["hand", "book", "many", "ties", "lines", "bent", "at", "text", "due", "line"]
theorem sc_law_is_told : FnScope N_law_is_told ["hand", "book", "many", "ties", "lines"] (defScope s_law_is_told) := ⟨rfl, rfl, rfl, by decide +kernel, rfl, by decide +kernel, by decide +kernel⟩
abbrev s_law_right : Stmt := top 45
abbrev N_law_right : List Str := ["script", "hand", "book", "many", "tie_count", "top", "ties", "k", "r", "j", "lines", "text", "word", "puzzle", "made", "size", "rows"]
theorem sc_law_right : FnScope N_law_right ["script"] (defScope s_law_right) := ⟨rfl, rfl, rfl, by decide +kernel, rfl, by decide +kernel, by decide +kernel⟩
abbrev s_law : Stmt := top 46
abbrev N_law : List Str := ["script"]
theorem sc_law : FnScope N_law ["script"] (defScope s_law) := ⟨rfl, rfl, rfl, by decide +kernel, rfl, by decide +kernel, by decide +kernel⟩

structure Tx (K : PySem.W.Frag) (mg : Str → Option Value) where
  n_isinstance : mg "isinstance" = none
  n_int : mg "int" = none
  n_bool : mg "bool" = none
  n_tuple : mg "tuple" = none
  n_list : mg "list" = none
  n_str : mg "str" = none
  n_len : mg "len" = none
  n_range : mg "range" = none
  n_sum : mg "sum" = none
  n_all : mg "all" = none
  n_sorted : mg "sorted" = none
  n_enumerate : mg "enumerate" = none
  n_abs : mg "abs" = none
  n_repr : mg "repr" = none
  a_InvalidText_init : Addr
  fd_InvalidText_init : FuncData
  F_InvalidText_init : Fun K "__init__" "InvalidText.__init__" s_InvalidText_init a_InvalidText_init fd_InvalidText_init
  b_InvalidText_init : Binds K fd_InvalidText_init ["self", "text", "at"] []
  a_is_below : Addr
  fd_is_below : FuncData
  F_is_below : Fun K "is_below" "is_below" s_is_below a_is_below fd_is_below
  mg_is_below : mg "is_below" = some (.ref a_is_below)
  b_is_below : Binds K fd_is_below ["value", "limit"] []
  a_is_row : Addr
  fd_is_row : FuncData
  F_is_row : Fun K "is_row" "is_row" s_is_row a_is_row fd_is_row
  mg_is_row : mg "is_row" = some (.ref a_is_row)
  b_is_row : Binds K fd_is_row ["value", "size"] []
  a_are_rows : Addr
  fd_are_rows : FuncData
  F_are_rows : Fun K "are_rows" "are_rows" s_are_rows a_are_rows fd_are_rows
  mg_are_rows : mg "are_rows" = some (.ref a_are_rows)
  b_are_rows : Binds K fd_are_rows ["rows", "size"] []
  a_Relation_init : Addr
  fd_Relation_init : FuncData
  F_Relation_init : Fun K "__init__" "Relation.__init__" s_Relation_init a_Relation_init fd_Relation_init
  b_Relation_init : Binds K fd_Relation_init ["self", "size", "rows"] []
  a_are_relations : Addr
  fd_are_relations : FuncData
  F_are_relations : Fun K "are_relations" "are_relations" s_are_relations a_are_relations fd_are_relations
  mg_are_relations : mg "are_relations" = some (.ref a_are_relations)
  b_are_relations : Binds K fd_are_relations ["relations"] []
  a_Book_init : Addr
  fd_Book_init : FuncData
  F_Book_init : Fun K "__init__" "Book.__init__" s_Book_init a_Book_init fd_Book_init
  b_Book_init : Binds K fd_Book_init ["self", "relations"] []
  a_Book_len : Addr
  fd_Book_len : FuncData
  F_Book_len : Fun K "__len__" "Book.__len__" s_Book_len a_Book_len fd_Book_len
  b_Book_len : Binds K fd_Book_len ["self"] []
  a_are_cells : Addr
  fd_are_cells : FuncData
  F_are_cells : Fun K "are_cells" "are_cells" s_are_cells a_are_cells fd_are_cells
  mg_are_cells : mg "are_cells" = some (.ref a_are_cells)
  b_are_cells : Binds K fd_are_cells ["value", "count", "cell_count"] []
  a_is_tie : Addr
  fd_is_tie : FuncData
  F_is_tie : Fun K "is_tie" "is_tie" s_is_tie a_is_tie fd_is_tie
  mg_is_tie : mg "is_tie" = some (.ref a_is_tie)
  b_is_tie : Binds K fd_is_tie ["book", "cell_count", "value"] []
  a_Puzzle_init : Addr
  fd_Puzzle_init : FuncData
  F_Puzzle_init : Fun K "__init__" "Puzzle.__init__" s_Puzzle_init a_Puzzle_init fd_Puzzle_init
  b_Puzzle_init : Binds K fd_Puzzle_init ["self", "book", "cell_count", "ties"] []
  a_Puzzle_eq : Addr
  fd_Puzzle_eq : FuncData
  F_Puzzle_eq : Fun K "__eq__" "Puzzle.__eq__" s_Puzzle_eq a_Puzzle_eq fd_Puzzle_eq
  b_Puzzle_eq : Binds K fd_Puzzle_eq ["self", "other"] []
  a_joined_by_commas : Addr
  fd_joined_by_commas : FuncData
  F_joined_by_commas : Fun K "joined_by_commas" "joined_by_commas" s_joined_by_commas a_joined_by_commas fd_joined_by_commas
  mg_joined_by_commas : mg "joined_by_commas" = some (.ref a_joined_by_commas)
  b_joined_by_commas : Binds K fd_joined_by_commas ["numbers"] []
  a_write_relation : Addr
  fd_write_relation : FuncData
  F_write_relation : Fun K "write_relation" "write_relation" s_write_relation a_write_relation fd_write_relation
  mg_write_relation : mg "write_relation" = some (.ref a_write_relation)
  b_write_relation : Binds K fd_write_relation ["relation"] []
  a_write_puzzle : Addr
  fd_write_puzzle : FuncData
  F_write_puzzle : Fun K "write_puzzle" "write_puzzle" s_write_puzzle a_write_puzzle fd_write_puzzle
  mg_write_puzzle : mg "write_puzzle" = some (.ref a_write_puzzle)
  b_write_puzzle : Binds K fd_write_puzzle ["puzzle"] []
  a_number_told : Addr
  fd_number_told : FuncData
  F_number_told : Fun K "number_told" "number_told" s_number_told a_number_told fd_number_told
  mg_number_told : mg "number_told" = some (.ref a_number_told)
  b_number_told : Binds K fd_number_told ["word"] []
  a_row_told : Addr
  fd_row_told : FuncData
  F_row_told : Fun K "row_told" "row_told" s_row_told a_row_told fd_row_told
  mg_row_told : mg "row_told" = some (.ref a_row_told)
  b_row_told : Binds K fd_row_told ["word", "size"] []
  a_relation_told : Addr
  fd_relation_told : FuncData
  F_relation_told : Fun K "relation_told" "relation_told" s_relation_told a_relation_told fd_relation_told
  mg_relation_told : mg "relation_told" = some (.ref a_relation_told)
  b_relation_told : Binds K fd_relation_told ["size_word", "rows_word"] []
  a_PuzzleReading_init : Addr
  fd_PuzzleReading_init : FuncData
  F_PuzzleReading_init : Fun K "__init__" "PuzzleReading.__init__" s_PuzzleReading_init a_PuzzleReading_init fd_PuzzleReading_init
  b_PuzzleReading_init : Binds K fd_PuzzleReading_init ["self"] []
  a_PuzzleReading_take : Addr
  fd_PuzzleReading_take : FuncData
  F_PuzzleReading_take : Fun K "take" "PuzzleReading.take" s_PuzzleReading_take a_PuzzleReading_take fd_PuzzleReading_take
  b_PuzzleReading_take : Binds K fd_PuzzleReading_take ["self", "line"] []
  a_PuzzleReading_take_relation : Addr
  fd_PuzzleReading_take_relation : FuncData
  F_PuzzleReading_take_relation : Fun K "take_relation" "PuzzleReading.take_relation" s_PuzzleReading_take_relation a_PuzzleReading_take_relation fd_PuzzleReading_take_relation
  b_PuzzleReading_take_relation : Binds K fd_PuzzleReading_take_relation ["self", "words"] []
  a_PuzzleReading_take_cells : Addr
  fd_PuzzleReading_take_cells : FuncData
  F_PuzzleReading_take_cells : Fun K "take_cells" "PuzzleReading.take_cells" s_PuzzleReading_take_cells a_PuzzleReading_take_cells fd_PuzzleReading_take_cells
  b_PuzzleReading_take_cells : Binds K fd_PuzzleReading_take_cells ["self", "words"] []
  a_PuzzleReading_take_tie : Addr
  fd_PuzzleReading_take_tie : FuncData
  F_PuzzleReading_take_tie : Fun K "take_tie" "PuzzleReading.take_tie" s_PuzzleReading_take_tie a_PuzzleReading_take_tie fd_PuzzleReading_take_tie
  b_PuzzleReading_take_tie : Binds K fd_PuzzleReading_take_tie ["self", "words"] []
  a_read_puzzle : Addr
  fd_read_puzzle : FuncData
  F_read_puzzle : Fun K "read_puzzle" "read_puzzle" s_read_puzzle a_read_puzzle fd_read_puzzle
  mg_read_puzzle : mg "read_puzzle" = some (.ref a_read_puzzle)
  b_read_puzzle : Binds K fd_read_puzzle ["text"] []
  a_law_hand : Addr
  fd_law_hand : FuncData
  F_law_hand : Fun K "_law_hand" "_law_hand" s_law_hand a_law_hand fd_law_hand
  mg_law_hand : mg "_law_hand" = some (.ref a_law_hand)
  b_law_hand : Binds K fd_law_hand ["script"] []
  a_law_take : Addr
  fd_law_take : FuncData
  F_law_take : Fun K "_law_take" "_law_take" s_law_take a_law_take fd_law_take
  mg_law_take : mg "_law_take" = some (.ref a_law_take)
  b_law_take : Binds K fd_law_take ["hand", "many"] []
  a_law_every : Addr
  fd_law_every : FuncData
  F_law_every : Fun K "_law_every" "_law_every" s_law_every a_law_every fd_law_every
  mg_law_every : mg "_law_every" = some (.ref a_law_every)
  b_law_every : Binds K fd_law_every ["many"] []
  a_law_each_once : Addr
  fd_law_each_once : FuncData
  F_law_each_once : Fun K "_law_each_once" "_law_each_once" s_law_each_once a_law_each_once fd_law_each_once
  mg_law_each_once : mg "_law_each_once" = some (.ref a_law_each_once)
  b_law_each_once : Binds K fd_law_each_once ["size", "rows"] []
  a_law_book : Addr
  fd_law_book : FuncData
  F_law_book : Fun K "_law_book" "_law_book" s_law_book a_law_book fd_law_book
  mg_law_book : mg "_law_book" = some (.ref a_law_book)
  b_law_book : Binds K fd_law_book ["hand", "most"] []
  a_law_lines : Addr
  fd_law_lines : FuncData
  F_law_lines : Fun K "_law_lines" "_law_lines" s_law_lines a_law_lines fd_law_lines
  mg_law_lines : mg "_law_lines" = some (.ref a_law_lines)
  b_law_lines : Binds K fd_law_lines ["book", "many", "ties"] []
  a_law_read : Addr
  fd_law_read : FuncData
  F_law_read : Fun K "_law_read" "_law_read" s_law_read a_law_read fd_law_read
  mg_law_read : mg "_law_read" = some (.ref a_law_read)
  b_law_read : Binds K fd_law_read ["text"] []
  a_law_is_same : Addr
  fd_law_is_same : FuncData
  F_law_is_same : Fun K "_law_is_same" "_law_is_same" s_law_is_same a_law_is_same fd_law_is_same
  mg_law_is_same : mg "_law_is_same" = some (.ref a_law_is_same)
  b_law_is_same : Binds K fd_law_is_same ["puzzle", "book", "many", "ties"] []
  a_law_bent_tie : Addr
  fd_law_bent_tie : FuncData
  F_law_bent_tie : Fun K "_law_bent_tie" "_law_bent_tie" s_law_bent_tie a_law_bent_tie fd_law_bent_tie
  mg_law_bent_tie : mg "_law_bent_tie" = some (.ref a_law_bent_tie)
  b_law_bent_tie : Binds K fd_law_bent_tie ["hand", "line", "tie", "book", "many"] []
  a_law_bent_relation : Addr
  fd_law_bent_relation : FuncData
  F_law_bent_relation : Fun K "_law_bent_relation" "_law_bent_relation" s_law_bent_relation a_law_bent_relation fd_law_bent_relation
  mg_law_bent_relation : mg "_law_bent_relation" = some (.ref a_law_bent_relation)
  b_law_bent_relation : Binds K fd_law_bent_relation ["hand", "line", "size", "rows"] []
  a_law_bent : Addr
  fd_law_bent : FuncData
  F_law_bent : Fun K "_law_bent" "_law_bent" s_law_bent a_law_bent fd_law_bent
  mg_law_bent : mg "_law_bent" = some (.ref a_law_bent)
  b_law_bent : Binds K fd_law_bent ["hand", "book", "many", "ties", "lines"] []
  a_law_is_told : Addr
  fd_law_is_told : FuncData
  F_law_is_told : Fun K "_law_is_told" "_law_is_told" s_law_is_told a_law_is_told fd_law_is_told
  mg_law_is_told : mg "_law_is_told" = some (.ref a_law_is_told)
  b_law_is_told : Binds K fd_law_is_told ["hand", "book", "many", "ties", "lines"] []
  a_law_right : Addr
  fd_law_right : FuncData
  F_law_right : Fun K "_law_right" "_law_right" s_law_right a_law_right fd_law_right
  mg_law_right : mg "_law_right" = some (.ref a_law_right)
  b_law_right : Binds K fd_law_right ["script"] []
  a_law : Addr
  fd_law : FuncData
  F_law : Fun K "law" "law" s_law a_law fd_law
  mg_law : mg "law" = some (.ref a_law)
  b_law : Binds K fd_law ["script"] []
  c_CellError : Addr
  mc_CellError : mg "CellError" = some (.ref c_CellError)
  c_InvalidPuzzle : Addr
  mc_InvalidPuzzle : mg "InvalidPuzzle" = some (.ref c_InvalidPuzzle)
  c_InvalidText : Addr
  mc_InvalidText : mg "InvalidText" = some (.ref c_InvalidText)
  x_InvalidText : OexC K c_InvalidText
  e_InvalidText : L2.ExcC K c_InvalidText
  xi_InvalidText : PySem.W.findIn K (.ref c_InvalidText) "__init__" = some (some (.ref a_InvalidText_init))
  xt_InvalidText : PySem.W.typeIn K (.ref a_InvalidText_init) = some (.type "function")
  no_text : PySem.W.findIn K (.ref c_InvalidText) "text" = some none
  no_at : PySem.W.findIn K (.ref c_InvalidText) "at" = some none
  kit1 : PySem.W.kitOne K (.ref c_InvalidText) (.ref c_CellError) = some true
  kit2 : PySem.W.kitOne K (.ref c_InvalidText) (.ref c_InvalidPuzzle) = some false
  ex1 : PySem.W.exmOne K (.ref c_InvalidText) (.ref c_InvalidText) = some true
  n_ValueError : mg "ValueError" = none
  c_Relation : Addr
  mc_Relation : mg "Relation" = some (.ref c_Relation)
  o_Relation : Own K c_Relation
  M_Relation : Mk K c_Relation a_Relation_init
  na_Relation_size : NoAttr K c_Relation "size"
  na_Relation_rows : NoAttr K c_Relation "rows"
  c_Book : Addr
  mc_Book : mg "Book" = some (.ref c_Book)
  o_Book : Own K c_Book
  M_Book : Mk K c_Book a_Book_init
  na_Book_relations : NoAttr K c_Book "relations"
  na_Book_plain : NoAttr K c_Book "plain"
  m_Book_len : Meth K c_Book "__len__" a_Book_len
  c_Puzzle : Addr
  mc_Puzzle : mg "Puzzle" = some (.ref c_Puzzle)
  o_Puzzle : Own K c_Puzzle
  M_Puzzle : Mk K c_Puzzle a_Puzzle_init
  na_Puzzle_book : NoAttr K c_Puzzle "book"
  na_Puzzle_cell_count : NoAttr K c_Puzzle "cell_count"
  na_Puzzle_ties : NoAttr K c_Puzzle "ties"
  m_Puzzle_eq : Meth K c_Puzzle "__eq__" a_Puzzle_eq
  c_PuzzleReading : Addr
  mc_PuzzleReading : mg "PuzzleReading" = some (.ref c_PuzzleReading)
  o_PuzzleReading : Own K c_PuzzleReading
  M_PuzzleReading : Mk K c_PuzzleReading a_PuzzleReading_init
  na_PuzzleReading_told : NoAttr K c_PuzzleReading "told"
  na_PuzzleReading_book : NoAttr K c_PuzzleReading "book"
  na_PuzzleReading_cells : NoAttr K c_PuzzleReading "cells"
  na_PuzzleReading_ties : NoAttr K c_PuzzleReading "ties"
  m_PuzzleReading_take : Meth K c_PuzzleReading "take" a_PuzzleReading_take
  m_PuzzleReading_take_relation : Meth K c_PuzzleReading "take_relation" a_PuzzleReading_take_relation
  m_PuzzleReading_take_cells : Meth K c_PuzzleReading "take_cells" a_PuzzleReading_take_cells
  m_PuzzleReading_take_tie : Meth K c_PuzzleReading "take_tie" a_PuzzleReading_take_tie
  u_MOST_PLACES : Value
  mg_MOST_PLACES : mg "MOST_PLACES" = some u_MOST_PLACES
  rel_MOST_PLACES : RelV (.int 4) u_MOST_PLACES
  u_MOST_RELATIONS : Value
  mg_MOST_RELATIONS : mg "MOST_RELATIONS" = some u_MOST_RELATIONS
  rel_MOST_RELATIONS : RelV (.int 6) u_MOST_RELATIONS
  u_FIGURES : Value
  mg_FIGURES : mg "FIGURES" = some u_FIGURES
  rel_FIGURES : RelV (.str "0123456789") u_FIGURES
  u_MOST_FIGURES : Value
  mg_MOST_FIGURES : mg "MOST_FIGURES" = some u_MOST_FIGURES
  rel_MOST_FIGURES : RelV (.int 6) u_MOST_FIGURES

end K08
namespace K08
open PySem L2 Eg
open PyProof.Rows (boot_int boot_tuple boot_bool boot_list boot_str boot_isinstance boot_range boot_enumerate)
local macro_rules | `(tactic| walk_at "is") => `(tactic| first | assumption | (refine Fx.is (by assumption) ?_; walk_at "is"))
local macro_rules | `(tactic| walk_at "sz") => `(tactic| first | assumption | omega | (show _ ≤ sizeLine; decide) | (show _ < sizeLine; decide))
local macro_rules | `(tactic| walk_at "r2") => `(tactic| first
  | exact r2_addI | exact r2_addS (by walk_at "sz") | exact r2_addT (by walk_at "sz") | exact r2_addL (by walk_at "sz")
  | exact r2_eqI | exact r2_eqS | exact r2_neI | exact r2_neS | exact r2_lt | exact r2_le | exact r2_gt | exact r2_ge | exact r2_sub | exact r2_isN | exact r2_notN)
local macro_rules | `(tactic| walk_at "ea") => `(tactic| first | exact ea_nil | refine ea_cons (by walk_at "ev") (by walk_at "ea"))
local macro_rules | `(tactic| walk_at "ev") => `(tactic| first
  | exact ev_int | exact ev_str | exact ev_bl | exact ev_non
  | refine ev_var rfl (by walk_at "is")
  | refine ev_op (by walk_at "ev") (by walk_at "ev") (by walk_at "r2")
  | refine ev_tup (by walk_at "ea") (by walk_at "sz")
  | refine ev_lst (by walk_at "ea") (by walk_at "sz")
  | refine ev_cb (by walk_at "ea") (by first | exact rc_len rfl | exact rc_intI | exact rc_tupL | exact rc_tupT))

section
variable {P : Program} {w : World} {K : PySem.W.Frag} {mg : Str → Option Value} {base : Heap}

/-! ### numbers, rows -/
/-- is an int from 0 to below n -/
def below : D → Int → Bool
  | .int i, n => decide (0 ≤ i) && decide (i < n)
  | _, _ => false
def R_is_below : List D → D → Prop := fun ds z => ∃ d n, ds = [d, .int n] ∧ (tyD d).isSome = true ∧ z = .bl (below d n)
theorem ok_is_below (T : Tx K mg) : FnOk P w K mg base CX0 1 T.a_is_below T.fd_is_below ["value", "limit"] (Pu K R_is_below) := by
  refine T.F_is_below.ok sc_is_below (fun vs H Q E h => pu_len (fun ds d ⟨_, _, e, _⟩ => by rw [e]; rfl) h) (fun cdv A outer s H vs Q E hr h => ?_)
  obtain ⟨F, ds, d, s0, hi, ⟨v, n, rfl, ht, rfl⟩, k⟩ := h
  obtain ⟨x, y, rfl, h1, h2⟩ := iss2 hi
  refine ⟨_, (pss_one (ps_ret (pe_and (pe_callB (callK K rIsi call_isi) (by rfl) T.n_isinstance (by decide +kernel) (pa_cons (pv 0) (pa_cons (pe_bltn (v := .ty "int") (by rfl) T.n_int boot_int rfl) pa_nil))) (pe_and (pe_not (pe_callB (callK K rIsi call_isi) (by rfl) T.n_isinstance (by decide +kernel) (pa_cons (pv 0) (pa_cons (pe_bltn (v := .ty "bool") (by rfl) T.n_bool boot_bool rfl) pa_nil)))) (pe_one (pe_chain op_le op_lt pe_int (pv 0) (pv 1))))))), ?_⟩
  try dsimp only [cxOf]
  cases v with
  | int i =>
    exact s_ret s0 (Ev.cast (ev_andV (ev_isa (ev_var rfl h1) rfl (by decide)) fun _ => ev_andV (ev_notV (ev_isa (ev_var rfl h1) rfl (by decide))) fun _ =>
      ev_chain (b := decide (0 ≤ i) && decide (i < n)) (b1 := decide (0 ≤ i)) ev_int (ev_var rfl h1) r2_le (fun e => ⟨ev_var rfl h2, by rw [e]; exact r2_lt⟩) (fun e => by rw [e]; rfl)) rfl) k
  | bl b => exact s_ret s0 (Ev.cast (ev_andV (y := false) (ev_isa (ev_var rfl h1) rfl (by decide)) fun _ => ev_andV (y := false) (ev_notV (ev_isa (ev_var rfl h1) rfl (by decide))) fun z => by cases z) rfl) k
  | obj C g => cases ht
  | _ => exact s_ret s0 (Ev.cast (ev_andV (y := false) (ev_isa (ev_var rfl h1) rfl (by decide)) fun z => by cases z) rfl) k
end
end K08
namespace K08
open PySem L2 Eg
open PyProof.Rows (boot_int boot_tuple boot_bool boot_list boot_str boot_isinstance boot_range boot_enumerate)
local macro_rules | `(tactic| walk_at "is") => `(tactic| first | assumption | (refine Fx.is (by assumption) ?_; walk_at "is"))
local macro_rules | `(tactic| walk_at "sz") => `(tactic| first | assumption | omega | (show _ ≤ sizeLine; decide) | (show _ < sizeLine; decide))
local macro_rules | `(tactic| walk_at "r2") => `(tactic| first
  | exact r2_addI | exact r2_addS (by walk_at "sz") | exact r2_addT (by walk_at "sz") | exact r2_addL (by walk_at "sz")
  | exact r2_eqI | exact r2_eqS | exact r2_neI | exact r2_neS | exact r2_lt | exact r2_le | exact r2_gt | exact r2_ge | exact r2_sub | exact r2_isN | exact r2_notN)
local macro_rules | `(tactic| walk_at "ea") => `(tactic| first | exact ea_nil | refine ea_cons (by walk_at "ev") (by walk_at "ea"))
local macro_rules | `(tactic| walk_at "ev") => `(tactic| first
  | exact ev_int | exact ev_str | exact ev_bl | exact ev_non
  | refine ev_var rfl (by walk_at "is")
  | refine ev_op (by walk_at "ev") (by walk_at "ev") (by walk_at "r2")
  | refine ev_tup (by walk_at "ea") (by walk_at "sz")
  | refine ev_lst (by walk_at "ea") (by walk_at "sz")
  | refine ev_cb (by walk_at "ea") (by first | exact rc_len rfl | exact rc_intI | exact rc_tupL | exact rc_tupT))

section
variable {P : Program} {w : World} {K : PySem.W.Frag} {mg : Str → Option Value} {base : Heap}
theorem below_row {d : Nat} {r : List Int} (h : IsRow d r) : (r.map D.int).all (fun x => below x 2) = true := by
  rw [List.all_map, List.all_eq_true]
  intro x hx
  have := h.2 x hx
  show (decide (0 ≤ x) && decide (x < 2)) = true
  rw [decide_eq_true this.1, decide_eq_true this.2]; rfl
/-! is_row, of a row -/
def R_is_row : List D → D → Prop := fun ds z => ∃ r, ∃ n : Nat, ds = [rowD r, .int n] ∧ IsRow n r ∧ z = .bl true
theorem ok_is_row (T : Tx K mg) : FnOk P w K mg base CX0 2 T.a_is_row T.fd_is_row ["value", "size"] (Pu K R_is_row) := by
  refine T.F_is_row.ok sc_is_row (fun vs H Q E h => pu_len (fun ds d ⟨_, _, e, _⟩ => by rw [e]; rfl) h) (fun cdv A outer s H vs Q E hr h => ?_)
  obtain ⟨F, ds, d, s0, hi, ⟨r, n, rfl, hrow, rfl⟩, k⟩ := h
  obtain ⟨x, y, rfl, h1, h2⟩ := iss2 hi
  refine ⟨_, (pss_cons (ps_if (PW.pt (pw_or (pt_not (pt_val (pe_callB (callK K rIsi call_isi) (by rfl) T.n_isinstance (by decide +kernel) (pa_cons (pv 0) (pa_cons (pe_bltn (v := .ty "tuple") (by rfl) T.n_tuple boot_tuple rfl) pa_nil))))) (pw_or1 (pt_cmpR (opK K Eg.rNeA (op_neA hr)) (pe_callB (callK K Eg.rLen call_lenA) (by rfl) T.n_len (by decide +kernel) (pa_cons (pv 0) pa_nil)) (pv 1) (nomark _))))) (pss_one (ps_ret pe_bl)) pss_nil)
    (pss_cons (ps_for PassesOwn.never rfl (pi_seqK K (pv 0)) (pg_name (i := 2) sc_is_row.nd rfl (by first | exact Or.inl rfl | exact Or.inr rfl)) (pss_one (ps_if (pt_not (pt_val (pe_call (ok_is_below T) (hr.mono (by decide)) rfl T.mg_is_below T.F_is_below.kp T.b_is_below .nil pass0 (pa_cons (pv 2) (pa_cons pe_int pa_nil))))) (pss_one (ps_ret pe_bl)) pss_nil)))
    (pss_one (ps_ret pe_bl)))), ?_⟩
  try dsimp only [cxOf]
  refine q_when (b := false) s0 (EvT.cast (et_or (x := false) (y := false) (EvT.cast (et_not (et_test (ev_isa (n := "tuple") (ev_var rfl h1) rfl (by decide)))) rfl) fun _ => EvT.cast (et_test (ev_op (ev_cb (ea_cons (ev_var rfl h1) ea_nil) (rc_len rfl)) (ev_var rfl h2) r2_neI)) (by simp [hrow.1])) rfl) (fun z => by cases z) fun _ F2 H2 a2 => ?_
  refine q_all a2.fh (wa_seqT (ev_var rfl (a2.is h1))) (fun x => below x 2) (fun d hd F1 H1 x a hx => ?_) (fun x F1 H1 a => ev_bl) (fun z => by rw [below_row hrow] at z; cases z) fun _ σ' F3 H3 a3 hσ => s_ret a3.fh ev_bl fun v F4 H4 a4 hv => k v F4 H4 ((a2.trans a3).trans a4) hv
  refine et_not (et_test (ev_call (ea_cons (ev_var rfl hx) (ea_cons ev_int ea_nil)) ⟨d, 2, rfl, ?_, rfl⟩))
  obtain ⟨i, _, rfl⟩ := List.mem_map.mp hd
  rfl
/-! are_rows, of rows -/
def R_are_rows : List D → D → Prop := fun ds z => ∃ rows : List (List Int), ∃ n : Nat, (ds = [.lst (rows.map rowD), .int n] ∨ ds = [.tup (rows.map rowD), .int n]) ∧ (∀ r ∈ rows, IsRow n r) ∧ 0 < rows.length ∧ z = .bl true
theorem ok_are_rows (T : Tx K mg) : FnOk P w K mg base CX0 3 T.a_are_rows T.fd_are_rows ["rows", "size"] (Pu K R_are_rows) := by
  refine T.F_are_rows.ok sc_are_rows (fun vs H Q E h => pu_len (fun ds d ⟨_, _, e, _⟩ => by rcases e with e | e <;> rw [e] <;> rfl) h) (fun cdv A outer s H vs Q E hr h => ?_)
  obtain ⟨F, ds, d, s0, hi, ⟨rows, n, hds, hrow, hpos, rfl⟩, k⟩ := h
  obtain ⟨d0, x, y, rfl, h1, h2, ht, hb, hl, hw⟩ : ∃ d0 x y, vs = [x, y] ∧ Is K F d0 x ∧ Is K F (.int n) y ∧ (tyD d0).isSome = true ∧ (isaD d0 "list" || isaD d0 "tuple") = true ∧ lenD d0 = some rows.length ∧ (∀ σ F H, Ev K (tVar 0) σ F H d0 → Wa K (iSeq K (tVar 0)) σ F H (rows.map rowD)) := by
    rcases hds with rfl | rfl
    · obtain ⟨x, y, e, h1, h2⟩ := iss2 hi
      exact ⟨_, x, y, e, h1, h2, rfl, rfl, by simp [lenD], fun σ F H h => wa_seqL h⟩
    · obtain ⟨x, y, e, h1, h2⟩ := iss2 hi
      exact ⟨_, x, y, e, h1, h2, rfl, rfl, by simp [lenD], fun σ F H h => wa_seqT h⟩
  refine ⟨_, (pss_cons (ps_if (PW.pt (pw_or (pt_not (pt_val (pe_callB (callK K rIsiT call_isiT) (by rfl) T.n_isinstance (by decide +kernel) (pa_cons (pv 0) (pa_cons (pe_tup (pa_cons (pe_bltn (v := .ty "list") (by rfl) T.n_list boot_list rfl) (pa_cons (pe_bltn (v := .ty "tuple") (by rfl) T.n_tuple boot_tuple rfl) pa_nil))) pa_nil))))) (pw_or1 (pt_cmpR (opK K Eg.rEqA (op_eqA hr)) (pe_callB (callK K Eg.rLen call_lenA) (by rfl) T.n_len (by decide +kernel) (pa_cons (pv 0) pa_nil)) pe_int (nomark _))))) (pss_one (ps_ret pe_bl)) pss_nil)
    (pss_cons (ps_for PassesOwn.never rfl (pi_seqK K (pv 0)) (pg_name (i := 2) sc_are_rows.nd rfl (by first | exact Or.inl rfl | exact Or.inr rfl)) (pss_one (ps_if (pt_not (pt_val (pe_call (ok_is_row T) (hr.mono (by decide)) rfl T.mg_is_row T.F_is_row.kp T.b_is_row .nil pass0 (pa_cons (pv 2) (pa_cons (pv 1) pa_nil))))) (pss_one (ps_ret pe_bl)) pss_nil)))
    (pss_one (ps_ret pe_bl)))), ?_⟩
  try dsimp only [cxOf]
  have hall : (rows.map rowD).all (fun _ => true) = true := List.all_eq_true.mpr fun _ _ => rfl
  refine q_when (b := false) s0 (EvT.cast (et_or (x := false) (y := false) (EvT.cast (et_not (et_test (ev_isaLT (ev_var rfl h1) ht))) (by rw [hb]; rfl)) fun _ => EvT.cast (et_test (ev_op (ev_cb (ea_cons (ev_var rfl h1) ea_nil) (rc_len hl)) ev_int r2_eqI)) (by simp only [decide_eq_false_iff_not]; omega)) rfl) (fun z => by cases z) fun _ F2 H2 a2 => ?_
  refine q_all a2.fh (hw _ _ _ (ev_var rfl (a2.is h1))) (fun _ => true) (fun d hd F1 H1 x a hx => ?_) (fun x F1 H1 a => ev_bl) (fun z => by rw [hall] at z; cases z) fun _ σ' F3 H3 a3 hσ => s_ret a3.fh ev_bl fun v F4 H4 a4 hv => k v F4 H4 ((a2.trans a3).trans a4) hv
  obtain ⟨r, hr, rfl⟩ := List.mem_map.mp hd
  exact EvT.cast (et_not (et_test (ev_call (ea_cons (ev_var rfl hx) (ea_cons (ev_var rfl (a.is (a2.is h2))) ea_nil)) ⟨r, n, rfl, hrow r hr, rfl⟩))) rfl
/-! Relation -/
def relF (n : Nat) (rows : List (List Int)) : List (Str × D) := [("size", .int n), ("rows", .tup (rows.map rowD))]
def R_Relation : List D → List (Str × D) → Prop := fun ds gs => ∃ rows : List (List Int), ∃ n : Nat, (ds = [.int n, .lst (rows.map rowD)] ∨ ds = [.int n, .tup (rows.map rowD)]) ∧ (∀ r ∈ rows, IsRow n r) ∧ 0 < rows.length ∧ 1 ≤ n ∧ n ≤ 4 ∧ rows.length < sizeLine ∧ gs = relF n (srt rows)
theorem pin_len {C : Addr} {R : List D → List (Str × D) → Prop} {n : Nat} {vs : List V} {H : Hp} {Q : VK} {E : XK} (h : ∀ ds gs, R ds gs → ds.length = n) (q : Pin K C R vs H Q E) : vs.length = n + 1 := by
  obtain ⟨F, ds, gs, p, dx, ws, _, e, _, _, hi, hr, _⟩ := q
  rw [e, List.length_cons, ← hi.length, h ds gs hr]
theorem ok_Relation_init (T : Tx K mg) : FnOk P w K mg base CX0 4 T.a_Relation_init T.fd_Relation_init ["self", "size", "rows"] (Pin K T.c_Relation R_Relation) := by
  refine T.F_Relation_init.ok sc_Relation_init (fun vs H Q E h => pin_len (n := 2) (fun ds d ⟨_, _, e, _⟩ => by rcases e with e | e <;> rw [e] <;> rfl) h) (fun cdv A outer s H vs Q E hr h => ?_)
  obtain ⟨F, ds, gs, p, dx, ws, s0, rfl, nf, hp, hi, ⟨rows, n, hds, hrow, hpos, n1, n4, hz, rfl⟩, k⟩ := h
  obtain ⟨d0, x, y, rfl, h1, h2, hd, hw⟩ : ∃ d0 x y, ws = [x, y] ∧ Is K F (.int n) x ∧ Is K F d0 y ∧ (d0 = .lst (rows.map rowD) ∨ d0 = .tup (rows.map rowD)) ∧ (∀ σ F H, Ev K (tVar 2) σ F H d0 → Wa K (iSeq K (tVar 2)) σ F H (rows.map rowD)) := by
    rcases hds with rfl | rfl
    · obtain ⟨x, y, e, h1, h2⟩ := iss2 hi
      exact ⟨_, x, y, e, h1, h2, .inl rfl, fun σ F H h => wa_seqL h⟩
    · obtain ⟨x, y, e, h1, h2⟩ := iss2 hi
      exact ⟨_, x, y, e, h1, h2, .inr rfl, fun σ F H h => wa_seqT h⟩
  refine ⟨_, (pss_cons (ps_if (PW.pt (pw_or (pt_not (pt_val (pe_call (ok_is_below T) (hr.mono (by decide)) rfl T.mg_is_below T.F_is_below.kp T.b_is_below .nil pass0 (pa_cons (pv 1) (pa_cons (pe_op (opK K Eg.rAddA op_addA) (pe_glob rfl T.mg_MOST_PLACES T.rel_MOST_PLACES) pe_int) pa_nil))))) (pw_or (pt_cmpR (opK K Eg.rEqA (op_eqA hr)) (pv 1) pe_int (nomark _)) (pw_or1 (pt_not (pt_val (pe_call (ok_are_rows T) (hr.mono (by decide)) rfl T.mg_are_rows T.F_are_rows.kp T.b_are_rows .nil pass0 (pa_cons (pv 2) (pa_cons (pv 1) pa_nil))))))))) (pss_one ps_never) pss_nil)
    (pss_cons (ps_fld (pv 0) (pv 1) rfl)
    (pss_one (ps_fld (pv 0) (pe_callTy (callK K Eg.rTupOf call_tupOf) (by rfl) T.n_tuple (by decide +kernel) (pa_cons (pe_callB (call_sortX rfl) (by rfl) T.n_sorted (by decide +kernel) (pa_cons (pe_dx (own := [("row", 3)]) hr.units0 rfl sc_Relation_init.nd (pi_seqK K (pv 2)) (blkOk_by (own := [("row", 3)]) (N := N_Relation_init) (sc := defScope s_Relation_init) (by decide +kernel)) (fun _ _ _ _ _ => (pg_name (i := 3) sc_Relation_init.nd rfl (by first | exact Or.inl rfl | exact Or.inr rfl))) (fun _ _ _ _ _ => (pv 3))) pa_nil)) pa_nil)) rfl)))), ?_⟩
  try dsimp only [cxOf]
  have b1 : below (.int n) (4 + 1) = true := by show (decide ((0 : Int) ≤ n) && decide ((n : Int) < 5)) = true; rw [decide_eq_true (by omega), decide_eq_true (by omega)]; rfl
  refine q_when (b := false) s0 (EvT.cast (et_or (x := false) (y := false) (EvT.cast (et_not (et_test (ev_call (ea_cons (ev_var rfl h1) (ea_cons (ev_op ev_int ev_int r2_addI) ea_nil)) ⟨_, _, rfl, rfl, rfl⟩))) (by rw [b1]; rfl)) fun _ => EvT.cast (et_or (x := false) (y := false) (EvT.cast (et_test (ev_op (ev_var rfl h1) ev_int r2_eqI)) (by simp only [decide_eq_false_iff_not]; omega)) fun _ =>
    EvT.cast (et_not (et_test (ev_call (ea_cons (ev_var rfl h2) (ea_cons (ev_var rfl h1) ea_nil)) ⟨rows, n, by rcases hd with rfl | rfl; exact .inl rfl; exact .inr rfl, hrow, hpos, rfl⟩))) rfl) rfl) rfl) (fun z => by cases z) fun _ F2 H2 a2 => ?_
  have m2 := a2.m nf hp id
  refine q_fld T.o_Relation.cl T.na_Relation_size a2.fh rfl m2.2 m2.1 fz0 (ev_var rfl (a2.is h1)) fun v F3 H3 a3 hv nf3 => ?_
  have b3 := ((a2.trans a3).of (X := (· = p))).mut (o := .ins T.c_Relation dx (putF "size" v [])) (.inr rfl) nf3
  refine s_fld T.o_Relation.cl T.na_Relation_rows b3.fh rfl nf3 upd_same fz1 (ev_rows (d := n) (hw _ _ _ (ev_var rfl (b3.is h2))) (fun x => rfl) (fun x => rfl) hrow n1 n4 hz) fun v' F4 H4 a4 hv' nf4 => ?_
  have b4 := (b3.trans a4.of).mut (o := .ins T.c_Relation dx (putF "rows" v' (putF "size" v []))) (.inr rfl) nf4
  exact k F4 _ [("size", v), ("rows", v')] b4 upd_same nf4 (.cons (a4.is hv) (.cons hv' .nil))
end
end K08
namespace K08
open PySem L2 Eg
open PyProof.Rows (boot_int boot_tuple boot_bool boot_list boot_str boot_isinstance boot_range boot_enumerate)
local macro_rules | `(tactic| walk_at "is") => `(tactic| first | assumption | (refine Fx.is (by assumption) ?_; walk_at "is"))
local macro_rules | `(tactic| walk_at "sz") => `(tactic| first | assumption | omega | (show _ ≤ sizeLine; decide) | (show _ < sizeLine; decide))
local macro_rules | `(tactic| walk_at "r2") => `(tactic| first
  | exact r2_addI | exact r2_addS (by walk_at "sz") | exact r2_addT (by walk_at "sz") | exact r2_addL (by walk_at "sz")
  | exact r2_eqI | exact r2_eqS | exact r2_neI | exact r2_neS | exact r2_lt | exact r2_le | exact r2_gt | exact r2_ge | exact r2_sub | exact r2_isN | exact r2_notN)
local macro_rules | `(tactic| walk_at "ea") => `(tactic| first | exact ea_nil | refine ea_cons (by walk_at "ev") (by walk_at "ea"))
local macro_rules | `(tactic| walk_at "ev") => `(tactic| first
  | exact ev_int | exact ev_str | exact ev_bl | exact ev_non
  | refine ev_var rfl (by walk_at "is")
  | refine ev_op (by walk_at "ev") (by walk_at "ev") (by walk_at "r2")
  | refine ev_tup (by walk_at "ea") (by walk_at "sz")
  | refine ev_lst (by walk_at "ea") (by walk_at "sz")
  | refine ev_cb (by walk_at "ea") (by first | exact rc_len rfl | exact rc_intI | exact rc_tupL | exact rc_tupT))

section
variable {P : Program} {w : World} {K : PySem.W.Frag} {mg : Str → Option Value} {base : Heap}
/-- relations: how many places, the rows -/
abbrev BR := List (Nat × List (List Int))
def relD (T : Tx K mg) (r : Nat × List (List Int)) : D := .obj T.c_Relation (relF r.1 r.2)
def plainD (r : Nat × List (List Int)) : D := .tup [.int r.1, .tup (r.2.map rowD)]
def bookF (T : Tx K mg) (b : BR) : List (Str × D) := [("relations", .tup (b.map (relD T))), ("plain", .tup (b.map plainD))]
def bookD (T : Tx K mg) (b : BR) : D := .obj T.c_Book (bookF T b)
theorem atI_of {α : Type} {xs : List α} {i : Int} {x : α} (h0 : 0 ≤ i) (h : xs[i.toNat]? = some x) : L2.atI xs i = some x := by
  have hlt := (List.getElem?_eq_some_iff.mp h).1
  unfold L2.atI L2.ixN
  rw [if_pos h0, if_pos (by omega)]
  exact h
theorem dNN {a b : Nat} : decide ((a : Int) = (b : Int)) = decide (a = b) := decide_eq_decide.mpr Int.natCast_inj
abbrev Tie := Nat × List Nat
def intsD (cs : List Nat) : D := .tup (cs.map fun c => D.int (c : Nat))
def tieD (t : Tie) : D := .tup [.int t.1, intsD t.2]
def puzD (T : Tx K mg) (b : BR) (m : Nat) (ts : List Tie) : D := .obj T.c_Puzzle [("book", bookD T b), ("cell_count", .int m), ("ties", .tup (ts.map tieD))]
/-! are_relations -/
def R_are_relations (T : Tx K mg) : List D → D → Prop := fun ds z => ∃ b : BR, ds = [.lst (b.map (relD T))] ∧ 0 < b.length ∧ b.length ≤ 6 ∧ z = .bl true
theorem ok_are_relations (T : Tx K mg) : FnOk P w K mg base CX0 2 T.a_are_relations T.fd_are_relations ["relations"] (Pu K (R_are_relations T)) := by
  refine T.F_are_relations.ok sc_are_relations (fun vs H Q E h => pu_len (fun ds d ⟨_, e, _⟩ => by rw [e]; rfl) h) (fun cdv A outer s H vs Q E hr h => ?_)
  obtain ⟨F, ds, d, s0, hi, ⟨b, rfl, b0, b6, rfl⟩, k⟩ := h
  obtain ⟨x, rfl, h1⟩ := iss1 hi
  refine ⟨_, (pss_cons (ps_if (PW.pt (pw_or (pt_not (pt_val (pe_callB (callK K rIsiT call_isiT) (by rfl) T.n_isinstance (by decide +kernel) (pa_cons (pv 0) (pa_cons (pe_tup (pa_cons (pe_bltn (v := .ty "list") (by rfl) T.n_list boot_list rfl) (pa_cons (pe_bltn (v := .ty "tuple") (by rfl) T.n_tuple boot_tuple rfl) pa_nil))) pa_nil))))) (pw_or1 (pt_not (pt_chain op_le op_le pe_int (pe_callB (callK K Eg.rLen call_lenA) (by rfl) T.n_len (by decide +kernel) (pa_cons (pv 0) pa_nil)) (pe_glob rfl T.mg_MOST_RELATIONS T.rel_MOST_RELATIONS)))))) (pss_one (ps_ret pe_bl)) pss_nil)
    (pss_cons (ps_for PassesOwn.never rfl (pi_seqK K (pv 0)) (pg_name (i := 1) sc_are_relations.nd rfl (by first | exact Or.inl rfl | exact Or.inr rfl)) (pss_one (ps_if (pt_not (pt_val (pe_callB (callK K rIsi call_isi) (by rfl) T.n_isinstance (by decide +kernel) (pa_cons (pv 1) (pa_cons (pe_glob (v := .ref T.c_Relation) rfl T.mc_Relation rfl) pa_nil))))) (pss_one (ps_ret pe_bl)) pss_nil)))
    (pss_one (ps_ret pe_bl)))), ?_⟩
  try dsimp only [cxOf]
  refine q_when (b := false) s0 (EvT.cast (et_or (x := false) (y := false) (EvT.cast (et_not (et_test (ev_isaLT (ev_var rfl h1) rfl))) rfl) fun _ => EvT.cast (et_not (et_test (ev_chain (b := true) (b1 := true) ev_int (ev_cb (ea_cons (ev_var rfl h1) ea_nil) (rc_len rfl)) (by
    have h := r2_le (K := K) (i := 1) (j := ((b.map (relD T)).length : Nat)); rw [decide_eq_true (by rw [List.length_map]; omega)] at h; exact h) (fun _ => ⟨ev_int, by
    have h := r2_le (K := K) (i := ((b.map (relD T)).length : Nat)) (j := 6); rw [decide_eq_true (by rw [List.length_map]; omega)] at h; exact h⟩) (fun e => by cases e)))) rfl) rfl) (fun z => by cases z) fun _ F2 H2 a2 => ?_
  have hall : (b.map (relD T)).all (fun _ => true) = true := List.all_eq_true.mpr fun _ _ => rfl
  refine q_all a2.fh (wa_seqL (ev_var rfl (a2.is h1))) (fun _ => true) (fun d hd F1 H1 x a hx => ?_) (fun x F1 H1 a => ev_bl) (fun z => by rw [hall] at z; cases z) fun _ σ' F3 H3 a3 hσ => s_ret a3.fh ev_bl fun v F4 H4 a4 hv => k v F4 H4 ((a2.trans a3).trans a4) hv
  obtain ⟨r, hr, rfl⟩ := List.mem_map.mp hd
  exact EvT.cast (et_not (et_test (ev_own T.o_Relation (ev_var rfl hx)))) rfl
/-! Book -/
def R_Book (T : Tx K mg) : List D → List (Str × D) → Prop := fun ds gs => ∃ b : BR, ds = [.lst (b.map (relD T))] ∧ 0 < b.length ∧ b.length ≤ 6 ∧ gs = bookF T b
theorem ok_Book_init (T : Tx K mg) : FnOk P w K mg base CX0 3 T.a_Book_init T.fd_Book_init ["self", "relations"] (Pin K T.c_Book (R_Book T)) := by
  refine T.F_Book_init.ok sc_Book_init (fun vs H Q E h => pin_len (n := 1) (fun ds d ⟨_, e, _⟩ => by rw [e]; rfl) h) (fun cdv A outer s H vs Q E hr h => ?_)
  obtain ⟨F, ds, gs, p, dx, ws, s0, rfl, nf, hp, hi, ⟨b, rfl, b0, b6, rfl⟩, k⟩ := h
  obtain ⟨x, rfl, h1⟩ := iss1 hi
  refine ⟨_, (pss_cons (ps_if (pt_not (pt_val (pe_call (ok_are_relations T) (hr.mono (by decide)) rfl T.mg_are_relations T.F_are_relations.kp T.b_are_relations .nil pass0 (pa_cons (pv 1) pa_nil)))) (pss_one ps_never) pss_nil)
    (pss_cons (ps_fld (pv 0) (pe_callTy (callK K Eg.rTupOf call_tupOf) (by rfl) T.n_tuple (by decide +kernel) (pa_cons (pv 1) pa_nil)) rfl)
    (pss_one (ps_fld (pv 0) (pe_callTy (callK K Eg.rTupOf call_tupOf) (by rfl) T.n_tuple (by decide +kernel) (pa_cons (pe_lc (own := [("relation", 2)]) rfl sc_Book_init.nd (pi_seqK K (pv 1)) (blkOk_by (own := [("relation", 2)]) (N := N_Book_init) (sc := defScope s_Book_init) (by decide +kernel)) (fun _ _ _ _ _ => (pg_name (i := 2) sc_Book_init.nd rfl (by first | exact Or.inl rfl | exact Or.inr rfl))) (fun _ _ _ _ _ => pts_nil) (fun _ _ _ _ _ => (pe_tup (pa_cons (pe_fldK K (pv 2) rfl) (pa_cons (pe_fldK K (pv 2) rfl) pa_nil))))) pa_nil)) rfl)))), ?_⟩
  try dsimp only [cxOf]
  refine q_when (b := false) s0 (EvT.cast (et_not (et_test (ev_call (ea_cons (ev_var rfl h1) ea_nil) ⟨b, rfl, b0, b6, rfl⟩))) rfl) (fun z => by cases z) fun _ F2 H2 a2 => ?_
  have m2 := a2.m nf hp id
  refine q_fld T.o_Book.cl T.na_Book_relations a2.fh rfl m2.2 m2.1 fz0 (ev_cb (ea_cons (ev_var rfl (a2.is h1)) ea_nil) rc_tupL) fun v F3 H3 a3 hv nf3 => ?_
  have b3 := ((a2.trans a3).of (X := (· = p))).mut (o := .ins T.c_Book dx (putF "relations" v [])) (.inr rfl) nf3
  refine s_fld T.o_Book.cl T.na_Book_plain b3.fh rfl nf3 upd_same fz1 (ev_cb (ea_cons (ev_lcM (wa_seqL (ev_var rfl (b3.is h1))) (fun d => match d with | .obj _ [(_, a), (_, c)] => .tup [a, c] | d => d) (fun x => rfl) (fun d hd F5 H5 x a5 hx => ?_) (by rw [List.length_map]; exact Nat.lt_of_le_of_lt b6 (by decide))) ea_nil) rc_tupL) fun v' F4 H4 a4 hv' nf4 => ?_
  · obtain ⟨r, hr, rfl⟩ := List.mem_map.mp hd
    exact ev_tup (ea_cons (ev_fld T.o_Relation.cl T.na_Relation_size (ev_var rfl hx) rfl) (ea_cons (ev_fld T.o_Relation.cl T.na_Relation_rows (ev_var rfl hx) rfl) ea_nil)) (by show 2 ≤ sizeLine; decide)
  have b4 := (b3.trans a4.of).mut (o := .ins T.c_Book dx (putF "plain" v' (putF "relations" v []))) (.inr rfl) nf4
  refine k F4 _ [("relations", v), ("plain", v')] b4 upd_same nf4 (.cons (a4.is hv) (.cons ?_ .nil))
  rw [List.map_map] at hv'
  exact hv'
def R_Book_len (T : Tx K mg) : List D → D → Prop := fun ds z => ∃ b : BR, ds = [bookD T b] ∧ z = .int b.length
theorem ok_Book_len (T : Tx K mg) : FnOk P w K mg base CX0 1 T.a_Book_len T.fd_Book_len ["self"] (Pu K (R_Book_len T)) := by
  refine T.F_Book_len.ok sc_Book_len (fun vs H Q E h => pu_len (fun ds d ⟨_, e, _⟩ => by rw [e]; rfl) h) (fun cdv A outer s H vs Q E hr h => ?_)
  obtain ⟨F, ds, d, s0, hi, ⟨b, rfl, rfl⟩, k⟩ := h
  obtain ⟨x, rfl, h1⟩ := iss1 hi
  refine ⟨_, (pss_one (ps_ret (pe_callB (callK K Eg.rLen call_lenA) (by rfl) T.n_len (by decide +kernel) (pa_cons (pe_fldK K (pv 0) rfl) pa_nil)))), ?_⟩
  try dsimp only [cxOf]
  refine s_ret s0 (Ev.cast (ev_cb (ea_cons (ev_fld T.o_Book.cl T.na_Book_relations (ev_var rfl h1) rfl) ea_nil) (rc_len rfl)) (by rw [List.length_map])) k
/-! ties -/
def R_are_cells : List D → D → Prop := fun ds z => ∃ (cs : List D) (n m : Nat), ds = [.tup cs, .int n, .int m] ∧ (∀ c ∈ cs, (tyD c).isSome = true) ∧ z = .bl (decide (cs.length = n) && cs.all fun c => below c m)
theorem ok_are_cells (T : Tx K mg) : FnOk P w K mg base CX0 2 T.a_are_cells T.fd_are_cells ["value", "count", "cell_count"] (Pu K R_are_cells) := by
  refine T.F_are_cells.ok sc_are_cells (fun vs H Q E h => pu_len (fun ds d ⟨_, _, _, e, _⟩ => by rw [e]; rfl) h) (fun cdv A outer s H vs Q E hr h => ?_)
  obtain ⟨F, ds, d, s0, hi, ⟨cs, n, m, rfl, hc, rfl⟩, k⟩ := h
  obtain ⟨x, y, u, rfl, h1, h2, h3⟩ := iss3 hi
  refine ⟨_, (pss_cons (ps_if (PW.pt (pw_or (pt_not (pt_val (pe_callB (callK K rIsi call_isi) (by rfl) T.n_isinstance (by decide +kernel) (pa_cons (pv 0) (pa_cons (pe_bltn (v := .ty "tuple") (by rfl) T.n_tuple boot_tuple rfl) pa_nil))))) (pw_or1 (pt_cmpR (opK K Eg.rNeA (op_neA hr)) (pe_callB (callK K Eg.rLen call_lenA) (by rfl) T.n_len (by decide +kernel) (pa_cons (pv 0) pa_nil)) (pv 1) (nomark _))))) (pss_one (ps_ret pe_bl)) pss_nil)
    (pss_cons (ps_for PassesOwn.never rfl (pi_seqK K (pv 0)) (pg_name (i := 3) sc_are_cells.nd rfl (by first | exact Or.inl rfl | exact Or.inr rfl)) (pss_one (ps_if (pt_not (pt_val (pe_call (ok_is_below T) (hr.mono (by decide)) rfl T.mg_is_below T.F_is_below.kp T.b_is_below .nil pass0 (pa_cons (pv 3) (pa_cons (pv 2) pa_nil))))) (pss_one (ps_ret pe_bl)) pss_nil)))
    (pss_one (ps_ret pe_bl)))), ?_⟩
  try dsimp only [cxOf]
  refine q_when (b := !decide (cs.length = n)) s0 (EvT.cast (et_or (x := false) (EvT.cast (et_not (et_test (ev_isa (n := "tuple") (ev_var rfl h1) rfl (by decide)))) rfl) fun _ => EvT.cast (et_test (ev_op (ev_cb (ea_cons (ev_var rfl h1) ea_nil) (rc_len rfl)) (ev_var rfl h2) r2_neI)) (by rw [dNN])) (by cases decide (cs.length = n) <;> rfl)) (fun z F2 H2 a2 => ?_) fun z F2 H2 a2 => ?_
  · have e : decide (cs.length = n) = false := by cases h : decide (cs.length = n) <;> rw [h] at z <;> trivial
    exact s_ret a2.fh ev_bl fun v F4 H4 a4 hv => k v F4 H4 (a2.trans a4) (by rw [e]; exact hv)
  · have e : decide (cs.length = n) = true := by cases h : decide (cs.length = n) <;> rw [h] at z <;> trivial
    rw [e] at k
    refine q_all a2.fh (wa_seqT (ev_var rfl (a2.is h1))) (fun x => below x m) (fun d hd F1 H1 x a hx => ?_) (fun x F1 H1 a => ev_bl) (fun z v F3 H3 a3 hv => k v F3 H3 (a2.trans a3) (by rw [z]; exact hv)) fun z σ' F3 H3 a3 hσ => s_ret a3.fh ev_bl fun v F4 H4 a4 hv => k v F4 H4 ((a2.trans a3).trans a4) (by rw [z]; exact hv)
    exact et_not (et_test (ev_call (ea_cons (ev_var rfl hx) (ea_cons (ev_var rfl (a.is (a2.is h3))) ea_nil)) ⟨d, m, rfl, hc d hd, rfl⟩))
def tieB (b : BR) (m : Nat) (a : D) (cs : List D) : Bool := below a b.length && match a with
  | .int i => match b[i.toNat]? with
    | some r => decide (cs.length = r.1) && cs.all fun c => below c m
    | none => false
  | _ => false
def R_is_tie (T : Tx K mg) : List D → D → Prop := fun ds z => ∃ (b : BR) (m : Nat) (a : D) (cs : List D), ds = [bookD T b, .int m, .tup [a, .tup cs]] ∧ (tyD a).isSome = true ∧ b.length ≤ 6 ∧ (∀ c ∈ cs, (tyD c).isSome = true) ∧ z = .bl (tieB b m a cs)
theorem ok_is_tie (T : Tx K mg) : FnOk P w K mg base CX0 3 T.a_is_tie T.fd_is_tie ["book", "cell_count", "value"] (Pu K (R_is_tie T)) := by
  refine T.F_is_tie.ok sc_is_tie (fun vs H Q E h => pu_len (fun ds d ⟨_, _, _, _, e, _⟩ => by rw [e]; rfl) h) (fun cdv A outer s H vs Q E hr h => ?_)
  obtain ⟨F, ds, d, s0, hi, ⟨b, m, a, cs, rfl, ha, b6, hc, rfl⟩, k⟩ := h
  obtain ⟨x, y, u, rfl, h1, h2, h3⟩ := iss3 hi
  refine ⟨_, (pss_cons (ps_if (PW.pt (pw_or (pt_not (pt_val (pe_callB (callK K rIsi call_isi) (by rfl) T.n_isinstance (by decide +kernel) (pa_cons (pv 2) (pa_cons (pe_bltn (v := .ty "tuple") (by rfl) T.n_tuple boot_tuple rfl) pa_nil))))) (pw_or (pt_cmpR (opK K Eg.rNeA (op_neA hr)) (pe_callB (callK K Eg.rLen call_lenA) (by rfl) T.n_len (by decide +kernel) (pa_cons (pv 2) pa_nil)) pe_int (nomark _)) (pw_or1 (pt_not (pt_val (pe_call (ok_is_below T) (hr.mono (by decide)) rfl T.mg_is_below T.F_is_below.kp T.b_is_below .nil pass0 (pa_cons (pe_ix (ixK K ix_seq) (pv 2) pe_int (fun _ _ => rfl)) (pa_cons (pe_callB (call_lenO (ok_Book_len T) (hr.mono (by decide)) T.m_Book_len.at_ T.m_Book_len.fn T.b_Book_len pass0) (by rfl) T.n_len (by decide +kernel) (pa_cons (pv 0) pa_nil)) pa_nil))))))))) (pss_one (ps_ret pe_bl)) pss_nil)
    (pss_one (ps_ret (pe_call (ok_are_cells T) (hr.mono (by decide)) rfl T.mg_are_cells T.F_are_cells.kp T.b_are_cells .nil pass0 (pa_cons (pe_ix (ixK K ix_seq) (pv 2) pe_int (fun _ _ => rfl)) (pa_cons (pe_fldK K (pe_ix (ixK K ix_seq) (pe_fldK K (pv 0) rfl) (pe_ix (ixK K ix_seq) (pv 2) pe_int (fun _ _ => rfl)) (fun _ _ => rfl)) rfl) (pa_cons (pv 1) pa_nil))))))), ?_⟩
  try dsimp only [cxOf]
  have v0 : ∀ {F1 H1 : Hp} {x y u : V}, Is K F1 (.tup [a, .tup cs]) u → Ev K (tOp (rIx K) (tVar 2) (tC (.int 0))) (L2.start N_is_tie [x, y, u]) F1 H1 a := fun h => ev_op (ev_var rfl h) ev_int (r2_ixT rfl)
  have v1 : ∀ {F1 H1 : Hp} {x y u : V}, Is K F1 (.tup [a, .tup cs]) u → Ev K (tOp (rIx K) (tVar 2) (tC (.int 1))) (L2.start N_is_tie [x, y, u]) F1 H1 (.tup cs) := fun h => ev_op (ev_var rfl h) ev_int (r2_ixT rfl)
  refine q_when (b := !below a b.length) s0 (EvT.cast (et_or (x := false) (EvT.cast (et_not (et_test (ev_isa (n := "tuple") (ev_var rfl h3) rfl (by decide)))) rfl) fun _ => EvT.cast (et_or (x := false) (EvT.cast (et_test (ev_op (ev_cb (ea_cons (ev_var rfl h3) ea_nil) (rc_len rfl)) ev_int r2_neI)) rfl) fun _ =>
    et_not (et_test (ev_call (ea_cons (v0 h3) (ea_cons (ev_lenO (ev_var rfl h1) ⟨b, rfl, rfl⟩ (by omega) (by omega)) ea_nil)) ⟨a, b.length, rfl, ha, rfl⟩))) rfl) (by cases below a b.length <;> rfl)) (fun z F2 H2 a2 => ?_) fun z F2 H2 a2 => ?_
  · have e : tieB b m a cs = false := by unfold tieB; cases h : below a b.length <;> rw [h] at z <;> trivial
    exact s_ret a2.fh ev_bl fun v F4 H4 a4 hv => k v F4 H4 (a2.trans a4) (by rw [e]; exact hv)
  · have e : below a b.length = true := by cases h : below a b.length <;> rw [h] at z <;> trivial
    cases a with
    | int i =>
      have e' : (decide (0 ≤ i) && decide (i < (b.length : Nat))) = true := e
      rw [Bool.and_eq_true, decide_eq_true_eq, decide_eq_true_eq] at e'
      have hlt : i.toNat < b.length := by omega
      have hg : b[i.toNat]? = some b[i.toNat] := List.getElem?_eq_getElem hlt
      have hat : L2.atI (b.map (relD T)) i = some (relD T b[i.toNat]) := by
        exact atI_of e'.1 (by rw [List.getElem?_map, hg]; rfl)
      refine s_ret a2.fh (ev_call (ea_cons (v1 (a2.is h3)) (ea_cons (ev_fld T.o_Relation.cl T.na_Relation_size (ev_op (ev_fld T.o_Book.cl T.na_Book_relations (ev_var rfl (a2.is h1)) rfl) (v0 (a2.is h3)) (r2_ixT hat)) rfl) (ea_cons (ev_var rfl (a2.is h2)) ea_nil))) ⟨cs, b[i.toNat].1, m, rfl, hc, rfl⟩) fun v F4 H4 a4 hv => k v F4 H4 (a2.trans a4) ?_
      have : tieB b m (.int i) cs = (decide (cs.length = b[i.toNat].1) && cs.all fun c => below c m) := by unfold tieB; rw [e]; dsimp only; rw [hg]; rfl
      rw [this]; exact hv
    | _ => cases e
/-! Puzzle -/
def puzF (T : Tx K mg) (b : BR) (m : Nat) (ts : List Tie) : List (Str × D) := [("book", bookD T b), ("cell_count", .int m), ("ties", .tup (ts.map tieD))]
def R_Puzzle (T : Tx K mg) : List D → List (Str × D) → Prop := fun ds gs => ∃ (b : BR) (m : Nat) (ts : List Tie), (ds = [bookD T b, .int m, .lst (ts.map tieD)] ∨ ds = [bookD T b, .int m, .tup (ts.map tieD)]) ∧ b.length ≤ 6 ∧ ts.length < sizeLine ∧
  (∀ t ∈ ts, tieB b m (.int t.1) (t.2.map fun c => D.int (c : Nat)) = true) ∧ gs = puzF T b m ts
theorem ok_Puzzle_init (T : Tx K mg) : FnOk P w K mg base CX0 4 T.a_Puzzle_init T.fd_Puzzle_init ["self", "book", "cell_count", "ties"] (Pin K T.c_Puzzle (R_Puzzle T)) := by
  refine T.F_Puzzle_init.ok sc_Puzzle_init (fun vs H Q E h => pin_len (n := 3) (fun ds d ⟨_, _, _, e, _⟩ => by rcases e with e | e <;> rw [e] <;> rfl) h) (fun cdv A outer s H vs Q E hr h => ?_)
  obtain ⟨F, ds, gs, p, dx, ws, s0, rfl, nf, hp, hi, ⟨b, m, ts, hds, b6, hz, ht, rfl⟩, k⟩ := h
  obtain ⟨d0, x, y, u, rfl, h1, h2, h3, hd, hb, hw, hc⟩ : ∃ d0 x y u, ws = [x, y, u] ∧ Is K F (bookD T b) x ∧ Is K F (.int m) y ∧ Is K F d0 u ∧ (tyD d0).isSome = true ∧ (isaD d0 "list" || isaD d0 "tuple") = true ∧ (∀ σ F H, Ev K (tVar 3) σ F H d0 → Wa K (iEnumA K (tCons (tVar 3) tNil)) σ F H (enumD (ts.map tieD))) ∧
      Rcd K (rTupOf K) [d0] (.tup (ts.map tieD)) := by
    rcases hds with rfl | rfl
    · obtain ⟨x, y, u, e, h1, h2, h3⟩ := iss3 hi
      exact ⟨_, x, y, u, e, h1, h2, h3, rfl, rfl, fun σ F H h => wa_enumL h, rc_tupL⟩
    · obtain ⟨x, y, u, e, h1, h2, h3⟩ := iss3 hi
      exact ⟨_, x, y, u, e, h1, h2, h3, rfl, rfl, fun σ F H h => wa_enumT h, rc_tupT⟩
  refine ⟨_, (pss_cons (ps_if (pt_not (pt_val (pe_callB (callK K rIsi call_isi) (by rfl) T.n_isinstance (by decide +kernel) (pa_cons (pv 1) (pa_cons (pe_glob (v := .ref T.c_Book) rfl T.mc_Book rfl) pa_nil))))) (pss_one ps_never) pss_nil)
    (pss_cons (ps_if (PW.pt (pw_or (pt_not (pt_val (pe_callB (callK K rIsi call_isi) (by rfl) T.n_isinstance (by decide +kernel) (pa_cons (pv 2) (pa_cons (pe_bltn (v := .ty "int") (by rfl) T.n_int boot_int rfl) pa_nil))))) (pw_or (pt_val (pe_callB (callK K rIsi call_isi) (by rfl) T.n_isinstance (by decide +kernel) (pa_cons (pv 2) (pa_cons (pe_bltn (v := .ty "bool") (by rfl) T.n_bool boot_bool rfl) pa_nil)))) (pw_or1 (pt_cmpR op_lt (pv 2) pe_int (nomark _)))))) (pss_one ps_never) pss_nil)
    (pss_cons (ps_if (pt_not (pt_val (pe_callB (callK K rIsiT call_isiT) (by rfl) T.n_isinstance (by decide +kernel) (pa_cons (pv 3) (pa_cons (pe_tup (pa_cons (pe_bltn (v := .ty "list") (by rfl) T.n_list boot_list rfl) (pa_cons (pe_bltn (v := .ty "tuple") (by rfl) T.n_tuple boot_tuple rfl) pa_nil))) pa_nil))))) (pss_one ps_never) pss_nil)
    (pss_cons (ps_for PassesOwn.never rfl (pi_enumAK K (by rfl) T.n_enumerate (pa_cons (pv 3) pa_nil)) (pg_tupK K rfl (pgs_cons (pg_name (i := 4) sc_Puzzle_init.nd rfl (by first | exact Or.inl rfl | exact Or.inr rfl)) (pgs_cons (pg_name (i := 5) sc_Puzzle_init.nd rfl (by first | exact Or.inl rfl | exact Or.inr rfl)) pgs_nil))) (pss_one (ps_if (pt_not (pt_val (pe_call (ok_is_tie T) (hr.mono (by decide)) rfl T.mg_is_tie T.F_is_tie.kp T.b_is_tie .nil pass0 (pa_cons (pv 1) (pa_cons (pv 2) (pa_cons (pv 5) pa_nil)))))) (pss_one ps_never) pss_nil)))
    (pss_cons (ps_fld (pv 0) (pv 1) rfl)
    (pss_cons (ps_fld (pv 0) (pv 2) rfl)
    (pss_one (ps_fld (pv 0) (pe_callTy (callK K Eg.rTupOf call_tupOf) (by rfl) T.n_tuple (by decide +kernel) (pa_cons (pv 3) pa_nil)) rfl)))))))), ?_⟩
  try dsimp only [cxOf]
  refine q_when (b := false) s0 (EvT.cast (et_not (et_test (ev_own T.o_Book (ev_var rfl h1)))) rfl) (fun z => by cases z) fun _ F2 H2 a2 => ?_
  refine q_when (b := false) a2.fh (EvT.cast (et_or (x := false) (y := false) (EvT.cast (et_not (et_test (ev_isa (ev_var rfl (a2.is h2)) rfl (by decide)))) rfl) fun _ => EvT.cast (et_or (x := false) (y := false) (et_test (ev_isa (ev_var rfl (a2.is h2)) rfl (by decide))) fun _ =>
    EvT.cast (et_test (ev_op (ev_var rfl (a2.is h2)) ev_int r2_lt)) (by simp only [decide_eq_false_iff_not]; omega)) rfl) rfl) (fun z => by cases z) fun _ F3 H3 a3 => ?_
  have a23 := a2.trans a3
  refine q_when (b := false) a3.fh (EvT.cast (et_not (et_test (ev_isaLT (ev_var rfl (a23.is h3)) hd))) (by rw [hb]; rfl)) (fun z => by cases z) fun _ F4 H4 a4 => ?_
  have a24 := a23.trans a4
  refine q_pairs a4.fh (hw _ _ _ (ev_var rfl (a24.is h3))) (fun d hd' => ?_) fun σ' F5 H5 a5 hσ => ?_
  · obtain ⟨i, hi'⟩ := List.getElem?_of_mem hd'
    obtain ⟨e, he, rfl⟩ := enumD_get hi'
    obtain ⟨t, ht', rfl⟩ := List.mem_map.mp (List.mem_of_getElem? he)
    refine ⟨_, _, rfl, fun F5 H5 x' y' a5 hx' hy' σ' hσ hl => ?_⟩
    have a25 := a24.trans a5
    have g : ∀ i, i < 4 → ((σ'.set 4 (some x')).set 5 (some y'))[i]? = (L2.start N_Puzzle_init [V.ref p, x, y, u])[i]? := fun i hi => by
      rw [List.getElem?_set_ne (by omega), List.getElem?_set_ne (by omega)]; exact hσ i (by omega) (by omega)
    have g5 : ((σ'.set 4 (some x')).set 5 (some y'))[5]? = some (some y') := by
      rw [List.getElem?_set_self]; rw [List.length_set, hl]; show 5 < 6; decide
    refine EvT.cast (et_not (et_test (ev_call (ea_cons (ev_var (g 1 (by decide)) (a25.is h1)) (ea_cons (ev_var (g 2 (by decide)) (a25.is h2)) (ea_cons (ev_var g5 hy') ea_nil))) ⟨b, m, _, _, rfl, rfl, b6, fun c hc => ?_, rfl⟩))) (by rw [ht t ht']; rfl)
    obtain ⟨c', _, rfl⟩ := List.mem_map.mp hc
    rfl
  have g : ∀ i, i < 4 → σ'[i]? = (L2.start N_Puzzle_init [V.ref p, x, y, u])[i]? := fun i hi => hσ i (by omega) (by omega)
  have a25 := a24.trans a5
  have m2 := a25.m nf hp id
  refine q_fld T.o_Puzzle.cl T.na_Puzzle_book a5.fh (g 0 (by decide)) m2.2 m2.1 fz0 (ev_var (g 1 (by decide)) (a25.is h1)) fun v1 F6 H6 a6 hv1 nf6 => ?_
  have b6 := ((a25.trans a6).of (X := (· = p))).mut (o := .ins T.c_Puzzle dx (putF "book" v1 [])) (.inr rfl) nf6
  refine q_fld T.o_Puzzle.cl T.na_Puzzle_cell_count b6.fh (g 0 (by decide)) nf6 upd_same fz1 (ev_var (g 2 (by decide)) (b6.is h2)) fun v2 F7 H7 a7 hv2 nf7 => ?_
  have b7 := (b6.trans a7.of).mut (o := .ins T.c_Puzzle dx (putF "cell_count" v2 (putF "book" v1 []))) (.inr rfl) nf7
  refine s_fld T.o_Puzzle.cl T.na_Puzzle_ties b7.fh (g 0 (by decide)) nf7 upd_same fz2 (ev_cb (ea_cons (ev_var (g 3 (by decide)) (b7.is h3)) ea_nil) hc) fun v3 F8 H8 a8 hv3 nf8 => ?_
  have b8 := (b7.trans a8.of).mut (o := .ins T.c_Puzzle dx (putF "ties" v3 (putF "cell_count" v2 (putF "book" v1 [])))) (.inr rfl) nf8
  exact k F8 _ [("book", v1), ("cell_count", v2), ("ties", v3)] b8 upd_same nf8 (.cons (a8.is (a7.is hv1)) (.cons (a8.is hv2) (.cons hv3 .nil)))
end
end K08
namespace K08
open PySem L2 Eg
open TL (numL joinL)
open PyProof.Rows (boot_int boot_tuple boot_bool boot_list boot_str boot_isinstance boot_range boot_enumerate)
local macro_rules | `(tactic| walk_at "is") => `(tactic| first | assumption | (refine Fx.is (by assumption) ?_; walk_at "is"))
local macro_rules | `(tactic| walk_at "sz") => `(tactic| first | assumption | omega | (show _ ≤ sizeLine; decide) | (show _ < sizeLine; decide))
local macro_rules | `(tactic| walk_at "r2") => `(tactic| first
  | exact r2_addI | exact r2_addS (by walk_at "sz") | exact r2_addT (by walk_at "sz") | exact r2_addL (by walk_at "sz")
  | exact r2_eqI | exact r2_eqS | exact r2_neI | exact r2_neS | exact r2_lt | exact r2_le | exact r2_gt | exact r2_ge | exact r2_sub | exact r2_isN | exact r2_notN)
local macro_rules | `(tactic| walk_at "ea") => `(tactic| first | exact ea_nil | refine ea_cons (by walk_at "ev") (by walk_at "ea"))
local macro_rules | `(tactic| walk_at "ev") => `(tactic| first
  | exact ev_int | exact ev_str | exact ev_bl | exact ev_non
  | refine ev_var rfl (by walk_at "is")
  | refine ev_op (by walk_at "ev") (by walk_at "ev") (by walk_at "r2")
  | refine ev_tup (by walk_at "ea") (by walk_at "sz")
  | refine ev_lst (by walk_at "ea") (by walk_at "sz")
  | refine ev_cb (by walk_at "ea") (by first | exact rc_len rfl | exact rc_intI | exact rc_tupL | exact rc_tupT))

section
variable {P : Program} {w : World} {K : PySem.W.Frag} {mg : Str → Option Value} {base : Heap}
abbrev tD (l : List Nat) : D := .str (SX.S l)
def wordL (r : List Int) : List Nat := joinL [] (r.map fun v => numL v.toNat)
def relL (r : Nat × List (List Int)) : List Nat := cs "relation " ++ numL r.1 ++ cs " " ++ joinL (cs ",") (r.2.map wordL)
def cellL (m : Nat) : List Nat := cs "cells " ++ numL m
def commaL (c : List Nat) : List Nat := joinL (cs ",") (c.map numL)
def tieL (t : Tie) : List Nat := cs "tie " ++ numL t.1 ++ cs " " ++ commaL t.2
def linesL (b : BR) (m : Nat) (ts : List Tie) : List (List Nat) := b.map relL ++ [cellL m] ++ ts.map tieL
def textL (b : BR) (m : Nat) (ts : List Tie) : List Nat := joinL (cs "\n") (linesL b m ts)
/-! what the puzzles are -/
def OkRel (r : Nat × List (List Int)) : Prop := 1 ≤ r.1 ∧ r.1 ≤ 4 ∧ r.2 ≠ [] ∧ (∀ q ∈ r.2, IsRow r.1 q) ∧ Asc r.2
theorem OkRel.few {r : Nat × List (List Int)} (h : OkRel r) : r.2.length ≤ 16 := asc_16 h.2.1 h.2.2.2.2 h.2.2.2.1
structure OkPuz (b : BR) (m : Nat) (ts : List Tie) : Prop where
  b0 : 0 < b.length
  b6 : b.length ≤ 6
  rel : ∀ r ∈ b, OkRel r
  m6 : m < 10 ^ 6
  few : ts.length ≤ 200
  tie : ∀ t ∈ ts, ∃ r, b[t.1]? = some r ∧ t.2.length = r.1 ∧ ∀ c ∈ t.2, c < m
/-! lengths -/
theorem num_small {n : Nat} (h : n < 10 ^ 6) : (numL n).length ≤ 6 := TL.numL_len (by decide) h
theorem word_len {d : Nat} {r : List Int} (hd : d ≤ 4) (h : IsRow d r) : (r.map fun v => numL v.toNat).length ≤ 4 ∧ (∀ y ∈ r.map (fun v => numL v.toNat), y.length ≤ 1) := by
  refine ⟨by rw [List.length_map, h.1]; exact hd, fun y hy => ?_⟩
  obtain ⟨v, hv, rfl⟩ := List.mem_map.mp hy
  have := h.2 v hv
  exact TL.numL_len (by decide) (by omega)
theorem word_len4 {d : Nat} {r : List Int} (hd : d ≤ 4) (h : IsRow d r) : (wordL r).length ≤ 4 := by
  obtain ⟨h1, h2⟩ := word_len hd h
  have := join_len (a := []) h1 h2
  exact this
theorem words_len {r : Nat × List (List Int)} (h : OkRel r) : ∀ y ∈ r.2.map wordL, y.length ≤ 4 := fun y hy => by
  obtain ⟨q, hq, rfl⟩ := List.mem_map.mp hy
  exact word_len4 h.2.1 (h.2.2.2.1 q hq)
theorem words_join {r : Nat × List (List Int)} (h : OkRel r) : (joinL (cs ",") (r.2.map wordL)).length ≤ 80 := by
  have := join_len (a := cs ",") (n := 16) (by rw [List.length_map]; exact h.few) (words_len h)
  exact this
theorem lc9 : (cs "relation ").length = 9 := by decide
theorem lc6 : (cs "cells ").length = 6 := by decide
theorem lc4 : (cs "tie ").length = 4 := by decide
theorem lc1 : (cs " ").length = 1 := by decide
theorem lcc : (cs ",").length = 1 := by decide
theorem lcn : (cs "\n").length = 1 := by decide
theorem rel_num {r : Nat × List (List Int)} (h : OkRel r) : (numL r.1).length ≤ 6 := num_small (by have := h.2.1; omega)
theorem relL_len {r : Nat × List (List Int)} (h : OkRel r) : (relL r).length ≤ 100 := by
  have h1 := words_join h
  have h2 := rel_num h
  have h3 := lc9
  have h4 := lc1
  unfold relL
  rw [List.length_append, List.length_append, List.length_append]
  omega
theorem comma_small {c : List Nat} (h : ∀ x ∈ c, x < 10 ^ 6) : ∀ y ∈ c.map numL, y.length ≤ 6 := fun y hy => by
  obtain ⟨q, hq, rfl⟩ := List.mem_map.mp hy
  exact num_small (h q hq)
theorem comma_len {c : List Nat} (hl : c.length ≤ 4) (h : ∀ x ∈ c, x < 10 ^ 6) : (commaL c).length ≤ 28 := by
  have := join_len (a := cs ",") (n := 4) (by rw [List.length_map]; exact hl) (comma_small h)
  exact this
theorem OkPuz.tie4 {b : BR} {m : Nat} {ts : List Tie} (h : OkPuz b m ts) {t : Tie} (ht : t ∈ ts) : t.1 < 6 ∧ t.2.length ≤ 4 ∧ ∀ x ∈ t.2, x < 10 ^ 6 := by
  obtain ⟨r, e, l, c⟩ := h.tie t ht
  have hr := h.rel r (List.mem_of_getElem? e)
  have := (List.getElem?_eq_some_iff.mp e).1
  exact ⟨by have := h.b6; omega, by rw [l]; exact hr.2.1, fun x hx => Nat.lt_trans (c x hx) h.m6⟩
theorem tieL_len {b : BR} {m : Nat} {ts : List Tie} (h : OkPuz b m ts) {t : Tie} (ht : t ∈ ts) : (tieL t).length ≤ 60 := by
  obtain ⟨h1, h2, h3⟩ := h.tie4 ht
  have h4 := comma_len h2 h3
  have h5 : (numL t.1).length ≤ 6 := num_small (by omega)
  have := lc4
  have := lc1
  unfold tieL
  rw [List.length_append, List.length_append, List.length_append]
  omega
theorem cellL_len {m : Nat} (h : m < 10 ^ 6) : (cellL m).length ≤ 12 := by
  have := num_small h
  have := lc6
  unfold cellL
  rw [List.length_append]
  omega
theorem lines_len {b : BR} {m : Nat} {ts : List Tie} (h : OkPuz b m ts) : (linesL b m ts).length ≤ 207 ∧ ∀ y ∈ linesL b m ts, y.length ≤ 100 := by
  refine ⟨?_, fun y hy => ?_⟩
  · unfold linesL
    rw [List.length_append, List.length_append, List.length_map, List.length_map, List.length_singleton]
    have := h.b6
    have := h.few
    omega
  · unfold linesL at hy
    rcases List.mem_append.mp hy with hy | hy
    · rcases List.mem_append.mp hy with hy | hy
      · obtain ⟨r, hr, rfl⟩ := List.mem_map.mp hy
        exact relL_len (h.rel r hr)
      · rw [List.mem_singleton] at hy
        subst hy
        exact Nat.le_trans (cellL_len h.m6) (by decide)
    · obtain ⟨t, ht, rfl⟩ := List.mem_map.mp hy
      exact Nat.le_trans (tieL_len h ht) (by decide)
theorem text_len {b : BR} {m : Nat} {ts : List Tie} (h : OkPuz b m ts) : (textL b m ts).length ≤ 20907 := by
  obtain ⟨h1, h2⟩ := lines_len h
  exact join_len (a := cs "\n") h1 h2
/-! joined_by_commas -/
def R_joined : List D → D → Prop := fun ds z => ∃ c : List Nat, ds = [intsD c] ∧ c.length ≤ 4 ∧ (∀ x ∈ c, x < 10 ^ 6) ∧ z = tD (commaL c)
theorem ok_joined_by_commas (T : Tx K mg) : FnOk P w K mg base CX0 1 T.a_joined_by_commas T.fd_joined_by_commas ["numbers"] (Pu K R_joined) := by
  refine T.F_joined_by_commas.ok sc_joined_by_commas (fun vs H Q E h => pu_len (fun ds d ⟨_, e, _⟩ => by rw [e]; rfl) h) (fun cdv A outer s H vs Q E hr h => ?_)
  obtain ⟨F, ds, d, s0, hi, ⟨c, rfl, hl, hc, rfl⟩, k⟩ := h
  obtain ⟨x, rfl, h1⟩ := iss1 hi
  refine ⟨_, (pss_one (ps_ret (pe_bmK K PySem.F.plainAttrs_str PySem.F.slot_str_join PySem.F.type_str_join (mtK K Eg.rJoin mt_joinA) pe_str (pa_cons (pe_lc (own := [("number", 1)]) rfl sc_joined_by_commas.nd (pi_seqK K (pv 0)) (blkOk_by (own := [("number", 1)]) (N := N_joined_by_commas) (sc := defScope s_joined_by_commas) (by decide +kernel)) (fun _ _ _ _ _ => (pg_name (i := 1) sc_joined_by_commas.nd rfl (by first | exact Or.inl rfl | exact Or.inr rfl))) (fun _ _ _ _ _ => pts_nil) (fun _ _ _ _ _ => (pe_callTy call_strA (by rfl) T.n_str (by decide +kernel) (pa_cons (pv 1) pa_nil)))) pa_nil)))), ?_⟩
  try dsimp only [cxOf]
  refine s_ret s0 (Ev.cast (ev_bmS ev_txt (ea_cons (ev_la1 (xs := c) (dd := fun c => D.int (c : Nat)) (wa_seqT (ev_var rfl h1)) (fun c => tD (numL c)) (fun x => rfl) (fun d hd F1 H1 x a hx => ev_cb (ea_cons (ev_var rfl hx) ea_nil) (rc_strN (by have := hc d hd; omega))) (Nat.lt_of_le_of_lt hl (by decide))) ea_nil) ?_) rfl) k
  have h := rm_joinX (K := K) (a := cs ",") (ys := c.map numL) (Nat.le_trans (join_size (n := 4) (by rw [List.length_map]; exact hl) (comma_small hc)) (by decide))
  rw [List.map_map] at h
  exact h
/-! write_relation -/
def R_write_relation (T : Tx K mg) : List D → D → Prop := fun ds z => ∃ r, ds = [relD T r] ∧ OkRel r ∧ z = tD (relL r)
theorem ok_write_relation (T : Tx K mg) : FnOk P w K mg base CX0 1 T.a_write_relation T.fd_write_relation ["relation"] (Pu K (R_write_relation T)) := by
  refine T.F_write_relation.ok sc_write_relation (fun vs H Q E h => pu_len (fun ds d ⟨_, e, _⟩ => by rw [e]; rfl) h) (fun cdv A outer s H vs Q E hr h => ?_)
  obtain ⟨F, ds, d, s0, hi, ⟨r, rfl, ok, rfl⟩, k⟩ := h
  obtain ⟨x, rfl, h1⟩ := iss1 hi
  refine ⟨_, (pss_cons (ps_setLc (i := 1) (own := [("row", 2)]) rfl sc_write_relation.nd rfl rfl (sw_true rfl rfl rfl (by decide +kernel)) (pi_seqK K (pe_fldK K (pv 0) rfl)) (blkOk_by (own := [("row", 2)]) (N := N_write_relation) (sc := defScope s_write_relation) (by decide +kernel)) (fun _ _ _ _ _ => (pg_name (i := 2) sc_write_relation.nd rfl (by first | exact Or.inl rfl | exact Or.inr rfl))) (fun _ _ _ _ _ => pts_nil) (fun _ _ _ _ _ => (pe_bmK K PySem.F.plainAttrs_str PySem.F.slot_str_join PySem.F.type_str_join (mtK K Eg.rJoin mt_joinA) pe_str (pa_cons (pe_lc (own := [("value", 3)]) rfl sc_write_relation.nd (pi_seqK K (pv 2)) (by refine blkOk_by ?_; kernel_rfl) (fun _ _ _ _ _ => (pg_name (i := 3) sc_write_relation.nd rfl (by first | exact Or.inl rfl | exact Or.inr rfl))) (fun _ _ _ _ _ => pts_nil) (fun _ _ _ _ _ => (pe_callTy call_strA (by rfl) T.n_str (by decide +kernel) (pa_cons (pv 3) pa_nil)))) pa_nil))))
    (pss_one (ps_ret (pe_op (opK K Eg.rAddA op_addA) (pe_op (opK K Eg.rAddA op_addA) (pe_op (opK K Eg.rAddA op_addA) pe_str (pe_callTy call_strA (by rfl) T.n_str (by decide +kernel) (pa_cons (pe_fldK K (pv 0) rfl) pa_nil))) pe_str) (pe_bmK K PySem.F.plainAttrs_str PySem.F.slot_str_join PySem.F.type_str_join (mtK K Eg.rJoin mt_joinA) pe_str (pa_cons (pv 1) pa_nil)))))), ?_⟩
  try dsimp only [cxOf]
  refine q_asg s0 (ev_la1 (xs := r.2) (dd := rowD) (wa_seqT (ev_fld T.o_Relation.cl T.na_Relation_rows (ev_var rfl h1) rfl)) (fun q => tD (wordL q)) (fun x => rfl) (fun q hq F1 H1 x a hx => ?_) (Nat.lt_of_le_of_lt ok.few (by decide))) fun v F2 H2 a2 hv => ?_
  · obtain ⟨w1, w2⟩ := word_len ok.2.1 (ok.2.2.2.1 q hq)
    refine ev_bmS ev_txt (ea_cons (ev_la1 (xs := q) (dd := D.int) (wa_seqT (ev_var rfl hx)) (fun v => tD (numL v.toNat)) (fun x => rfl) (fun v hv F1 H1 x a hx => ?_) (by rw [List.length_map] at w1; exact Nat.lt_of_le_of_lt w1 (by decide))) ea_nil) ?_
    · have b := (ok.2.2.2.1 q hq).2 v hv
      have h := rc_strN (K := K) (n := v.toNat) (by omega)
      rw [Int.toNat_of_nonneg b.1] at h
      exact ev_cb (ea_cons (ev_var rfl hx) ea_nil) h
    · have h := rm_joinX (K := K) (a := cs "") (ys := q.map fun v => numL v.toNat) (Nat.le_trans (join_size w1 w2) (by decide))
      rw [List.map_map] at h
      exact h
  · have l1 := words_join ok
    have l2 := rel_num ok
    have l3 := lc9
    have l4 := lc1
    refine s_ret a2.fh (Ev.cast (ev_op (ev_op (ev_op ev_txt (ev_cb (ea_cons (ev_fld T.o_Relation.cl T.na_Relation_size (ev_var rfl (a2.is h1)) rfl) ea_nil) (rc_strN (by have := ok.2.1; omega))) (r2_addX ?_)) ev_txt (r2_addX ?_)) (ev_bmS ev_txt (ea_cons (ev_var rfl hv) ea_nil) (z := tD (joinL (cs ",") (r.2.map wordL))) ?_) (r2_addX ?_)) rfl) fun v F4 H4 a4 hv => k v F4 H4 (a2.trans a4) hv
    · rw [sizeLine_eq]; omega
    · rw [List.length_append, sizeLine_eq]; omega
    · have h := rm_joinX (K := K) (a := cs ",") (ys := r.2.map wordL) (Nat.le_trans (join_size (n := 16) (by rw [List.length_map]; exact ok.few) (words_len ok)) (by decide))
      rw [List.map_map] at h
      exact h
    · rw [List.length_append, List.length_append, sizeLine_eq]; omega
end
end K08
namespace K08
open PySem L2 Eg
open TL (numL joinL)
open PyProof.Rows (boot_int boot_tuple boot_bool boot_list boot_str boot_isinstance boot_range boot_enumerate)
local macro_rules | `(tactic| walk_at "is") => `(tactic| first | assumption | (refine Fx.is (by assumption) ?_; walk_at "is"))
local macro_rules | `(tactic| walk_at "sz") => `(tactic| first | assumption | omega | (show _ ≤ sizeLine; decide) | (show _ < sizeLine; decide))
local macro_rules | `(tactic| walk_at "r2") => `(tactic| first
  | exact r2_addI | exact r2_addS (by walk_at "sz") | exact r2_addT (by walk_at "sz") | exact r2_addL (by walk_at "sz")
  | exact r2_eqI | exact r2_eqS | exact r2_neI | exact r2_neS | exact r2_lt | exact r2_le | exact r2_gt | exact r2_ge | exact r2_sub | exact r2_isN | exact r2_notN)
local macro_rules | `(tactic| walk_at "ea") => `(tactic| first | exact ea_nil | refine ea_cons (by walk_at "ev") (by walk_at "ea"))
local macro_rules | `(tactic| walk_at "ev") => `(tactic| first
  | exact ev_int | exact ev_str | exact ev_bl | exact ev_non
  | refine ev_var rfl (by walk_at "is")
  | refine ev_op (by walk_at "ev") (by walk_at "ev") (by walk_at "r2")
  | refine ev_tup (by walk_at "ea") (by walk_at "sz")
  | refine ev_lst (by walk_at "ea") (by walk_at "sz")
  | refine ev_cb (by walk_at "ea") (by first | exact rc_len rfl | exact rc_intI | exact rc_tupL | exact rc_tupT))

section
variable {P : Program} {w : World} {K : PySem.W.Frag} {mg : Str → Option Value} {base : Heap}
/-! write_puzzle -/
def R_write_puzzle (T : Tx K mg) : List D → D → Prop := fun ds z => ∃ b m ts, ds = [puzD T b m ts] ∧ OkPuz b m ts ∧ z = tD (textL b m ts)
theorem iss_txt {F : Hp} {ls : List (List Nat)} {acc : List V} (h : Iss K F (ls.map tD) acc) : acc = (ls.map SX.S).map V.str := by
  have e : ls.map tD = (ls.map SX.S).map D.str := by rw [List.map_map]; rfl
  rw [e] at h
  exact h.strs
theorem ok_write_puzzle (T : Tx K mg) : FnOk P w K mg base CX0 2 T.a_write_puzzle T.fd_write_puzzle ["puzzle"] (Pu K (R_write_puzzle T)) := by
  refine T.F_write_puzzle.ok sc_write_puzzle (fun vs H Q E h => pu_len (fun ds d ⟨_, _, _, e, _⟩ => by rw [e]; rfl) h) (fun cdv A outer s H vs Q E hr h => ?_)
  obtain ⟨F, ds, d, s0, hi, ⟨b, m, ts, rfl, ok, rfl⟩, k⟩ := h
  obtain ⟨x, rfl, h1⟩ := iss1 hi
  refine ⟨_, (pss_cons (ps_setLc (i := 1) (own := [("relation", 2)]) rfl sc_write_puzzle.nd rfl rfl (sw_true rfl rfl rfl (by decide +kernel)) (pi_seqK K (pe_fldK K (pe_fldK K (pv 0) rfl) rfl)) (blkOk_by (own := [("relation", 2)]) (N := N_write_puzzle) (sc := defScope s_write_puzzle) (by decide +kernel)) (fun _ _ _ _ _ => (pg_name (i := 2) sc_write_puzzle.nd rfl (by first | exact Or.inl rfl | exact Or.inr rfl))) (fun _ _ _ _ _ => pts_nil) (fun _ _ _ _ _ => (pe_call (ok_write_relation T) (hr.mono (by decide)) rfl T.mg_write_relation T.F_write_relation.kp T.b_write_relation .nil pass0 (pa_cons (pv 2) pa_nil))))
    (pss_cons (ps_expr (pe_bmK K PySem.F.plainAttrs_list PySem.F.slot_list_append PySem.F.type_list_append mt_append (pv 1) (pa_cons (pe_op (opK K Eg.rAddA op_addA) pe_str (pe_callTy call_strA (by rfl) T.n_str (by decide +kernel) (pa_cons (pe_fldK K (pv 0) rfl) pa_nil))) pa_nil)))
    (pss_cons (ps_for PassesOwn.never rfl (pi_seqK K (pe_fldK K (pv 0) rfl)) (pg_tupK K rfl (pgs_cons (pg_name (i := 2) sc_write_puzzle.nd rfl (by first | exact Or.inl rfl | exact Or.inr rfl)) (pgs_cons (pg_name (i := 3) sc_write_puzzle.nd rfl (by first | exact Or.inl rfl | exact Or.inr rfl)) pgs_nil))) (pss_one (ps_expr (pe_bmK K PySem.F.plainAttrs_list PySem.F.slot_list_append PySem.F.type_list_append mt_append (pv 1) (pa_cons (pe_op (opK K Eg.rAddA op_addA) (pe_op (opK K Eg.rAddA op_addA) (pe_op (opK K Eg.rAddA op_addA) pe_str (pe_callTy call_strA (by rfl) T.n_str (by decide +kernel) (pa_cons (pv 2) pa_nil))) pe_str) (pe_call (ok_joined_by_commas T) (hr.mono (by decide)) rfl T.mg_joined_by_commas T.F_joined_by_commas.kp T.b_joined_by_commas .nil pass0 (pa_cons (pv 3) pa_nil))) pa_nil)))))
    (pss_one (ps_ret (pe_bmK K PySem.F.plainAttrs_str PySem.F.slot_str_join PySem.F.type_str_join (mtK K Eg.rJoin mt_joinA) pe_str (pa_cons (pv 1) pa_nil))))))), ?_⟩
  refine q_asgL s0 (evl_la1 (xs := b) (dd := relD T) (wa_seqT (ev_fld T.o_Book.cl T.na_Book_relations (ev_fld T.o_Puzzle.cl T.na_Puzzle_book (ev_var rfl h1) rfl) rfl)) (fun r => tD (relL r)) (fun x => rfl) (fun r hr F1 H1 x a hx => ev_call (ea_cons (ev_var rfl hx) ea_nil) ⟨r, rfl, ok.rel r hr, rfl⟩) (Nat.lt_of_le_of_lt ok.b6 (by decide))) fun l acc F2 H2 a2 nl n0 hl hacc => ?_
  have hlen : acc.length ≤ 6 := by rw [← hacc.length, List.length_map]; exact ok.b6
  have l1 := lc6
  have l2 := num_small ok.m6
  refine q_app a2.fh rfl nl hl (by rw [sizeLine_eq]; omega) (ev_op (z := tD (cellL m)) ev_txt (ev_cb (ea_cons (ev_fld T.o_Puzzle.cl T.na_Puzzle_cell_count (ev_var rfl (a2.is h1)) rfl) ea_nil) (rc_strN (by have := ok.m6; omega))) (r2_addX (by rw [sizeLine_eq]; omega))) fun v F3 H3 a3 hv nl3 => ?_
  have z3 := (a2.trans a3).mut (o := .lst (acc ++ [v])) (.inl n0) nl3
  have is3 : Iss K F3 ((b.map relL ++ [cellL m]).map tD) (acc ++ [v]) := by
    rw [List.map_append, List.map_map]
    exact (a3.iss hacc).snoc hv
  have ht3 := fun (t : Tie) (ht : t ∈ ts) => OkPuz.tie4 ok ht
  refine q_fora (α := Tie) (xs := ts) (dd := tieD) z3.fh (wa_seqT (ev_fld T.o_Puzzle.cl T.na_Puzzle_ties (ev_var rfl (z3.is h1)) rfl)) (fun pre post σ' F' H' => ∃ acc', Fz F H F' H' ∧ σ'[1]? = some (some (.ref l)) ∧ σ'.length = 4 ∧ F' l = none ∧ H' l = some (.lst acc') ∧ Iss K F' ((b.map relL ++ [cellL m] ++ pre.map tieL).map tD) acc')
    (fun F4 H4 a4 => ⟨acc ++ [v], z3.trans a4, rfl, rfl, (a4.m nl3 upd_same id).2, (a4.m nl3 upd_same id).1, by rw [List.map_nil, List.append_nil]; exact a4.iss is3⟩) (fun _ _ _ _ _ ⟨_, h, _⟩ => h.fh) ?_ ?_
  · intro B pre t post σ' F' H' x' F4 H4 e sB ⟨acc', z', hσ, hσl, nl', hl', is'⟩ a4 hx'
    have mt : t ∈ ts := by rw [e]; simp
    refine g_pair a4.fh hx' fun y1 y2 hy1 hy2 => ?_
    have m4 := a4.m nl' hl' id
    obtain ⟨t1, t2, t3⟩ := ht3 t mt
    have q1 := comma_len t2 t3
    have q2 : (numL t.1).length ≤ 6 := num_small (by omega)
    have q3 := lc4
    have q4 := lc1
    have g2 : ((σ'.set 2 (some y1)).set 3 (some y2))[2]? = some (some y1) := by rw [List.getElem?_set_ne (by decide), List.getElem?_set_self (by omega)]
    have g3 : ((σ'.set 2 (some y1)).set 3 (some y2))[3]? = some (some y2) := by rw [List.getElem?_set_self (by rw [List.length_set]; omega)]
    have g1 : ((σ'.set 2 (some y1)).set 3 (some y2))[1]? = some (some (.ref l)) := by rw [List.getElem?_set_ne (by decide), List.getElem?_set_ne (by decide)]; exact hσ
    have ac : acc'.length ≤ 207 := by
      rw [← is'.length, List.length_map, List.length_append, List.length_append, List.length_map, List.length_map, List.length_singleton]
      have e2 : pre.length ≤ ts.length := by rw [e, List.length_append]; omega
      have := ok.b6
      have := ok.few
      omega
    refine s_app a4.fh g1 m4.2 m4.1 (by rw [sizeLine_eq]; omega) (ev_op (z := tD (tieL t)) (ev_op (ev_op ev_txt (ev_cb (ea_cons (ev_var g2 hy1) ea_nil) (rc_strN (by omega))) (r2_addX (by rw [sizeLine_eq]; omega))) ev_txt (r2_addX (by rw [List.length_append, sizeLine_eq]; omega))) (ev_call (ea_cons (ev_var g3 hy2) ea_nil) ⟨t.2, rfl, t2, t3, rfl⟩) (r2_addX (by rw [List.length_append, List.length_append, sizeLine_eq]; omega))) fun v F5 H5 a5 hv nl5 => ?_
    have zz := (z'.trans (a4.trans a5)).mut (p := l) (o := .lst (acc' ++ [v])) (.inl n0) nl5
    refine ⟨F5, sB.trans (a4.trans a5).ff, acc' ++ [v], zz, g1, by rw [List.length_set, List.length_set]; exact hσl, nl5, upd_same, ?_⟩
    have ee : (b.map relL ++ [cellL m] ++ (pre ++ [t]).map tieL).map tD = (b.map relL ++ [cellL m] ++ pre.map tieL).map tD ++ [tD (tieL t)] := by simp only [List.map_append, List.map_cons, List.map_nil, List.append_assoc]
    rw [ee]
    exact ((a4.trans a5).iss is').snoc hv
  · intro σ' F' H' ⟨acc', z', hσ, hσl, nl', hl', is'⟩
    have fz := z'.freeze s0 n0 hl'
    have s2 := frz_same z'.fh nl' hl'
    obtain ⟨q1, q2⟩ := lines_len ok
    refine s_ret fz.fh (ev_bmS ev_txt (ea_cons (ev_var hσ (.lst upd_same (Iss.up s2.1 _ _ is'))) ea_nil) (z := tD (textL b m ts)) ?_) fun v F4 H4 a4 hv => k v F4 H4 (fz.trans a4) hv
    exact rm_joinX (Nat.le_trans (join_size (n := 207) q1 q2) (by decide))
/-! number_told -/
def goodN (l : List Nat) : Bool := decide (1 ≤ l.length) && decide (l.length ≤ 6) && !(decide (l.head? = some 48) && !decide (l = [48])) && l.all fun c => decide (48 ≤ c) && decide (c ≤ 57)
def tellN (l : List Nat) : Option Nat := if goodN l then some (NumText.digitsVal l) else none
def natD : Option Nat → D
  | some n => .int n
  | none => .non
theorem fig10 : ∀ c : Nat, decide (c ∈ (Str.ofString "0123456789").cps.toList) = (decide (48 ≤ c) && decide (c ≤ 57)) := fun c => by
  rw [of_cs]
  show decide (c ∈ [48, 49, 50, 51, 52, 53, 54, 55, 56, 57]) = _
  rw [← Bool.decide_and]
  refine decide_eq_decide.mpr ?_
  simp only [List.mem_cons, List.not_mem_nil, or_false]
  omega
def R_number_told : List D → D → Prop := fun ds z => ∃ l : List Nat, ds = [tD l] ∧ l.length ≤ sizeLine ∧ z = natD (tellN l)
theorem ok_number_told (T : Tx K mg) : FnOk P w K mg base CX0 2 T.a_number_told T.fd_number_told ["word"] (Pu K R_number_told) := by
  refine T.F_number_told.ok sc_number_told (fun vs H Q E h => pu_len (fun ds d ⟨_, e, _⟩ => by rw [e]; rfl) h) (fun cdv A outer s H vs Q E hr h => ?_)
  obtain ⟨F, ds, d, s0, hi, ⟨l, rfl, hz, rfl⟩, k⟩ := h
  obtain ⟨x, rfl, h1⟩ := iss1 hi
  refine ⟨_, (pss_cons (ps_if (PW.pt (pw_or (pt_not (pt_chain op_le op_le pe_int (pe_callB (callK K Eg.rLen call_lenA) (by rfl) T.n_len (by decide +kernel) (pa_cons (pv 0) pa_nil)) (pe_glob rfl T.mg_MOST_FIGURES T.rel_MOST_FIGURES))) (pw_or1 (PW.pt (pw_and (pt_cmpR (opK K Eg.rEqA (op_eqA hr)) (pe_ix (ixK K ix_seq) (pv 0) pe_int (fun _ _ => rfl)) pe_str (nomark _)) (pw_and1 (pt_cmpR (opK K Eg.rNeA (op_neA hr)) (pv 0) pe_str (nomark _)))))))) (pss_one (ps_ret pe_non)) pss_nil)
    (pss_cons (ps_for PassesOwn.never rfl (pi_seqK K (pv 0)) (pg_name (i := 1) sc_number_told.nd rfl (by first | exact Or.inl rfl | exact Or.inr rfl)) (pss_one (ps_if (pt_cmpR (opK K Eg.rNotInA (op_notInA hr)) (pv 1) (pe_glob rfl T.mg_FIGURES T.rel_FIGURES) (by rfl)) (pss_one (ps_ret pe_non)) pss_nil)))
    (pss_one (ps_ret (pe_callTy call_intA (by rfl) T.n_int (by decide +kernel) (pa_cons (pv 0) pa_nil)))))), ?_⟩
  have tl : ∀ {F1 H1 : Hp}, Is K F1 (tD l) x → Ev K (tCB (Eg.rLen K) (tCons (tVar 0) tNil)) (L2.start N_number_told [x]) F1 H1 (.int l.length) := fun h => ev_cb (ea_cons (ev_var rfl h) ea_nil) (rc_lenX hz)
  refine q_when (b := !(decide (1 ≤ l.length) && decide (l.length ≤ 6)) || (decide (l.head? = some 48) && !decide (l = [48]))) s0
    (et_or (x := !(decide (1 ≤ l.length) && decide (l.length ≤ 6))) (et_not (et_test (ev_chain (b := decide (1 ≤ l.length) && decide (l.length ≤ 6)) (b1 := decide (1 ≤ l.length)) ev_int (tl h1) (by
      have h := r2_le (K := K) (i := 1) (j := (l.length : Nat)); rw [decide_eq_decide.mpr (show ((1 : Int) ≤ (l.length : Nat)) ↔ 1 ≤ l.length by omega)] at h; exact h) (fun e => ⟨ev_int, by
      have h := r2_le (K := K) (i := (l.length : Nat)) (j := 6); rw [decide_eq_decide.mpr (show ((l.length : Nat) ≤ (6 : Int)) ↔ l.length ≤ 6 by omega)] at h; rw [e]; exact h⟩) (fun e => by rw [e]; rfl)))) fun e => ?_) (fun z F2 H2 a2 => ?_) fun z F2 H2 a2 => ?_
  · have e0 : 1 ≤ l.length := by
      rw [Bool.not_eq_false', Bool.and_eq_true, decide_eq_true_eq] at e; exact e.1
    obtain ⟨c, r, rfl⟩ : ∃ c r, l = c :: r := by cases l with
      | nil => simp at e0
      | cons c r => exact ⟨c, r, rfl⟩
    refine et_and (x := decide ((c :: r).head? = some 48)) (EvT.cast (et_test (ev_op (ev_op (ev_var rfl h1) ev_int (r2_ixS (c := c) (by rw [SX.S_len]; exact hz) (atI_of (Int.le_refl 0) rfl))) ev_txt (r2_eqX (a := [c]) (b := cs "0")))) ?_) fun _ => EvT.cast (et_test (ev_op (ev_var rfl h1) ev_txt r2_neX)) ?_
    · refine decide_eq_decide.mpr ?_
      show [c] = [48] ↔ some c = some 48
      simp
    · rfl
  · have e : tellN l = none := by
      unfold tellN goodN
      rw [if_neg]
      intro y
      simp only [Bool.and_eq_true] at y
      rw [y.1.1.1, y.1.1.2] at z
      rw [Bool.or_eq_true] at z
      rcases z with z | z
      · cases z
      · rw [z] at y; exact absurd y.1.2 (by decide)
    refine s_ret a2.fh ev_non fun v F4 H4 a4 hv => k v F4 H4 (a2.trans a4) (by rw [e]; exact hv)
  · rw [Bool.or_eq_false_iff, Bool.not_eq_false'] at z
    refine q_alla (xs := l) (dd := fun c => tD [c]) a2.fh (wa_txt (ev_var rfl (a2.is h1))) (fun c => decide (48 ≤ c) && decide (c ≤ 57)) (fun c hc F1 H1 x a hx => ?_) (fun x F1 H1 a => ev_non) (fun y v F3 H3 a3 hv => k v F3 H3 (a2.trans a3) ?_) fun y σ' F3 H3 a3 hσ _ => ?_
    · exact EvT.cast (et_test (ev_op (ev_var rfl hx) ev_str r2_ninS)) (by rw [fig10])
    · have e : tellN l = none := by
        unfold tellN goodN
        rw [if_neg]
        rw [y, Bool.and_false]; exact Bool.false_ne_true
      rw [e]; exact hv
    · have g : goodN l = true := by unfold goodN; rw [y, z.1, z.2]; rfl
      have e : tellN l = some (NumText.digitsVal l) := by unfold tellN; rw [if_pos g]
      have zz := z.1
      rw [Bool.and_eq_true, decide_eq_true_eq, decide_eq_true_eq] at zz
      refine s_ret a3.fh (ev_cb (ea_cons (ev_var (hσ 0 (by decide)) ((a2.trans a3).is h1)) ea_nil) (rc_intS (SX.int_S y (fun h => by rw [h] at zz; simp at zz) (by omega)) (by rw [SX.S_len]; omega))) fun v F4 H4 a4 hv => k v F4 H4 ((a2.trans a3).trans a4) (by rw [e]; exact hv)
end
end K08
namespace K08
open PySem L2 Eg
open TL (numL joinL spl)
open PyProof.Rows (boot_int boot_tuple boot_bool boot_list boot_str boot_isinstance boot_range boot_enumerate)
local macro_rules | `(tactic| walk_at "is") => `(tactic| first | assumption | (refine Fx.is (by assumption) ?_; walk_at "is"))
local macro_rules | `(tactic| walk_at "sz") => `(tactic| first | assumption | omega | (show _ ≤ sizeLine; decide) | (show _ < sizeLine; decide))
local macro_rules | `(tactic| walk_at "r2") => `(tactic| first
  | exact r2_addI | exact r2_addS (by walk_at "sz") | exact r2_addT (by walk_at "sz") | exact r2_addL (by walk_at "sz")
  | exact r2_eqI | exact r2_eqS | exact r2_neI | exact r2_neS | exact r2_lt | exact r2_le | exact r2_gt | exact r2_ge | exact r2_sub | exact r2_isN | exact r2_notN)
local macro_rules | `(tactic| walk_at "ea") => `(tactic| first | exact ea_nil | refine ea_cons (by walk_at "ev") (by walk_at "ea"))
local macro_rules | `(tactic| walk_at "ev") => `(tactic| first
  | exact ev_int | exact ev_str | exact ev_bl | exact ev_non
  | refine ev_var rfl (by walk_at "is")
  | refine ev_op (by walk_at "ev") (by walk_at "ev") (by walk_at "r2")
  | refine ev_tup (by walk_at "ea") (by walk_at "sz")
  | refine ev_lst (by walk_at "ea") (by walk_at "sz")
  | refine ev_cb (by walk_at "ea") (by first | exact rc_len rfl | exact rc_intI | exact rc_tupL | exact rc_tupT))

section
variable {P : Program} {w : World} {K : PySem.W.Frag} {mg : Str → Option Value} {base : Heap}
/-! row_told -/
def bit (c : Nat) : Bool := decide (48 ≤ c) && decide (c ≤ 49)
def tellR (l : List Nat) (n : Nat) : Option (List Int) := if decide (l.length = n) && l.all bit then some (l.map fun c => ((c - 48 : Nat) : Int)) else none
def rowO : Option (List Int) → D
  | some r => rowD r
  | none => .non
theorem fig01 : ∀ c : Nat, decide (c ∈ (Str.ofString "01").cps.toList) = bit c := fun c => by
  rw [of_cs]
  show decide (c ∈ [48, 49]) = _
  unfold bit
  rw [← Bool.decide_and]
  refine decide_eq_decide.mpr ?_
  simp only [List.mem_cons, List.not_mem_nil, or_false]
  omega
theorem bit_dig {c : Nat} (h : bit c = true) : (decide (48 ≤ c) && decide (c ≤ 57)) = true := by
  unfold bit at h
  rw [Bool.and_eq_true, decide_eq_true_eq, decide_eq_true_eq] at h ⊢
  omega
theorem val1 {c : Nat} : NumText.digitsVal [c] = c - 48 := by simp [NumText.digitsVal]
theorem tellR_row {l : List Nat} {n : Nat} {r : List Int} (h : tellR l n = some r) : IsRow n r := by
  unfold tellR at h
  split at h
  · rename_i h1
    rw [Bool.and_eq_true, decide_eq_true_eq, List.all_eq_true] at h1
    cases h
    refine ⟨by rw [List.length_map]; exact h1.1, fun m hm => ?_⟩
    obtain ⟨c, hc, rfl⟩ := List.mem_map.mp hm
    have := h1.2 c hc
    unfold bit at this
    rw [Bool.and_eq_true, decide_eq_true_eq, decide_eq_true_eq] at this
    omega
  · cases h
def R_row_told : List D → D → Prop := fun ds z => ∃ (l : List Nat) (n : Nat), ds = [tD l, .int n] ∧ l.length < sizeLine ∧ z = rowO (tellR l n)
theorem ok_row_told (T : Tx K mg) : FnOk P w K mg base CX0 2 T.a_row_told T.fd_row_told ["word", "size"] (Pu K R_row_told) := by
  refine T.F_row_told.ok sc_row_told (fun vs H Q E h => pu_len (fun ds d ⟨_, _, e, _⟩ => by rw [e]; rfl) h) (fun cdv A outer s H vs Q E hr h => ?_)
  obtain ⟨F, ds, d, s0, hi, ⟨l, n, rfl, hz, rfl⟩, k⟩ := h
  obtain ⟨x, y, rfl, h1, h2⟩ := iss2 hi
  refine ⟨_, (pss_cons (ps_if (pt_cmpR (opK K Eg.rNeA (op_neA hr)) (pe_callB (callK K Eg.rLen call_lenA) (by rfl) T.n_len (by decide +kernel) (pa_cons (pv 0) pa_nil)) (pv 1) (nomark _)) (pss_one (ps_ret pe_non)) pss_nil)
    (pss_cons (ps_for PassesOwn.never rfl (pi_seqK K (pv 0)) (pg_name (i := 2) sc_row_told.nd rfl (by first | exact Or.inl rfl | exact Or.inr rfl)) (pss_one (ps_if (pt_cmpR (opK K Eg.rNotInA (op_notInA hr)) (pv 2) pe_str (by rfl)) (pss_one (ps_ret pe_non)) pss_nil)))
    (pss_one (ps_ret (pe_callTy (callK K Eg.rTupOf call_tupOf) (by rfl) T.n_tuple (by decide +kernel) (pa_cons (pe_lc (own := [("figure", 2)]) rfl sc_row_told.nd (pi_seqK K (pv 0)) (blkOk_by (own := [("figure", 2)]) (N := N_row_told) (sc := defScope s_row_told) (by decide +kernel)) (fun _ _ _ _ _ => (pg_name (i := 2) sc_row_told.nd rfl (by first | exact Or.inl rfl | exact Or.inr rfl))) (fun _ _ _ _ _ => pts_nil) (fun _ _ _ _ _ => (pe_callTy call_intA (by rfl) T.n_int (by decide +kernel) (pa_cons (pv 2) pa_nil)))) pa_nil)))))), ?_⟩
  refine q_when (b := !decide (l.length = n)) s0 (EvT.cast (et_test (ev_op (ev_cb (ea_cons (ev_var rfl h1) ea_nil) (rc_lenX (by omega))) (ev_var rfl h2) r2_neI)) (by rw [dNN])) (fun z F2 H2 a2 => ?_) fun z F2 H2 a2 => ?_
  · have e : tellR l n = none := by
      unfold tellR
      rw [if_neg]
      cases h : decide (l.length = n) <;> rw [h] at z
      · exact Bool.false_ne_true
      · cases z
    exact s_ret a2.fh ev_non fun v F4 H4 a4 hv => k v F4 H4 (a2.trans a4) (by rw [e]; exact hv)
  · have e1 : decide (l.length = n) = true := by cases h : decide (l.length = n) <;> rw [h] at z <;> trivial
    refine q_alla (xs := l) (dd := fun c => tD [c]) a2.fh (wa_txt (ev_var rfl (a2.is h1))) bit (fun c hc F1 H1 x a hx => ?_) (fun x F1 H1 a => ev_non) (fun y v F3 H3 a3 hv => k v F3 H3 (a2.trans a3) ?_) fun y σ' F3 H3 a3 hσ hl => ?_
    · exact EvT.cast (et_test (ev_op (ev_var rfl hx) ev_str r2_ninS)) (by rw [fig01])
    · have e : tellR l n = none := by
        unfold tellR
        rw [y, Bool.and_false, if_neg Bool.false_ne_true]
      rw [e]; exact hv
    · have e : tellR l n = some (l.map fun c => ((c - 48 : Nat) : Int)) := by
        unfold tellR
        rw [y, e1]; rfl
      have a23 := a2.trans a3
      have h0 : σ'[0]? = some (some x) := hσ 0 (by decide)
      have hw : ∀ v : V, wipe ((wipe σ' [2]).set 2 (some v)) [2] = wipe σ' [2] := fun v => by
        show ((σ'.set 2 none).set 2 (some v)).set 2 none = σ'.set 2 none
        rw [List.set_set, List.set_set]
      refine s_ret a3.fh (ev_cb (ea_cons (ev_la1 (xs := l) (dd := fun c => tD [c]) (wa_txt (ev_var h0 (a23.is h1))) (fun c => D.int ((c - 48 : Nat) : Int)) hw (fun c hc F5 H5 x' a5 hx => ?_) hz) ea_nil) rc_tupL) fun v F4 H4 a4 hv => k v F4 H4 (a23.trans a4) ?_
      · have hb := List.all_eq_true.mp y c hc
        have h := rc_intS (K := K) (a := SX.S [c]) (SX.int_S (a := [c]) (by rw [List.all_cons, List.all_nil, Bool.and_true]; exact bit_dig hb) (by simp) (by simp)) (by rw [SX.S_len]; show 1 ≤ 640; decide)
        rw [val1] at h
        exact ev_cb (ea_cons (ev_var (by show (((σ'.set 2 none)).set 2 (some x'))[2]? = _; rw [List.getElem?_set_self (by rw [List.length_set, hl]; show 2 < 3; decide)]) hx) ea_nil) h
      · rw [e]
        show Is K F4 (.tup (List.map D.int _)) v
        rw [List.map_map]
        exact hv
/-! relation_told -/
def ascB (rows : List (List Int)) : Bool := (List.range (rows.length - 1)).all fun i => decide (cd (rows.getD i []) < cd (rows.getD (i + 1) []))
theorem asc_of {rows : List (List Int)} (h : ascB rows = true) : Asc rows := by
  unfold ascB at h
  rw [List.all_eq_true] at h
  have st : ∀ i (hi : i + 1 < rows.length), cd rows[i] < cd rows[i + 1] := fun i hi => by
    have := h i (List.mem_range.mpr (by omega))
    rw [decide_eq_true_eq, List.getD_eq_getElem?_getD, List.getD_eq_getElem?_getD, List.getElem?_eq_getElem hi, List.getElem?_eq_getElem (by omega)] at this
    exact this
  unfold Asc
  rw [List.pairwise_iff_getElem]
  intro i j hi hj hij
  obtain ⟨m, rfl⟩ : ∃ m, j = i + 1 + m := ⟨j - (i + 1), by omega⟩
  clear hij
  induction m with
  | zero => exact st i hj
  | succ m ih => exact Int.lt_trans (ih (by omega)) (st (i + 1 + m) (by omega))
theorem asc_to {rows : List (List Int)} (h : Asc rows) : ascB rows = true := by
  unfold ascB
  rw [List.all_eq_true]
  intro i hi
  rw [List.mem_range] at hi
  unfold Asc at h
  rw [List.pairwise_iff_getElem] at h
  rw [decide_eq_true_eq, List.getD_eq_getElem?_getD, List.getD_eq_getElem?_getD, List.getElem?_eq_getElem (by omega), List.getElem?_eq_getElem (by omega)]
  exact h i (i + 1) (by omega) (by omega) (by omega)
def tellRows (b : List Nat) (n : Nat) : List (Option (List Int)) := (spl (cs ",") 0 [] b).map fun l => tellR l n
def tellRel (a b : List Nat) : Option (Nat × List (List Int)) := match tellN a with
  | none => none
  | some n => if decide (1 ≤ n) && decide (n ≤ 4) && (tellRows b n).all Option.isSome && ascB ((tellRows b n).filterMap id) then some (n, (tellRows b n).filterMap id) else none
def relO (T : Tx K mg) : Option (Nat × List (List Int)) → D
  | some r => relD T r
  | none => .non
theorem spl_ne (a : List Nat) : ∀ (l : List Nat) (k : Nat) (acc : List Nat), spl a k acc l ≠ []
  | [], k, acc => by rw [TL.spl_nil]; simp
  | c :: r, 0, acc => by
    cases h : TL.pre a (c :: r) with
    | true => rw [TL.spl_hit h]; simp
    | false => rw [TL.spl_miss h]; exact spl_ne a r 0 _
  | c :: r, k + 1, acc => spl_ne a r k acc
theorem len_spl (a : List Nat) : ∀ (l : List Nat) (k : Nat) (acc : List Nat), (spl a k acc l).length ≤ l.length + 1
  | [], k, acc => by rw [TL.spl_nil]; simp
  | c :: r, 0, acc => by
    cases h : TL.pre a (c :: r) with
    | true => rw [TL.spl_hit h]; have := len_spl a r (a.length - 1) []; rw [List.length_cons, List.length_cons]; omega
    | false => rw [TL.spl_miss h]; have := len_spl a r 0 (acc ++ [c]); rw [List.length_cons]; omega
  | c :: r, k + 1, acc => by have := len_spl a r k acc; rw [List.length_cons]; exact Nat.le_trans this (by omega)
theorem mem_spl (a : List Nat) : ∀ (l : List Nat) (k : Nat) (acc p : List Nat), p ∈ spl a k acc l → p.length ≤ acc.length + l.length
  | [], k, acc, p, h => by rw [TL.spl_nil, List.mem_singleton] at h; subst h; simp
  | c :: r, 0, acc, p, h => by
    cases e : TL.pre a (c :: r) with
    | true =>
      rw [TL.spl_hit e] at h
      rcases List.mem_cons.mp h with rfl | h
      · omega
      · have := mem_spl a r (a.length - 1) [] p h; rw [List.length_cons]; simp only [List.length_nil] at this; omega
    | false =>
      rw [TL.spl_miss e] at h
      have := mem_spl a r 0 (acc ++ [c]) p h
      rw [List.length_append, List.length_singleton] at this
      rw [List.length_cons]; omega
  | c :: r, k + 1, acc, p, h => by have := mem_spl a r k acc p h; rw [List.length_cons]; omega
theorem somes : ∀ {l : List (Option (List Int))}, l.all Option.isSome = true → l.map rowO = (l.filterMap id).map rowD
  | [], _ => rfl
  | none :: l, h => by simp at h
  | some r :: l, h => by
    rw [List.all_cons, Bool.and_eq_true] at h
    rw [List.map_cons, List.filterMap_cons, somes h.2]
    rfl
theorem somes_len : ∀ {l : List (Option (List Int))}, l.all Option.isSome = true → (l.filterMap id).length = l.length
  | [], _ => rfl
  | none :: l, h => by simp at h
  | some r :: l, h => by
    rw [List.all_cons, Bool.and_eq_true] at h
    rw [List.filterMap_cons]
    show ((l.filterMap id).length + 1) = _
    rw [somes_len h.2]; rfl
theorem pb_rowO (o : Option (List Int)) : pb 1 (rowO o) = true := by
  cases o with
  | none => rfl
  | some r => exact List.all_eq_true.mpr fun d hd => by obtain ⟨i, _, rfl⟩ := List.mem_map.mp hd; rfl
theorem deq_rowO (o : Option (List Int)) : deq (rowO o) .non = !o.isSome := by
  cases o with
  | none => rfl
  | some r => simp [deq, rowO, py, PyData.eqv]
def R_relation_told (T : Tx K mg) : List D → D → Prop := fun ds z => ∃ a b : List Nat, ds = [tD a, tD b] ∧ a.length ≤ sizeLine ∧ b.length + 2 < sizeLine ∧ z = relO T (tellRel a b)
theorem ok_relation_told (T : Tx K mg) : FnOk P w K mg base CX0 6 T.a_relation_told T.fd_relation_told ["size_word", "rows_word"] (Pu K (R_relation_told T)) := by
  refine T.F_relation_told.ok sc_relation_told (fun vs H Q E h => pu_len (fun ds d ⟨_, _, e, _⟩ => by rw [e]; rfl) h) (fun cdv A outer s H vs Q E hr h => ?_)
  obtain ⟨F, ds, d, s0, hi, ⟨a, b, rfl, ha, hb, rfl⟩, k⟩ := h
  obtain ⟨x, y, rfl, h1, h2⟩ := iss2 hi
  refine ⟨_, (pss_cons (ps_set (i := 2) sc_relation_told.nd rfl (by first | exact Or.inl rfl | exact Or.inr rfl) (pe_call (ok_number_told T) (hr.mono (by decide)) rfl T.mg_number_told T.F_number_told.kp T.b_number_told .nil pass0 (pa_cons (pv 0) pa_nil)))
    (pss_cons (ps_if (PW.pt (pw_or (pt_cmpR op_isN1 (pv 2) pe_non (nomark _)) (pw_or1 (pt_not (pt_chain op_le op_le pe_int (pv 2) (pe_glob rfl T.mg_MOST_PLACES T.rel_MOST_PLACES)))))) (pss_one (ps_ret pe_non)) pss_nil)
    (pss_cons (ps_setLc (i := 3) (own := [("word", 4)]) rfl sc_relation_told.nd rfl rfl (sw_true rfl rfl rfl (by decide +kernel)) (pi_seqK K (pe_bmK K PySem.F.plainAttrs_str PySem.F.slot_str_split PySem.F.type_str_split mt_splitA (pv 1) (pa_cons pe_str pa_nil))) (blkOk_by (own := [("word", 4)]) (N := N_relation_told) (sc := defScope s_relation_told) (by decide +kernel)) (fun _ _ _ _ _ => (pg_name (i := 4) sc_relation_told.nd rfl (by first | exact Or.inl rfl | exact Or.inr rfl))) (fun _ _ _ _ _ => pts_nil) (fun _ _ _ _ _ => (pe_call (ok_row_told T) (hr.mono (by decide)) rfl T.mg_row_told T.F_row_told.kp T.b_row_told .nil pass0 (pa_cons (pv 4) (pa_cons (pv 2) pa_nil)))))
    (pss_cons (ps_if (pt_cmpR (opK K Eg.rInA (op_inA hr)) pe_non (pv 3) (by rfl)) (pss_one (ps_ret pe_non)) pss_nil)
    (pss_cons (ps_for PassesOwn.never rfl (pi_range2 (by rfl) T.n_range (pa_cons pe_int (pa_cons (pe_callB (callK K Eg.rLen call_lenA) (by rfl) T.n_len (by decide +kernel) (pa_cons (pv 3) pa_nil)) pa_nil))) (pg_name (i := 5) sc_relation_told.nd rfl (by first | exact Or.inl rfl | exact Or.inr rfl)) (pss_one (ps_if (pt_cmpR (opK K rGeT (op_geT hr.units0)) (pe_ix (ixK K ix_seq) (pv 3) (pe_op op_sub (pv 5) pe_int) (fun _ _ => rfl)) (pe_ix (ixK K ix_seq) (pv 3) (pv 5) (fun _ _ => rfl)) (nomark _)) (pss_one (ps_ret pe_non)) pss_nil)))
    (pss_one (ps_ret (pe_make T.M_Relation (ok_Relation_init T) (hr.mono (by decide)) rfl T.mc_Relation T.b_Relation_init .nil pass0 (pa_cons (pv 2) (pa_cons (pv 3) pa_nil)))))))))), ?_⟩
  refine q_asg s0 (ev_call (ea_cons (ev_var rfl h1) ea_nil) ⟨a, rfl, ha, rfl⟩) fun v F2 H2 a2 hv => ?_
  have no : ∀ {F' H' : Hp} {v : V}, Fz F H F' H' → tellRel a b = none → Is K F' .non v → Q v H' := fun z e hv => k _ _ _ z (by rw [e]; exact hv)
  cases eN : tellN a with
  | none =>
    rw [eN] at hv
    refine q_when (b := true) a2.fh (et_or (x := true) (y := false) (et_test (ev_op (ev_var rfl hv) ev_non r2_isN)) fun z => by cases z) (fun _ F3 H3 a3 => ?_) (fun z => by cases z)
    exact s_ret a3.fh ev_non fun v F4 H4 a4 hv => no ((a2.trans a3).trans a4) (by unfold tellRel; rw [eN]) hv
  | some n =>
    rw [eN] at hv
    have eR : tellRel a b = if decide (1 ≤ n) && decide (n ≤ 4) && (tellRows b n).all Option.isSome && ascB ((tellRows b n).filterMap id) then some (n, (tellRows b n).filterMap id) else none := by unfold tellRel; rw [eN]
    refine q_when (b := !(decide (1 ≤ n) && decide (n ≤ 4))) a2.fh (EvT.cast (et_or (x := false) (et_test (ev_op (ev_var rfl hv) ev_non r2_isN)) fun _ => et_not (et_test (ev_chain (b := decide (1 ≤ n) && decide (n ≤ 4)) (b1 := decide (1 ≤ n)) ev_int (ev_var rfl hv) (by
      have h := r2_le (K := K) (i := 1) (j := (n : Nat)); rw [decide_eq_decide.mpr (show ((1 : Int) ≤ (n : Nat)) ↔ 1 ≤ n by omega)] at h; exact h) (fun e => ⟨ev_int, by
      have h := r2_le (K := K) (i := (n : Nat)) (j := 4); rw [decide_eq_decide.mpr (show ((n : Nat) ≤ (4 : Int)) ↔ n ≤ 4 by omega)] at h; rw [e]; exact h⟩) (fun e => by rw [e]; rfl)))) rfl) (fun z F3 H3 a3 => ?_) fun z F3 H3 a3 => ?_
    · have e : (decide (1 ≤ n) && decide (n ≤ 4)) = false := by cases h : (decide (1 ≤ n) && decide (n ≤ 4)) <;> rw [h] at z <;> trivial
      exact s_ret a3.fh ev_non fun v F4 H4 a4 hv => no ((a2.trans a3).trans a4) (by rw [eR, e]; rfl) hv
    · have e : (decide (1 ≤ n) && decide (n ≤ 4)) = true := by cases h : (decide (1 ≤ n) && decide (n ≤ 4)) <;> rw [h] at z <;> trivial
      rw [e, Bool.true_and] at eR
      rw [Bool.and_eq_true, decide_eq_true_eq, decide_eq_true_eq] at e
      have z3 := a2.trans a3
      have lw := len_spl (cs ",") b 0 []
      refine q_asg a3.fh (ev_la1 (xs := spl (cs ",") 0 [] b) (dd := tD) (wa_seqL (ev_bmS (ev_var rfl (z3.is h2)) (ea_cons ev_txt ea_nil) (rm_splitX (by decide) (by decide) (by omega)))) (fun l => rowO (tellR l n)) (fun x => rfl) (fun l hl F4 H4 x a4 hx => ?_) (by omega)) fun u F4 H4 a4 hu => ?_
      · have := mem_spl (cs ",") b 0 [] l hl
        simp only [List.length_nil] at this
        exact ev_call (ea_cons (ev_var rfl hx) (ea_cons (ev_var rfl (a4.is (a3.is hv))) ea_nil)) ⟨l, n, rfl, by omega, rfl⟩
      · have eM : (spl (cs ",") 0 [] b).map (fun l => rowO (tellR l n)) = (tellRows b n).map rowO := by unfold tellRows; rw [List.map_map]; rfl
        rw [eM] at hu
        have z4 := z3.trans a4
        refine q_when (b := !(tellRows b n).all Option.isSome) a4.fh (EvT.cast (et_test (ev_op ev_non (ev_var rfl hu) (r2_inL (n := 2) (by decide) rfl (List.all_eq_true.mpr fun d hd => by obtain ⟨o, _, rfl⟩ := List.mem_map.mp hd; exact pb_rowO o)))) ?_) (fun z F5 H5 a5 => ?_) fun z F5 H5 a5 => ?_
        · rw [List.any_map, List.not_all_eq_any_not]
          exact congrArg (fun f => (tellRows b n).any f) (funext fun o => deq_rowO o)
        · have e2 : (tellRows b n).all Option.isSome = false := by cases h : (tellRows b n).all Option.isSome <;> rw [h] at z <;> trivial
          exact s_ret a5.fh ev_non fun v F6 H6 a6 hv => no ((z4.trans a5).trans a6) (by rw [eR, e2]; rfl) hv
        · have e2 : (tellRows b n).all Option.isSome = true := by cases h : (tellRows b n).all Option.isSome <;> rw [h] at z <;> trivial
          rw [e2, Bool.true_and] at eR
          rw [somes e2] at hu
          generalize hrows : (tellRows b n).filterMap id = rows at eR hu
          have hrow : ∀ r ∈ rows, IsRow n r := fun r hr => by
            rw [← hrows] at hr
            obtain ⟨o, ho, e⟩ := List.mem_filterMap.mp hr
            have e : o = some r := e
            subst e
            obtain ⟨l, _, e⟩ := List.mem_map.mp ho
            exact tellR_row e
          have hl : rows.length = (spl (cs ",") 0 [] b).length := by rw [← hrows, somes_len e2]; unfold tellRows; rw [List.length_map]
          have hpos : 0 < rows.length := by rw [hl]; exact List.length_pos_iff.mpr (spl_ne _ _ _ _)
          have z5 := z4.trans a5
          have eD : (List.range (((rows.length : Nat) : Int) - 1).toNat).map (fun i => D.int (1 + (i : Nat))) = (List.range (rows.length - 1)).map (fun i => D.int (1 + (i : Nat))) := by
            rw [show (((rows.length : Nat) : Int) - 1).toNat = rows.length - 1 by omega]
          have hsz : rows.length < 16777216 := by rw [sizeLine_eq] at hb; omega
          have wr := wa_range2 (K := K) (σ := ((L2.start N_relation_told [x, y]).set 2 (some v)).set 3 (some u)) (F := F5) (H := H5) (ta := tCons (tC (.int 1)) (tCons (tCB (Eg.rLen K) (tCons (tVar 3) tNil)) tNil)) (m := 1) (n := (rows.length : Nat)) (ea_cons ev_int (ea_cons (ev_cb (ea_cons (ev_var rfl (a5.is hu)) ea_nil) (rc_len (by show some _ = _; rw [List.length_map]))) ea_nil)) (by omega)
          rw [eD] at wr
          refine q_alla (xs := List.range (rows.length - 1)) (dd := fun i => D.int (1 + (i : Nat))) a5.fh wr (fun i => decide (cd (rows.getD i []) < cd (rows.getD (i + 1) []))) (fun i hi F6 H6 x' a6 hx => ?_) (fun x' F6 H6 a6 => ev_non) (fun y' v' F6 H6 a6 hv' => no (z5.trans a6) (by rw [eR]; unfold ascB; rw [y']; rfl) hv') fun y' σ' F6 H6 a6 hσ hl' => ?_
          · rw [List.mem_range] at hi
            have i1 : i < rows.length := by omega
            have i2 : i + 1 < rows.length := by omega
            have g1 : L2.atI (rows.map rowD) (1 + (i : Nat) - 1) = some (rowD rows[i]) := by
              rw [show (1 + ((i : Nat) : Int) - 1) = (i : Nat) by omega]
              exact atI_of (by omega) (by rw [Int.toNat_natCast, List.getElem?_map, List.getElem?_eq_getElem i1]; rfl)
            have g2 : L2.atI (rows.map rowD) (1 + (i : Nat)) = some (rowD rows[i + 1]) := by
              refine atI_of (by omega) ?_
              rw [show (1 + ((i : Nat) : Int)).toNat = i + 1 by omega, List.getElem?_map, List.getElem?_eq_getElem i2]; rfl
            have d1 : rows.getD i [] = rows[i] := by rw [List.getD_eq_getElem?_getD, List.getElem?_eq_getElem i1]; rfl
            have d2 : rows.getD (i + 1) [] = rows[i + 1] := by rw [List.getD_eq_getElem?_getD, List.getElem?_eq_getElem i2]; rfl
            refine EvT.cast (et_test (ev_op (ev_op (ev_var rfl (a6.is (a5.is hu))) (ev_op (ev_var rfl hx) ev_int r2_sub) (r2_ixL g1)) (ev_op (ev_var rfl (a6.is (a5.is hu))) (ev_var rfl hx) (r2_ixL g2)) (r2_geT (hrow _ (List.getElem_mem i1)) (hrow _ (List.getElem_mem i2))))) ?_
            rw [d1, d2, ← decide_not]
            exact decide_eq_decide.mpr Int.not_lt.symm
          · have eA : ascB rows = true := y'
            have z6 := z5.trans a6
            refine s_ret a6.fh (ev_make (ea_cons (ev_var (hσ 2 (by decide)) (a6.is (a5.is (a4.is (a3.is hv))))) (ea_cons (ev_var (hσ 3 (by decide)) (a6.is (a5.is hu))) ea_nil)) ⟨rows, n, .inl rfl, hrow, hpos, e.1, e.2, by rw [sizeLine_eq]; exact hsz, rfl⟩) fun v' F7 H7 a7 hv' => k v' F7 H7 (z6.trans a7) ?_
            rw [srt_self hrow (asc_of eA)] at hv'
            rw [eR, if_pos eA]
            exact hv'
end
end K08
namespace K08
open PySem L2 Eg
open TL (numL joinL spl)
open PyProof.Rows (boot_int boot_tuple boot_bool boot_list boot_str boot_isinstance boot_range boot_enumerate)
local macro_rules | `(tactic| walk_at "is") => `(tactic| first | assumption | (refine Fx.is (by assumption) ?_; walk_at "is"))
local macro_rules | `(tactic| walk_at "sz") => `(tactic| first | assumption | omega | (show _ ≤ sizeLine; decide) | (show _ < sizeLine; decide))
local macro_rules | `(tactic| walk_at "r2") => `(tactic| first
  | exact r2_addI | exact r2_addS (by walk_at "sz") | exact r2_addT (by walk_at "sz") | exact r2_addL (by walk_at "sz")
  | exact r2_eqI | exact r2_eqS | exact r2_neI | exact r2_neS | exact r2_lt | exact r2_le | exact r2_gt | exact r2_ge | exact r2_sub | exact r2_isN | exact r2_notN)
local macro_rules | `(tactic| walk_at "ea") => `(tactic| first | exact ea_nil | refine ea_cons (by walk_at "ev") (by walk_at "ea"))
local macro_rules | `(tactic| walk_at "ev") => `(tactic| first
  | exact ev_int | exact ev_str | exact ev_bl | exact ev_non
  | refine ev_var rfl (by walk_at "is")
  | refine ev_op (by walk_at "ev") (by walk_at "ev") (by walk_at "r2")
  | refine ev_tup (by walk_at "ea") (by walk_at "sz")
  | refine ev_lst (by walk_at "ea") (by walk_at "sz")
  | refine ev_cb (by walk_at "ea") (by first | exact rc_len rfl | exact rc_intI | exact rc_tupL | exact rc_tupT))

section
variable {P : Program} {w : World} {K : PySem.W.Frag} {mg : Str → Option Value} {base : Heap}
/-! the state of the reading -/
structure RSt where
  told : BR
  cells : Option Nat
  ties : List Tie
def Xr (p pt pq : Addr) : Addr → Prop := fun b => b = p ∨ b = pt ∨ b = pq
def rdF (pt pq : Addr) (bv cv : V) : List (Str × V) := [("told", .ref pt), ("book", bv), ("cells", cv), ("ties", .ref pq)]
def RdAt (T : Tx K mg) (F H : Hp) (p pt pq : Addr) (st : RSt) : Prop := p ≠ pt ∧ p ≠ pq ∧ pt ≠ pq ∧ F p = none ∧ F pq = none ∧ ∃ dx bv cv vt vq, H p = some (.ins T.c_PuzzleReading dx (rdF pt pq bv cv)) ∧ H pt = some (.lst vt) ∧ Iss K F (st.told.map (relD T)) vt ∧
  H pq = some (.lst vq) ∧ Iss K F (st.ties.map tieD) vq ∧ (match st.cells with | none => F pt = none ∧ bv = .non ∧ cv = .non | some m => Is K F (bookD T st.told) bv ∧ cv = .int m)
theorem RdAt.keep {T : Tx K mg} {F H F1 H1 : Hp} {p pt pq : Addr} {st : RSt} (h : RdAt T F H p pt pq st) (a : Fz F H F1 H1) : RdAt T F1 H1 p pt pq st := by
  obtain ⟨n1, n2, n3, f1, f2, dx, bv, cv, vt, vq, h1, h2, h3, h4, h5, h6⟩ := h
  refine ⟨n1, n2, n3, (a.m f1 h1 id).2, (a.m f2 h4 id).2, dx, bv, cv, vt, vq, a.hh _ _ id h1, a.hh _ _ id h2, a.iss h3, a.hh _ _ id h4, a.iss h5, ?_⟩
  cases e : st.cells with
  | none => rw [e] at h6; exact ⟨(a.m h6.1 h2 id).2, h6.2⟩
  | some m => rw [e] at h6; exact ⟨a.is h6.1, h6.2⟩
/-! __init__ -/
def P_Rd_init (T : Tx K mg) : Sp := fun vs H Q _ => ∃ F p dx, Same F H ∧ vs = [V.ref p] ∧ F p = none ∧ H p = some (.ins T.c_PuzzleReading dx []) ∧ ∀ pt pq F' H', Fx (· = p) F H F' H' → H pt = none → H pq = none → RdAt T F' H' p pt pq ⟨[], none, []⟩ → Q .non H'
theorem ok_PuzzleReading_init (T : Tx K mg) : FnOk P w K mg base CX0 1 T.a_PuzzleReading_init T.fd_PuzzleReading_init ["self"] (P_Rd_init T) := by
  refine T.F_PuzzleReading_init.ok sc_PuzzleReading_init (fun vs H Q E ⟨F, p, dx, _, e, _⟩ => by rw [e]; rfl) (fun cdv A outer s H vs Q E hr h => ?_)
  obtain ⟨F, p, dx, s0, rfl, nf, hp, k⟩ := h
  refine ⟨_, (pss_cons (ps_fld (pv 0) (pe_lst pa_nil) rfl)
    (pss_cons (ps_fld (pv 0) pe_non rfl)
    (pss_cons (ps_fld (pv 0) pe_non rfl)
    (pss_one (ps_fld (pv 0) (pe_lst pa_nil) rfl))))), ?_⟩
  refine q_fldL T.o_PuzzleReading.cl T.na_PuzzleReading_told s0 rfl nf hp fz0 evl_nil fun pt acc F1 H1 a1 n1 m1 e1 r1 nf1 ne1 => ?_
  cases r1
  have b1 := (a1.of (X := (· = p))).mut (o := .ins T.c_PuzzleReading dx (putF "told" (.ref pt) [])) (.inr rfl) nf1
  refine q_fldM T.o_PuzzleReading.cl T.na_PuzzleReading_book b1.fh rfl nf1 upd_same fz1 ev_non fun v2 F2 H2 a2 hv2 nf2 => ?_
  have t2 : H2 pt = some (.lst []) := a2.hh pt _ id (by rw [upd_ne (Ne.symm ne1)]; exact e1)
  have n2 : F2 pt = none := (a2.m n1 (by rw [upd_ne (Ne.symm ne1)]; exact e1) id).2
  have b2 := (b1.trans a2.of).mut (o := .ins T.c_PuzzleReading dx (putF "book" v2 (putF "told" (.ref pt) []))) (.inr rfl) nf2
  refine q_fldM T.o_PuzzleReading.cl T.na_PuzzleReading_cells b2.fh rfl nf2 upd_same fz2 ev_non fun v3 F3 H3 a3 hv3 nf3 => ?_
  have u3 : (upd H2 p (.ins T.c_PuzzleReading dx (putF "book" v2 (putF "told" (.ref pt) [])))) pt = some (.lst []) := by rw [upd_ne (Ne.symm ne1)]; exact t2
  have t3 : H3 pt = some (.lst []) := a3.hh pt _ id u3
  have n3 : F3 pt = none := (a3.m n2 u3 id).2
  have b3 := (b2.trans a3.of).mut (o := .ins T.c_PuzzleReading dx (putF "cells" v3 (putF "book" v2 (putF "told" (.ref pt) [])))) (.inr rfl) nf3
  refine s_fldL T.o_PuzzleReading.cl T.na_PuzzleReading_ties b3.fh rfl nf3 upd_same fz3 evl_nil fun pq acc F4 H4 a4 n4 m4 e4 r4 nf4 ne4 => ?_
  cases r4
  have u4 : (upd H3 p (.ins T.c_PuzzleReading dx (putF "cells" v3 (putF "book" v2 (putF "told" (.ref pt) []))))) pt = some (.lst []) := by rw [upd_ne (Ne.symm ne1)]; exact t3
  have t4 : H4 pt = some (.lst []) := a4.hh pt _ id u4
  have n4' : F4 pt = none := (a4.m n3 u4 id).2
  have b4 := (b3.trans a4.of).mut (o := .ins T.c_PuzzleReading dx (putF "ties" (.ref pq) (putF "cells" v3 (putF "book" v2 (putF "told" (.ref pt) []))))) (.inr rfl) nf4
  have npq : pt ≠ pq := fun z => by rw [← z, u4] at m4; cases m4
  cases hv2
  cases hv3
  refine k pt pq F4 _ b4 m1 (none_of_ne fun z => b3.th pq z m4) ⟨ne1, ne4, npq, nf4, n4, dx, .non, .non, [], [], upd_same, ?_, .nil, ?_, .nil, n4', rfl, rfl⟩
  · rw [upd_ne (Ne.symm ne1)]; exact t4
  · rw [upd_ne (Ne.symm ne4)]; exact e4
/-! what a line does -/
def relS (st : RSt) (a b : List Nat) : Option RSt := match tellRel a b with
  | none => none
  | some r => if st.cells.isSome || decide (st.told.length = 6) then none else some { st with told := st.told ++ [r] }
def celS (st : RSt) (a : List Nat) : Option RSt := match tellN a with
  | none => none
  | some m => if st.cells.isSome || decide (st.told.length = 0) then none else some { st with cells := some m }
def tieS (st : RSt) (a b : List Nat) : Option RSt := match st.cells with
  | none => none
  | some m => if tieB st.told m (natD (tellN a)) ((spl (cs ",") 0 [] b).map fun l => natD (tellN l)) then some { st with ties := st.ties ++ [((tellN a).getD 0, (spl (cs ",") 0 [] b).map fun l => (tellN l).getD 0)] } else none
def wordsS (st : RSt) (ws : List (List Nat)) : Option RSt := match ws with
  | [u, a, b] => if u = cs "relation" then relS st a b else if u = cs "tie" then tieS st a b else none
  | [u, a] => if u = cs "cells" then celS st a else none
  | _ => none
def lineS (st : RSt) (l : List Nat) : Option RSt := wordsS st (spl (cs " ") 0 [] l)
/-- a promise of a method of the reading: step what it does -/
def Ptk (T : Tx K mg) (step : RSt → List D → Option RSt) (Pre : List D → Prop) : Sp := fun vs H Q _ => ∃ F p pt pq st ds ws, Same F H ∧ RdAt T F H p pt pq st ∧ st.told.length ≤ 6 ∧ st.ties.length < 1000000 ∧ vs = V.ref p :: ws ∧ Iss K F ds ws ∧ Pre ds ∧
  ∀ F' H' v, Fx (Xr p pt pq) F H F' H' → (match step st ds with | some st' => v = .bl true ∧ RdAt T F' H' p pt pq st' | none => v = .bl false) → Q v H'
def Short (l : List Nat) : Prop := l.length ≤ 10000000
theorem tk_len {T : Tx K mg} {step : RSt → List D → Option RSt} {Pre : List D → Prop} {n : Nat} {vs : List V} {H : Hp} {Q : VK} {E : XK} (h : ∀ ds, Pre ds → ds.length = n) (q : Ptk T step Pre vs H Q E) : vs.length = n + 1 := by
  obtain ⟨F, p, pt, pq, st, ds, ws, _, _, _, _, e, hi, hr, _⟩ := q
  rw [e, List.length_cons, ← hi.length, h ds hr]
/-! take_relation -/
def S_rel : RSt → List D → Option RSt := fun st ds => match ds with | [.lst [_, .str a, .str b]] => relS st a.cps.toList b.cps.toList | _ => none
def P_rel : List D → Prop := fun ds => ∃ u a b : List Nat, ds = [.lst [tD u, tD a, tD b]] ∧ Short a ∧ Short b
theorem ok_PuzzleReading_take_relation (T : Tx K mg) : FnOk P w K mg base CX0 7 T.a_PuzzleReading_take_relation T.fd_PuzzleReading_take_relation ["self", "words"] (Ptk T S_rel P_rel) := by
  refine T.F_PuzzleReading_take_relation.ok sc_PuzzleReading_take_relation (fun vs H Q E h => tk_len (n := 1) (fun ds ⟨_, _, _, e, _⟩ => by rw [e]; rfl) h) (fun cdv A outer s H vs Q E hr h => ?_)
  obtain ⟨F, p, pt, pq, st, ds, ws, s0, rd, t6, tm, rfl, hi, ⟨u, a, b, rfl, ha, hb⟩, k⟩ := h
  obtain ⟨x, rfl, h1⟩ := iss1 hi
  refine ⟨_, (pss_cons (ps_set (i := 2) sc_PuzzleReading_take_relation.nd rfl (by first | exact Or.inl rfl | exact Or.inr rfl) (pe_call (ok_relation_told T) (hr.mono (by decide)) rfl T.mg_relation_told T.F_relation_told.kp T.b_relation_told .nil pass0 (pa_cons (pe_ix (ixK K ix_seq) (pv 1) pe_int (fun _ _ => rfl)) (pa_cons (pe_ix (ixK K ix_seq) (pv 1) pe_int (fun _ _ => rfl)) pa_nil))))
    (pss_cons (ps_if (PW.pt (pw_or (pt_cmpR op_isN1 (pv 2) pe_non (nomark _)) (pw_or (pt_cmpR op_notN1 (pe_fldK K (pv 0) rfl) pe_non (nomark _)) (pw_or1 (pt_cmpR (opK K Eg.rEqA (op_eqA hr)) (pe_callB (callK K Eg.rLen call_lenA) (by rfl) T.n_len (by decide +kernel) (pa_cons (pe_fldK K (pv 0) rfl) pa_nil)) (pe_glob rfl T.mg_MOST_RELATIONS T.rel_MOST_RELATIONS) (nomark _)))))) (pss_one (ps_ret pe_bl)) pss_nil)
    (pss_cons (ps_expr (pe_bmK K PySem.F.plainAttrs_list PySem.F.slot_list_append PySem.F.type_list_append mt_append (pe_fldK K (pv 0) rfl) (pa_cons (pv 2) pa_nil)))
    (pss_one (ps_ret pe_bl))))), ?_⟩
  have k : ∀ F' H' v, Fx (Xr p pt pq) F H F' H' → (match relS st a b with | some st' => v = .bl true ∧ RdAt T F' H' p pt pq st' | none => v = .bl false) → Q v H' := k
  refine q_asg s0 (ev_call (ea_cons (ev_op (ev_var rfl h1) ev_int (r2_ixL (z := tD a) rfl)) (ea_cons (ev_op (ev_var rfl h1) ev_int (r2_ixL (z := tD b) rfl)) ea_nil)) ⟨a, b, rfl, by unfold Short at ha; rw [sizeLine_eq]; omega, by unfold Short at hb; rw [sizeLine_eq]; omega, rfl⟩) fun v F2 H2 a2 hv => ?_
  have rd2 := rd.keep a2
  obtain ⟨n1, n2, n3, f1, f2, dx, bv, cv, vt, vq, e1, e2, e3, e4, e5, e6⟩ := id rd2
  have no : relS st a b = none → ∀ {F3 H3 : Hp} {v : V}, Fz F2 H2 F3 H3 → Is K F3 (.bl false) v → Q v H3 := fun e F3 H3 v z hv => by
    cases hv
    exact k F3 H3 _ (a2.trans z).of (by rw [e])
  cases eR : tellRel a b with
  | none =>
    rw [eR] at hv
    have eS : relS st a b = none := by unfold relS; rw [eR]
    refine q_when (b := true) a2.fh (et_or (x := true) (y := false) (et_test (ev_op (ev_var rfl hv) ev_non r2_isN)) fun z => by cases z) (fun _ F3 H3 a3 => ?_) (fun z => by cases z)
    exact s_ret a3.fh ev_bl fun v F4 H4 a4 hv => no eS (a3.trans a4) hv
  | some r =>
    rw [eR] at hv
    have eS : relS st a b = if st.cells.isSome || decide (st.told.length = 6) then none else some { st with told := st.told ++ [r] } := by unfold relS; rw [eR]
    have ec : ∃ d, Is K F2 d cv ∧ (!isNon d) = st.cells.isSome := by
      cases e : st.cells with
      | none => rw [e] at e6; rw [e6.2.2]; exact ⟨.non, .non, rfl⟩
      | some m => rw [e] at e6; rw [e6.2]; exact ⟨.int m, .int _, rfl⟩
    obtain ⟨dc, hdc, edc⟩ := ec
    have ln : vt.length = st.told.length := by rw [← e3.length, List.length_map]
    refine q_when (b := st.cells.isSome || decide (st.told.length = 6)) a2.fh (EvT.cast (et_or (x := false) (et_test (ev_op (ev_var rfl hv) ev_non r2_isN)) fun _ => et_or (x := st.cells.isSome) (EvT.cast (et_test (ev_op (ev_fldM T.o_PuzzleReading.cl T.na_PuzzleReading_cells rfl f1 e1 rfl hdc) ev_non r2_notN)) edc) fun _ =>
      EvT.cast (b' := decide (st.told.length = 6)) (et_test (ev_op (ev_lenM T.o_PuzzleReading.cl T.na_PuzzleReading_told rfl f1 e1 rfl e2) ev_int r2_eqI)) (by rw [ln]; exact decide_eq_decide.mpr (by omega))) rfl) (fun z F3 H3 a3 => ?_) fun z F3 H3 a3 => ?_
    · rw [z] at eS
      exact s_ret a3.fh ev_bl fun v F4 H4 a4 hv => no eS (a3.trans a4) hv
    · rw [z, if_neg Bool.false_ne_true] at eS
      have zc : st.cells = none := by
        rw [Bool.or_eq_false_iff] at z
        cases e : st.cells with
        | none => rfl
        | some m => rw [e] at z; cases z.1
      rw [zc] at e6
      have rd3 := rd2.keep a3
      have m3 := a3.m e6.1 e2 id
      refine q_appF T.o_PuzzleReading.cl T.na_PuzzleReading_told a3.fh rfl (a3.hh _ _ id e1) rfl m3.2 m3.1 (by rw [ln, sizeLine_eq]; omega) (ev_var rfl (a3.is hv)) fun v4 F4 H4 a4 hv4 n4 => ?_
      have w4 := (((a2.trans a3).trans a4).of (X := Xr p pt pq)).mut (p := pt) (o := .lst (vt ++ [v4])) (.inr (.inr (.inl rfl))) n4
      refine s_ret w4.fh (ev_bl (K := K)) fun v F5 H5 a5 hv => ?_
      cases hv
      refine k F5 H5 _ (w4.trans a5.of) ?_
      rw [eS]
      refine ⟨rfl, ?_⟩
      have a34 := a3.trans a4
      have q1 : (upd H4 pt (.lst (vt ++ [v4]))) p = some (.ins T.c_PuzzleReading dx (rdF pt pq bv cv)) := by rw [upd_ne n1]; exact a34.hh _ _ id e1
      have q2 : (upd H4 pt (.lst (vt ++ [v4]))) pq = some (.lst vq) := by rw [upd_ne (Ne.symm n3)]; exact a34.hh _ _ id e4
      have at4 : RdAt T F4 (upd H4 pt (.lst (vt ++ [v4]))) p pt pq { st with told := st.told ++ [r] } :=
        ⟨n1, n2, n3, (a34.m f1 e1 id).2, (a34.m f2 e4 id).2, dx, bv, cv, vt ++ [v4], vq, q1, upd_same, by rw [List.map_append]; exact (a34.iss e3).snoc hv4, q2, a34.iss e5, by dsimp only; rw [zc]; exact ⟨n4, e6.2⟩⟩
      exact at4.keep a5
end
end K08
namespace K08
open PySem L2 Eg
open TL (numL joinL spl)
open PyProof.Rows (boot_int boot_tuple boot_bool boot_list boot_str boot_isinstance boot_range boot_enumerate)
local macro_rules | `(tactic| walk_at "is") => `(tactic| first | assumption | (refine Fx.is (by assumption) ?_; walk_at "is"))
local macro_rules | `(tactic| walk_at "sz") => `(tactic| first | assumption | omega | (show _ ≤ sizeLine; decide) | (show _ < sizeLine; decide))
local macro_rules | `(tactic| walk_at "r2") => `(tactic| first
  | exact r2_addI | exact r2_addS (by walk_at "sz") | exact r2_addT (by walk_at "sz") | exact r2_addL (by walk_at "sz")
  | exact r2_eqI | exact r2_eqS | exact r2_neI | exact r2_neS | exact r2_lt | exact r2_le | exact r2_gt | exact r2_ge | exact r2_sub | exact r2_isN | exact r2_notN)
local macro_rules | `(tactic| walk_at "ea") => `(tactic| first | exact ea_nil | refine ea_cons (by walk_at "ev") (by walk_at "ea"))
local macro_rules | `(tactic| walk_at "ev") => `(tactic| first
  | exact ev_int | exact ev_str | exact ev_bl | exact ev_non
  | refine ev_var rfl (by walk_at "is")
  | refine ev_op (by walk_at "ev") (by walk_at "ev") (by walk_at "r2")
  | refine ev_tup (by walk_at "ea") (by walk_at "sz")
  | refine ev_lst (by walk_at "ea") (by walk_at "sz")
  | refine ev_cb (by walk_at "ea") (by first | exact rc_len rfl | exact rc_intI | exact rc_tupL | exact rc_tupT))

section
variable {P : Program} {w : World} {K : PySem.W.Frag} {mg : Str → Option Value} {base : Heap}
/-! take_cells -/
def S_cel : RSt → List D → Option RSt := fun st ds => match ds with | [.lst [_, .str a]] => celS st a.cps.toList | _ => none
def P_cel : List D → Prop := fun ds => ∃ u a : List Nat, ds = [.lst [tD u, tD a]] ∧ Short a
theorem ok_PuzzleReading_take_cells (T : Tx K mg) : FnOk P w K mg base CX0 5 T.a_PuzzleReading_take_cells T.fd_PuzzleReading_take_cells ["self", "words"] (Ptk T S_cel P_cel) := by
  refine T.F_PuzzleReading_take_cells.ok sc_PuzzleReading_take_cells (fun vs H Q E h => tk_len (n := 1) (fun ds ⟨_, _, e, _⟩ => by rw [e]; rfl) h) (fun cdv A outer s H vs Q E hr h => ?_)
  obtain ⟨F, p, pt, pq, st, ds, ws, s0, rd, t6, tm, rfl, hi, ⟨u, a, rfl, ha⟩, k⟩ := h
  obtain ⟨x, rfl, h1⟩ := iss1 hi
  refine ⟨_, (pss_cons (ps_set (i := 2) sc_PuzzleReading_take_cells.nd rfl (by first | exact Or.inl rfl | exact Or.inr rfl) (pe_call (ok_number_told T) (hr.mono (by decide)) rfl T.mg_number_told T.F_number_told.kp T.b_number_told .nil pass0 (pa_cons (pe_ix (ixK K ix_seq) (pv 1) pe_int (fun _ _ => rfl)) pa_nil)))
    (pss_cons (ps_if (PW.pt (pw_or (pt_cmpR op_isN1 (pv 2) pe_non (nomark _)) (pw_or (pt_cmpR op_notN1 (pe_fldK K (pv 0) rfl) pe_non (nomark _)) (pw_or1 (pt_cmpR (opK K Eg.rEqA (op_eqA hr)) (pe_callB (callK K Eg.rLen call_lenA) (by rfl) T.n_len (by decide +kernel) (pa_cons (pe_fldK K (pv 0) rfl) pa_nil)) pe_int (nomark _)))))) (pss_one (ps_ret pe_bl)) pss_nil)
    (pss_cons (ps_fld (pv 0) (pv 2) rfl)
    (pss_cons (ps_fld (pv 0) (pe_make T.M_Book (ok_Book_init T) (hr.mono (by decide)) rfl T.mc_Book T.b_Book_init .nil pass0 (pa_cons (pe_fldK K (pv 0) rfl) pa_nil)) rfl)
    (pss_one (ps_ret pe_bl)))))), ?_⟩
  have k : ∀ F' H' v, Fx (Xr p pt pq) F H F' H' → (match celS st a with | some st' => v = .bl true ∧ RdAt T F' H' p pt pq st' | none => v = .bl false) → Q v H' := k
  refine q_asg s0 (ev_call (ea_cons (ev_op (ev_var rfl h1) ev_int (r2_ixL (z := tD a) rfl)) ea_nil) ⟨a, rfl, by unfold Short at ha; rw [sizeLine_eq]; omega, rfl⟩) fun v F2 H2 a2 hv => ?_
  have rd2 := rd.keep a2
  obtain ⟨n1, n2, n3, f1, f2, dx, bv, cv, vt, vq, e1, e2, e3, e4, e5, e6⟩ := id rd2
  have no : celS st a = none → ∀ {F3 H3 : Hp} {v : V}, Fz F2 H2 F3 H3 → Is K F3 (.bl false) v → Q v H3 := fun e F3 H3 v z hv => by
    cases hv
    exact k F3 H3 _ (a2.trans z).of (by rw [e])
  cases eR : tellN a with
  | none =>
    rw [eR] at hv
    have eS : celS st a = none := by unfold celS; rw [eR]
    refine q_when (b := true) a2.fh (et_or (x := true) (y := false) (et_test (ev_op (ev_var rfl hv) ev_non r2_isN)) fun z => by cases z) (fun _ F3 H3 a3 => ?_) (fun z => by cases z)
    exact s_ret a3.fh ev_bl fun v F4 H4 a4 hv => no eS (a3.trans a4) hv
  | some m =>
    rw [eR] at hv
    have eS : celS st a = if st.cells.isSome || decide (st.told.length = 0) then none else some { st with cells := some m } := by unfold celS; rw [eR]
    have ec : ∃ d, Is K F2 d cv ∧ (!isNon d) = st.cells.isSome := by
      cases e : st.cells with
      | none => rw [e] at e6; rw [e6.2.2]; exact ⟨.non, .non, rfl⟩
      | some m => rw [e] at e6; rw [e6.2]; exact ⟨.int m, .int _, rfl⟩
    obtain ⟨dc, hdc, edc⟩ := ec
    have ln : vt.length = st.told.length := by rw [← e3.length, List.length_map]
    refine q_when (b := st.cells.isSome || decide (st.told.length = 0)) a2.fh (EvT.cast (et_or (x := false) (et_test (ev_op (ev_var rfl hv) ev_non r2_isN)) fun _ => et_or (x := st.cells.isSome) (EvT.cast (et_test (ev_op (ev_fldM T.o_PuzzleReading.cl T.na_PuzzleReading_cells rfl f1 e1 rfl hdc) ev_non r2_notN)) edc) fun _ =>
      EvT.cast (b' := decide (st.told.length = 0)) (et_test (ev_op (ev_lenM T.o_PuzzleReading.cl T.na_PuzzleReading_told rfl f1 e1 rfl e2) ev_int r2_eqI)) (by rw [ln]; exact decide_eq_decide.mpr (by omega))) rfl) (fun z F3 H3 a3 => ?_) fun z F3 H3 a3 => ?_
    · rw [z] at eS
      exact s_ret a3.fh ev_bl fun v F4 H4 a4 hv => no eS (a3.trans a4) hv
    · rw [z, if_neg Bool.false_ne_true] at eS
      rw [Bool.or_eq_false_iff] at z
      have zc : st.cells = none := by
        cases e : st.cells with
        | none => rfl
        | some m => rw [e] at z; cases z.1
      have z0 : 0 < st.told.length := by have := of_decide_eq_false z.2; omega
      rw [zc] at e6
      have m3 := a3.m e6.1 e2 id
      have mp := a3.m f1 e1 id
      refine q_fldM T.o_PuzzleReading.cl T.na_PuzzleReading_cells a3.fh rfl mp.2 mp.1 (show (4 : Nat) < 1000 by decide) (ev_var rfl (a3.is hv)) fun v4 F4 H4 a4 hv4 nf4 => ?_
      have a34 := a3.trans a4
      cases hv4
      have p4 : (upd H4 p (.ins T.c_PuzzleReading dx (putF "cells" (.int m) (rdF pt pq bv cv)))) p = some (.ins T.c_PuzzleReading dx (rdF pt pq bv (.int m))) := upd_same
      generalize hG : upd H4 p (.ins T.c_PuzzleReading dx (putF "cells" (.int m) (rdF pt pq bv cv))) = G4 at p4 ⊢
      have t4 : G4 pt = some (.lst vt) := by rw [← hG, upd_ne (Ne.symm n1)]; exact a34.hh _ _ id e2
      have q4 : G4 pq = some (.lst vq) := by rw [← hG, upd_ne (Ne.symm n2)]; exact a34.hh _ _ id e4
      have nt4 : F4 pt = none := (a34.m e6.1 e2 id).2
      have w4 : Fx (Xr p pt pq) F2 H2 F4 G4 := by rw [← hG]; exact (a34.of (X := Xr p pt pq)).mut (.inr (.inl rfl)) nf4
      have w5 := w4.freezeX (p := pt) (.inr (.inl rfl)) e6.1 t4
      have up5 : Same F4 (upd F4 pt (.lst vt)) := by
        intro c o ec; rw [upd_ne (ne_of_none ec nt4)]; exact ec
      have nf5 : (upd F4 pt (.lst vt)) p = none := by rw [upd_ne n1]; exact nf4
      have told5 : Is K (upd F4 pt (.lst vt)) (.lst (st.told.map (relD T))) (.ref pt) := .lst upd_same (Iss.up up5 _ _ (a34.iss e3))
      refine q_fldM T.o_PuzzleReading.cl T.na_PuzzleReading_book w5.fh rfl nf5 p4 (show (4 : Nat) < 1000 by decide) (ev_make (ea_cons (ev_fldM T.o_PuzzleReading.cl T.na_PuzzleReading_told rfl nf5 p4 rfl told5) ea_nil) ⟨st.told, rfl, z0, t6, rfl⟩) fun v6 F6 H6 a6 hv6 nf6 => ?_
      have w6 := (w5.trans a6.of).mut (p := p) (o := .ins T.c_PuzzleReading dx (putF "book" v6 (rdF pt pq bv (.int m)))) (.inr (.inl rfl)) nf6
      refine s_ret w6.fh (ev_bl (K := K)) fun v F7 H7 a7 hv => ?_
      cases hv
      refine k F7 H7 _ ((a2.of.trans w6).trans a7.of) ?_
      rw [eS]
      refine ⟨rfl, ?_⟩
      have t6' : H6 pt = some (.lst vt) := a6.hh _ _ id t4
      have q6' : H6 pq = some (.lst vq) := a6.hh _ _ id q4
      have nq : F6 pq = none := a6.fr pq id (by rw [upd_ne (Ne.symm n3)]; exact (a34.m f2 e4 id).2) (some_ne q4)
      have at6 : RdAt T F6 (upd H6 p (.ins T.c_PuzzleReading dx (putF "book" v6 (rdF pt pq bv (.int m))))) p pt pq { st with cells := some m } :=
        ⟨n1, n2, n3, nf6, nq, dx, v6, .int m, vt, vq, upd_same, by rw [upd_ne (Ne.symm n1)]; exact t6', a6.iss (Iss.up up5 _ _ (a34.iss e3)), by rw [upd_ne (Ne.symm n2)]; exact q6', a6.iss (Iss.up up5 _ _ (a34.iss e5)), ⟨hv6, rfl⟩⟩
      exact at6.keep a7
/-! take_tie -/
def S_tie : RSt → List D → Option RSt := fun st ds => match ds with | [.lst [_, .str a, .str b]] => tieS st a.cps.toList b.cps.toList | _ => none
theorem natD_ty (o : Option Nat) : (tyD (natD o)).isSome = true := by cases o <;> rfl
theorem tie_all {b : BR} {m : Nat} {o : Option Nat} {l : List (Option Nat)} (h : tieB b m (natD o) (l.map natD) = true) : natD o = .int ((o.getD 0 : Nat)) ∧ l.map natD = (l.map fun x => x.getD 0).map fun c => D.int (c : Nat) := by
  unfold tieB at h
  rw [Bool.and_eq_true] at h
  cases o with
  | none => cases h.1
  | some r =>
    refine ⟨rfl, ?_⟩
    have h2 := h.2
    simp only [natD] at h2
    split at h2
    · rename_i r' hr
      rw [Bool.and_eq_true, List.all_eq_true] at h2
      rw [List.map_map]
      refine List.map_congr_left fun x hx => ?_
      have := h2.2 (natD x) (List.mem_map.mpr ⟨x, hx, rfl⟩)
      cases x with
      | none => cases this
      | some c => rfl
    · cases h2
theorem ok_PuzzleReading_take_tie (T : Tx K mg) : FnOk P w K mg base CX0 5 T.a_PuzzleReading_take_tie T.fd_PuzzleReading_take_tie ["self", "words"] (Ptk T S_tie P_rel) := by
  refine T.F_PuzzleReading_take_tie.ok sc_PuzzleReading_take_tie (fun vs H Q E h => tk_len (n := 1) (fun ds ⟨_, _, _, e, _⟩ => by rw [e]; rfl) h) (fun cdv A outer s H vs Q E hr h => ?_)
  obtain ⟨F, p, pt, pq, st, ds, ws, s0, rd, t6, tm, rfl, hi, ⟨u, a, b, rfl, ha, hb⟩, k⟩ := h
  obtain ⟨x, rfl, h1⟩ := iss1 hi
  refine ⟨_, (pss_cons (ps_set (i := 2) sc_PuzzleReading_take_tie.nd rfl (by first | exact Or.inl rfl | exact Or.inr rfl) (pe_tup (pa_cons (pe_call (ok_number_told T) (hr.mono (by decide)) rfl T.mg_number_told T.F_number_told.kp T.b_number_told .nil pass0 (pa_cons (pe_ix (ixK K ix_seq) (pv 1) pe_int (fun _ _ => rfl)) pa_nil)) (pa_cons (pe_callTy (callK K Eg.rTupOf call_tupOf) (by rfl) T.n_tuple (by decide +kernel) (pa_cons (pe_lc (own := [("word", 3)]) rfl sc_PuzzleReading_take_tie.nd (pi_seqK K (pe_bmK K PySem.F.plainAttrs_str PySem.F.slot_str_split PySem.F.type_str_split mt_splitA (pe_ix (ixK K ix_seq) (pv 1) pe_int (fun _ _ => rfl)) (pa_cons pe_str pa_nil))) (blkOk_by (own := [("word", 3)]) (N := N_PuzzleReading_take_tie) (sc := defScope s_PuzzleReading_take_tie) (by decide +kernel)) (fun _ _ _ _ _ => (pg_name (i := 3) sc_PuzzleReading_take_tie.nd rfl (by first | exact Or.inl rfl | exact Or.inr rfl))) (fun _ _ _ _ _ => pts_nil) (fun _ _ _ _ _ => (pe_call (ok_number_told T) (hr.mono (by decide)) rfl T.mg_number_told T.F_number_told.kp T.b_number_told .nil pass0 (pa_cons (pv 3) pa_nil)))) pa_nil)) pa_nil))))
    (pss_cons (ps_if (PW.pt (pw_or (pt_cmpR op_isN1 (pe_fldK K (pv 0) rfl) pe_non (nomark _)) (pw_or1 (pt_not (pt_val (pe_call (ok_is_tie T) (hr.mono (by decide)) rfl T.mg_is_tie T.F_is_tie.kp T.b_is_tie .nil pass0 (pa_cons (pe_fldK K (pv 0) rfl) (pa_cons (pe_fldK K (pv 0) rfl) (pa_cons (pv 2) pa_nil))))))))) (pss_one (ps_ret pe_bl)) pss_nil)
    (pss_cons (ps_expr (pe_bmK K PySem.F.plainAttrs_list PySem.F.slot_list_append PySem.F.type_list_append mt_append (pe_fldK K (pv 0) rfl) (pa_cons (pv 2) pa_nil)))
    (pss_one (ps_ret pe_bl))))), ?_⟩
  have k : ∀ F' H' v, Fx (Xr p pt pq) F H F' H' → (match tieS st a b with | some st' => v = .bl true ∧ RdAt T F' H' p pt pq st' | none => v = .bl false) → Q v H' := k
  unfold Short at ha hb
  have lw := len_spl (cs ",") b 0 []
  have g1 : ∀ {F1 H1 : Hp}, Is K F1 (.lst [tD u, tD a, tD b]) x → Ev K (tOp (rIx K) (tVar 1) (tC (.int 1))) (L2.start N_PuzzleReading_take_tie [V.ref p, x]) F1 H1 (tD a) := fun h => ev_op (ev_var rfl h) ev_int (r2_ixL rfl)
  have g2 : ∀ {F1 H1 : Hp}, Is K F1 (.lst [tD u, tD a, tD b]) x → Ev K (tOp (rIx K) (tVar 1) (tC (.int 2))) (L2.start N_PuzzleReading_take_tie [V.ref p, x]) F1 H1 (tD b) := fun h => ev_op (ev_var rfl h) ev_int (r2_ixL rfl)
  refine q_asg s0 (ev_tup (ea_cons (ev_call (ea_cons (g1 h1) ea_nil) ⟨a, rfl, by rw [sizeLine_eq]; omega, rfl⟩) (ea_cons (ev_cb (ea_cons (ev_la1 (xs := spl (cs ",") 0 [] b) (dd := tD) (wa_seqL (ev_bmS (g2 h1) (ea_cons ev_txt ea_nil) (rm_splitX (by decide) (by decide) (by rw [sizeLine_eq]; omega)))) (fun l => natD (tellN l)) (fun x => rfl) (fun l hl F1 H1 x' a1 hx => ev_call (ea_cons (ev_var rfl hx) ea_nil) ⟨l, rfl, ?_, rfl⟩) (by rw [sizeLine_eq]; omega)) ea_nil) rc_tupL) ea_nil)) (by show 2 ≤ sizeLine; decide)) fun v F2 H2 a2 hv => ?_
  · have := mem_spl (cs ",") b 0 [] l hl
    simp only [List.length_nil] at this
    rw [sizeLine_eq]; omega
  have rd2 := rd.keep a2
  obtain ⟨n1, n2, n3, f1, f2, dx, bv, cv, vt, vq, e1, e2, e3, e4, e5, e6⟩ := id rd2
  have no : tieS st a b = none → ∀ {F3 H3 : Hp} {v : V}, Fz F2 H2 F3 H3 → Is K F3 (.bl false) v → Q v H3 := fun e F3 H3 v z hv => by
    cases hv
    exact k F3 H3 _ (a2.trans z).of (by rw [e])
  cases zc : st.cells with
  | none =>
    have eS : tieS st a b = none := by unfold tieS; rw [zc]
    rw [zc] at e6
    refine q_when (b := true) a2.fh (et_or (x := true) (y := false) (et_test (ev_op (ev_fldM T.o_PuzzleReading.cl T.na_PuzzleReading_cells rfl f1 e1 rfl (by rw [e6.2.2]; exact .non)) ev_non r2_isN)) fun z => by cases z) (fun _ F3 H3 a3 => ?_) (fun z => by cases z)
    exact s_ret a3.fh ev_bl fun v F4 H4 a4 hv => no eS (a3.trans a4) hv
  | some m =>
    have eS : tieS st a b = if tieB st.told m (natD (tellN a)) ((spl (cs ",") 0 [] b).map fun l => natD (tellN l)) then some { st with ties := st.ties ++ [((tellN a).getD 0, (spl (cs ",") 0 [] b).map fun l => (tellN l).getD 0)] } else none := by unfold tieS; rw [zc]
    rw [zc] at e6
    refine q_when (b := !tieB st.told m (natD (tellN a)) ((spl (cs ",") 0 [] b).map fun l => natD (tellN l))) a2.fh (EvT.cast (et_or (x := false) (et_test (ev_op (ev_fldM (d := .int m) T.o_PuzzleReading.cl T.na_PuzzleReading_cells rfl f1 e1 rfl (by rw [e6.2]; exact .int _)) ev_non r2_isN)) fun _ =>
      et_not (et_test (ev_call (ea_cons (ev_fldM T.o_PuzzleReading.cl T.na_PuzzleReading_book rfl f1 e1 rfl e6.1) (ea_cons (ev_fldM (d := .int m) T.o_PuzzleReading.cl T.na_PuzzleReading_cells rfl f1 e1 rfl (by rw [e6.2]; exact .int _)) (ea_cons (ev_var rfl hv) ea_nil))) ⟨st.told, m, _, _, rfl, natD_ty _, t6, fun c hc => ?_, rfl⟩))) rfl) (fun z F3 H3 a3 => ?_) fun z F3 H3 a3 => ?_
    · obtain ⟨l, _, rfl⟩ := List.mem_map.mp hc
      exact natD_ty _
    · have e : tieB st.told m (natD (tellN a)) ((spl (cs ",") 0 [] b).map fun l => natD (tellN l)) = false := by
        cases h : tieB st.told m (natD (tellN a)) ((spl (cs ",") 0 [] b).map fun l => natD (tellN l)) <;> rw [h] at z <;> trivial
      rw [e, if_neg Bool.false_ne_true] at eS
      exact s_ret a3.fh ev_bl fun v F4 H4 a4 hv => no eS (a3.trans a4) hv
    · have e : tieB st.told m (natD (tellN a)) ((spl (cs ",") 0 [] b).map fun l => natD (tellN l)) = true := by
        cases h : tieB st.told m (natD (tellN a)) ((spl (cs ",") 0 [] b).map fun l => natD (tellN l)) <;> rw [h] at z <;> trivial
      rw [e, if_pos rfl] at eS
      have em : ((spl (cs ",") 0 [] b).map fun l => natD (tellN l)) = ((spl (cs ",") 0 [] b).map tellN).map natD := by rw [List.map_map]; rfl
      rw [em] at e hv
      obtain ⟨i1, i2⟩ := tie_all e
      have hv' : Is K F2 (tieD ((tellN a).getD 0, (spl (cs ",") 0 [] b).map fun l => (tellN l).getD 0)) v := by
        rw [i1, i2, List.map_map, List.map_map] at hv
        unfold tieD intsD
        rw [List.map_map]
        exact hv
      have ln : vq.length = st.ties.length := by rw [← e5.length, List.length_map]
      have m3 := a3.m f2 e4 id
      refine q_appF T.o_PuzzleReading.cl T.na_PuzzleReading_ties a3.fh rfl (a3.hh _ _ id e1) rfl m3.2 m3.1 (by rw [ln, sizeLine_eq]; omega) (ev_var rfl (a3.is hv')) fun v4 F4 H4 a4 hv4 n4 => ?_
      have w4 := (((a2.trans a3).trans a4).of (X := Xr p pt pq)).mut (p := pq) (o := .lst (vq ++ [v4])) (.inr (.inr (.inr rfl))) n4
      refine s_ret w4.fh (ev_bl (K := K)) fun v F5 H5 a5 hv => ?_
      cases hv
      refine k F5 H5 _ (w4.trans a5.of) ?_
      rw [eS]
      refine ⟨rfl, ?_⟩
      have a34 := a3.trans a4
      have q1 : (upd H4 pq (.lst (vq ++ [v4]))) p = some (.ins T.c_PuzzleReading dx (rdF pt pq bv cv)) := by rw [upd_ne n2]; exact a34.hh _ _ id e1
      have q2 : (upd H4 pq (.lst (vq ++ [v4]))) pt = some (.lst vt) := by rw [upd_ne n3]; exact a34.hh _ _ id e2
      have at4 : RdAt T F4 (upd H4 pq (.lst (vq ++ [v4]))) p pt pq { st with ties := st.ties ++ [((tellN a).getD 0, (spl (cs ",") 0 [] b).map fun l => (tellN l).getD 0)] } :=
        ⟨n1, n2, n3, (a34.m f1 e1 id).2, n4, dx, bv, cv, vt, vq ++ [v4], q1, q2, a34.iss e3, upd_same, by rw [List.map_append]; exact (a34.iss e5).snoc hv4, by dsimp only; rw [zc]; exact ⟨a34.is e6.1, e6.2⟩⟩
      exact at4.keep a5
theorem len2 {α : Type} : ∀ {l : List α}, l.length = 2 → ∃ a b, l = [a, b]
  | [a, b], _ => ⟨a, b, rfl⟩
theorem len3 {α : Type} : ∀ {l : List α}, l.length = 3 → ∃ a b c, l = [a, b, c]
  | [a, b, c], _ => ⟨a, b, c, rfl⟩
/-! take -/
def S_line : RSt → List D → Option RSt := fun st ds => match ds with | [.str l] => lineS st l.cps.toList | _ => none
def P_line : List D → Prop := fun ds => ∃ l : List Nat, ds = [tD l] ∧ Short l
theorem lenI {n m : Nat} : decide (((n : Nat) : Int) = (m : Nat)) = decide (n = m) := dNN
theorem ok_PuzzleReading_take (T : Tx K mg) : FnOk P w K mg base CX0 8 T.a_PuzzleReading_take T.fd_PuzzleReading_take ["self", "line"] (Ptk T S_line P_line) := by
  refine T.F_PuzzleReading_take.ok sc_PuzzleReading_take (fun vs H Q E h => tk_len (n := 1) (fun ds ⟨_, e, _⟩ => by rw [e]; rfl) h) (fun cdv A outer s H vs Q E hr h => ?_)
  obtain ⟨F, p, pt, pq, st, ds, ws, s0, rd, t6, tm, rfl, hi, ⟨l, rfl, hl⟩, k⟩ := h
  obtain ⟨x, rfl, h1⟩ := iss1 hi
  refine ⟨_, (pss_cons (ps_set (i := 2) sc_PuzzleReading_take.nd rfl (by first | exact Or.inl rfl | exact Or.inr rfl) (pe_bmK K PySem.F.plainAttrs_str PySem.F.slot_str_split PySem.F.type_str_split mt_splitA (pv 1) (pa_cons pe_str pa_nil)))
    (pss_cons (ps_if (PW.pt (pw_and (pt_cmpR (opK K Eg.rEqA (op_eqA hr)) (pe_callB (callK K Eg.rLen call_lenA) (by rfl) T.n_len (by decide +kernel) (pa_cons (pv 2) pa_nil)) pe_int (nomark _)) (pw_and1 (pt_cmpR (opK K Eg.rEqA (op_eqA hr)) (pe_ix (ixK K ix_seq) (pv 2) pe_int (fun _ _ => rfl)) pe_str (nomark _))))) (pss_one (ps_ret (pe_meth (pv 0) T.o_PuzzleReading.cl T.m_PuzzleReading_take_relation (ok_PuzzleReading_take_relation T) (hr.mono (by decide)) T.b_PuzzleReading_take_relation .nil pass0 (pa_cons (pv 2) pa_nil)))) pss_nil)
    (pss_cons (ps_if (PW.pt (pw_and (pt_cmpR (opK K Eg.rEqA (op_eqA hr)) (pe_callB (callK K Eg.rLen call_lenA) (by rfl) T.n_len (by decide +kernel) (pa_cons (pv 2) pa_nil)) pe_int (nomark _)) (pw_and1 (pt_cmpR (opK K Eg.rEqA (op_eqA hr)) (pe_ix (ixK K ix_seq) (pv 2) pe_int (fun _ _ => rfl)) pe_str (nomark _))))) (pss_one (ps_ret (pe_meth (pv 0) T.o_PuzzleReading.cl T.m_PuzzleReading_take_cells (ok_PuzzleReading_take_cells T) (hr.mono (by decide)) T.b_PuzzleReading_take_cells .nil pass0 (pa_cons (pv 2) pa_nil)))) pss_nil)
    (pss_one (ps_ret (pe_and (pe_cmpR (opK K Eg.rEqA (op_eqA hr)) (pe_callB (callK K Eg.rLen call_lenA) (by rfl) T.n_len (by decide +kernel) (pa_cons (pv 2) pa_nil)) pe_int (nomark _)) (pe_and (pe_cmpR (opK K Eg.rEqA (op_eqA hr)) (pe_ix (ixK K ix_seq) (pv 2) pe_int (fun _ _ => rfl)) pe_str (nomark _)) (pe_one (pe_meth (pv 0) T.o_PuzzleReading.cl T.m_PuzzleReading_take_tie (ok_PuzzleReading_take_tie T) (hr.mono (by decide)) T.b_PuzzleReading_take_tie .nil pass0 (pa_cons (pv 2) pa_nil)))))))))), ?_⟩
  have k : ∀ F' H' v, Fx (Xr p pt pq) F H F' H' → (match lineS st l with | some st' => v = .bl true ∧ RdAt T F' H' p pt pq st' | none => v = .bl false) → Q v H' := k
  have hl' := hl
  unfold Short at hl
  have ms := mem_spl (cs " ") l 0 []
  refine q_asg s0 (ev_bmS (ev_var rfl h1) (ea_cons ev_txt ea_nil) (rm_splitX (by decide) (by decide) (by rw [sizeLine_eq]; omega))) fun v F2 H2 a2 hv => ?_
  have rd2 := rd.keep a2
  obtain ⟨n1, n2, n3, f1, f2, dx, bv, cv, vt, vq, e1, _⟩ := id rd2
  unfold lineS at k
  have lws := len_spl (cs " ") l 0 []
  generalize spl (cs " ") 0 [] l = ws at hv ms k lws
  have sh : ∀ q ∈ ws, Short q := fun q hq => by have := ms q hq; simp only [List.length_nil] at this; unfold Short; omega
  have lw : ∀ {F1 H1 : Hp} (c : Int), Fz F2 H2 F1 H1 → Ev K (tOp (Eg.rEqA K) (tCB (Eg.rLen K) (tCons (tVar 2) tNil)) (tC (.int c))) ((L2.start N_PuzzleReading_take [V.ref p, x]).set 2 (some v)) F1 H1 (.bl (decide (((ws.length : Nat) : Int) = c))) := fun c z =>
    ev_op (ev_cb (ea_cons (ev_var rfl (z.is hv)) ea_nil) (rc_len (by show some _ = _; rw [List.length_map]))) ev_int r2_eqI
  have w0 : ∀ {F1 H1 : Hp} (c : String) {q : List Nat} {r : List (List Nat)}, Fz F2 H2 F1 H1 → ws = q :: r → Ev K (tOp (Eg.rEqA K) (tOp (rIx K) (tVar 2) (tC (.int 0))) (tC (.str (Str.ofString c)))) ((L2.start N_PuzzleReading_take [V.ref p, x]).set 2 (some v)) F1 H1 (.bl (decide (q = cs c))) := fun c q r z e =>
    ev_op (ev_op (ev_var rfl (z.is hv)) ev_int (r2_ixL (z := tD q) (by rw [e]; exact atI_of (Int.le_refl 0) rfl))) ev_txt r2_eqX
  have no : wordsS st ws = none → ∀ {F3 H3 : Hp} {v : V}, Fz F2 H2 F3 H3 → Is K F3 (.bl false) v → Q v H3 := fun e F3 H3 v z hv => by
    cases hv
    exact k F3 H3 _ (a2.trans z).of (by rw [e])
  by_cases h3 : ws.length = 3
  · obtain ⟨u, a, b, rfl⟩ := len3 h3
    have su := sh u (by simp)
    have sa := sh a (by simp)
    have sb := sh b (by simp)
    refine q_when (b := decide (u = cs "relation")) a2.fh (et_and (x := true) (et_test (lw 3 (Fx.refl a2.fh))) fun _ => et_test (w0 "relation" (Fx.refl a2.fh) rfl)) (fun z F3 H3 a3 => ?_) fun z F3 H3 a3 => ?_
    · have e := of_decide_eq_true z
      have a23 := a2.trans a3
      refine m_call rfl (a3.hh _ _ id e1) rfl ((ea_cons (ev_var rfl (a3.is hv)) ea_nil : EvA K _ _ F3 H3 _).go a3.fh fun vs F4 H4 a4 hvs => ?_)
      refine ⟨F4, p, pt, pq, st, _, vs, a4.fh, rd.keep (a23.trans a4), t6, tm, rfl, hvs, ⟨u, a, b, rfl, sa, sb⟩, fun F5 H5 v5 w5 h5 => ?_⟩
      refine k F5 H5 v5 ((a23.trans a4).of.trans w5) ?_
      have : wordsS st [u, a, b] = relS st a b := by show (if u = cs "relation" then _ else _) = _; rw [if_pos e]
      rw [this]; exact h5
    · have e := of_decide_eq_false z
      refine q_when (b := false) a3.fh (et_and (x := false) (y := false) (et_test (lw 2 a3)) fun z => by cases z) (fun z => by cases z) fun _ F4 H4 a4 => ?_
      have a34 := a3.trans a4
      show tAndV _ _ _ _ _
      refine (lw 3 a34).go a4.fh fun v5 F5 H5 a5 hv5 => ?_
      cases hv5
      refine ⟨_, rfl, iteT ?_⟩
      have a35 := a34.trans a5
      refine (w0 "tie" a35 rfl).go a5.fh fun v6 F6 H6 a6 hv6 => ?_
      cases hv6
      refine ⟨_, rfl, ?_⟩
      have a36 := a35.trans a6
      have a26 := a2.trans a36
      by_cases et : u = cs "tie"
      · rw [if_pos (decide_eq_true et)]
        refine m_call rfl (a36.hh _ _ id e1) rfl ((ea_cons (ev_var rfl (a36.is hv)) ea_nil : EvA K _ _ F6 H6 _).go a6.fh fun vs F7 H7 a7 hvs => ?_)
        refine ⟨F7, p, pt, pq, st, _, vs, a7.fh, rd.keep (a26.trans a7), t6, tm, rfl, hvs, ⟨u, a, b, rfl, sa, sb⟩, fun F8 H8 v8 w8 h8 => ?_⟩
        refine k F8 H8 v8 ((a26.trans a7).of.trans w8) ?_
        have : wordsS st [u, a, b] = tieS st a b := by show (if u = cs "relation" then _ else if u = cs "tie" then _ else _) = _; rw [if_neg e, if_pos et]
        rw [this]; exact h8
      · rw [if_neg (by rw [decide_eq_false et]; exact Bool.false_ne_true)]
        exact no (by show (if u = cs "relation" then _ else if u = cs "tie" then _ else _) = _; rw [if_neg e, if_neg et]) a36 (.bl false)
  · have f3 : decide (((ws.length : Nat) : Int) = 3) = false := decide_eq_false (by omega)
    refine q_when (b := false) a2.fh (et_and (x := false) (y := false) (EvT.cast (et_test (lw 3 (Fx.refl a2.fh))) f3) fun z => by cases z) (fun z => by cases z) fun _ F3 H3 a3 => ?_
    have fin : wordsS st ws = none → ∀ {F4 H4 : Hp}, Fz F2 H2 F4 H4 → tRet (tAndV (tOp (Eg.rEqA K) (tCB (Eg.rLen K) (tCons (tVar 2) tNil)) (tC (.int 3))) (tAndV (tOp (Eg.rEqA K) (tOp (rIx K) (tVar 2) (tC (.int 0))) (tC (.str (Str.ofString "tie")))) (tMeth T.c_PuzzleReading "take_tie" (Ptk T S_tie P_rel) [] E0 (tVar 0) (tCons (tVar 2) tNil)))) { nx := fun _ H' => Q V.non H', rt := Q } ((L2.start N_PuzzleReading_take [V.ref p, x]).set 2 (some v)) H4 := fun e F4 H4 a4 => by
      show tAndV _ _ _ _ _
      refine (lw 3 a4).go a4.fh fun v5 F5 H5 a5 hv5 => ?_
      cases hv5
      refine ⟨_, rfl, ?_⟩
      rw [f3]
      exact iteF (no e (a4.trans a5) (.bl false))
    by_cases h2 : ws.length = 2
    · obtain ⟨u, a, rfl⟩ := len2 h2
      have sa := sh a (by simp)
      refine q_when (b := decide (u = cs "cells")) a3.fh (et_and (x := true) (et_test (lw 2 a3)) fun _ => et_test (w0 "cells" a3 rfl)) (fun z F4 H4 a4 => ?_) fun z F4 H4 a4 => ?_
      · have e := of_decide_eq_true z
        have a34 := a3.trans a4
        have a24 := a2.trans a34
        refine m_call rfl (a34.hh _ _ id e1) rfl ((ea_cons (ev_var rfl (a34.is hv)) ea_nil : EvA K _ _ F4 H4 _).go a4.fh fun vs F5 H5 a5 hvs => ?_)
        refine ⟨F5, p, pt, pq, st, _, vs, a5.fh, rd.keep (a24.trans a5), t6, tm, rfl, hvs, ⟨u, a, rfl, sa⟩, fun F6 H6 v6 w6 h6 => ?_⟩
        refine k F6 H6 v6 ((a24.trans a5).of.trans w6) ?_
        have : wordsS st [u, a] = celS st a := by show (if u = cs "cells" then _ else _) = _; rw [if_pos e]
        rw [this]; exact h6
      · have e := of_decide_eq_false z
        exact fin (by show (if u = cs "cells" then _ else _) = _; rw [if_neg e]) (a3.trans a4)
    · have f2' : decide (((ws.length : Nat) : Int) = 2) = false := decide_eq_false (by omega)
      refine q_when (b := false) a3.fh (et_and (x := false) (y := false) (EvT.cast (et_test (lw 2 a3)) f2') fun z => by cases z) (fun z => by cases z) fun _ F4 H4 a4 => fin ?_ (a3.trans a4)
      unfold wordsS
      split
      · simp at h3
      · simp at h2
      · rfl
end
end K08
namespace K08
open PySem L2 Eg
open TL (numL joinL spl)
open PyProof.Rows (boot_int boot_tuple boot_bool boot_list boot_str boot_isinstance boot_range boot_enumerate)
local macro_rules | `(tactic| walk_at "is") => `(tactic| first | assumption | (refine Fx.is (by assumption) ?_; walk_at "is"))
local macro_rules | `(tactic| walk_at "sz") => `(tactic| first | assumption | omega | (show _ ≤ sizeLine; decide) | (show _ < sizeLine; decide))
local macro_rules | `(tactic| walk_at "r2") => `(tactic| first
  | exact r2_addI | exact r2_addS (by walk_at "sz") | exact r2_addT (by walk_at "sz") | exact r2_addL (by walk_at "sz")
  | exact r2_eqI | exact r2_eqS | exact r2_neI | exact r2_neS | exact r2_lt | exact r2_le | exact r2_gt | exact r2_ge | exact r2_sub | exact r2_isN | exact r2_notN)
local macro_rules | `(tactic| walk_at "ea") => `(tactic| first | exact ea_nil | refine ea_cons (by walk_at "ev") (by walk_at "ea"))
local macro_rules | `(tactic| walk_at "ev") => `(tactic| first
  | exact ev_int | exact ev_str | exact ev_bl | exact ev_non
  | refine ev_var rfl (by walk_at "is")
  | refine ev_op (by walk_at "ev") (by walk_at "ev") (by walk_at "r2")
  | refine ev_tup (by walk_at "ea") (by walk_at "sz")
  | refine ev_lst (by walk_at "ea") (by walk_at "sz")
  | refine ev_cb (by walk_at "ea") (by first | exact rc_len rfl | exact rc_intI | exact rc_tupL | exact rc_tupT))

section
variable {P : Program} {w : World} {K : PySem.W.Frag} {mg : Str → Option Value} {base : Heap}
theorem ok_InvalidText_init (T : Tx K mg) : FnOk P w K mg base CX0 1 T.a_InvalidText_init T.fd_InvalidText_init ["self", "text", "at"] (Pxi T.c_InvalidText "text" "at") := by
  refine T.F_InvalidText_init.ok sc_InvalidText_init (fun vs H Q E ⟨a, y, z, e, _⟩ => by rw [e]; rfl) (fun cdv A outer s H vs Q E hr h => ?_)
  obtain ⟨a, y, z, rfl, ha, k⟩ := h
  refine ⟨_, (pss_cons (ps_ost (pv 0) (pv 1))
    (pss_one (ps_ost (pv 0) (pv 2)))), ?_⟩
  refine ⟨y, rfl, V.ref a, rfl, a, T.c_InvalidText, rfl, T.x_InvalidText, T.no_text, .inl ⟨ha, fun dx hd ne => ?_⟩⟩
  refine ⟨z, rfl, V.ref a, rfl, a, T.c_InvalidText, rfl, T.x_InvalidText, T.no_at, .inr ⟨dx, _, upd_same, exo_ne ne, by show (1 : Nat) ≤ 900; decide, ?_⟩⟩
  exact k dx hd ne
/-! read_puzzle -/
def runS (st : RSt) (at_ : Nat) : List (List Nat) → Except Nat RSt
  | [] => .ok st
  | l :: r => match lineS st l with
    | none => .error at_
    | some st' => runS st' (at_ + (l.length + 1)) r
def readS (l : List Nat) : Except Nat (RSt × Nat) := match runS ⟨[], none, []⟩ 0 (spl (cs "\n") 0 [] l) with
  | .error a => .error a
  | .ok st => match st.cells with
    | none => .error l.length
    | some m => .ok (st, m)
/-- what the state keeps -/
def GoodSt (st : RSt) : Prop := st.told.length ≤ 6 ∧ match st.cells with
  | none => st.ties = []
  | some m => ∀ t ∈ st.ties, tieB st.told m (.int t.1) (t.2.map fun c => D.int (c : Nat)) = true
theorem line_good {st st' : RSt} {l : List Nat} (g : GoodSt st) (h : lineS st l = some st') : GoodSt st' ∧ st'.ties.length ≤ st.ties.length + 1 := by
  unfold lineS wordsS at h
  obtain ⟨g1, g2⟩ := g
  have rel : ∀ {a b : List Nat}, relS st a b = some st' → GoodSt st' ∧ st'.ties.length ≤ st.ties.length + 1 := fun {a b} h => by
    unfold relS at h
    split at h
    · cases h
    · rename_i r _
      split at h
      · cases h
      · rename_i hn
        cases h
        have hn : (st.cells.isSome || decide (st.told.length = 6)) = false := by cases e : (st.cells.isSome || decide (st.told.length = 6)) with | false => rfl | true => exact absurd e hn
        rw [Bool.or_eq_false_iff, decide_eq_false_iff_not] at hn
        refine ⟨⟨by show (st.told ++ [r]).length ≤ 6; rw [List.length_append, List.length_singleton]; omega, ?_⟩, Nat.le_succ _⟩
        show match st.cells with | none => st.ties = [] | some m => _
        cases e : st.cells with
        | none => rw [e] at g2; exact g2
        | some m => rw [e] at hn; cases hn.1
  have cel : ∀ {a : List Nat}, celS st a = some st' → GoodSt st' ∧ st'.ties.length ≤ st.ties.length + 1 := fun {a} h => by
    unfold celS at h
    split at h
    · cases h
    · rename_i m _
      split at h
      · cases h
      · rename_i hn
        cases h
        have hn : (st.cells.isSome || decide (st.told.length = 0)) = false := by cases e : (st.cells.isSome || decide (st.told.length = 0)) with | false => rfl | true => exact absurd e hn
        rw [Bool.or_eq_false_iff] at hn
        have e : st.cells = none := by cases e : st.cells with | none => rfl | some m => rw [e] at hn; cases hn.1
        rw [e] at g2
        refine ⟨⟨g1, ?_⟩, Nat.le_succ _⟩
        show ∀ t ∈ st.ties, _
        rw [g2]
        intro t ht
        simp at ht
  have tie : ∀ {a b : List Nat}, tieS st a b = some st' → GoodSt st' ∧ st'.ties.length ≤ st.ties.length + 1 := fun {a b} h => by
    unfold tieS at h
    split at h
    · cases h
    · rename_i m e
      split at h
      · rename_i hb
        cases h
        rw [e] at g2
        refine ⟨⟨g1, ?_⟩, by show (st.ties ++ _).length ≤ _; rw [List.length_append]; exact Nat.le_refl _⟩
        show match st.cells with | none => _ | some m => _
        rw [e]
        intro t ht
        rcases List.mem_append.mp ht with ht | ht
        · exact g2 t ht
        · rw [List.mem_singleton] at ht
          subst ht
          have em : ((spl (cs ",") 0 [] b).map fun l => natD (tellN l)) = ((spl (cs ",") 0 [] b).map tellN).map natD := by rw [List.map_map]; rfl
          rw [em] at hb
          obtain ⟨i1, i2⟩ := tie_all hb
          rw [i1, i2, List.map_map, List.map_map] at hb
          dsimp only
          rw [List.map_map]
          exact hb
      · cases h
  split at h
  · split at h
    · exact rel h
    · split at h
      · exact tie h
      · cases h
  · split at h
    · exact cel h
    · cases h
  · cases h
def P_read (T : Tx K mg) : Sp := fun vs H Q E => ∃ F l, Same F H ∧ Iss K F [tD l] vs ∧ l.length < 900000 ∧ match readS l with
  | .ok r => ∀ v F' H', Fz F H F' H' → Is K F' (puzD T r.1.told r.2 r.1.ties) v → Q v H'
  | .error a => ∀ d F' H', Fz F H F' H' → H' d = some (.xd [("at", .int (a : Nat)), ("text", .str (SX.S l))]) → E (.ref T.c_InvalidText) (some d) H'
theorem ok_read_puzzle (T : Tx K mg) : FnOk P w K mg base (L2.CX P w) 9 T.a_read_puzzle T.fd_read_puzzle ["text"] (P_read T) := by
  refine T.F_read_puzzle.okX sc_read_puzzle (fun vs H Q E ⟨F, l, _, hi, _⟩ => by rw [← hi.length]; rfl) (fun cdv A outer s H vs Q E hr h => ?_)
  obtain ⟨F, l, s0, hi, hl, k⟩ := h
  obtain ⟨x, rfl, h1⟩ := iss1 hi
  refine ⟨_, (pss_cons (ps_set (i := 1) sc_read_puzzle.nd rfl (by first | exact Or.inl rfl | exact Or.inr rfl) (pe_make0 T.M_PuzzleReading (ok_PuzzleReading_init T) (hr.mono (by decide)) rfl T.mc_PuzzleReading T.b_PuzzleReading_init .nil pass0))
    (pss_cons (ps_set (i := 2) sc_read_puzzle.nd rfl (by first | exact Or.inl rfl | exact Or.inr rfl) pe_int)
    (pss_cons (ps_for (passes_of rfl) rfl (pi_seqK K (pe_bmK K PySem.F.plainAttrs_str PySem.F.slot_str_split PySem.F.type_str_split mt_splitA (pv 0) (pa_cons pe_str pa_nil))) (pg_name (i := 3) sc_read_puzzle.nd rfl (by first | exact Or.inl rfl | exact Or.inr rfl)) (pss_cons (ps_if (pt_not (pt_val (pe_meth (pv 1) T.o_PuzzleReading.cl T.m_PuzzleReading_take (ok_PuzzleReading_take T) (hr.mono (by decide)) T.b_PuzzleReading_take .nil pass0 (pa_cons (pv 3) pa_nil)))) (pss_one (ps_raise rfl (takes_of rfl rfl rfl rfl) (pmk_oex T.x_InvalidText T.xi_InvalidText T.xt_InvalidText (ok_InvalidText_init T) (hr.mono (by decide)) T.b_InvalidText_init .nil pass0 (by rfl) T.mc_InvalidText (pa_cons (pv 0) (pa_cons (pv 2) pa_nil))))) pss_nil)
    (pss_one (ps_aug (i := 2) sc_read_puzzle.nd rfl (by first | exact Or.inl rfl | exact Or.inr rfl) (pe_op (opK K Eg.rAddA op_addA) (pe_callB (callK K Eg.rLen call_lenA) (by rfl) T.n_len (by decide +kernel) (pa_cons (pv 3) pa_nil)) pe_int) ip_add))))
    (pss_cons (ps_if (pt_cmpR op_isN1 (pe_fldK K (pv 1) rfl) pe_non (nomark _)) (pss_one (ps_raise rfl (takes_of rfl rfl rfl rfl) (pmk_oex T.x_InvalidText T.xi_InvalidText T.xt_InvalidText (ok_InvalidText_init T) (hr.mono (by decide)) T.b_InvalidText_init .nil pass0 (by rfl) T.mc_InvalidText (pa_cons (pv 0) (pa_cons (pe_callB (callK K Eg.rLen call_lenA) (by rfl) T.n_len (by decide +kernel) (pa_cons (pv 0) pa_nil)) pa_nil))))) pss_nil)
    (pss_one (ps_ret (pe_make T.M_Puzzle (ok_Puzzle_init T) (hr.mono (by decide)) rfl T.mc_Puzzle T.b_Puzzle_init .nil pass0 (pa_cons (pe_fldK K (pv 1) rfl) (pa_cons (pe_fldK K (pv 1) rfl) (pa_cons (pe_fldK K (pv 1) rfl) pa_nil)))))))))), ?_⟩
  have lc := len_spl (cs "\n") l 0 []
  have ms := mem_spl (cs "\n") l 0 []
  unfold readS at k
  generalize hls : spl (cs "\n") 0 [] l = ls at lc ms k
  -- the reading is made
  intro p dx hp hd ne
  have a0 : Fz F H F _ := new_obj (C := T.c_PuzzleReading) s0 hp hd ne
  refine ⟨F, p, dx, a0.fh, rfl, s0.free hp, upd_same, fun pt pq F1 H1 a1 ht hq rd => ⟨rfl, ?_⟩⟩
  have a01 : Fz F H F1 H1 := ((a0.of (X := (· = p))).trans a1).new hp
  have hX : ∀ b, Xr p pt pq b → H b = none := fun b hb => by
    have back : ∀ {c : Addr}, (upd (upd H dx (.own p)) p (.ins T.c_PuzzleReading dx [])) c = none → H c = none := fun {c} e => none_of_ne fun z => a0.th c z e
    rcases hb with rfl | rfl | rfl
    · exact hp
    · exact back ht
    · exact back hq
  show tSeq (tAsg (tC (V.int 0)) (gName 2)) _ _ ((L2.start N_read_puzzle [x]).set 1 (some (V.ref p))) H1
  refine q_asg a01.fh (ev_int (K := K)) fun v2 F2 H2 a2 hv2 => ?_
  cases hv2
  have z2 := a01.trans a2
  have wk := wa_seqL (K := K) (ev_bmS (ev_var (i := 0) (σ := ((L2.start N_read_puzzle [x]).set 1 (some (V.ref p))).set 2 (some (V.int 0))) (H := H2) rfl (z2.is h1)) (ea_cons ev_txt ea_nil) (rm_splitX (b := cs "\n") (by decide) (by decide) (by rw [sizeLine_eq]; omega)))
  rw [hls] at wk
  refine q_fora (dd := tD) z2.fh wk (fun pre post σ' F' H' => ∃ st a, Fx (Xr p pt pq) F H F' H' ∧ RdAt T F' H' p pt pq st ∧ σ'[0]? = some (some x) ∧ σ'[1]? = some (some (V.ref p)) ∧ σ'[2]? = some (some (V.int (a : Nat))) ∧ σ'.length = 4 ∧ GoodSt st ∧ st.ties.length ≤ pre.length ∧ runS ⟨[], none, []⟩ 0 ls = runS st a post)
    (fun F3 H3 a3 => ⟨⟨[], none, []⟩, 0, (z2.trans a3).of, (rd.keep a2).keep a3, rfl, rfl, rfl, rfl, ⟨Nat.zero_le _, rfl⟩, Nat.le_refl _, rfl⟩) (fun _ _ _ _ _ ⟨_, _, h, _⟩ => h.fh) ?_ ?_
  · intro B pre q post σ' F' H' xq F3 H3 eq sB ⟨st, at_, z', rd', g0, g1, g2, gl, good, tl, er⟩ a3 hx
    have mq : q ∈ ls := by rw [eq]; simp
    have sq : Short q := by have := ms q mq; simp only [List.length_nil] at this; unfold Short; omega
    have lp : pre.length < 1000000 := by
      have e2 : pre.length ≤ ls.length := by rw [eq, List.length_append]; omega
      omega
    have k0 : (σ'.set 3 (some xq))[0]? = some (some x) := by rw [List.getElem?_set_ne (by decide)]; exact g0
    have k1 : (σ'.set 3 (some xq))[1]? = some (some (V.ref p)) := by rw [List.getElem?_set_ne (by decide)]; exact g1
    have k2 : (σ'.set 3 (some xq))[2]? = some (some (V.int (at_ : Nat))) := by rw [List.getElem?_set_ne (by decide)]; exact g2
    have k3 : (σ'.set 3 (some xq))[3]? = some (some xq) := List.getElem?_set_self (by omega)
    have rd3 := rd'.keep a3
    obtain ⟨n1, n2, n3, f1, f2, dx', bv, cv, vt, vq, e1, e2, e3, e4, e5, e6⟩ := id rd3
    show tSeq (tIfS (tNot (tB _)) _ tNext) _ _ (σ'.set 3 (some xq)) H3
    refine m_call k1 e1 rfl ((ea_cons (ev_var k3 hx) ea_nil : EvA K _ _ F3 H3 _).go a3.fh fun vs F4 H4 a4 hvs => ?_)
    refine ⟨F4, p, pt, pq, st, _, vs, a4.fh, rd3.keep a4, good.1, by omega, rfl, hvs, ⟨q, rfl, sq⟩, fun F5 H5 v5 w5 h5 => ?_⟩
    have h5 : match lineS st q with | some st' => v5 = .bl true ∧ RdAt T F5 H5 p pt pq st' | none => v5 = .bl false := h5
    have z5 : Fx (Xr p pt pq) F H F5 H5 := ((z'.trans a3.of).trans a4.of).trans w5
    have x5 : Is K F5 (tD l) x := z5.is h1
    cases eS : lineS st q with
    | none =>
      rw [eS] at h5
      subst h5
      refine ⟨false, rfl, iteT ?_⟩
      refine mk_exc z5.fh (ea_cons (ev_var k0 x5) (ea_cons (ev_var k2 (.int _)) ea_nil)) fun y z d F6 H6 a6 hy hz hd => ?_
      cases hy
      cases hz
      rw [er, show runS st at_ (q :: post) = .error at_ by unfold runS; rw [eS]] at k
      have m6 := Fx.make (X := Nox) (o := .xd [("at", .int (at_ : Nat)), ("text", .str (SX.S l))]) a6.fh hd
      exact k d F6 _ ((z5.trans (a6.trans m6).of).newX hX) upd_same
    | some st' =>
      rw [eS] at h5
      obtain ⟨rfl, rd5⟩ := h5
      refine ⟨true, rfl, iteF ?_⟩
      obtain ⟨good', tl'⟩ := line_good good eS
      refine ⟨_, k2, (ev_op (ev_cb (ea_cons (ev_var k3 (w5.is (a4.is hx))) ea_nil) (rc_lenX (by unfold Short at sq; rw [sizeLine_eq]; omega))) ev_int r2_addI : Ev K _ _ F5 H5 _).go z5.fh fun v6 F6 H6 a6 hv6 => ?_⟩
      cases hv6
      refine ⟨_, _, rfl, rfl, F6, ((sB.trans a3.ff).trans a4.ff).trans (w5.ff.trans a6.ff), st', at_ + (q.length + 1), z5.trans a6.of, rd5.keep a6, ?_, ?_, ?_, ?_, good', ?_, ?_⟩
      · rw [List.getElem?_set_ne (by decide)]; exact k0
      · rw [List.getElem?_set_ne (by decide)]; exact k1
      · rw [List.getElem?_set_self (by rw [List.length_set]; omega)]
        have : ((at_ : Nat) : Int) + ((q.length : Nat) + 1) = ((at_ + (q.length + 1) : Nat) : Int) := by omega
        exact congrArg (fun z => some (some (V.int z))) this
      · rw [List.length_set, List.length_set]; exact gl
      · rw [List.length_append, List.length_singleton]; omega
      · rw [er]; show runS st at_ (q :: post) = _; conv => lhs; unfold runS
        rw [eS]
  · intro σ' F' H' ⟨st, at_, z', rd', g0, g1, g2, gl, good, tl, er⟩
    have er : runS ⟨[], none, []⟩ 0 ls = .ok st := er
    rw [er] at k
    dsimp only at k
    obtain ⟨n1, n2, n3, f1, f2, dx', bv, cv, vt, vq, e1, e2, e3, e4, e5, e6⟩ := id rd'
    have x' : Is K F' (tD l) x := z'.is h1
    obtain ⟨gd, gt⟩ := good
    cases ec : st.cells with
    | none =>
      rw [ec] at e6 k
      refine q_when (b := true) z'.fh (et_test (ev_op (ev_fldM T.o_PuzzleReading.cl T.na_PuzzleReading_cells g1 f1 e1 rfl (by rw [e6.2.2]; exact .non)) ev_non r2_isN)) (fun _ F3 H3 a3 => ?_) (fun z => by cases z)
      refine mk_exc a3.fh (ea_cons (ev_var g0 (a3.is x')) (ea_cons (ev_cb (ea_cons (ev_var g0 (a3.is x')) ea_nil) (rc_lenX (by rw [sizeLine_eq]; omega))) ea_nil)) fun y z d F6 H6 a6 hy hz hd => ?_
      cases hy
      cases hz
      have m6 := Fx.make (X := Nox) (o := .xd [("at", .int (l.length : Nat)), ("text", .str (SX.S l))]) a6.fh hd
      exact k d F6 _ (((z'.trans a3.of).trans (a6.trans m6).of).newX hX) upd_same
    | some m =>
      rw [ec] at e6 k gt
      refine q_when (b := false) z'.fh (et_test (ev_op (ev_fldM (d := .int m) T.o_PuzzleReading.cl T.na_PuzzleReading_cells g1 f1 e1 rfl (by rw [e6.2]; exact .int _)) ev_non r2_isN)) (fun z => by cases z) fun _ F3 H3 a3 => ?_
      have m3 := a3.m f2 e4 id
      have mp := a3.m f1 e1 id
      have fz : Fx (Xr p pt pq) F H (upd F3 pq (.lst vq)) H3 := (z'.trans a3.of).freezeX (.inr (.inr rfl)) (z'.ff |> fun s => by
        cases e : F pq with
        | none => rfl
        | some o => rw [s pq o e] at f2; cases f2) m3.1
      have up3 : Same F3 (upd F3 pq (.lst vq)) := by intro c o ec; rw [upd_ne (ne_of_none ec m3.2)]; exact ec
      have nf : (upd F3 pq (.lst vq)) p = none := by rw [upd_ne n2]; exact mp.2
      refine s_ret fz.fh (ev_make (ea_cons (ev_fldM T.o_PuzzleReading.cl T.na_PuzzleReading_book g1 nf mp.1 rfl (Is.up up3 _ _ (a3.is e6.1))) (ea_cons (ev_fldM (d := .int m) T.o_PuzzleReading.cl T.na_PuzzleReading_cells g1 nf mp.1 rfl (by rw [e6.2]; exact .int _)) (ea_cons (ev_fldM (d := .lst (st.ties.map tieD)) T.o_PuzzleReading.cl T.na_PuzzleReading_ties g1 nf mp.1 rfl (.lst upd_same (Iss.up up3 _ _ (a3.iss e5)))) ea_nil))) ⟨st.told, m, st.ties, .inl rfl, gd, by rw [sizeLine_eq]; omega, gt, rfl⟩) fun v F4 H4 a4 hv => ?_
      exact k v F4 H4 ((fz.trans a4.of).newX hX) hv
end
end K08
namespace K08
open PySem L2 Eg
open TL (numL joinL spl)
open PyProof.Rows (boot_int boot_tuple boot_bool boot_list boot_str boot_isinstance boot_range boot_enumerate boot_abs)
local macro_rules | `(tactic| walk_at "is") => `(tactic| first | assumption | (refine Fx.is (by assumption) ?_; walk_at "is"))
local macro_rules | `(tactic| walk_at "sz") => `(tactic| first | assumption | omega | (show _ ≤ sizeLine; decide) | (show _ < sizeLine; decide))
local macro_rules | `(tactic| walk_at "r2") => `(tactic| first
  | exact r2_addI | exact r2_addS (by walk_at "sz") | exact r2_addT (by walk_at "sz") | exact r2_addL (by walk_at "sz")
  | exact r2_eqI | exact r2_eqS | exact r2_neI | exact r2_neS | exact r2_lt | exact r2_le | exact r2_gt | exact r2_ge | exact r2_sub | exact r2_isN | exact r2_notN)
local macro_rules | `(tactic| walk_at "ea") => `(tactic| first | exact ea_nil | refine ea_cons (by walk_at "ev") (by walk_at "ea"))
local macro_rules | `(tactic| walk_at "ev") => `(tactic| first
  | exact ev_int | exact ev_str | exact ev_bl | exact ev_non
  | refine ev_var rfl (by walk_at "is")
  | refine ev_op (by walk_at "ev") (by walk_at "ev") (by walk_at "r2")
  | refine ev_tup (by walk_at "ea") (by walk_at "sz")
  | refine ev_lst (by walk_at "ea") (by walk_at "sz")
  | refine ev_cb (by walk_at "ea") (by first | exact rc_len rfl | exact rc_intI | exact rc_tupL | exact rc_tupT))

section
variable {P : Program} {w : World} {K : PySem.W.Frag} {mg : Str → Option Value} {base : Heap}
/-! the hand is made -/
def P_hand (K : PySem.W.Frag) : Sp := fun vs H Q _ => ∃ F sc, ∃ st : List Int, Same F H ∧ vs = [V.ref sc] ∧ SqL K F sc (st.map V.int) ∧ st.length ≤ 63 ∧ ∀ p q F' H', Fz F H F' H' → HandAt K F' H' p q → H p = none → H q = none → Q (.ref p) H'
theorem ok_law_hand (T : Tx K mg) : FnOk P w K mg base CX0 1 T.a_law_hand T.fd_law_hand ["script"] (P_hand K) := by
  refine T.F_law_hand.ok sc_law_hand (fun vs H Q E ⟨F, sc, st, _, e, _⟩ => by rw [e]; rfl) (fun cdv A outer s H vs Q E hr h => ?_)
  obtain ⟨F, sc, st, s0, rfl, hs, hl, k⟩ := h
  refine ⟨_, (pss_one (ps_ret (pe_lst (pa_cons (pv 0) (pa_cons (pe_lc (own := [("cell", 1)]) rfl sc_law_hand.nd (pi_seqK K (pv 0)) (blkOk_by (own := [("cell", 1)]) (N := N_law_hand) (sc := defScope s_law_hand) (by decide +kernel)) (fun _ _ _ _ _ => (pg_name (i := 1) sc_law_hand.nd rfl (by first | exact Or.inl rfl | exact Or.inr rfl))) (fun _ _ _ _ _ => pts_nil) (fun _ _ _ _ _ => (pe_callB call_absA (by rfl) T.n_abs (by decide +kernel) (pa_cons (pe_callTy call_intA (by rfl) T.n_int (by decide +kernel) (pa_cons (pv 1) pa_nil)) pa_nil)))) (pa_cons pe_int pa_nil)))))), ?_⟩
  refine ⟨V.ref sc, rfl, ?_⟩
  refine (evl_la1 (K := K) (xs := st) (dd := D.int) (wa_sql rfl hs) (fun n => D.int (if n < 0 then -n else n)) (fun x => rfl) (fun n hn F1 H1 x a hx => ev_cb (ea_cons (ev_cb (ea_cons (ev_var rfl hx) ea_nil) rc_intI) ea_nil) rc_abs) (by rw [sizeLine_eq]; omega) : EvL K _ _ F H _) F H (Fx.refl s0) _ fun q acc F1 H1 a1 nq hq e1 r1 => ?_
  refine ⟨by show (3 : Nat) ≤ sizeLine; decide, fun p hp => ?_⟩
  have e2 : st.map (fun n => D.int (if n < 0 then -n else n)) = (st.map fun n => if n < 0 then -n else n).map D.int := by rw [List.map_map]; rfl
  rw [e2] at r1
  rw [r1.ints] at e1
  have a2 := Fx.make (X := Nox) (o := .lst [.ref sc, .ref q, .int 0]) a1.fh hp
  have ne : p ≠ q := fun z => by rw [z, e1] at hp; cases hp
  exact k p q F1 _ (a1.trans a2) ⟨a1.fh.free hp, nq, ne, sc, st, _, 0, upd_same, by rw [upd_ne (Ne.symm ne)]; exact e1, sqL_up a1.ff hs, by rw [List.length_map], hl⟩ (none_of_ne fun z => a1.th p z hp) hq
/-! a number is drawn -/
def R_take : List D → D → Prop := fun ds z => ∃ many r : Nat, ds = [.int many] ∧ r < many ∧ z = .int r
def P_take : List D → Prop := fun ds => ∃ many : Nat, ds = [.int many] ∧ 0 < many
theorem ok_law_take (T : Tx K mg) : FnOk P w K mg base CX0 1 T.a_law_take T.fd_law_take ["hand", "many"] (Ph K P_take R_take) := by
  refine T.F_law_take.ok sc_law_take (fun vs H Q E ⟨F, p, q, ds, ws, _, _, e, hi, ⟨m, em, _⟩, _⟩ => by rw [e, List.length_cons, ← hi.length, em]; rfl) (fun cdv A outer s H vs Q E hr h => ?_)
  obtain ⟨F, p, q, ds, ws, s0, hh, rfl, hi, ⟨many, rfl, h0⟩, k⟩ := h
  obtain ⟨u, rfl, hu⟩ := iss1 hi
  cases hu
  obtain ⟨np, nq, ne, sc, st, ns, kk, e1, e2, hs, hl, h63⟩ := id hh
  refine ⟨_, (pss_cons (ps_par3 (i := 2) (j := 3) (l := 4) rfl sc_law_take.nd rfl rfl rfl (by decide) (by decide) (by decide) rfl rfl rfl (pa_cons (pe_ix (ixK K ix_seq) (pv 0) pe_int (fun _ _ => rfl)) (pa_cons (pe_ix (ixK K ix_seq) (pv 0) pe_int (fun _ _ => rfl)) (pa_cons (pe_ix (ixK K ix_seq) (pv 0) pe_int (fun _ _ => rfl)) pa_nil))) rfl)
    (pss_cons (ps_asg (pe_op (opK K Eg.rAddA op_addA) (pv 4) pe_int) (pg_sub (pv 0) pe_int set_list))
    (pss_cons (ps_set (i := 5) sc_law_take.nd rfl (by first | exact Or.inl rfl | exact Or.inr rfl) (pv 4))
    (pss_cons (ps_if (pt_cmpR op_gt (pe_callB (callK K Eg.rLen call_lenA) (by rfl) T.n_len (by decide +kernel) (pa_cons (pv 2) pa_nil)) pe_int (nomark _)) (pss_cons (ps_set (i := 6) sc_law_take.nd rfl (by first | exact Or.inl rfl | exact Or.inr rfl) (pe_op op_modN (pv 4) (pe_callB (callK K Eg.rLen call_lenA) (by rfl) T.n_len (by decide +kernel) (pa_cons (pv 2) pa_nil))))
    (pss_cons (ps_set (i := 5) sc_law_take.nd rfl (by first | exact Or.inl rfl | exact Or.inr rfl) (pe_callTy call_intA (by rfl) T.n_int (by decide +kernel) (pa_cons (pe_ix (ixK K ix_seq) (pv 2) (pv 6) (fun _ _ => rfl)) pa_nil)))
    (pss_one (ps_if (PW.pt (pw_and (pt_cmpR op_ge (pv 5) (pe_op op_pow pe_int pe_int) (nomark _)) (pw_and1 (pt_cmpR op_gt (pe_ix (ixK K ix_seq) (pv 3) (pv 6) (fun _ _ => rfl)) pe_int (nomark _))))) (pss_cons (ps_set (i := 7) sc_law_take.nd rfl (by first | exact Or.inl rfl | exact Or.inr rfl) (pe_op op_modN (pe_callTy call_intA (by rfl) T.n_int (by decide +kernel) (pa_cons (pe_ix (ixK K ix_seq) (pv 3) (pv 6) (fun _ _ => rfl)) pa_nil)) pe_int))
    (pss_cons (ps_asg (pe_op op_fdivN (pe_callTy call_intA (by rfl) T.n_int (by decide +kernel) (pa_cons (pe_ix (ixK K ix_seq) (pv 3) (pv 6) (fun _ _ => rfl)) pa_nil)) pe_int) (pg_sub (pv 3) (pv 6) set_list))
    (pss_one (ps_ret (pe_op op_modN (pe_callTy call_intA (by rfl) T.n_int (by decide +kernel) (pa_cons (pe_op op_fdivN (pv 7) pe_int) pa_nil)) (pv 1)))))) pss_nil)))) pss_nil)
    (pss_cons (ps_set (i := 8) sc_law_take.nd rfl (by first | exact Or.inl rfl | exact Or.inr rfl) (pe_op op_modN (pe_callTy call_intA (by rfl) T.n_int (by decide +kernel) (pa_cons (pe_op (opK K Eg.rAddA op_addA) (pe_op (opK K Eg.rAddA op_addA) (pe_op op_mul (pv 5) pe_int) (pe_op op_mul (pv 4) pe_int)) pe_int) pa_nil)) pe_int))
    (pss_cons (ps_set (i := 8) sc_law_take.nd rfl (by first | exact Or.inl rfl | exact Or.inr rfl) (pe_op op_modN (pe_callTy call_intA (by rfl) T.n_int (by decide +kernel) (pa_cons (pe_op (opK K Eg.rAddA op_addA) (pe_op op_fdivN (pe_op op_mul (pv 8) (pv 8)) pe_int) (pv 8)) pa_nil)) pe_int))
    (pss_cons (ps_set (i := 8) sc_law_take.nd rfl (by first | exact Or.inl rfl | exact Or.inr rfl) (pe_op op_modN (pe_callTy call_intA (by rfl) T.n_int (by decide +kernel) (pa_cons (pe_op (opK K Eg.rAddA op_addA) (pe_op op_fdivN (pe_op op_mul (pv 8) (pv 8)) pe_int) (pe_op op_mul (pv 4) pe_int)) pa_nil)) pe_int))
    (pss_one (ps_ret (pe_op op_modN (pe_callTy call_intA (by rfl) T.n_int (by decide +kernel) (pa_cons (pe_op op_fdivN (pv 8) pe_int) pa_nil)) (pv 1))))))))))), ?_⟩
  have fin : ∀ {x : Int} {F' H' : Hp} {v : V}, Fx (Hx p q) F H F' H' → HandAt K F' H' p q → Is K F' (.int (x.fmod (many : Nat))) v → Q v H' := fun {x F' H' v} z h' hv => by
    obtain ⟨b1, b2⟩ := fmod_in (x := x) (m := (many : Nat)) (by omega)
    have e : x.fmod (many : Nat) = ((x.fmod (many : Nat)).toNat : Nat) := by omega
    exact k v _ F' H' z h' ⟨many, (x.fmod (many : Nat)).toNat, rfl, by omega, rfl⟩ (by rw [← e]; exact hv)
  refine ix_raw rfl e1 (v := .ref sc) rfl (ix_raw rfl e1 (v := .ref q) rfl (ix_raw rfl e1 (v := .int kk) rfl ?_))
  refine ⟨_, _, _, rfl, ?_⟩
  -- hand[2] = k + 1
  refine (ev_op (ev_var rfl (.int kk)) ev_int r2_addI : Ev K _ _ F H _).go s0 fun v1 F1 H1 a1 hv1 => ?_
  cases hv1
  have m1 := a1.m np e1 id
  have m1q := a1.m nq e2 id
  refine ⟨V.ref p, rfl, p, _, 2, 2, rfl, rfl, m1.1, rfl, ?_⟩
  have e3 : (upd H1 p (.lst ([V.ref sc, V.ref q, V.int kk].set 2 (V.int (kk + 1))))) p = some (.lst [V.ref sc, V.ref q, V.int (kk + 1)]) := upd_same
  have q3 : (upd H1 p (.lst ([V.ref sc, V.ref q, V.int kk].set 2 (V.int (kk + 1))))) q = some (.lst (ns.map V.int)) := by rw [upd_ne (Ne.symm ne)]; exact m1q.1
  have z1 := (a1.of (X := Hx p q)).mut (p := p) (o := .lst ([V.ref sc, V.ref q, V.int kk].set 2 (V.int (kk + 1)))) (.inr (.inl rfl)) m1.2
  generalize upd H1 p (.lst ([V.ref sc, V.ref q, V.int kk].set 2 (V.int (kk + 1)))) = G1 at e3 z1 q3 ⊢
  have hh1 : HandAt K F1 G1 p q := ⟨m1.2, m1q.2, ne, sc, st, ns, kk + 1, e3, q3, sqL_up a1.ff hs, hl, h63⟩
  have big : ∀ {i c : Int}, -(2 ^ 64) < c ∧ c < 2 ^ 64 → CMul i c := fun h => .inr h
  refine q_asg z1.fh (ev_var (K := K) (i := 4) rfl (.int kk)) fun v2 F2 H2 a2 hv2 => ?_
  cases hv2
  have z2 := z1.trans a2.of
  have hh2 := hh1.keep a2
  have hsc : ∀ F1' H1', Fz F2 H2 F1' H1' → SqL K H1' sc (st.map V.int) := fun F1' H1' b => sqL_up b.fh (sqL_up b.ff (sqL_up a2.ff (sqL_up a1.ff hs)))
  have hq2 : ∀ F1' H1', Fz F2 H2 F1' H1' → SqL K H1' q (ns.map V.int) := fun F1' H1' b => SqL.of (b.hh _ _ id (a2.hh _ _ id q3))
  refine q_whenT (b := decide (0 < (st.length : Int))) (fun σ' H' => ∃ F' cell, Fx (Hx p q) F H F' H' ∧ HandAt K F' H' p q ∧ σ'[1]? = some (some (V.int many)) ∧ σ'[4]? = some (some (V.int kk)) ∧ σ'[5]? = some (some (V.int cell)) ∧ σ'.length = 9) z2.fh (et_test (ev_op (evq_len rfl hsc) ev_int r2_gt)) ?_ ?_ (fun _ F3 H3 a3 => ⟨F3, kk, z2.trans a3.of, hh2.keep a3, rfl, rfl, rfl, rfl⟩)
  · intro σ' H' ⟨F', cell, z', h', g1, g4, g5, gl⟩
    refine q_asg z'.fh (ev_op (ev_cb (ea_cons (ev_op (ev_op (ev_op (ev_var g5 (.int _)) ev_int (r2_mul (big (by decide)))) (ev_op (ev_var g4 (.int _)) ev_int (r2_mul (big (by decide)))) r2_addI) ev_int r2_addI) ea_nil) rc_intI) ev_int (r2_mod (by decide))) fun v F3 H3 a3 hv => ?_
    cases hv
    obtain ⟨b1, b2⟩ := fmod_in (x := cell * 48271 + kk * 69621 + 11) (m := 2147483647) (by decide)
    generalize (cell * 48271 + kk * 69621 + 11).fmod 2147483647 = x1 at b1 b2 ⊢
    have s8 : ∀ {x : Int}, (σ'.set 8 (some (V.int x)))[8]? = some (some (V.int x)) := List.getElem?_set_self (by omega)
    have s4 : ∀ {x : Int}, (σ'.set 8 (some (V.int x)))[4]? = some (some (V.int kk)) := by intro x; rw [List.getElem?_set_ne (by decide)]; exact g4
    have s1 : ∀ {x : Int}, (σ'.set 8 (some (V.int x)))[1]? = some (some (V.int many)) := by intro x; rw [List.getElem?_set_ne (by decide)]; exact g1
    have z3 := z'.trans a3.of
    refine q_asg z3.fh (ev_op (ev_cb (ea_cons (ev_op (ev_op (ev_op (ev_var s8 (.int _)) (ev_var s8 (.int _)) (r2_mul (big (by omega)))) ev_int (r2_fdiv ⟨by decide, by decide⟩)) (ev_var s8 (.int _)) r2_addI) ea_nil) rc_intI) ev_int (r2_mod (by decide))) fun v F4 H4 a4 hv => ?_
    cases hv
    rw [List.set_set]
    obtain ⟨b3, b4⟩ := fmod_in (x := (x1 * x1).fdiv 4096 + x1) (m := 2147483629) (by decide)
    generalize ((x1 * x1).fdiv 4096 + x1).fmod 2147483629 = x2 at b3 b4 ⊢
    have z4 := z3.trans a4.of
    refine q_asg z4.fh (ev_op (ev_cb (ea_cons (ev_op (ev_op (ev_op (ev_var s8 (.int _)) (ev_var s8 (.int _)) (r2_mul (big (by omega)))) ev_int (r2_fdiv ⟨by decide, by decide⟩)) (ev_op (ev_var s4 (.int _)) ev_int (r2_mul (big (by decide)))) r2_addI) ea_nil) rc_intI) ev_int (r2_mod (by decide))) fun v F5 H5 a5 hv => ?_
    cases hv
    rw [List.set_set]
    have z5 := z4.trans a5.of
    refine s_ret (K := K) z5.fh (ev_op (ev_cb (ea_cons (ev_op (ev_var s8 (.int _)) ev_int (r2_fdiv ⟨by decide, by decide⟩)) ea_nil) rc_intI) (ev_var s1 (.int many)) (r2_mod (by omega))) fun v F6 H6 a6 hv => ?_
    exact fin (z5.trans a6.of) ((((h'.keep a3).keep a4).keep a5).keep a6) hv
  · intro tl hb F3 H3 a3
    have hb := of_decide_eq_true hb
    have hn : 0 < st.length := by omega
    refine q_asg a3.fh (ev_op (ev_var (i := 4) rfl (.int kk)) (evq_len rfl fun F' H' b => hsc F' H' (a3.trans b)) (r2_mod (by omega))) fun v F4 H4 a4 hv => ?_
    cases hv
    have a34 := a3.trans a4
    obtain ⟨b1, b2⟩ := fmod_in (x := kk) (m := (st.length : Int)) (by omega)
    generalize hat : kk.fmod (st.length : Int) = at_ at b1 b2 ⊢
    have i1 : at_.toNat < st.length := by omega
    have i2 : at_.toNat < ns.length := by omega
    have x1 : L2.atI st at_ = some st[at_.toNat] := atI_of b1 (List.getElem?_eq_getElem i1)
    have x2 : L2.atI ns at_ = some ns[at_.toNat] := atI_of b1 (List.getElem?_eq_getElem i2)
    refine q_asg a34.fh (ev_cb (ea_cons (evq_ix rfl (fun F' H' b => hsc F' H' (a34.trans b)) (ev_var rfl (.int _)) x1) ea_nil) rc_intI) fun v F5 H5 a5 hv => ?_
    cases hv
    have a35 := a34.trans a5
    have rest : ∀ {σ : L2.St} {F' H' : Hp}, Fz F2 H2 F' H' → σ[3]? = some (some (V.ref q)) → σ[6]? = some (some (V.int at_)) → Ev K (tOp (rIx K) (tVar 3) (tVar 6)) σ F' H' (.int ns[at_.toNat]) := fun b g3 g6 => evq_ix g3 (fun F'' H'' c => hq2 F'' H'' (b.trans c)) (ev_var g6 (.int _)) x2
    refine s_if (b := decide ((10 : Int) ^ (18 : Int).toNat ≤ st[at_.toNat]) && decide (0 < ns[at_.toNat])) a35.fh (et_and (et_test (ev_op (K := K) (ev_var rfl (.int _)) (ev_op ev_int ev_int (r2_pow ⟨by decide, by decide, by decide⟩)) r2_ge)) fun _ => et_test (ev_op (rest a35 rfl rfl) ev_int r2_gt)) (fun _ F6 H6 a6 => ?_) (fun _ F6 H6 a6 => ?_)
    · have a36 := a35.trans a6
      refine q_asg a36.fh (ev_op (ev_cb (ea_cons (rest a36 rfl rfl) ea_nil) rc_intI) ev_int (r2_mod (by decide))) fun v F7 H7 a7 hv => ?_
      cases hv
      have a37 := a36.trans a7
      refine (ev_op (ev_cb (ea_cons (rest a37 rfl rfl) ea_nil) rc_intI) ev_int (r2_fdiv ⟨by decide, by decide⟩) : Ev K _ _ F7 H7 _).go a37.fh fun v F8 H8 a8 hv => ?_
      cases hv
      have a38 := a37.trans a8
      have q8 : H8 q = some (.lst (ns.map V.int)) := a38.hh _ _ id (a2.hh _ _ id q3)
      have hh8 := hh2.keep a38
      refine ⟨V.ref q, rfl, V.int at_, rfl, q, _, at_, at_.toNat, rfl, rfl, q8, ?_, ?_⟩
      · unfold ixN
        rw [List.length_map, if_pos b1, if_pos (by omega)]
      · have z8 := (z2.trans a38.of).mut (p := q) (o := .lst ((ns.map V.int).set at_.toNat (V.int (ns[at_.toNat].fdiv 1000003)))) (.inr (.inr rfl)) hh8.2.1
        have hh9 : HandAt K F8 (upd H8 q (.lst ((ns.map V.int).set at_.toNat (V.int (ns[at_.toNat].fdiv 1000003))))) p q := by
          obtain ⟨c1, c2, c3, sc', st', ns', kk', d1, d2, d3, d4, d5⟩ := hh8
          rw [d2] at q8
          have ens : ns'.map V.int = ns.map V.int := by injection q8 with q8; injection q8 with q8
          have el : ns'.length = ns.length := by have := congrArg List.length ens; rwa [List.length_map, List.length_map] at this
          exact ⟨c1, c2, c3, sc', st', ns.set at_.toNat (ns[at_.toNat].fdiv 1000003), kk', by rw [upd_ne c3]; exact d1, by rw [upd_same, List.map_set], d3, by rw [List.length_set, d4, el], d5⟩
        refine s_ret (K := K) z8.fh (ev_op (ev_cb (ea_cons (ev_op (ev_var rfl (.int _)) ev_int (r2_fdiv ⟨by decide, by decide⟩)) ea_nil) rc_intI) (ev_var rfl (.int many)) (r2_mod (by omega))) fun v F9 H9 a9 hv => ?_
        exact fin (z8.trans a9.of) (hh9.keep a9) hv
    · have a36 := a35.trans a6
      exact tl _ H6 ⟨F6, st[at_.toNat], z2.trans a36.of, hh2.keep a36, rfl, rfl, rfl, rfl⟩
end
end K08
namespace K08
open PySem L2 Eg
open TL (numL joinL spl)
open PyProof.Rows (boot_int boot_tuple boot_bool boot_list boot_str boot_isinstance boot_range boot_enumerate boot_abs)
local macro_rules | `(tactic| walk_at "is") => `(tactic| first | assumption | (refine Fx.is (by assumption) ?_; walk_at "is"))
local macro_rules | `(tactic| walk_at "sz") => `(tactic| first | assumption | omega | (show _ ≤ sizeLine; decide) | (show _ < sizeLine; decide))
local macro_rules | `(tactic| walk_at "r2") => `(tactic| first
  | exact r2_addI | exact r2_addS (by walk_at "sz") | exact r2_addT (by walk_at "sz") | exact r2_addL (by walk_at "sz")
  | exact r2_eqI | exact r2_eqS | exact r2_neI | exact r2_neS | exact r2_lt | exact r2_le | exact r2_gt | exact r2_ge | exact r2_sub | exact r2_isN | exact r2_notN)
local macro_rules | `(tactic| walk_at "ea") => `(tactic| first | exact ea_nil | refine ea_cons (by walk_at "ev") (by walk_at "ea"))
local macro_rules | `(tactic| walk_at "ev") => `(tactic| first
  | exact ev_int | exact ev_str | exact ev_bl | exact ev_non
  | refine ev_var rfl (by walk_at "is")
  | refine ev_op (by walk_at "ev") (by walk_at "ev") (by walk_at "r2")
  | refine ev_tup (by walk_at "ea") (by walk_at "sz")
  | refine ev_lst (by walk_at "ea") (by walk_at "sz")
  | refine ev_cb (by walk_at "ea") (by first | exact rc_len rfl | exact rc_intI | exact rc_tupL | exact rc_tupT))

section
variable {P : Program} {w : World} {K : PySem.W.Frag} {mg : Str → Option Value} {base : Heap}
/-! all rows -/
def stepE (l : List (List Int)) : List (List Int) := l.flatMap fun r => [r ++ [0], r ++ [1]]
def everyL : Nat → List (List Int)
  | 0 => [[]]
  | n + 1 => stepE (everyL n)
theorem every_asc : ∀ n, n ≤ 4 → Asc (everyL n) := fun n h => by
  have : n = 0 ∨ n = 1 ∨ n = 2 ∨ n = 3 ∨ n = 4 := by omega
  unfold Asc
  rcases this with rfl | rfl | rfl | rfl | rfl <;> decide +kernel
theorem every_row : ∀ n, ∀ r ∈ everyL n, IsRow n r
  | 0, r, h => by
    have : r = [] := by simpa [everyL] using h
    subst this
    exact ⟨rfl, fun m hm => by simp at hm⟩
  | n + 1, r, h => by
    obtain ⟨q, hq, hr⟩ := List.mem_flatMap.mp h
    have ih := every_row n q hq
    have b : ∀ c : Int, 0 ≤ c → c < 2 → IsRow (n + 1) (q ++ [c]) := fun c h0 h1 => ⟨by rw [List.length_append, ih.1]; rfl, fun m hm => by
      rcases List.mem_append.mp hm with hm | hm
      · exact ih.2 m hm
      · rw [List.mem_singleton] at hm; subst hm; exact ⟨h0, h1⟩⟩
    rcases (by simpa using hr : r = q ++ [0] ∨ r = q ++ [1]) with e | e <;> rw [e]
    · exact b 0 (by decide) (by decide)
    · exact b 1 (by decide) (by decide)
theorem every_len : ∀ n, n ≤ 4 → (everyL n).length ≤ 16 ∧ 0 < (everyL n).length := fun n h => by
  have : n = 0 ∨ n = 1 ∨ n = 2 ∨ n = 3 ∨ n = 4 := by omega
  rcases this with rfl | rfl | rfl | rfl | rfl <;> decide +kernel
theorem stepE_app (l m : List (List Int)) : stepE (l ++ m) = stepE l ++ stepE m := by unfold stepE; rw [List.flatMap_append]
theorem stepE_len : ∀ l : List (List Int), (stepE l).length = 2 * l.length
  | [] => rfl
  | r :: l => by
    show ([r ++ [0], r ++ [1]] ++ stepE l).length = _
    rw [List.length_append, stepE_len l, List.length_cons]; simp; omega
def R_every : List D → D → Prop := fun ds z => ∃ n : Nat, ds = [.int n] ∧ n ≤ 4 ∧ z = .lst ((everyL n).map rowD)
theorem ok_law_every (T : Tx K mg) : FnOk P w K mg base CX0 1 T.a_law_every T.fd_law_every ["many"] (Pu K R_every) := by
  refine T.F_law_every.ok sc_law_every (fun vs H Q E h => pu_len (fun ds d ⟨_, e, _⟩ => by rw [e]; rfl) h) (fun cdv A outer s H vs Q E hr h => ?_)
  obtain ⟨F, ds, d, s0, hi, ⟨n, rfl, n4, rfl⟩, k⟩ := h
  obtain ⟨x, rfl, h1⟩ := iss1 hi
  refine ⟨_, (pss_cons (ps_set (i := 1) sc_law_every.nd rfl (by first | exact Or.inl rfl | exact Or.inr rfl) (pe_lst (pa_cons (pe_tup pa_nil) pa_nil)))
    (pss_cons (ps_for PassesOwn.never rfl (pi_range1 (by rfl) T.n_range (pa_cons (pv 0) pa_nil)) (pg_name (i := 2) sc_law_every.nd rfl (by first | exact Or.inl rfl | exact Or.inr rfl)) (pss_cons (ps_set (i := 3) sc_law_every.nd rfl (by first | exact Or.inl rfl | exact Or.inr rfl) (pe_lst pa_nil))
    (pss_cons (ps_for PassesOwn.never rfl (pi_seqK K (pv 1)) (pg_name (i := 4) sc_law_every.nd rfl (by first | exact Or.inl rfl | exact Or.inr rfl)) (pss_one (ps_set (i := 3) sc_law_every.nd rfl (by first | exact Or.inl rfl | exact Or.inr rfl) (pe_op (opK K Eg.rAddA op_addA) (pv 3) (pe_lst (pa_cons (pe_op (opK K Eg.rAddA op_addA) (pv 4) (pe_tup (pa_cons pe_int pa_nil))) (pa_cons (pe_op (opK K Eg.rAddA op_addA) (pv 4) (pe_tup (pa_cons pe_int pa_nil))) pa_nil)))))))
    (pss_one (ps_set (i := 1) sc_law_every.nd rfl (by first | exact Or.inl rfl | exact Or.inr rfl) (pv 3))))))
    (pss_one (ps_ret (pv 1))))), ?_⟩
  refine q_asg (K := K) s0 (ev_lst (ea_cons (ev_tup ea_nil (Nat.zero_le _)) ea_nil) (by show 1 ≤ sizeLine; decide)) fun v F1 H1 a1 hv => ?_
  have wr := wa_range (K := K) (σ := (L2.start N_law_every [x]).set 1 (some v)) (F := F1) (H := H1) (ta := tCons (tVar 0) tNil) (n := (n : Nat)) (ea_cons (ev_var rfl (a1.is h1)) ea_nil) (by omega) (by omega)
  rw [Int.toNat_natCast] at wr
  refine q_fora (xs := List.range n) (dd := fun i : Nat => D.int i) a1.fh wr (fun pre post σ' F' H' => Fz F H F' H' ∧ σ'[0]? = some (some x) ∧ σ'.length = 5 ∧ ∃ u, σ'[1]? = some (some u) ∧ Is K F' (.lst ((everyL pre.length).map rowD)) u)
    (fun F2 H2 a2 => ⟨a1.trans a2, rfl, rfl, v, rfl, a2.is hv⟩) (fun _ _ _ _ _ h => h.1.fh) ?_ ?_
  · intro B pre i post σ' F' H' xi F2 H2 e sB ⟨z, g0, gl, u, g1, hu⟩ a2 hxi
    have pl : pre.length < 4 := by
      have := congrArg List.length e
      rw [List.length_range, List.length_append, List.length_cons] at this; omega
    show tSeq _ _ _ (σ'.set 2 (some xi)) H2
    refine q_asg a2.fh (ev_lst (K := K) ea_nil (Nat.zero_le _)) fun v3 F3 H3 a3 hv3 => ?_
    have a23 := a2.trans a3
    have s0' : (((σ'.set 2 (some xi)).set 3 (some v3)))[0]? = some (some x) := by rw [List.getElem?_set_ne (by decide), List.getElem?_set_ne (by decide)]; exact g0
    have s1' : (((σ'.set 2 (some xi)).set 3 (some v3)))[1]? = some (some u) := by rw [List.getElem?_set_ne (by decide), List.getElem?_set_ne (by decide)]; exact g1
    have el := (every_len pre.length (by omega)).1
    refine q_fora (xs := everyL pre.length) (dd := rowD) a3.fh (wa_seqL (ev_var s1' (a23.is hu))) (fun pr po σ'' F'' H'' => Fz F' H' F'' H'' ∧ σ''[0]? = some (some x) ∧ σ''.length = 5 ∧ ∃ l, σ''[3]? = some (some l) ∧ Is K F'' (.lst ((stepE pr).map rowD)) l)
      (fun F4 H4 a4 => ⟨a23.trans a4, s0', by rw [List.length_set, List.length_set]; exact gl, v3, List.getElem?_set_self (by rw [List.length_set]; omega), a4.is hv3⟩) (fun _ _ _ _ _ h => h.1.fh) ?_ ?_
    · intro B2 pr r po σ'' F'' H'' xr F4 H4 e2 sB2 ⟨z2, k0, kl, l, k3, hl⟩ a4 hxr
      have prl : pr.length < 16 := by
        have := congrArg List.length e2
        rw [List.length_append, List.length_cons] at this; omega
      have c3 : (σ''.set 4 (some xr))[3]? = some (some l) := by rw [List.getElem?_set_ne (by decide)]; exact k3
      have c4 : (σ''.set 4 (some xr))[4]? = some (some xr) := List.getElem?_set_self (by omega)
      have rr : IsRow pre.length r := every_row _ r (by rw [e2]; simp)
      have addr : ∀ c : Int, Ev K (tOp (Eg.rAddA K) (tVar 4) (tTup (tCons (tC (.int c)) tNil))) (σ''.set 4 (some xr)) F4 H4 (rowD (r ++ [c])) := fun c => by
        have h := ev_op (ev_var c4 hxr) (ev_tup (ea_cons (ev_int (K := K) (i := c) (σ := σ''.set 4 (some xr)) (F := F4) (H := H4)) ea_nil) (by show 1 ≤ sizeLine; decide)) (r2_addT (K := K) (ds := r.map D.int) (es := [.int c]) (by rw [List.length_map, rr.1, sizeLine_eq]; show pre.length + 1 ≤ _; omega))
        have e : rowD (r ++ [c]) = .tup (r.map D.int ++ [.int c]) := by show D.tup ((r ++ [c]).map D.int) = _; rw [List.map_append]; rfl
        rw [e]; exact h
      refine s_asg a4.fh (ev_op (ev_var c3 (a4.is hl)) (ev_lst (ea_cons (addr 0) (ea_cons (addr 1) ea_nil)) (by show 2 ≤ sizeLine; decide)) (r2_addL (by rw [List.length_map, stepE_len, sizeLine_eq]; show 2 * pr.length + 2 ≤ _; omega))) fun v5 F5 H5 a5 hv5 => ?_
      refine ⟨F5, (sB2.trans a4.ff).trans a5.ff, z2.trans (a4.trans a5), ?_, ?_, v5, ?_, ?_⟩
      · rw [List.getElem?_set_ne (by decide), List.getElem?_set_ne (by decide)]; exact k0
      · rw [List.length_set, List.length_set]; exact kl
      · exact List.getElem?_set_self (by rw [List.length_set]; omega)
      · rw [stepE_app, List.map_append]; exact hv5
    · intro σ'' F'' H'' ⟨z2, k0, kl, l, k3, hl⟩
      refine s_asg z2.fh (ev_var k3 hl) fun v5 F5 H5 a5 hv5 => ?_
      refine ⟨F5, (sB.trans z2.ff).trans a5.ff, z.trans (z2.trans a5), ?_, ?_, v5, List.getElem?_set_self (by omega), ?_⟩
      · rw [List.getElem?_set_ne (by decide)]; exact k0
      · rw [List.length_set]; exact kl
      · rw [List.length_append]; exact hv5
  · intro σ' F' H' ⟨z, g0, gl, u, g1, hu⟩
    rw [List.length_range] at hu
    exact s_ret z.fh (ev_var g1 hu) fun v F5 H5 a5 hv => k v F5 H5 (z.trans a5) hv
/-! each row once, ascending -/
theorem pl_row (r : List Int) : pl 1 (rowD r) = true := List.all_eq_true.mpr fun d hd => by obtain ⟨i, _, rfl⟩ := List.mem_map.mp hd; rfl
theorem rowD_inj {r q : List Int} (h : rowD r = rowD q) : r = q := by
  injection h with h
  have inj : ∀ {a b : List Int}, a.map D.int = b.map D.int → a = b := by
    intro a
    induction a with
    | nil => intro b e; cases b with
      | nil => rfl
      | cons _ _ => simp at e
    | cons x a ih => intro b e; cases b with
      | nil => simp at e
      | cons y b =>
        rw [List.map_cons, List.map_cons] at e
        injection e with e1 e2
        injection e1 with e1
        rw [e1, ih e2]
  exact inj h
theorem any_row {r : List Int} (rows : List (List Int)) : ((rows.map rowD).any fun z => deq z (rowD r)) = decide (r ∈ rows) := by
  rw [List.any_map]
  cases h : decide (r ∈ rows) with
  | true =>
    rw [decide_eq_true_eq] at h
    exact List.any_eq_true.mpr ⟨r, h, (deq_iff (n := 1) (pl_row r) (pl_row r)).mpr rfl⟩
  | false =>
    rw [decide_eq_false_iff_not] at h
    refine Bool.eq_false_iff.mpr fun z => ?_
    obtain ⟨q, hq, e⟩ := List.any_eq_true.mp z
    exact h (rowD_inj ((deq_iff (n := 1) (pl_row q) (pl_row r)).mp e) ▸ hq)
def onceL (n : Nat) (rows : List (List Int)) : List (List Int) := (everyL n).filter fun r => decide (r ∈ rows)
def R_once : List D → D → Prop := fun ds z => ∃ (n : Nat) (rows : List (List Int)), ds = [.int n, .lst (rows.map rowD)] ∧ n ≤ 4 ∧ z = plainD (n, onceL n rows)
theorem ok_law_each_once (T : Tx K mg) : FnOk P w K mg base CX0 2 T.a_law_each_once T.fd_law_each_once ["size", "rows"] (Pu K R_once) := by
  refine T.F_law_each_once.ok sc_law_each_once (fun vs H Q E h => pu_len (fun ds d ⟨_, _, e, _⟩ => by rw [e]; rfl) h) (fun cdv A outer s H vs Q E hr h => ?_)
  obtain ⟨F, ds, d, s0, hi, ⟨n, rows, rfl, n4, rfl⟩, k⟩ := h
  obtain ⟨x, y, rfl, h1, h2⟩ := iss2 hi
  refine ⟨_, (pss_one (ps_ret (pe_tup (pa_cons (pv 0) (pa_cons (pe_callTy (callK K Eg.rTupOf call_tupOf) (by rfl) T.n_tuple (by decide +kernel) (pa_cons (pe_lc (own := [("row", 2)]) rfl sc_law_each_once.nd (pi_seqK K (pe_call (ok_law_every T) (hr.mono (by decide)) rfl T.mg_law_every T.F_law_every.kp T.b_law_every .nil pass0 (pa_cons (pv 0) pa_nil))) (blkOk_by (own := [("row", 2)]) (N := N_law_each_once) (sc := defScope s_law_each_once) (by decide +kernel)) (fun _ _ _ _ _ => (pg_name (i := 2) sc_law_each_once.nd rfl (by first | exact Or.inl rfl | exact Or.inr rfl))) (fun _ _ _ _ _ => (pts_one (pt_cmpR (opK K Eg.rInA (op_inA hr)) (pv 2) (pv 1) (by rfl)))) (fun _ _ _ _ _ => (pv 2))) pa_nil)) pa_nil))))), ?_⟩
  refine s_ret s0 (ev_tup (ea_cons (ev_var rfl h1) (ea_cons (ev_cb (ea_cons (ev_lat (xs := everyL n) (dd := rowD) (wa_seqL (ev_call (ea_cons (ev_var rfl h1) ea_nil) ⟨n, rfl, n4, rfl⟩)) (fun r => decide (r ∈ rows)) rowD (fun x => rfl) (fun r hr F1 H1 x a hx => ⟨?_, fun _ => ev_var rfl hx⟩) (by have := (every_len n n4).1; rw [sizeLine_eq]; omega)) ea_nil) rc_tupL) ea_nil)) (by show 2 ≤ sizeLine; decide)) k
  refine EvT.cast (et_test (ev_op (ev_var rfl hx) (ev_var rfl (a.is h2)) (r2_inL (n := 2) (by decide) ?_ ?_))) (any_row rows)
  · exact List.all_eq_true.mpr fun d hd => by obtain ⟨i, _, rfl⟩ := List.mem_map.mp hd; rfl
  · exact List.all_eq_true.mpr fun d hd => by
      obtain ⟨i, _, rfl⟩ := List.mem_map.mp hd
      exact pb_of_pl 1 _ (pl_row i)
theorem once_ok {n : Nat} {rows : List (List Int)} (h1 : 1 ≤ n) (h4 : n ≤ 4) (h : ∃ r ∈ rows, r ∈ everyL n) : OkRel (n, onceL n rows) := by
  refine ⟨h1, h4, ?_, fun q hq => every_row n q (List.mem_filter.mp hq).1, (every_asc n h4).filter _⟩
  obtain ⟨r, m1, m2⟩ := h
  exact List.ne_nil_of_mem (List.mem_filter.mpr ⟨m2, decide_eq_true m1⟩)
end
end K08
namespace K08
open PySem L2 Eg
open TL (numL joinL spl)
open PyProof.Rows (boot_int boot_tuple boot_bool boot_list boot_str boot_isinstance boot_range boot_enumerate boot_abs)
local macro_rules | `(tactic| walk_at "is") => `(tactic| first | assumption | (refine Fx.is (by assumption) ?_; walk_at "is"))
local macro_rules | `(tactic| walk_at "sz") => `(tactic| first | assumption | omega | (show _ ≤ sizeLine; decide) | (show _ < sizeLine; decide))
local macro_rules | `(tactic| walk_at "r2") => `(tactic| first
  | exact r2_addI | exact r2_addS (by walk_at "sz") | exact r2_addT (by walk_at "sz") | exact r2_addL (by walk_at "sz")
  | exact r2_eqI | exact r2_eqS | exact r2_neI | exact r2_neS | exact r2_lt | exact r2_le | exact r2_gt | exact r2_ge | exact r2_sub | exact r2_isN | exact r2_notN)
local macro_rules | `(tactic| walk_at "ea") => `(tactic| first | exact ea_nil | refine ea_cons (by walk_at "ev") (by walk_at "ea"))
local macro_rules | `(tactic| walk_at "ev") => `(tactic| first
  | exact ev_int | exact ev_str | exact ev_bl | exact ev_non
  | refine ev_var rfl (by walk_at "is")
  | refine ev_op (by walk_at "ev") (by walk_at "ev") (by walk_at "r2")
  | refine ev_tup (by walk_at "ea") (by walk_at "sz")
  | refine ev_lst (by walk_at "ea") (by walk_at "sz")
  | refine ev_cb (by walk_at "ea") (by first | exact rc_len rfl | exact rc_intI | exact rc_tupL | exact rc_tupT))

section
variable {P : Program} {w : World} {K : PySem.W.Frag} {mg : Str → Option Value} {base : Heap}
/-- _law_take(hand, e) -/
theorem evh_take {p q : Addr} {σ : L2.St} {F H : Hp} {te : TE} {m i : Nat} {R : D → Prop} (hi : σ[i]? = some (some (.ref p))) (h : ∀ F1 H1, Fx (Hx p q) F H F1 H1 → HandAt K F1 H1 p q → Ev K te σ F1 H1 (.int m)) (h0 : 0 < m) (hr : ∀ r : Nat, r < m → R (.int r)) :
    EvH K p q (tCall (Ph K P_take R_take) [] E0 (tCons (tVar i) (tCons te tNil))) σ F H R :=
  evh_call hi (evha_of (ds := [.int m]) (R := fun ds => ds = [.int m]) (fun F1 H1 a hh => ea_cons (h F1 H1 a hh) ea_nil) rfl) (fun ds e => by
    subst e
    refine ⟨⟨m, rfl, h0⟩, fun d ⟨m', r, e, lt, ed⟩ => ?_⟩
    injection e with e _
    injection e with e
    have : m = m' := by omega
    subst this ed
    exact hr r lt)
theorem all_rows {n : Nat} : ∀ {es : List D}, (∀ e ∈ es, ∃ r ∈ everyL n, e = rowD r) → ∃ rows : List (List Int), es = rows.map rowD ∧ rows.length = es.length ∧ ∀ r ∈ rows, r ∈ everyL n
  | [], _ => ⟨[], rfl, rfl, fun r h => by simp at h⟩
  | e :: es, h => by
    obtain ⟨r, m, rfl⟩ := h e (List.mem_cons_self ..)
    obtain ⟨rows, e2, e3, e4⟩ := all_rows fun x hx => h x (List.mem_cons_of_mem _ hx)
    exact ⟨r :: rows, by rw [e2]; rfl, by rw [List.length_cons, List.length_cons, e3], fun x hx => by
      rcases List.mem_cons.mp hx with rfl | hx
      · exact m
      · exact e4 x hx⟩
/-! a drawn book -/
def P_book : List D → Prop := fun ds => ∃ most : Nat, ds = [.int most] ∧ 0 < most ∧ most ≤ 6
def R_book : List D → D → Prop := fun ds z => ∃ (most : Nat) (b : BR), ds = [.int most] ∧ z = .lst (b.map plainD) ∧ 0 < b.length ∧ b.length ≤ most ∧ ∀ r ∈ b, OkRel r
theorem ok_law_book (T : Tx K mg) : FnOk P w K mg base CX0 3 T.a_law_book T.fd_law_book ["hand", "most"] (Ph K P_book R_book) := by
  refine T.F_law_book.ok sc_law_book (fun vs H Q E ⟨F, p, q, ds, ws, _, _, e, hi, ⟨m, em, _⟩, _⟩ => by rw [e, List.length_cons, ← hi.length, em]; rfl) (fun cdv A outer s H vs Q E hr h => ?_)
  obtain ⟨F, p, q, ds, ws, s0, hh, rfl, hi, ⟨most, rfl, m0, m6⟩, k⟩ := h
  obtain ⟨u, rfl, hu⟩ := iss1 hi
  cases hu
  refine ⟨_, (pss_cons (ps_set (i := 2) sc_law_book.nd rfl (by first | exact Or.inl rfl | exact Or.inr rfl) (pe_lst pa_nil))
    (pss_cons (ps_for PassesOwn.never rfl (pi_range1 (by rfl) T.n_range (pa_cons (pe_op (opK K Eg.rAddA op_addA) pe_int (pe_call (ok_law_take T) (hr.mono (by decide)) rfl T.mg_law_take T.F_law_take.kp T.b_law_take .nil pass0 (pa_cons (pv 0) (pa_cons (pv 1) pa_nil)))) pa_nil)) (pg_name (i := 3) sc_law_book.nd rfl (by first | exact Or.inl rfl | exact Or.inr rfl)) (pss_cons (ps_set (i := 4) sc_law_book.nd rfl (by first | exact Or.inl rfl | exact Or.inr rfl) (pe_op (opK K Eg.rAddA op_addA) pe_int (pe_call (ok_law_take T) (hr.mono (by decide)) rfl T.mg_law_take T.F_law_take.kp T.b_law_take .nil pass0 (pa_cons (pv 0) (pa_cons pe_int pa_nil)))))
    (pss_cons (ps_set (i := 5) sc_law_book.nd rfl (by first | exact Or.inl rfl | exact Or.inr rfl) (pe_call (ok_law_every T) (hr.mono (by decide)) rfl T.mg_law_every T.F_law_every.kp T.b_law_every .nil pass0 (pa_cons (pv 4) pa_nil)))
    (pss_cons (ps_setLc (i := 6) (own := [("j", 7)]) rfl sc_law_book.nd rfl rfl (sw_true rfl rfl rfl (by decide +kernel)) (pi_range1 (by rfl) T.n_range (pa_cons (pe_op (opK K Eg.rAddA op_addA) pe_int (pe_call (ok_law_take T) (hr.mono (by decide)) rfl T.mg_law_take T.F_law_take.kp T.b_law_take .nil pass0 (pa_cons (pv 0) (pa_cons pe_int pa_nil)))) pa_nil)) (blkOk_by (own := [("j", 7)]) (N := N_law_book) (sc := defScope s_law_book) (by decide +kernel)) (fun _ _ _ _ _ => (pg_name (i := 7) sc_law_book.nd rfl (by first | exact Or.inl rfl | exact Or.inr rfl))) (fun _ _ _ _ _ => pts_nil) (fun _ _ _ _ _ => (pe_ix (ixK K ix_seq) (pv 5) (pe_call (ok_law_take T) (hr.mono (by decide)) rfl T.mg_law_take T.F_law_take.kp T.b_law_take .nil pass0 (pa_cons (pv 0) (pa_cons (pe_callB (callK K Eg.rLen call_lenA) (by rfl) T.n_len (by decide +kernel) (pa_cons (pv 5) pa_nil)) pa_nil))) (fun _ _ => rfl))))
    (pss_cons (ps_if (pt_cmpR (opK K Eg.rEqA (op_eqA hr)) (pe_call (ok_law_take T) (hr.mono (by decide)) rfl T.mg_law_take T.F_law_take.kp T.b_law_take .nil pass0 (pa_cons (pv 0) (pa_cons pe_int pa_nil))) pe_int (nomark _)) (pss_one (ps_set (i := 6) sc_law_book.nd rfl (by first | exact Or.inl rfl | exact Or.inr rfl) (pv 5))) pss_nil)
    (pss_one (ps_expr (pe_bmK K PySem.F.plainAttrs_list PySem.F.slot_list_append PySem.F.type_list_append mt_append (pv 2) (pa_cons (pe_call (ok_law_each_once T) (hr.mono (by decide)) rfl T.mg_law_each_once T.F_law_each_once.kp T.b_law_each_once .nil pass0 (pa_cons (pv 4) (pa_cons (pv 6) pa_nil))) pa_nil)))))))))
    (pss_one (ps_ret (pv 2))))), ?_⟩
  refine q_asgL (K := K) s0 evl_nil fun l acc F1 H1 a1 nl n0 hl hacc => ?_
  cases hacc
  have hh1 := hh.keep a1
  obtain ⟨lp, lq⟩ := hh.ne_of n0
  have nx : ¬ Hx p q l := fun z => z.elim lp lq
  refine hq_fora (p := p) (q := q) (PX := fun xs : List Nat => 0 < xs.length ∧ xs.length ≤ most) hh1 a1.fh (waH_range (S := fun ds => ∃ r : Nat, r < most ∧ ds = [.int (1 + r : Nat)]) (evha_cons (A := fun d => ∃ r : Nat, r < most ∧ d = .int (1 + r : Nat)) (S := fun ds => ds = [])
      (evh_op (A := fun d => d = .int 1) (B := fun d => ∃ r : Nat, r < most ∧ d = .int r) (evh_of (fun _ _ _ _ => ev_int) rfl) (evh_take rfl (fun F2 H2 a hh => ev_var rfl (.int most)) m0 (fun r hr => ⟨r, hr, rfl⟩)) (fun d e hd ⟨r, hr, he⟩ => by
        subst hd he
        exact ⟨_, ⟨r, hr, rfl⟩, by have h := r2_addI (K := K) (i := 1) (j := (r : Nat)); rw [show (1 : Int) + (r : Nat) = ((1 + r : Nat) : Int) by omega] at h; exact h⟩))
      evha_nil (fun d ds ⟨r, hr, e1⟩ e2 => ⟨r, hr, by rw [e1, e2]⟩)) (fun ds ⟨r, hr, e⟩ => ⟨1 + r, e, by omega, by rw [List.length_range]; omega⟩))
    (fun xs pre post σ' F' H' => ∃ acc, ∃ b : BR, Fx (Hx p q) F H F' H' ∧ HandAt K F' H' p q ∧ σ'[0]? = some (some (V.ref p)) ∧ σ'[2]? = some (some (V.ref l)) ∧ σ'.length = 8 ∧ F' l = none ∧ H' l = some (.lst acc) ∧ Iss K F' (b.map plainD) acc ∧ b.length = pre.length ∧ (∀ r ∈ b, OkRel r))
    (fun xs F2 H2 px a2 h2 => ⟨[], [], a1.of.trans a2, h2, rfl, rfl, rfl, (a2.m nl hl nx).2, (a2.m nl hl nx).1, .nil, rfl, fun r h => by simp at h⟩) (fun _ _ _ _ _ _ ⟨_, _, h, _⟩ => h.fh) ?_ ?_
  · intro xs B pre i post σ' F' H' xi F2 H2 px e sB ⟨acc, b, z, h', g0, g2, gl, nl', hl', hb, bl, bo⟩ a2 hxi
    have lpre : pre.length < 6 := by
      have := congrArg List.length e
      rw [List.length_append, List.length_cons] at this; omega
    show tSeq _ _ _ (σ'.set 3 (some xi)) H2
    have c0 : (σ'.set 3 (some xi))[0]? = some (some (V.ref p)) := by rw [List.getElem?_set_ne (by decide)]; exact g0
    have c2 : (σ'.set 3 (some xi))[2]? = some (some (V.ref l)) := by rw [List.getElem?_set_ne (by decide)]; exact g2
    have cl : (σ'.set 3 (some xi)).length = 8 := by rw [List.length_set]; exact gl
    generalize σ'.set 3 (some xi) = σ1 at c0 c2 cl
    have h2 := h'.keep a2
    have m2 := a2.m nl' hl' id
    -- size
    refine h_asg (p := p) (q := q) (R := fun d => ∃ r : Nat, r < 4 ∧ d = .int (1 + r : Nat)) h2 a2.fh (evh_op (A := fun d => d = .int 1) (B := fun d => ∃ r : Nat, r < 4 ∧ d = .int r) (evh_of (fun _ _ _ _ => ev_int) rfl) (evh_take (m := 4) c0 (fun F2 H2 a hh => ev_int) (by decide) (fun r hr => ⟨r, hr, rfl⟩)) (fun d e hd ⟨r, hr, he⟩ => by
        subst hd he
        exact ⟨_, ⟨r, hr, rfl⟩, by have h := r2_addI (K := K) (i := 1) (j := (r : Nat)); rw [show (1 : Int) + (r : Nat) = ((1 + r : Nat) : Int) by omega] at h; exact h⟩)) fun v3 d3 F3 H3 a3 h3 ⟨r, hr4, e3⟩ hv3 => ?_
    subst e3
    have size4 : 1 + r ≤ 4 := by omega
    have size1 : 1 ≤ 1 + r := by omega
    generalize 1 + r = n at size4 size1 hv3
    have m3 := a3.m m2.2 m2.1 nx
    -- every
    refine q_asg a3.fh (ev_call (ea_cons (ev_var (i := 4) (List.getElem?_set_self (by omega)) hv3) ea_nil) ⟨n, rfl, size4, rfl⟩) fun v4 F4 H4 a4 hv4 => ?_
    have h4 := h3.keep a4
    have m4 := a4.m m3.2 m3.1 id
    have d0 : ((σ1.set 4 (some v3)).set 5 (some v4))[0]? = some (some (V.ref p)) := by rw [List.getElem?_set_ne (by decide), List.getElem?_set_ne (by decide)]; exact c0
    have d2 : ((σ1.set 4 (some v3)).set 5 (some v4))[2]? = some (some (V.ref l)) := by rw [List.getElem?_set_ne (by decide), List.getElem?_set_ne (by decide)]; exact c2
    have d4 : ((σ1.set 4 (some v3)).set 5 (some v4))[4]? = some (some v3) := by rw [List.getElem?_set_ne (by decide), List.getElem?_set_self (by omega)]
    have d5 : ((σ1.set 4 (some v3)).set 5 (some v4))[5]? = some (some v4) := List.getElem?_set_self (by rw [List.length_set]; omega)
    have dl : ((σ1.set 4 (some v3)).set 5 (some v4)).length = 8 := by rw [List.length_set, List.length_set]; exact cl
    generalize (σ1.set 4 (some v3)).set 5 (some v4) = σ2 at d0 d2 d4 d5 dl
    obtain ⟨el1, el2⟩ := every_len n size4
    -- rows
    have w0 : ∀ x j, ((wipe σ2 [7]).set 7 (some x))[j]? = if j = 7 then some (some x) else σ2[j]? := fun x j => by
      show ((σ2.set 7 none).set 7 (some x))[j]? = _
      by_cases hj : j = 7
      · subst hj; rw [if_pos rfl, List.getElem?_set_self (by rw [List.length_set]; omega)]
      · rw [if_neg hj, List.getElem?_set_ne (Ne.symm hj), List.getElem?_set_ne (Ne.symm hj)]
    refine h_asg (p := p) (q := q) (R := fun d => ∃ rows : List (List Int), d = .lst (rows.map rowD) ∧ 0 < rows.length ∧ ∀ r ∈ rows, r ∈ everyL n) h4 a4.fh (evh_la (A := fun d => ∃ r ∈ everyL n, d = rowD r) (PX := fun xs : List Nat => 0 < xs.length ∧ xs.length ≤ 5)
      (waH_range (S := fun ds => ∃ r : Nat, r < 5 ∧ ds = [.int (1 + r : Nat)]) (evha_cons (A := fun d => ∃ r : Nat, r < 5 ∧ d = .int (1 + r : Nat)) (S := fun ds => ds = [])
        (evh_op (A := fun d => d = .int 1) (B := fun d => ∃ r : Nat, r < 5 ∧ d = .int r) (evh_of (fun _ _ _ _ => ev_int) rfl) (evh_take (m := 5) d0 (fun F2 H2 a hh => ev_int) (by decide) (fun r hr => ⟨r, hr, rfl⟩)) (fun d e hd ⟨r, hr, he⟩ => by
          subst hd he
          exact ⟨_, ⟨r, hr, rfl⟩, by have h := r2_addI (K := K) (i := 1) (j := (r : Nat)); rw [show (1 : Int) + (r : Nat) = ((1 + r : Nat) : Int) by omega] at h; exact h⟩))
        evha_nil (fun d ds ⟨r, hr, e1⟩ e2 => ⟨r, hr, by rw [e1, e2]⟩)) (fun ds ⟨r, hr, e⟩ => ⟨1 + r, e, by omega, by rw [List.length_range]; omega⟩))
      (fun x => by show ((σ2.set 7 none).set 7 (some x)).set 7 none = σ2.set 7 none; rw [List.set_set, List.set_set])
      (fun xs px d hd F5 H5 x a5 hx => evh_op (A := fun d => d = .lst ((everyL n).map rowD)) (B := fun d => ∃ r : Nat, r < (everyL n).length ∧ d = .int r) (evh_of (fun F6 H6 a6 _ => ev_var ((w0 x 5).trans ((if_neg (by decide)).trans d5)) (a6.is (a5.is hv4))) rfl)
        (evh_take (m := (everyL n).length) ((w0 x 0).trans ((if_neg (by decide)).trans d0)) (fun F6 H6 a6 hh => by
          have h := ev_cb (σ := (wipe σ2 [7]).set 7 (some x)) (F := F6) (H := H6) (ea_cons (ev_var (K := K) (i := 5) ((w0 x 5).trans ((if_neg (by decide)).trans d5)) (a6.is (a5.is hv4))) ea_nil) (rc_len (K := K) (n := (everyL n).length) (by show some _ = _; rw [List.length_map]))
          exact h) el2 (fun r hr => ⟨r, hr, rfl⟩)) (fun d e hd ⟨r, hr, he⟩ => by
          subst hd he
          exact ⟨_, ⟨_, List.getElem_mem hr, rfl⟩, r2_ixL (atI_of (by omega) (by rw [Int.toNat_natCast, List.getElem?_map, List.getElem?_eq_getElem hr]; rfl))⟩))
      (fun xs px => by rw [sizeLine_eq]; omega) (fun xs es px le al => by
        obtain ⟨rows, e1, e2, e3⟩ := all_rows al
        exact ⟨rows, by rw [e1], by omega, e3⟩)) fun v5 d6 F5 H5 a5 h5 ⟨rows, e5, rl, ro⟩ hv5 => ?_
    subst e5
    have m5 := a5.m m4.2 m4.1 nx
    have f0 : (σ2.set 6 (some v5))[0]? = some (some (V.ref p)) := by rw [List.getElem?_set_ne (by decide)]; exact d0
    have f2 : (σ2.set 6 (some v5))[2]? = some (some (V.ref l)) := by rw [List.getElem?_set_ne (by decide)]; exact d2
    have f4 : (σ2.set 6 (some v5))[4]? = some (some v3) := by rw [List.getElem?_set_ne (by decide)]; exact d4
    have f5 : (σ2.set 6 (some v5))[5]? = some (some v4) := by rw [List.getElem?_set_ne (by decide)]; exact d5
    have f6 : (σ2.set 6 (some v5))[6]? = some (some v5) := List.getElem?_set_self (by omega)
    have fl : (σ2.set 6 (some v5)).length = 8 := by rw [List.length_set]; exact dl
    generalize σ2.set 6 (some v5) = σ3 at f0 f2 f4 f5 f6 fl
    have a25 : Fx (Hx p q) F' H' F5 H5 := a2.of.trans (a3.trans (a4.of.trans a5))
    have z5 : Fx (Hx p q) F H F5 H5 := z.trans a25
    refine hq_whenT (p := p) (q := q) (fun σ' H6 => ∃ F6 v6 rows', Fx (Hx p q) F5 H5 F6 H6 ∧ HandAt K F6 H6 p q ∧ σ'[0]? = some (some (V.ref p)) ∧ σ'[2]? = some (some (V.ref l)) ∧ σ'[4]? = some (some v3) ∧ σ'[6]? = some (some v6) ∧ σ'.length = 8 ∧ Is K F6 (.lst (rows'.map rowD)) v6 ∧ 0 < rows'.length ∧ ∀ r ∈ rows', r ∈ everyL n) h5 a5.fh
      (eht_test (evh_op (A := fun d => ∃ r : Nat, r < 5 ∧ d = .int r) (B := fun d => d = .int 0) (evh_take (m := 5) f0 (fun F2 H2 a hh => ev_int) (by decide) (fun r hr => ⟨r, hr, rfl⟩)) (evh_of (fun _ _ _ _ => ev_int) rfl) (fun d e ⟨r, hr, hd⟩ he => by subst hd he; exact ⟨_, ⟨_, rfl⟩, r2_eqI⟩))) ?_ ?_
      (fun F6 H6 a6 h6 => ⟨F6, v5, rows, a6, h6, f0, f2, f4, f6, fl, a6.is hv5, rl, ro⟩)
    · intro σ4 H6 ⟨F6, v6, rows', a6, h6, k0, k2, k4, k6, kl, hv6, rl', ro'⟩
      have m6 := a6.m m5.2 m5.1 nx
      refine s_app a6.fh k2 m6.2 m6.1 (by rw [← hb.length, List.length_map, bl, sizeLine_eq]; omega) (ev_call (ea_cons (ev_var k4 (a6.is (a5.is (a4.is hv3)))) (ea_cons (ev_var k6 hv6) ea_nil)) ⟨n, rows', rfl, size4, rfl⟩) fun v7 F7 H7 a7 hv7 nl7 => ?_
      have z6 : Fx (Hx p q) F H F7 H7 := z5.trans (a6.trans a7.of)
      refine ⟨F7, sB.trans (a25.ff.trans (a6.ff.trans a7.ff)), acc ++ [v7], b ++ [(n, onceL n rows')], z6.mut (.inl n0) nl7, (h6.keep a7).other lp lq, k0, k2, kl, nl7, upd_same, ?_, ?_, ?_⟩
      · rw [List.map_append]
        exact (Fx.iss (a25.trans (a6.trans a7.of)) hb).snoc hv7
      · rw [List.length_append, List.length_append, bl]; rfl
      · intro r hr
        rcases List.mem_append.mp hr with hr | hr
        · exact bo r hr
        · rw [List.mem_singleton] at hr
          subst hr
          exact once_ok size1 size4 ⟨rows'[0], List.getElem_mem rl', ro' _ (List.getElem_mem rl')⟩
    · intro tl F6 H6 a6 h6
      refine s_asg a6.fh (ev_var f5 (a6.is (a5.is hv4))) fun v7 F7 H7 a7 hv7 => ?_
      refine tl _ _ ⟨F7, v7, everyL n, a6.trans a7.of, h6.keep a7, ?_, ?_, ?_, ?_, ?_, hv7, el2, fun r hr => hr⟩
      · rw [List.getElem?_set_ne (by decide)]; exact f0
      · rw [List.getElem?_set_ne (by decide)]; exact f2
      · rw [List.getElem?_set_ne (by decide)]; exact f4
      · exact List.getElem?_set_self (by omega)
      · rw [List.length_set]; exact fl
  · intro xs σ' F' H' px ⟨acc, b, z, h', g0, g2, gl, nl', hl', hb, bl, bo⟩
    have fz := z.freeze s0 n0 hl'
    have s2 := frz_same z.fh nl' hl'
    refine s_ret fz.fh (ev_var g2 (.lst upd_same (Iss.up s2.1 _ _ hb))) fun v F5 H5 a5 hv => ?_
    exact k v _ F5 H5 (fz.trans a5.of) ((h'.frz lp lq nl').keep a5) ⟨most, b, rfl, rfl, by omega, by omega, bo⟩ hv
end
end K08
namespace K08
open PySem L2 Eg
open TL (numL joinL spl)
open PyProof.Rows (boot_int boot_tuple boot_bool boot_list boot_str boot_isinstance boot_range boot_enumerate boot_abs)
local macro_rules | `(tactic| walk_at "is") => `(tactic| first | assumption | (refine Fx.is (by assumption) ?_; walk_at "is"))
local macro_rules | `(tactic| walk_at "sz") => `(tactic| first | assumption | omega | (show _ ≤ sizeLine; decide) | (show _ < sizeLine; decide))
local macro_rules | `(tactic| walk_at "r2") => `(tactic| first
  | exact r2_addI | exact r2_addS (by walk_at "sz") | exact r2_addT (by walk_at "sz") | exact r2_addL (by walk_at "sz")
  | exact r2_eqI | exact r2_eqS | exact r2_neI | exact r2_neS | exact r2_lt | exact r2_le | exact r2_gt | exact r2_ge | exact r2_sub | exact r2_isN | exact r2_notN)
local macro_rules | `(tactic| walk_at "ea") => `(tactic| first | exact ea_nil | refine ea_cons (by walk_at "ev") (by walk_at "ea"))
local macro_rules | `(tactic| walk_at "ev") => `(tactic| first
  | exact ev_int | exact ev_str | exact ev_bl | exact ev_non
  | refine ev_var rfl (by walk_at "is")
  | refine ev_op (by walk_at "ev") (by walk_at "ev") (by walk_at "r2")
  | refine ev_tup (by walk_at "ea") (by walk_at "sz")
  | refine ev_lst (by walk_at "ea") (by walk_at "sz")
  | refine ev_cb (by walk_at "ea") (by first | exact rc_len rfl | exact rc_intI | exact rc_tupL | exact rc_tupT))

section
variable {P : Program} {w : World} {K : PySem.W.Frag} {mg : Str → Option Value} {base : Heap}
/-! the lines, made -/
def R_lines : List D → D → Prop := fun ds z => ∃ (b : BR) (m : Nat) (ts : List Tie), ds = [.lst (b.map plainD), .int m, .tup (ts.map tieD)] ∧ OkPuz b m ts ∧ z = .lst ((linesL b m ts).map tD)
theorem ok_law_lines (T : Tx K mg) : FnOk P w K mg base CX0 1 T.a_law_lines T.fd_law_lines ["book", "many", "ties"] (Pu K R_lines) := by
  refine T.F_law_lines.ok sc_law_lines (fun vs H Q E h => pu_len (fun ds d ⟨_, _, _, e, _⟩ => by rw [e]; rfl) h) (fun cdv A outer s H vs Q E hr h => ?_)
  obtain ⟨F, ds, d, s0, hi, ⟨b, m, ts, rfl, ok, rfl⟩, k⟩ := h
  obtain ⟨x, y, u, rfl, h1, h2, h3⟩ := iss3 hi
  refine ⟨_, (pss_cons (ps_set (i := 3) sc_law_lines.nd rfl (by first | exact Or.inl rfl | exact Or.inr rfl) (pe_lst pa_nil))
    (pss_cons (ps_for PassesOwn.never rfl (pi_seqK K (pv 0)) (pg_tupK K rfl (pgs_cons (pg_name (i := 4) sc_law_lines.nd rfl (by first | exact Or.inl rfl | exact Or.inr rfl)) (pgs_cons (pg_name (i := 5) sc_law_lines.nd rfl (by first | exact Or.inl rfl | exact Or.inr rfl)) pgs_nil))) (pss_cons (ps_setLc (i := 6) (own := [("row", 7)]) rfl sc_law_lines.nd rfl rfl (sw_true rfl rfl rfl (by decide +kernel)) (pi_seqK K (pv 5)) (blkOk_by (own := [("row", 7)]) (N := N_law_lines) (sc := defScope s_law_lines) (by decide +kernel)) (fun _ _ _ _ _ => (pg_name (i := 7) sc_law_lines.nd rfl (by first | exact Or.inl rfl | exact Or.inr rfl))) (fun _ _ _ _ _ => pts_nil) (fun _ _ _ _ _ => (pe_bmK K PySem.F.plainAttrs_str PySem.F.slot_str_join PySem.F.type_str_join (mtK K Eg.rJoin mt_joinA) pe_str (pa_cons (pe_lc (own := [("value", 8)]) rfl sc_law_lines.nd (pi_seqK K (pv 7)) (by refine blkOk_by ?_; kernel_rfl) (fun _ _ _ _ _ => (pg_name (i := 8) sc_law_lines.nd rfl (by first | exact Or.inl rfl | exact Or.inr rfl))) (fun _ _ _ _ _ => pts_nil) (fun _ _ _ _ _ => (pe_callTy call_strA (by rfl) T.n_str (by decide +kernel) (pa_cons (pv 8) pa_nil)))) pa_nil))))
    (pss_one (ps_expr (pe_bmK K PySem.F.plainAttrs_list PySem.F.slot_list_append PySem.F.type_list_append mt_append (pv 3) (pa_cons (pe_op (opK K Eg.rAddA op_addA) (pe_op (opK K Eg.rAddA op_addA) (pe_op (opK K Eg.rAddA op_addA) pe_str (pe_callTy call_strA (by rfl) T.n_str (by decide +kernel) (pa_cons (pv 4) pa_nil))) pe_str) (pe_bmK K PySem.F.plainAttrs_str PySem.F.slot_str_join PySem.F.type_str_join (mtK K Eg.rJoin mt_joinA) pe_str (pa_cons (pv 6) pa_nil))) pa_nil))))))
    (pss_cons (ps_expr (pe_bmK K PySem.F.plainAttrs_list PySem.F.slot_list_append PySem.F.type_list_append mt_append (pv 3) (pa_cons (pe_op (opK K Eg.rAddA op_addA) pe_str (pe_callTy call_strA (by rfl) T.n_str (by decide +kernel) (pa_cons (pv 1) pa_nil))) pa_nil)))
    (pss_cons (ps_for PassesOwn.never rfl (pi_seqK K (pv 2)) (pg_tupK K rfl (pgs_cons (pg_name (i := 9) sc_law_lines.nd rfl (by first | exact Or.inl rfl | exact Or.inr rfl)) (pgs_cons (pg_name (i := 10) sc_law_lines.nd rfl (by first | exact Or.inl rfl | exact Or.inr rfl)) pgs_nil))) (pss_one (ps_expr (pe_bmK K PySem.F.plainAttrs_list PySem.F.slot_list_append PySem.F.type_list_append mt_append (pv 3) (pa_cons (pe_op (opK K Eg.rAddA op_addA) (pe_op (opK K Eg.rAddA op_addA) (pe_op (opK K Eg.rAddA op_addA) pe_str (pe_callTy call_strA (by rfl) T.n_str (by decide +kernel) (pa_cons (pv 9) pa_nil))) pe_str) (pe_bmK K PySem.F.plainAttrs_str PySem.F.slot_str_join PySem.F.type_str_join (mtK K Eg.rJoin mt_joinA) pe_str (pa_cons (pe_lc (own := [("cell", 11)]) rfl sc_law_lines.nd (pi_seqK K (pv 10)) (blkOk_by (own := [("cell", 11)]) (N := N_law_lines) (sc := defScope s_law_lines) (by decide +kernel)) (fun _ _ _ _ _ => (pg_name (i := 11) sc_law_lines.nd rfl (by first | exact Or.inl rfl | exact Or.inr rfl))) (fun _ _ _ _ _ => pts_nil) (fun _ _ _ _ _ => (pe_callTy call_strA (by rfl) T.n_str (by decide +kernel) (pa_cons (pv 11) pa_nil)))) pa_nil))) pa_nil)))))
    (pss_one (ps_ret (pv 3))))))), ?_⟩
  refine q_asgL (K := K) s0 evl_nil fun l acc F1 H1 a1 nl n0 hl hacc => ?_
  cases hacc
  refine q_fora (K := K) (xs := b) (dd := plainD) a1.fh (wa_seqL (ev_var (i := 0) rfl (a1.is h1))) (fun pre post σ' F' H' => ∃ acc, Fz F H F' H' ∧ σ'[1]? = some (some y) ∧ σ'[2]? = some (some u) ∧ σ'[3]? = some (some (V.ref l)) ∧ σ'.length = 12 ∧ F' l = none ∧ H' l = some (.lst acc) ∧ Iss K F' ((pre.map relL).map tD) acc)
    (fun F2 H2 a2 => ⟨[], a1.trans a2, rfl, rfl, rfl, rfl, (a2.m nl hl id).2, (a2.m nl hl id).1, .nil⟩) (fun _ _ _ _ _ ⟨_, h, _⟩ => h.fh) ?_ ?_
  · intro B pre r post σ' F' H' xr F2 H2 e sB ⟨acc, z, g1, g2, g3, gl, nl', hl', hb⟩ a2 hx
    have mr : r ∈ b := by rw [e]; simp
    have or := ok.rel r mr
    have lp : pre.length < 6 := by
      have := congrArg List.length e
      rw [List.length_append, List.length_cons] at this
      have := ok.b6
      omega
    refine g_pair a2.fh hx fun v4 v5 hv4 hv5 => ?_
    have c1 : ((σ'.set 4 (some v4)).set 5 (some v5))[1]? = some (some y) := by rw [List.getElem?_set_ne (by decide), List.getElem?_set_ne (by decide)]; exact g1
    have c2 : ((σ'.set 4 (some v4)).set 5 (some v5))[2]? = some (some u) := by rw [List.getElem?_set_ne (by decide), List.getElem?_set_ne (by decide)]; exact g2
    have c3 : ((σ'.set 4 (some v4)).set 5 (some v5))[3]? = some (some (V.ref l)) := by rw [List.getElem?_set_ne (by decide), List.getElem?_set_ne (by decide)]; exact g3
    have c4 : ((σ'.set 4 (some v4)).set 5 (some v5))[4]? = some (some v4) := by rw [List.getElem?_set_ne (by decide), List.getElem?_set_self (by omega)]
    have c5 : ((σ'.set 4 (some v4)).set 5 (some v5))[5]? = some (some v5) := List.getElem?_set_self (by rw [List.length_set]; omega)
    have cl : ((σ'.set 4 (some v4)).set 5 (some v5)).length = 12 := by rw [List.length_set, List.length_set]; exact gl
    generalize (σ'.set 4 (some v4)).set 5 (some v5) = σ1 at c1 c2 c3 c4 c5 cl
    have m2 := a2.m nl' hl' id
    refine q_asg a2.fh (ev_la1 (xs := r.2) (dd := rowD) (wa_seqT (ev_var c5 hv5)) (fun q => tD (wordL q)) (fun x => by show ((σ1.set 7 none).set 7 (some x)).set 7 none = σ1.set 7 none; rw [List.set_set, List.set_set]) (fun q hq F3 H3 x a3 hx => ?_) (Nat.lt_of_le_of_lt or.few (by decide))) fun v6 F3 H3 a3 hv6 => ?_
    · obtain ⟨w1, w2⟩ := word_len or.2.1 (or.2.2.2.1 q hq)
      have i7 : ((wipe σ1 [7]).set 7 (some x))[7]? = some (some x) := by
        show ((σ1.set 7 none).set 7 (some x))[7]? = _
        exact List.getElem?_set_self (by rw [List.length_set]; omega)
      have l7 : ((wipe σ1 [7]).set 7 (some x)).length = 12 := by
        show ((σ1.set 7 none).set 7 (some x)).length = 12
        rw [List.length_set, List.length_set]; exact cl
      show Ev K _ ((wipe σ1 [7]).set 7 (some x)) F3 H3 _
      generalize (wipe σ1 [7]).set 7 (some x) = σ2 at i7 l7
      refine ev_bmS ev_txt (ea_cons (ev_la1 (xs := q) (dd := D.int) (wa_seqT (ev_var i7 hx)) (fun v => tD (numL v.toNat)) (fun x => by show ((σ2.set 8 none).set 8 (some x)).set 8 none = σ2.set 8 none; rw [List.set_set, List.set_set]) (fun v hv F4 H4 x4 a4 hx4 => ?_) (by rw [List.length_map] at w1; exact Nat.lt_of_le_of_lt w1 (by decide))) ea_nil) ?_
      · have b := (or.2.2.2.1 q hq).2 v hv
        have h := rc_strN (K := K) (n := v.toNat) (by omega)
        rw [Int.toNat_of_nonneg b.1] at h
        refine ev_cb (ea_cons (ev_var ?_ hx4) ea_nil) h
        show ((σ2.set 8 none).set 8 (some x4))[8]? = _
        exact List.getElem?_set_self (by rw [List.length_set]; omega)
      · have h := rm_joinX (K := K) (a := cs "") (ys := q.map fun v => numL v.toNat) (Nat.le_trans (join_size w1 w2) (by decide))
        rw [List.map_map] at h
        exact h
    · have l1 := words_join or
      have l2 := rel_num or
      have l3 := lc9
      have l4 := lc1
      have m3 := a3.m m2.2 m2.1 id
      have e3 : (σ1.set 6 (some v6))[3]? = some (some (V.ref l)) := by rw [List.getElem?_set_ne (by decide)]; exact c3
      have e4 : (σ1.set 6 (some v6))[4]? = some (some v4) := by rw [List.getElem?_set_ne (by decide)]; exact c4
      have e6 : (σ1.set 6 (some v6))[6]? = some (some v6) := List.getElem?_set_self (by omega)
      refine s_app a3.fh e3 m3.2 m3.1 (by rw [← hb.length, List.length_map, List.length_map, sizeLine_eq]; omega) (ev_op (z := tD (relL r)) (ev_op (ev_op ev_txt (ev_cb (ea_cons (ev_var e4 (a3.is hv4)) ea_nil) (rc_strN (by have := or.2.1; omega))) (r2_addX ?_)) ev_txt (r2_addX ?_)) (ev_bmS ev_txt (ea_cons (ev_var e6 hv6) ea_nil) (z := tD (joinL (cs ",") (r.2.map wordL))) ?_) (r2_addX ?_)) fun v F4 H4 a4 hv nl4 => ?_
      · rw [sizeLine_eq]; omega
      · rw [List.length_append, sizeLine_eq]; omega
      · have h := rm_joinX (K := K) (a := cs ",") (ys := r.2.map wordL) (Nat.le_trans (join_size (n := 16) (by rw [List.length_map]; exact or.few) (words_len or)) (by decide))
        rw [List.map_map] at h
        exact h
      · rw [List.length_append, List.length_append, sizeLine_eq]; omega
      · have zz := (z.trans (a2.trans (a3.trans a4))).mut (p := l) (o := .lst (acc ++ [v])) (.inl n0) nl4
        refine ⟨F4, sB.trans (a2.trans (a3.trans a4)).ff, acc ++ [v], zz, ?_, ?_, e3, by rw [List.length_set]; exact cl, nl4, upd_same, ?_⟩
        · rw [List.getElem?_set_ne (by decide)]; exact c1
        · rw [List.getElem?_set_ne (by decide)]; exact c2
        · have ee : ((pre ++ [r]).map relL).map tD = (pre.map relL).map tD ++ [tD (relL r)] := by rw [List.map_append, List.map_append]; rfl
          rw [ee]
          exact ((a2.trans (a3.trans a4)).iss hb).snoc hv
  · intro σ' F' H' ⟨acc, z, g1, g2, g3, gl, nl', hl', hb⟩
    have l1 := lc6
    have l2 := num_small ok.m6
    have hlen : acc.length ≤ 6 := by rw [← hb.length, List.length_map, List.length_map]; exact ok.b6
    refine q_app (K := K) z.fh g3 nl' hl' (by rw [sizeLine_eq]; omega) (ev_op (z := tD (cellL m)) ev_txt (ev_cb (ea_cons (ev_var g1 (z.is h2)) ea_nil) (rc_strN (by have := ok.m6; omega))) (r2_addX (by rw [sizeLine_eq]; omega))) fun v F3 H3 a3 hv nl3 => ?_
    have z3 := (z.trans a3).mut (p := l) (o := .lst (acc ++ [v])) (.inl n0) nl3
    have is3 : Iss K F3 ((b.map relL ++ [cellL m]).map tD) (acc ++ [v]) := by
      rw [List.map_append]
      exact (a3.iss hb).snoc hv
    have ht3 := fun (t : Tie) (ht : t ∈ ts) => OkPuz.tie4 ok ht
    refine q_fora (K := K) (α := Tie) (xs := ts) (dd := tieD) z3.fh (wa_seqT (ev_var g2 (z3.is h3))) (fun pre post σ' F' H' => ∃ acc', Fz F H F' H' ∧ σ'[3]? = some (some (.ref l)) ∧ σ'.length = 12 ∧ F' l = none ∧ H' l = some (.lst acc') ∧ Iss K F' ((b.map relL ++ [cellL m] ++ pre.map tieL).map tD) acc')
      (fun F4 H4 a4 => ⟨acc ++ [v], z3.trans a4, g3, gl, (a4.m nl3 upd_same id).2, (a4.m nl3 upd_same id).1, by rw [List.map_nil, List.append_nil]; exact a4.iss is3⟩) (fun _ _ _ _ _ ⟨_, h, _⟩ => h.fh) ?_ ?_
    · intro B pre t post σ' F' H' x' F4 H4 e sB ⟨acc', z', hσ, hσl, nl', hl', is'⟩ a4 hx'
      have mt : t ∈ ts := by rw [e]; simp
      refine g_pair a4.fh hx' fun y1 y2 hy1 hy2 => ?_
      have m4 := a4.m nl' hl' id
      obtain ⟨t1, t2, t3⟩ := ht3 t mt
      have q1 := comma_len t2 t3
      have q2 : (numL t.1).length ≤ 6 := num_small (by omega)
      have q3 := lc4
      have q4 := lc1
      have g2 : ((σ'.set 9 (some y1)).set 10 (some y2))[9]? = some (some y1) := by rw [List.getElem?_set_ne (by decide), List.getElem?_set_self (by omega)]
      have g3 : ((σ'.set 9 (some y1)).set 10 (some y2))[10]? = some (some y2) := by rw [List.getElem?_set_self (by rw [List.length_set]; omega)]
      have g1 : ((σ'.set 9 (some y1)).set 10 (some y2))[3]? = some (some (.ref l)) := by rw [List.getElem?_set_ne (by decide), List.getElem?_set_ne (by decide)]; exact hσ
      have gL : ((σ'.set 9 (some y1)).set 10 (some y2)).length = 12 := by rw [List.length_set, List.length_set]; exact hσl
      generalize (σ'.set 9 (some y1)).set 10 (some y2) = σ1 at g1 g2 g3 gL
      have ac : acc'.length ≤ 207 := by
        rw [← is'.length, List.length_map, List.length_append, List.length_append, List.length_map, List.length_map, List.length_singleton]
        have e2 : pre.length ≤ ts.length := by rw [e, List.length_append]; omega
        have := ok.b6
        have := ok.few
        omega
      refine s_app a4.fh g1 m4.2 m4.1 (by rw [sizeLine_eq]; omega) (ev_op (z := tD (tieL t)) (ev_op (ev_op ev_txt (ev_cb (ea_cons (ev_var g2 hy1) ea_nil) (rc_strN (by omega))) (r2_addX (by rw [sizeLine_eq]; omega))) ev_txt (r2_addX (by rw [List.length_append, sizeLine_eq]; omega)))
        (ev_bmS ev_txt (ea_cons (ev_la1 (xs := t.2) (dd := fun c => D.int (c : Nat)) (wa_seqT (ev_var g3 hy2)) (fun c => tD (numL c)) (fun x => by show ((σ1.set 11 none).set 11 (some x)).set 11 none = σ1.set 11 none; rw [List.set_set, List.set_set]) (fun d hd F1 H1 x a hx => ev_cb (ea_cons (ev_var (by show ((σ1.set 11 none).set 11 (some x))[11]? = _; exact List.getElem?_set_self (by rw [List.length_set]; omega)) hx) ea_nil) (rc_strN (by have := t3 d hd; omega))) (Nat.lt_of_le_of_lt t2 (by decide))) ea_nil) (z := tD (commaL t.2)) ?_)
        (r2_addX (by rw [List.length_append, List.length_append, sizeLine_eq]; omega))) fun v F5 H5 a5 hv nl5 => ?_
      · have h := rm_joinX (K := K) (a := cs ",") (ys := t.2.map numL) (Nat.le_trans (join_size (n := 4) (by rw [List.length_map]; exact t2) (comma_small t3)) (by decide))
        rw [List.map_map] at h
        exact h
      have zz := (z'.trans (a4.trans a5)).mut (p := l) (o := .lst (acc' ++ [v])) (.inl n0) nl5
      refine ⟨F5, sB.trans (a4.trans a5).ff, acc' ++ [v], zz, g1, gL, nl5, upd_same, ?_⟩
      have ee : (b.map relL ++ [cellL m] ++ (pre ++ [t]).map tieL).map tD = (b.map relL ++ [cellL m] ++ pre.map tieL).map tD ++ [tD (tieL t)] := by simp only [List.map_append, List.map_cons, List.map_nil, List.append_assoc]
      rw [ee]
      exact ((a4.trans a5).iss is').snoc hv
    · intro σ' F' H' ⟨acc', z', hσ, hσl, nl', hl', is'⟩
      have fz := z'.freeze s0 n0 hl'
      have s2 := frz_same z'.fh nl' hl'
      exact s_ret fz.fh (ev_var hσ (.lst upd_same (Iss.up s2.1 _ _ is'))) fun v F4 H4 a4 hv => k v F4 H4 (fz.trans a4) hv
end
end K08
namespace K08
open PySem L2 Eg
open TL (numL joinL spl)
open PyProof.Rows (boot_int boot_tuple boot_bool boot_list boot_str boot_isinstance boot_range boot_enumerate boot_abs)
local macro_rules | `(tactic| walk_at "is") => `(tactic| first | assumption | (refine Fx.is (by assumption) ?_; walk_at "is"))
local macro_rules | `(tactic| walk_at "sz") => `(tactic| first | assumption | omega | (show _ ≤ sizeLine; decide) | (show _ < sizeLine; decide))
local macro_rules | `(tactic| walk_at "r2") => `(tactic| first
  | exact r2_addI | exact r2_addS (by walk_at "sz") | exact r2_addT (by walk_at "sz") | exact r2_addL (by walk_at "sz")
  | exact r2_eqI | exact r2_eqS | exact r2_neI | exact r2_neS | exact r2_lt | exact r2_le | exact r2_gt | exact r2_ge | exact r2_sub | exact r2_isN | exact r2_notN)
local macro_rules | `(tactic| walk_at "ea") => `(tactic| first | exact ea_nil | refine ea_cons (by walk_at "ev") (by walk_at "ea"))
local macro_rules | `(tactic| walk_at "ev") => `(tactic| first
  | exact ev_int | exact ev_str | exact ev_bl | exact ev_non
  | refine ev_var rfl (by walk_at "is")
  | refine ev_op (by walk_at "ev") (by walk_at "ev") (by walk_at "r2")
  | refine ev_tup (by walk_at "ea") (by walk_at "sz")
  | refine ev_lst (by walk_at "ea") (by walk_at "sz")
  | refine ev_cb (by walk_at "ea") (by first | exact rc_len rfl | exact rc_intI | exact rc_tupL | exact rc_tupT))

section
variable {P : Program} {w : World} {K : PySem.W.Frag} {mg : Str → Option Value} {base : Heap}
/-! reading, faults told -/
def foundD (T : Tx K mg) : Except Nat (RSt × Nat) → D
  | .ok r => .tup [tD (cs "puzzle"), puzD T r.1.told r.2 r.1.ties]
  | .error a => .tup [tD (cs "fault"), .int a]
def R_law_read (T : Tx K mg) : List D → D → Prop := fun ds z => ∃ l : List Nat, ds = [tD l] ∧ l.length < 900000 ∧ z = foundD T (readS l)
theorem ok_law_read (T : Tx K mg) : FnOk P w K mg base CX0 10 T.a_law_read T.fd_law_read ["text"] (Pu K (R_law_read T)) := by
  refine T.F_law_read.ok sc_law_read (fun vs H Q E h => pu_len (fun ds d ⟨_, e, _⟩ => by rw [e]; rfl) h) (fun cdv A outer s H vs Q E hr h => ?_)
  obtain ⟨F, ds, d, s0, hi, ⟨l, rfl, hl, rfl⟩, k⟩ := h
  obtain ⟨x, rfl, h1⟩ := iss1 hi
  have hr9 : Room 9 _ := hr
  have hu := hr.units
  refine ⟨_, pss_one (ps_try_as (i := 1) (tb := fun W => tRet (tTup (tCons (tC (.str "puzzle")) (tCons (tCallS (P_read T) (WE W) (tCons (tVar 0) tNil)) tNil))))
      (Wout := fun _ _ _ _ => False) rfl rfl sc_law_read.nd rfl rfl ⟨rfl, by decide, Or.inl T.mc_InvalidText⟩ takes0
      (fun W pn xe tk _ => pss_one (ps_ret (pe_tup (pa_cons pe_str (pa_cons (by exact pe_callS (ok_read_puzzle T) hr9 rfl T.mg_read_puzzle T.F_read_puzzle.kp T.b_read_puzzle (fun σ => passAt tk σ) (by exact pa_cons (pv 0) pa_nil)) pa_nil)))))
      (fun a oe cls d pn hz hf => pss_cons (ps_if (PW.pt (pw_or (pt_not (pt_val (pe_callB (callK K (fun K => rIsEd K T.c_InvalidText a cls d) (call_isEd T.e_InvalidText hz hf)) (by rfl) T.n_isinstance (by decide +kernel) (pa_cons (pv 1) (pa_cons (pe_glob (v := .ref T.c_CellError) rfl T.mc_CellError rfl) pa_nil)))))
          (pw_or (pt_val (pe_callB (callK K (fun K => rIsEd K T.c_InvalidText a cls d) (call_isEd T.e_InvalidText hz hf)) (by rfl) T.n_isinstance (by decide +kernel) (pa_cons (pv 1) (pa_cons (pe_glob (v := .ref T.c_InvalidPuzzle) rfl T.mc_InvalidPuzzle rfl) pa_nil))))
            (pw_or1 (pt_cmpR (opK K Eg.rNeA (op_neU hu)) (pe_xf (xf_of T.e_InvalidText) T.no_text hz hf (pv 1) rfl) (pv 0) (nomark _))))))
          (pss_one (ps_ret (pe_tup (pa_cons pe_str (pa_cons pe_non pa_nil))))) pss_nil)
        (pss_one (ps_ret (pe_tup (pa_cons pe_str (pa_cons (pe_xf (xf_of T.e_InvalidText) T.no_at hz hf (pv 1) rfl) pa_nil))))))), ?_⟩
  refine ⟨x, rfl, F, l, s0, .cons h1 .nil, hl, ?_⟩
  cases e : readS l with
  | ok r =>
    rw [e] at k
    intro v F' H' z hv
    refine ⟨by show 2 ≤ sizeLine; decide, fun p hp => ?_⟩
    have z2 := Fx.lay (X := Nox) (o := .tup [V.str "puzzle", v]) z.fh hp
    refine k _ (upd F' p (.tup [V.str "puzzle", v])) _ (z.trans z2) (.tup (.inl (.inl upd_same)) (.cons ?_ (.cons (z2.is hv) .nil)))
    rw [of_cs]
    exact .str _
  | error at_ =>
    rw [e] at k
    intro dd F' H' z hd
    refine ⟨true, T.ex1, fun _ a ha => ?_, fun z => by cases z⟩
    have i1 : ((L2.start N_law_read [x]).set 1 (some (V.ref a)))[1]? = some (some (V.ref a)) := rfl
    have hx : Is K F' (tD l) x := z.is h1
    refine q_when (b := false) z.fh (EvT.cast (et_or (x := false) (y := false) (EvT.cast (et_not (et_test (ev_isEd i1 hd T.kit1))) rfl) fun _ => EvT.cast (et_or (x := false) (y := false) (et_test (ev_isEd i1 hd T.kit2)) fun _ => EvT.cast (et_test (ev_op (ev_xf (d := tD l) i1 hd rfl (.str _)) (ev_var (i := 0) rfl hx) r2_neX)) (by simp)) rfl) rfl) (fun z => by cases z) fun _ F2 H2 a2 => ?_
    refine s_ret (K := K) a2.fh (ev_tup (ea_cons ev_txt (ea_cons (ev_xf (d := .int at_) i1 (a2.hh _ _ id hd) rfl (.int _)) ea_nil)) (by show 2 ≤ sizeLine; decide)) fun v F3 H3 a3 hv => ?_
    exact k v F3 H3 (z.trans (a2.trans a3)) hv
end
end K08
namespace K08
open PySem L2 Eg
open TL (numL joinL spl)
open PyProof.Rows (boot_int boot_tuple boot_bool boot_list boot_str boot_isinstance boot_range boot_enumerate boot_abs)
local macro_rules | `(tactic| walk_at "is") => `(tactic| first | assumption | (refine Fx.is (by assumption) ?_; walk_at "is"))
local macro_rules | `(tactic| walk_at "sz") => `(tactic| first | assumption | omega | (show _ ≤ sizeLine; decide) | (show _ < sizeLine; decide))
local macro_rules | `(tactic| walk_at "r2") => `(tactic| first
  | exact r2_addI | exact r2_addS (by walk_at "sz") | exact r2_addT (by walk_at "sz") | exact r2_addL (by walk_at "sz")
  | exact r2_eqI | exact r2_eqS | exact r2_neI | exact r2_neS | exact r2_lt | exact r2_le | exact r2_gt | exact r2_ge | exact r2_sub | exact r2_isN | exact r2_notN)
local macro_rules | `(tactic| walk_at "ea") => `(tactic| first | exact ea_nil | refine ea_cons (by walk_at "ev") (by walk_at "ea"))
local macro_rules | `(tactic| walk_at "ev") => `(tactic| first
  | exact ev_int | exact ev_str | exact ev_bl | exact ev_non
  | refine ev_var rfl (by walk_at "is")
  | refine ev_op (by walk_at "ev") (by walk_at "ev") (by walk_at "r2")
  | refine ev_tup (by walk_at "ea") (by walk_at "sz")
  | refine ev_lst (by walk_at "ea") (by walk_at "sz")
  | refine ev_cb (by walk_at "ea") (by first | exact rc_len rfl | exact rc_intI | exact rc_tupL | exact rc_tupT))

section
variable {P : Program} {w : World} {K : PySem.W.Frag} {mg : Str → Option Value} {base : Heap}
/-! sizes of what is shown -/
theorem row_small {d : Nat} {r : List Int} (hd : d ≤ 4) (h : IsRow d r) : sm 1 (rowD r) = true ∧ (py (rowD r)).weight ≤ 168 := by
  have b : ∀ x ∈ r, x.natAbs < 10 ^ 12 := fun x hx => by have := h.2 x hx; omega
  refine ⟨List.all_eq_true.mpr fun d hd => ?_, weight_tup (n := 4) (c := 41) (by rw [List.length_map, h.1]; exact hd) fun d hd => ?_⟩
  · obtain ⟨i, hi, rfl⟩ := List.mem_map.mp hd
    exact decide_eq_true (b i hi)
  · obtain ⟨i, hi, rfl⟩ := List.mem_map.mp hd
    exact weight_int (b i hi)
theorem plain_small {r : Nat × List (List Int)} (h : OkRel r) : sm 3 (plainD r) = true ∧ (py (plainD r)).weight ≤ 5410 := by
  have i0 : ((r.1 : Nat) : Int).natAbs < 10 ^ 12 := by have := h.2.1; omega
  have rs := fun q (hq : q ∈ r.2) => row_small h.2.1 (h.2.2.2.1 q hq)
  constructor
  · show (sm 2 (.int r.1) && (sm 2 (.tup (r.2.map rowD)) && true)) = true
    rw [Bool.and_true, Bool.and_eq_true]
    refine ⟨decide_eq_true i0, List.all_eq_true.mpr fun d hd => ?_⟩
    obtain ⟨q, hq, rfl⟩ := List.mem_map.mp hd
    exact (rs q hq).1
  · refine weight_tup (n := 2) (c := 2704) (by simp) fun d hd => ?_
    rcases List.mem_cons.mp hd with rfl | hd
    · exact Nat.le_trans (weight_int i0) (by decide)
    · rw [List.mem_singleton] at hd
      subst hd
      refine weight_tup (n := 16) (c := 168) (by rw [List.length_map]; exact h.few) fun d hd => ?_
      obtain ⟨q, hq, rfl⟩ := List.mem_map.mp hd
      exact (rs q hq).2
theorem book_small {b : BR} (h6 : b.length ≤ 6) (h : ∀ r ∈ b, OkRel r) : sm 4 (.lst (b.map plainD)) = true ∧ (py (.lst (b.map plainD))).weight ≤ 2 ^ 20 := by
  constructor
  · refine List.all_eq_true.mpr fun d hd => ?_
    obtain ⟨q, hq, rfl⟩ := List.mem_map.mp hd
    exact (plain_small (h q hq)).1
  · refine Nat.le_trans (weight_lst (n := 6) (c := 5410) (by rw [List.length_map]; exact h6) fun d hd => ?_) (by decide)
    obtain ⟨q, hq, rfl⟩ := List.mem_map.mp hd
    exact (plain_small (h q hq)).2
theorem ties_small {b : BR} {m : Nat} {ts : List Tie} (ok : OkPuz b m ts) : sm 4 (.tup (ts.map tieD)) = true ∧ (py (.tup (ts.map tieD))).weight ≤ 2 ^ 20 := by
  have one : ∀ t ∈ ts, sm 3 (tieD t) = true ∧ (py (tieD t)).weight ≤ 338 := fun t ht => by
    obtain ⟨t1, t2, t3⟩ := ok.tie4 ht
    have i0 : ((t.1 : Nat) : Int).natAbs < 10 ^ 12 := by omega
    have ic : ∀ x ∈ t.2, ((x : Nat) : Int).natAbs < 10 ^ 12 := fun x hx => by have := t3 x hx; omega
    constructor
    · show (sm 2 (.int t.1) && (sm 2 (intsD t.2) && true)) = true
      rw [Bool.and_true, Bool.and_eq_true]
      refine ⟨decide_eq_true i0, List.all_eq_true.mpr fun d hd => ?_⟩
      obtain ⟨q, hq, rfl⟩ := List.mem_map.mp hd
      exact decide_eq_true (ic q hq)
    · refine weight_tup (n := 2) (c := 168) (by simp) fun d hd => ?_
      rcases List.mem_cons.mp hd with rfl | hd
      · exact Nat.le_trans (weight_int i0) (by decide)
      · rw [List.mem_singleton] at hd
        subst hd
        refine weight_tup (n := 4) (c := 41) (by rw [List.length_map]; exact t2) fun d hd => ?_
        obtain ⟨q, hq, rfl⟩ := List.mem_map.mp hd
        exact weight_int (ic q hq)
  constructor
  · refine List.all_eq_true.mpr fun d hd => ?_
    obtain ⟨q, hq, rfl⟩ := List.mem_map.mp hd
    exact (one q hq).1
  · refine Nat.le_trans (weight_tup (n := 200) (c := 338) (by rw [List.length_map]; exact ok.few) fun d hd => ?_) (by decide)
    obtain ⟨q, hq, rfl⟩ := List.mem_map.mp hd
    exact (one q hq).2
/-! the read puzzle is the same -/
def R_is_same (T : Tx K mg) : List D → D → Prop := fun ds z => ∃ b m ts, ds = [puzD T b m ts, .lst (b.map plainD), .int m, .tup (ts.map tieD)] ∧ OkPuz b m ts ∧ z = .bl true
theorem ok_law_is_same (T : Tx K mg) : FnG P w K mg base CX0 1 T.a_law_is_same T.fd_law_is_same ["puzzle", "book", "many", "ties"] (Pu K (R_is_same T)) := by
  refine Eg.Fun.okG T.F_law_is_same sc_law_is_same (fun vs H Q E h => pu_len (fun ds d ⟨_, _, _, e, _⟩ => by rw [e]; rfl) h) (fun cdv A outer s H vs Q E hgd hr h => ?_)
  obtain ⟨F, ds, d, s0, hi, ⟨b, m, ts, rfl, ok, rfl⟩, k⟩ := h
  obtain ⟨x, y, u, v, rfl, h1, h2, h3, h4⟩ := iss4 hi
  refine ⟨_, (pss_cons (ps_if (PW.pt (pw_or (pt_not (pt_val (pe_callB (callK K rIsi call_isi) (by rfl) T.n_isinstance (by decide +kernel) (pa_cons (pv 0) (pa_cons (pe_glob (v := .ref T.c_Puzzle) rfl T.mc_Puzzle rfl) pa_nil))))) (pw_or (pt_cmpR (opK K Eg.rNeA (op_neA hr)) (pe_callB (callK K Eg.rRepr (call_reprA hr hgd)) (by rfl) T.n_repr (by decide +kernel) (pa_cons (pe_fldK K (pv 0) rfl) pa_nil)) (pe_callB (callK K Eg.rRepr (call_reprA hr hgd)) (by rfl) T.n_repr (by decide +kernel) (pa_cons (pv 2) pa_nil)) (nomark _)) (pw_or1 (pt_cmpR (opK K Eg.rNeA (op_neA hr)) (pe_callB (callK K Eg.rRepr (call_reprA hr hgd)) (by rfl) T.n_repr (by decide +kernel) (pa_cons (pe_fldK K (pv 0) rfl) pa_nil)) (pe_callB (callK K Eg.rRepr (call_reprA hr hgd)) (by rfl) T.n_repr (by decide +kernel) (pa_cons (pv 3) pa_nil)) (nomark _)))))) (pss_one (ps_ret pe_bl)) pss_nil)
    (pss_cons (ps_set (i := 4) sc_law_is_same.nd rfl (by first | exact Or.inl rfl | exact Or.inr rfl) (pe_fldK K (pe_fldK K (pv 0) rfl) rfl))
    (pss_one (ps_ret (pe_cmpR (opK K Eg.rEqA (op_eqA hr)) (pe_callB (callK K Eg.rRepr (call_reprA hr hgd)) (by rfl) T.n_repr (by decide +kernel) (pa_cons (pe_lc (own := [("one", 5)]) rfl sc_law_is_same.nd (pi_seqK K (pv 4)) (blkOk_by (own := [("one", 5)]) (N := N_law_is_same) (sc := defScope s_law_is_same) (by decide +kernel)) (fun _ _ _ _ _ => (pg_name (i := 5) sc_law_is_same.nd rfl (by first | exact Or.inl rfl | exact Or.inr rfl))) (fun _ _ _ _ _ => pts_nil) (fun _ _ _ _ _ => (pe_tup (pa_cons (pe_fldK K (pv 5) rfl) (pa_cons (pe_fldK K (pv 5) rfl) pa_nil))))) pa_nil)) (pe_callB (callK K Eg.rRepr (call_reprA hr hgd)) (by rfl) T.n_repr (by decide +kernel) (pa_cons (pv 1) pa_nil)) (nomark _)))))), ?_⟩
  have m0 : ((m : Nat) : Int).natAbs < 10 ^ 12 := by have := ok.m6; omega
  have rm : Rcd K (rRepr K) [.int (m : Nat)] (.str (py (.int (m : Nat))).shown) := rc_reprS (n := 0) (decide_eq_true m0) (by decide) (Nat.le_trans (weight_int m0) (by decide))
  obtain ⟨t1, t2⟩ := ties_small ok
  have rt : Rcd K (rRepr K) [.tup (ts.map tieD)] (.str (py (.tup (ts.map tieD))).shown) := rc_reprS t1 (by decide) t2
  obtain ⟨b1, b2⟩ := book_small ok.b6 ok.rel
  have rb : Rcd K (rRepr K) [.lst (b.map plainD)] (.str (py (.lst (b.map plainD))).shown) := rc_reprS b1 (by decide) b2
  refine q_when (b := false) s0 (EvT.cast (et_or (x := false) (y := false) (EvT.cast (et_not (et_test (ev_own T.o_Puzzle (ev_var rfl h1)))) rfl) fun _ => EvT.cast (et_or (x := false) (y := false) (EvT.cast (et_test (ev_op (ev_cb (ea_cons (ev_fld T.o_Puzzle.cl T.na_Puzzle_cell_count (ev_var rfl h1) rfl) ea_nil) rm) (ev_cb (ea_cons (ev_var rfl h3) ea_nil) rm) r2_neS)) (by simp)) fun _ =>
    EvT.cast (et_test (ev_op (ev_cb (ea_cons (ev_fld T.o_Puzzle.cl T.na_Puzzle_ties (ev_var rfl h1) rfl) ea_nil) rt) (ev_cb (ea_cons (ev_var rfl h4) ea_nil) rt) r2_neS)) (by simp)) rfl) rfl) (fun z => by cases z) fun _ F2 H2 a2 => ?_
  refine q_asg a2.fh (ev_fld T.o_Book.cl T.na_Book_relations (ev_fld T.o_Puzzle.cl T.na_Puzzle_book (ev_var (i := 0) rfl (a2.is h1)) rfl) rfl) fun v2 F3 H3 a3 hv2 => ?_
  refine s_ret a3.fh (Ev.cast (ev_op (ev_cb (ea_cons (ev_la1 (xs := b) (dd := relD T) (wa_seqT (ev_var rfl hv2)) plainD (fun x => rfl) (fun r hr F5 H5 x a5 hx => ev_tup (ea_cons (ev_fld T.o_Relation.cl T.na_Relation_size (ev_var rfl hx) rfl) (ea_cons (ev_fld T.o_Relation.cl T.na_Relation_rows (ev_var rfl hx) rfl) ea_nil)) (by show 2 ≤ sizeLine; decide)) (Nat.lt_of_le_of_lt ok.b6 (by decide))) ea_nil) rb) (ev_cb (ea_cons (ev_var rfl (a3.is (a2.is h2))) ea_nil) rb) r2_eqS) (by simp)) fun v F4 H4 a4 hv => k v F4 H4 ((a2.trans a3).trans a4) hv
end
end K08
/-! the plain law: which lines are taken, which refused -/
namespace K08
open PySem L2 Eg
open TL (numL joinL spl)
/-! numbers -/
theorem num_head : ∀ n : Nat, (numL n).head? = some 48 → n = 0 := by
  intro n
  induction n using Nat.strongRecOn with
  | _ n ih =>
    intro h
    by_cases hn : n < 10
    · rw [TL.numL_lt hn] at h
      have : 48 + n = 48 := by simpa using h
      omega
    · rw [TL.numL_step (by omega)] at h
      have e : (numL (n / 10) ++ [48 + n % 10]).head? = (numL (n / 10)).head? := by
        cases hh : numL (n / 10) with
        | nil => exact absurd hh (TL.numL_ne _)
        | cons c r => rfl
      rw [e] at h
      have := ih (n / 10) (by omega) h
      omega
theorem num_digits (n : Nat) : ((numL n).all fun c => decide (48 ≤ c) && decide (c ≤ 57)) = true := by
  rw [List.all_eq_true]
  intro c hc
  have := TL.numL_digits n c hc
  rw [Bool.and_eq_true, decide_eq_true_eq, decide_eq_true_eq]
  exact this
theorem tell_num {n : Nat} (h : n < 10 ^ 6) : tellN (numL n) = some n := by
  have l1 : 1 ≤ (numL n).length := List.length_pos_iff.mpr (TL.numL_ne n)
  have l6 := num_small h
  have g : goodN (numL n) = true := by
    unfold goodN
    rw [num_digits, decide_eq_true l1, decide_eq_true l6, Bool.and_true, Bool.true_and, Bool.true_and, Bool.not_eq_true', Bool.and_eq_false_iff]
    by_cases hh : (numL n).head? = some 48
    · right
      have := num_head n hh
      subst this
      rw [TL.numL_lt (by decide)]
      decide
    · left
      exact decide_eq_false hh
  unfold tellN
  rw [if_pos g, TL.numL_val]
theorem tell_bad {l : List Nat} {c : Nat} (h : c ∈ l) (hc : c < 48 ∨ 57 < c) : tellN l = none := by
  unfold tellN goodN
  rw [if_neg]
  intro y
  rw [Bool.and_eq_true, List.all_eq_true] at y
  have := y.2 c h
  rw [Bool.and_eq_true, decide_eq_true_eq, decide_eq_true_eq] at this
  omega
theorem tell_zero {l : List Nat} (h : l ≠ []) : tellN (48 :: l) = none := by
  unfold tellN goodN
  rw [if_neg]
  intro y
  rw [Bool.and_eq_true, Bool.and_eq_true] at y
  have y2 := y.1.2
  rw [Bool.not_eq_true', Bool.and_eq_false_iff] at y2
  rcases y2 with z | z
  · exact absurd rfl (of_decide_eq_false z)
  · have z : decide (48 :: l = [48]) = true := by simpa using z
    have := of_decide_eq_true z
    injection this with _ e
    exact h e
theorem tell_nil : tellN [] = none := by decide
theorem tell_many {l : List Nat} (h : 6 < l.length) : tellN l = none := by
  unfold tellN goodN
  rw [if_neg]
  intro y
  simp only [Bool.and_eq_true, decide_eq_true_eq] at y
  omega
/-! rows -/
theorem word_eq {d : Nat} : ∀ {r : List Int}, IsRow d r → wordL r = r.map fun v => 48 + v.toNat := by
  intro r h
  replace h : TS.Bd 2 r := h.2
  unfold wordL
  induction r with
  | nil => rfl
  | cons v r ih =>
    have hv := h.head
    have e : numL v.toNat = [48 + v.toNat] := TL.numL_lt (by omega)
    have ih := ih h.tail
    cases r with
    | nil => show numL v.toNat = _; rw [e]; rfl
    | cons w r =>
      show numL v.toNat ++ ([] ++ joinL [] ((w :: r).map fun v => numL v.toNat)) = _
      rw [ih, e]
      rfl
theorem word_bits {d : Nat} {r : List Int} (h : IsRow d r) : ∀ c ∈ wordL r, 48 ≤ c ∧ c ≤ 49 := by
  rw [word_eq h]
  intro c hc
  obtain ⟨v, hv, rfl⟩ := List.mem_map.mp hc
  have := h.2 v hv
  omega
theorem word_length {d : Nat} {r : List Int} (h : IsRow d r) : (wordL r).length = d := by rw [word_eq h, List.length_map]; exact h.1
theorem tellR_word {d : Nat} {r : List Int} (h : IsRow d r) : tellR (wordL r) d = some r := by
  unfold tellR
  rw [if_pos]
  · congr 1
    rw [word_eq h, List.map_map]
    conv => rhs; rw [← List.map_id r]
    refine List.map_congr_left fun v hv => ?_
    have := h.2 v hv
    show (((48 + v.toNat - 48 : Nat)) : Int) = v
    omega
  · rw [Bool.and_eq_true, decide_eq_true_eq, List.all_eq_true]
    refine ⟨word_length h, fun c hc => ?_⟩
    have := word_bits h c hc
    unfold bit
    rw [Bool.and_eq_true, decide_eq_true_eq, decide_eq_true_eq]
    exact this
theorem tellR_len {l : List Nat} {n : Nat} (h : l.length ≠ n) : tellR l n = none := by
  unfold tellR
  rw [if_neg]
  rw [decide_eq_false h]
  exact Bool.false_ne_true
theorem tellR_bad {l : List Nat} {n c : Nat} (h : c ∈ l) (hc : c < 48 ∨ 49 < c) : tellR l n = none := by
  unfold tellR
  rw [if_neg]
  intro y
  rw [Bool.and_eq_true, List.all_eq_true] at y
  have := y.2 c h
  unfold bit at this
  rw [Bool.and_eq_true, decide_eq_true_eq, decide_eq_true_eq] at this
  omega
theorem c44 : cs "," = [44] := by decide
theorem c32 : cs " " = [32] := by decide
theorem c10 : cs "\n" = [10] := by decide
theorem spl_commas {parts : List (List Nat)} (hne : parts ≠ []) (h : ∀ p ∈ parts, 44 ∉ p) : spl (cs ",") 0 [] (joinL (cs ",") parts) = parts := by rw [c44]; exact TL.spl_join hne h
theorem words_free {r : Nat × List (List Int)} (h : OkRel r) : ∀ p ∈ r.2.map wordL, ∀ c ∈ p, 48 ≤ c ∧ c ≤ 49 := fun p hp c hc => by
  obtain ⟨q, hq, rfl⟩ := List.mem_map.mp hp
  exact word_bits (h.2.2.2.1 q hq) c hc
theorem words_44 {r : Nat × List (List Int)} (h : OkRel r) : ∀ p ∈ r.2.map wordL, 44 ∉ p := fun p hp hc => by have := words_free h p hp 44 hc; omega
theorem tellRel_ok {r : Nat × List (List Int)} (h : OkRel r) : tellRel (numL r.1) (joinL (cs ",") (r.2.map wordL)) = some r := by
  unfold tellRel
  rw [tell_num (by have := h.2.1; omega)]
  have e : tellRows (joinL (cs ",") (r.2.map wordL)) r.1 = r.2.map some := by
    unfold tellRows
    rw [spl_commas (by intro e; exact h.2.2.1 (List.map_eq_nil_iff.mp e)) (words_44 h), List.map_map]
    exact List.map_congr_left fun q hq => tellR_word (h.2.2.2.1 q hq)
  have e2 : (r.2.map some).filterMap id = r.2 := by rw [List.filterMap_map]; exact List.filterMap_some
  have e3 : (r.2.map some).all Option.isSome = true := by rw [List.all_map]; exact List.all_eq_true.mpr fun _ _ => rfl
  dsimp only
  rw [e, e2, e3, if_pos]
  rw [asc_to h.2.2.2.2, decide_eq_true h.1, decide_eq_true h.2.1]
  rfl
/-! the words of a line -/
theorem words3 {x y z : List Nat} (hx : 32 ∉ x) (hy : 32 ∉ y) : spl (cs " ") 0 [] (x ++ cs " " ++ y ++ cs " " ++ z) = x :: y :: spl (cs " ") 0 [] z := by
  rw [c32]
  have e : x ++ [32] ++ y ++ [32] ++ z = x ++ (32 :: [] ++ (y ++ (32 :: [] ++ z))) := by simp
  rw [e, TL.spl_part1 hx, TL.spl_part1 hy]
  rfl
theorem words2 {x z : List Nat} (hx : 32 ∉ x) : spl (cs " ") 0 [] (x ++ cs " " ++ z) = x :: spl (cs " ") 0 [] z := by
  rw [c32]
  have e : x ++ [32] ++ z = x ++ (32 :: [] ++ z) := by simp
  rw [e, TL.spl_part1 hx]
  rfl
theorem words1 {x : List Nat} (hx : 32 ∉ x) : spl (cs " ") 0 [] x = [x] := by
  rw [c32]
  exact TL.spl_last1 hx
theorem num_32 (n : Nat) : 32 ∉ numL n := TL.numL_free (by omega)
theorem cs_rel : cs "relation " = cs "relation" ++ cs " " := by decide
theorem cs_tie : cs "tie " = cs "tie" ++ cs " " := by decide
theorem cs_cells : cs "cells " = cs "cells" ++ cs " " := by decide
theorem j32 : ∀ {parts : List (List Nat)}, (∀ p ∈ parts, 32 ∉ p) → 32 ∉ joinL (cs ",") parts := by
  intro parts
  rw [c44]
  induction parts with
  | nil => intro _ h; simp [TL.joinL] at h
  | cons p ps ih =>
    intro h hm
    cases ps with
    | nil => exact h p (List.mem_cons_self ..) hm
    | cons q qs =>
      rcases List.mem_append.mp (show 32 ∈ p ++ ([44] ++ joinL [44] (q :: qs)) from hm) with hm | hm
      · exact h p (List.mem_cons_self ..) hm
      · rcases List.mem_append.mp hm with hm | hm
        · simp at hm
        · exact ih (fun x hx => h x (List.mem_cons_of_mem _ hx)) hm
/-- any line of three words -/
theorem line3 {st : RSt} {u a b : List Nat} (hu : 32 ∉ u) (ha : 32 ∉ a) (hb : 32 ∉ b) : lineS st (u ++ cs " " ++ a ++ cs " " ++ b) = wordsS st [u, a, b] := by
  unfold lineS
  rw [words3 hu ha, words1 hb]
theorem line2 {st : RSt} {u a : List Nat} (hu : 32 ∉ u) (ha : 32 ∉ a) : lineS st (u ++ cs " " ++ a) = wordsS st [u, a] := by
  unfold lineS
  rw [words2 hu, words1 ha]
theorem line1 {st : RSt} {u : List Nat} (hu : 32 ∉ u) : lineS st u = none := by
  unfold lineS
  rw [words1 hu]
  rfl
theorem w3 {st : RSt} {u a b : List Nat} : wordsS st [u, a, b] = if u = cs "relation" then relS st a b else if u = cs "tie" then tieS st a b else none := rfl
theorem w2 {st : RSt} {u a : List Nat} : wordsS st [u, a] = if u = cs "cells" then celS st a else none := rfl
theorem words_rel {st : RSt} {a b : List Nat} : wordsS st [cs "relation", a, b] = relS st a b := by rw [w3, if_pos rfl]
theorem words_tie {st : RSt} {a b : List Nat} : wordsS st [cs "tie", a, b] = tieS st a b := by rw [w3, if_neg (by decide), if_pos rfl]
theorem words_cel {st : RSt} {a : List Nat} : wordsS st [cs "cells", a] = celS st a := by rw [w2, if_pos rfl]
theorem rel_line {st : RSt} {a b : List Nat} (ha : 32 ∉ a) (hb : 32 ∉ b) : lineS st (cs "relation " ++ a ++ cs " " ++ b) = relS st a b := by
  rw [cs_rel, line3 (by decide) ha hb, words_rel]
theorem tie_line {st : RSt} {a b : List Nat} (ha : 32 ∉ a) (hb : 32 ∉ b) : lineS st (cs "tie " ++ a ++ cs " " ++ b) = tieS st a b := by
  rw [cs_tie, line3 (by decide) ha hb, words_tie]
theorem cel_line {st : RSt} {a : List Nat} (ha : 32 ∉ a) : lineS st (cs "cells " ++ a) = celS st a := by
  rw [cs_cells, line2 (by decide) ha, words_cel]
theorem words_j32 {r : Nat × List (List Int)} (h : OkRel r) : 32 ∉ joinL (cs ",") (r.2.map wordL) := j32 fun p hp hc => by have := words_free h p hp 32 hc; omega
theorem line_rel {st : RSt} {r : Nat × List (List Int)} (h : OkRel r) (hc : st.cells = none) (h6 : st.told.length < 6) : lineS st (relL r) = some { st with told := st.told ++ [r] } := by
  unfold relL
  rw [rel_line (num_32 _) (words_j32 h)]
  unfold relS
  rw [tellRel_ok h, hc, decide_eq_false (by omega)]
  rfl
theorem line_cell {st : RSt} {m : Nat} (hm : m < 10 ^ 6) (hc : st.cells = none) (h0 : 0 < st.told.length) : lineS st (cellL m) = some { st with cells := some m } := by
  unfold cellL
  rw [cel_line (num_32 _)]
  unfold celS
  rw [tell_num hm, hc, decide_eq_false (by omega)]
  rfl
theorem comma_spl {c : List Nat} (h : c ≠ []) : spl (cs ",") 0 [] (commaL c) = c.map numL := spl_commas (by intro e; exact h (List.map_eq_nil_iff.mp e)) fun p hp hc => by
  obtain ⟨n, _, rfl⟩ := List.mem_map.mp hp
  exact TL.numL_free (by omega) hc
theorem comma_32 (c : List Nat) : 32 ∉ commaL c := j32 fun p hp hc => by
  obtain ⟨n, _, rfl⟩ := List.mem_map.mp hp
  exact num_32 n hc
theorem line_tie {st : RSt} {b : BR} {m : Nat} {ts : List Tie} (ok : OkPuz b m ts) {t : Tie} (ht : t ∈ ts) (hb : st.told = b) (hc : st.cells = some m) : lineS st (tieL t) = some { st with ties := st.ties ++ [t] } := by
  unfold tieL
  rw [tie_line (num_32 _) (comma_32 _)]
  obtain ⟨r, er, el, ec⟩ := ok.tie t ht
  have hr := ok.rel r (List.mem_of_getElem? er)
  obtain ⟨t1, t2, t3⟩ := ok.tie4 ht
  have ne : t.2 ≠ [] := by intro e; rw [e] at el; have := hr.1; simp at el; omega
  unfold tieS
  rw [hc]
  dsimp only
  have e1 : (t.2.map numL).map (fun l => natD (tellN l)) = t.2.map fun c => D.int (c : Nat) := by
    rw [List.map_map]
    exact List.map_congr_left fun c hc => by show natD (tellN (numL c)) = _; rw [tell_num (t3 c hc)]; rfl
  have e2 : (t.2.map numL).map (fun l => (tellN l).getD 0) = t.2 := by
    rw [List.map_map]
    conv => rhs; rw [← List.map_id t.2]
    exact List.map_congr_left fun c hc => by show (tellN (numL c)).getD 0 = _; rw [tell_num (t3 c hc)]; rfl
  rw [comma_spl ne, e1, e2, tell_num (show t.1 < 10 ^ 6 by omega), if_pos]
  · rfl
  · have hl := (List.getElem?_eq_some_iff.mp er).1
    unfold tieB
    rw [hb]
    show ((decide (0 ≤ ((t.1 : Nat) : Int)) && decide (((t.1 : Nat) : Int) < (b.length : Nat))) && (match b[((t.1 : Nat) : Int).toNat]? with | some r => _ | none => _)) = true
    rw [decide_eq_true (by omega), decide_eq_true (by omega), Int.toNat_natCast, er]
    show (true && (decide ((t.2.map _).length = r.1) && _)) = true
    rw [List.length_map, decide_eq_true el, Bool.true_and, Bool.true_and, List.all_map, List.all_eq_true]
    intro c hc
    have := ec c hc
    show (decide (0 ≤ ((c : Nat) : Int)) && decide (((c : Nat) : Int) < (m : Nat))) = true
    rw [decide_eq_true (by omega), decide_eq_true (by omega)]; rfl
end K08
/-! the plain law: each bent line is refused -/
namespace K08
open PySem L2 Eg
open TL (numL joinL spl)
theorem words_long {st : RSt} {ws : List (List Nat)} (h : 4 ≤ ws.length) : wordsS st ws = none := by
  unfold wordsS
  split
  · simp at h
  · simp at h
  · rfl
theorem words_first {st : RSt} {u : List Nat} {ws : List (List Nat)} (h1 : u ≠ cs "relation") (h2 : u ≠ cs "tie") (h3 : u ≠ cs "cells") : wordsS st (u :: ws) = none := by
  match ws with
  | [] => rfl
  | [a] => rw [w2, if_neg h3]
  | [a, b] => rw [w3, if_neg h1, if_neg h2]
  | a :: b :: c :: r => exact words_long (by simp)
theorem jfree {x : Nat} (hx : x ≠ 44) : ∀ {parts : List (List Nat)}, (∀ p ∈ parts, x ∉ p) → x ∉ joinL (cs ",") parts := by
  intro parts
  rw [c44]
  induction parts with
  | nil => intro _ h; simp [TL.joinL] at h
  | cons p ps ih =>
    intro h hm
    cases ps with
    | nil => exact h p (List.mem_cons_self ..) hm
    | cons q qs =>
      rcases List.mem_append.mp (show x ∈ p ++ ([44] ++ joinL [44] (q :: qs)) from hm) with hm | hm
      · exact h p (List.mem_cons_self ..) hm
      · rcases List.mem_append.mp hm with hm | hm
        · rw [List.mem_singleton] at hm; exact hx hm
        · exact ih (fun y hy => h y (List.mem_cons_of_mem _ hy)) hm
/-- the signs of the pieces -/
theorem spl_mem {s c : Nat} (hc : c ≠ s) : ∀ (l acc : List Nat), (c ∈ l ∨ c ∈ acc) → ∃ w ∈ spl [s] 0 acc l, c ∈ w
  | [], acc, h => by
    rw [TL.spl_nil]
    rcases h with h | h
    · simp at h
    · exact ⟨acc, by simp, h⟩
  | d :: l, acc, h => by
    cases e : TL.pre [s] (d :: l) with
    | true =>
      rw [TL.spl_hit e]
      have hd : d = s := by
        unfold TL.pre at e
        have e : [d] = [s] := by simpa using e
        injection e
      rcases h with h | h
      · rcases List.mem_cons.mp h with h | h
        · exact absurd (h.trans hd) hc
        · obtain ⟨w, hw, hcw⟩ := spl_mem hc l [] (.inl h)
          exact ⟨w, List.mem_cons_of_mem _ hw, hcw⟩
      · exact ⟨acc, List.mem_cons_self .., h⟩
    | false =>
      rw [TL.spl_miss e]
      refine spl_mem hc l (acc ++ [d]) ?_
      rcases h with h | h
      · rcases List.mem_cons.mp h with h | h
        · right; rw [h]; simp
        · exact .inl h
      · right; exact List.mem_append_left _ h
theorem spl_end {s : Nat} : ∀ (l acc : List Nat), [] ∈ spl [s] 0 acc (l ++ [s]) ∧ 2 ≤ (spl [s] 0 acc (l ++ [s])).length
  | [], acc => by
    have e : TL.pre [s] (s :: []) = true := by unfold TL.pre; simp
    show [] ∈ spl [s] 0 acc (s :: []) ∧ _
    rw [List.nil_append, TL.spl_hit e, TL.spl_nil]
    simp
  | d :: l, acc => by
    have ih := fun acc => spl_end (s := s) l acc
    show [] ∈ spl [s] 0 acc (d :: (l ++ [s])) ∧ 2 ≤ (spl [s] 0 acc (d :: (l ++ [s]))).length
    cases e : TL.pre [s] (d :: (l ++ [s])) with
    | true =>
      rw [TL.spl_hit e]
      have := ih []
      exact ⟨List.mem_cons_of_mem _ this.1, by rw [List.length_cons]; exact Nat.le_succ_of_le this.2⟩
    | false =>
      rw [TL.spl_miss e]
      exact ih _
/-- what a bent line keeps -/
def Plain (l : List Nat) : Prop := 10 ∉ l ∧ l.length ≤ 1000
theorem lenL {a b : List Nat} {m n : Nat} (h1 : a.length ≤ m) (h2 : b.length ≤ n) : (a ++ b).length ≤ m + n := by rw [List.length_append]; omega
theorem num_10 (n : Nat) : 10 ∉ numL n := TL.numL_free (by omega)
theorem not_app {x : Nat} {a b : List Nat} (h1 : x ∉ a) (h2 : x ∉ b) : x ∉ a ++ b := fun h => (List.mem_append.mp h).elim h1 h2
theorem rel_plain {a b : List Nat} (ha : 10 ∉ a) (hb : 10 ∉ b) (la : a.length ≤ 100) (lb : b.length ≤ 800) : Plain (cs "relation " ++ a ++ cs " " ++ b) := by
  refine ⟨not_app (not_app (not_app (by decide) ha) (by decide)) hb, ?_⟩
  have := lc9
  have := lc1
  rw [List.length_append, List.length_append, List.length_append]
  omega
theorem tie_plain {a b : List Nat} (ha : 10 ∉ a) (hb : 10 ∉ b) (la : a.length ≤ 100) (lb : b.length ≤ 800) : Plain (cs "tie " ++ a ++ cs " " ++ b) := by
  refine ⟨not_app (not_app (not_app (by decide) ha) (by decide)) hb, ?_⟩
  have := lc4
  have := lc1
  rw [List.length_append, List.length_append, List.length_append]
  omega
/-! relation lines -/
/-- words that are no rows of a relation of n places -/
theorem rel_bad {n : Nat} {W : List (List Nat)} (hn : n < 10 ^ 6) (hne : W ≠ []) (h44 : ∀ p ∈ W, 44 ∉ p) (h32 : ∀ p ∈ W, 32 ∉ p) (h : (∃ p ∈ W, tellR p n = none) ∨ ¬ (1 ≤ n ∧ n ≤ 4) ∨ ascB (W.filterMap fun p => tellR p n) = false) (st : RSt) : lineS st (cs "relation " ++ numL n ++ cs " " ++ joinL (cs ",") W) = none := by
  rw [rel_line (num_32 _) (j32 h32)]
  have e : tellRel (numL n) (joinL (cs ",") W) = none := by
    unfold tellRel
    rw [tell_num hn]
    have er : tellRows (joinL (cs ",") W) n = W.map fun p => tellR p n := by unfold tellRows; rw [spl_commas hne h44]
    have ef : (W.map fun p => tellR p n).filterMap id = W.filterMap fun p => tellR p n := by rw [List.filterMap_map]; rfl
    dsimp only
    rw [er, ef, if_neg]
    intro y
    simp only [Bool.and_eq_true, decide_eq_true_eq] at y
    rcases h with ⟨p, hp, hb⟩ | h | h
    · have := List.all_eq_true.mp y.1.2 (tellR p n) (List.mem_map.mpr ⟨p, hp, rfl⟩)
      rw [hb] at this
      cases this
    · exact h y.1.1
    · rw [h] at y; cases y.2
  unfold relS
  rw [e]
section
variable {r : Nat × List (List Int)}
theorem W_ne (h : OkRel r) : r.2.map wordL ≠ [] := fun e => h.2.2.1 (List.map_eq_nil_iff.mp e)
theorem W_32 (h : OkRel r) : ∀ p ∈ r.2.map wordL, 32 ∉ p := fun p hp hc => by have := words_free h p hp 32 hc; omega
theorem W_10 (h : OkRel r) : ∀ p ∈ r.2.map wordL, 10 ∉ p := fun p hp hc => by have := words_free h p hp 10 hc; omega
theorem n_small (h : OkRel r) : r.1 < 10 ^ 6 := by have := h.2.1; omega
/-- the last row twice -/
theorem bad_r0 (h : OkRel r) {x : List Nat} (hx : (r.2.map wordL).getLast? = some x) (st : RSt) : lineS st (cs "relation " ++ numL r.1 ++ cs " " ++ joinL (cs ",") (r.2.map wordL ++ [x])) = none := by
  have mx : x ∈ r.2.map wordL := List.mem_of_getLast? hx
  refine rel_bad (n_small h) (by simp) (fun p hp => ?_) (fun p hp => ?_) (.inr (.inr ?_)) st
  · rcases List.mem_append.mp hp with hp | hp
    · exact words_44 h p hp
    · rw [List.mem_singleton] at hp; subst hp; exact words_44 h _ mx
  · rcases List.mem_append.mp hp with hp | hp
    · exact W_32 h p hp
    · rw [List.mem_singleton] at hp; subst hp; exact W_32 h _ mx
  · rw [List.getLast?_map] at hx
    obtain ⟨q, hq, rfl⟩ := Option.map_eq_some_iff.mp hx
    have mq : q ∈ r.2 := List.mem_of_getLast? hq
    have e1 : (r.2.map wordL ++ [wordL q]).filterMap (fun p => tellR p r.1) = r.2 ++ [q] := by
      have e0 : r.2.map wordL ++ [wordL q] = (r.2 ++ [q]).map wordL := by rw [List.map_append]; rfl
      rw [e0, List.filterMap_map]
      have : ∀ l : List (List Int), (∀ z ∈ l, IsRow r.1 z) → l.filterMap ((fun p => tellR p r.1) ∘ wordL) = l := by
        intro l
        induction l with
        | nil => intro _; rfl
        | cons z l ih =>
          intro hz
          rw [List.filterMap_cons]
          have hz' : ((fun p => tellR p r.1) ∘ wordL) z = some z := tellR_word (hz z (List.mem_cons_self ..))
          rw [hz']
          dsimp only
          rw [ih fun y hy => hz y (List.mem_cons_of_mem _ hy)]
      refine this _ fun z hz => ?_
      rcases List.mem_append.mp hz with hz | hz
      · exact h.2.2.2.1 z hz
      · rw [List.mem_singleton] at hz; subst hz; exact h.2.2.2.1 z mq
    rw [e1]
    cases e : ascB (r.2 ++ [q]) with
    | false => rfl
    | true =>
      have a := asc_of e
      unfold Asc at a
      have := (List.pairwise_append.mp a).2.2 q mq q (by simp)
      exact absurd this (Int.lt_irrefl _)
/-- a row of another size -/
theorem bad_r1 (h : OkRel r) {x : List Nat} (hx : (r.2.map wordL)[0]? = some x) (st : RSt) : lineS st (cs "relation " ++ numL r.1 ++ cs " " ++ joinL (cs ",") (r.2.map wordL ++ [x ++ [48]])) = none := by
  have mx : x ∈ r.2.map wordL := List.mem_of_getElem? hx
  refine rel_bad (n_small h) (by simp) (fun p hp => ?_) (fun p hp => ?_) (.inl ⟨x ++ [48], by simp, tellR_len ?_⟩) st
  · rcases List.mem_append.mp hp with hp | hp
    · exact words_44 h p hp
    · rw [List.mem_singleton] at hp; subst hp; exact not_app (words_44 h _ mx) (by decide)
  · rcases List.mem_append.mp hp with hp | hp
    · exact W_32 h p hp
    · rw [List.mem_singleton] at hp; subst hp; exact not_app (W_32 h _ mx) (by decide)
  · obtain ⟨q, hq, rfl⟩ := List.mem_map.mp mx
    rw [List.length_append, word_length (h.2.2.2.1 q hq)]
    simp
/-- a 2 -/
theorem bad_r2 (h : OkRel r) {x : List Nat} (hx : (r.2.map wordL)[0]? = some x) (st : RSt) : lineS st (cs "relation " ++ numL r.1 ++ cs " " ++ joinL (cs ",") ((r.2.map wordL).set 0 ([50] ++ x.drop 1))) = none := by
  have mx : x ∈ r.2.map wordL := List.mem_of_getElem? hx
  have m0 : [50] ++ x.drop 1 ∈ (r.2.map wordL).set 0 ([50] ++ x.drop 1) := by
    refine List.mem_iff_getElem?.mpr ⟨0, ?_⟩
    rw [List.getElem?_set_self]
    exact (List.getElem?_eq_some_iff.mp hx).1
  have dr : ∀ {c : Nat}, c ∉ x → c ≠ 50 → c ∉ [50] ++ x.drop 1 := fun h1 h2 => not_app (by simpa using h2) fun hm => h1 (List.mem_of_mem_drop hm)
  refine rel_bad (n_small h) (List.ne_nil_of_mem m0) (fun p hp => ?_) (fun p hp => ?_) (.inl ⟨_, m0, tellR_bad (c := 50) (by simp) (by omega)⟩) st
  · rcases List.mem_or_eq_of_mem_set hp with hp | rfl
    · exact words_44 h p hp
    · exact dr (words_44 h _ mx) (by decide)
  · rcases List.mem_or_eq_of_mem_set hp with hp | rfl
    · exact W_32 h p hp
    · exact dr (W_32 h _ mx) (by decide)
/-- a needless 0 -/
theorem bad_r3 (h : OkRel r) (st : RSt) : lineS st (cs "relation 0" ++ numL r.1 ++ cs " " ++ joinL (cs ",") (r.2.map wordL)) = none := by
  have e : cs "relation 0" ++ numL r.1 = cs "relation " ++ (48 :: numL r.1) := by
    have : cs "relation 0" = cs "relation " ++ [48] := by decide
    rw [this, List.append_assoc]; rfl
  rw [e, rel_line (by intro hm; rcases List.mem_cons.mp hm with hm | hm; omega; exact num_32 _ hm) (j32 (W_32 h))]
  unfold relS tellRel
  rw [tell_zero (TL.numL_ne _)]
/-- another size -/
theorem bad_r4 (h : OkRel r) (st : RSt) : lineS st (cs "relation " ++ numL (r.1 + 1) ++ cs " " ++ joinL (cs ",") (r.2.map wordL)) = none := by
  refine rel_bad (by have := h.2.1; omega) (W_ne h) (words_44 h) (W_32 h) ?_ st
  obtain ⟨q, l, e⟩ := List.exists_cons_of_ne_nil h.2.2.1
  refine .inl ⟨wordL q, List.mem_map.mpr ⟨q, by rw [e]; simp, rfl⟩, tellR_len ?_⟩
  rw [word_length (h.2.2.2.1 q (by rw [e]; simp))]
  omega
/-- no rows -/
theorem bad_r5 (st : RSt) : lineS st (cs "relation " ++ numL r.1) = none := by
  rw [cs_rel, line2 (by decide) (num_32 _), w2, if_neg (by decide)]
/-- a blank behind each comma, and one at the end -/
theorem bad_r6 (h : OkRel r) (st : RSt) : lineS st (replL (cs ",") (cs ", ") (relL r) ++ cs " ") = none := by
  have e1 : replL (cs ",") (cs ", ") (relL r) = cs "relation" ++ cs " " ++ numL r.1 ++ cs " " ++ replL (cs ",") (cs ", ") (joinL (cs ",") (r.2.map wordL)) := by
    unfold relL
    rw [cs_rel, c44, repl1, repl1, List.flatMap_append]
    have keep : ∀ l : List Nat, 44 ∉ l → l.flatMap (fun d => if d = 44 then cs ", " else [d]) = l := by
      intro l
      induction l with
      | nil => intro _; rfl
      | cons d l ih =>
        intro hd
        rw [List.flatMap_cons, if_neg (fun e => hd (by rw [e]; simp)), ih fun hm => hd (List.mem_cons_of_mem _ hm)]
        rfl
    rw [keep]
    exact not_app (not_app (by decide) (TL.numL_free (by omega))) (by decide)
  unfold lineS
  rw [e1]
  have e2 : ∀ J : List Nat, cs "relation" ++ cs " " ++ numL r.1 ++ cs " " ++ J ++ cs " " = cs "relation" ++ cs " " ++ numL r.1 ++ cs " " ++ (J ++ cs " ") := fun J => by simp
  rw [e2, words3 (by decide) (num_32 _), c32]
  refine words_long ?_
  have := (spl_end (s := 32) (replL (cs ",") (cs ", ") (joinL (cs ",") (r.2.map wordL))) []).2
  rw [List.length_cons, List.length_cons]
  omega
end
/-! tie lines -/
section
variable {b : BR} {m : Nat} {ts : List Tie} {t : Tie}
/-- a state behind the cells line -/
abbrev aft (b : BR) (m : Nat) (ts : List Tie) : RSt := ⟨b, some m, ts⟩
theorem tieB_cell {b : BR} {m : Nat} {a : D} {l : List (Option Nat)} (h : ∃ o ∈ l, ∀ c : Nat, o = some c → ¬ c < m) : tieB b m a (l.map natD) = false := by
  obtain ⟨o, ho, hc⟩ := h
  have bad : ∀ k : Nat, (decide ((l.map natD).length = k) && (l.map natD).all fun c => below c m) = false := fun k => by
    rw [Bool.and_eq_false_iff]
    right
    refine Bool.eq_false_iff.mpr fun y => ?_
    have := List.all_eq_true.mp y (natD o) (List.mem_map.mpr ⟨o, ho, rfl⟩)
    cases o with
    | none => cases this
    | some c =>
      have : (decide (0 ≤ ((c : Nat) : Int)) && decide (((c : Nat) : Int) < (m : Nat))) = true := this
      rw [Bool.and_eq_true, decide_eq_true_eq, decide_eq_true_eq] at this
      exact hc c rfl (by omega)
  unfold tieB
  rw [Bool.and_eq_false_iff]
  right
  split
  · split
    · exact bad _
    · rfl
  · rfl
theorem tieS_cell {J : List Nat} {a : List Nat} (h : ∃ p ∈ spl (cs ",") 0 [] J, ∀ c : Nat, tellN p = some c → ¬ c < m) (ts' : List Tie) : tieS (aft b m ts') a J = none := by
  unfold tieS
  dsimp only
  rw [if_neg]
  have e : ((spl (cs ",") 0 [] J).map fun l => natD (tellN l)) = ((spl (cs ",") 0 [] J).map tellN).map natD := by rw [List.map_map]; rfl
  obtain ⟨p, hp, hc⟩ := h
  rw [e, tieB_cell ⟨tellN p, List.mem_map.mpr ⟨p, hp, rfl⟩, hc⟩]
  exact Bool.false_ne_true
def tW (t : Tie) : List (List Nat) := t.2.map numL
theorem tW_free {x : Nat} (hx : x < 48 ∨ 57 < x) : ∀ p ∈ tW t, x ∉ p := fun p hp hc => by
  obtain ⟨n, _, rfl⟩ := List.mem_map.mp hp
  exact TL.numL_free hx hc
/-- one of the cells' words is bad -/
theorem bad_t0 {W : List (List Nat)} {n : Nat} (h44 : ∀ p ∈ W, 44 ∉ p) (h32 : ∀ p ∈ W, 32 ∉ p) (h : ∃ p ∈ W, ∀ c : Nat, tellN p = some c → ¬ c < m) (ts' : List Tie) : lineS (aft b m ts') (cs "tie " ++ numL n ++ cs " " ++ joinL (cs ",") W) = none := by
  rw [tie_line (num_32 _) (j32 h32)]
  refine tieS_cell ?_ ts'
  rw [spl_commas (by obtain ⟨p, hp, _⟩ := h; exact List.ne_nil_of_mem hp) h44]
  exact h
theorem bad_tset {i n : Nat} {x : List Nat} (hi : i < (tW t).length) (h44 : 44 ∉ x) (h32 : 32 ∉ x) (h : ∀ c : Nat, tellN x = some c → ¬ c < m) (ts' : List Tie) : lineS (aft b m ts') (cs "tie " ++ numL n ++ cs " " ++ joinL (cs ",") ((tW t).set i x)) = none := by
  refine bad_t0 (fun p hp => ?_) (fun p hp => ?_) ⟨x, List.mem_iff_getElem?.mpr ⟨i, List.getElem?_set_self hi⟩, h⟩ ts'
  · rcases List.mem_or_eq_of_mem_set hp with hp | rfl
    · exact tW_free (by omega) p hp
    · exact h44
  · rcases List.mem_or_eq_of_mem_set hp with hp | rfl
    · exact tW_free (by omega) p hp
    · exact h32
/-- a cell more -/
theorem bad_t4 (ok : OkPuz b m ts) (ht : t ∈ ts) {x : List Nat} (hx : x ∈ tW t) (ts' : List Tie) : lineS (aft b m ts') (cs "tie " ++ numL t.1 ++ cs " " ++ joinL (cs ",") (tW t ++ [x])) = none := by
  have h : ∀ {c : Nat}, (c < 48 ∨ 57 < c) → ∀ p ∈ tW t ++ [x], c ∉ p := fun hc p hp => by
    rcases List.mem_append.mp hp with hp | hp
    · exact tW_free hc p hp
    · rw [List.mem_singleton] at hp; subst hp; exact tW_free hc _ hx
  rw [tie_line (num_32 _) (j32 (h (by omega)))]
  unfold tieS
  dsimp only
  obtain ⟨r, er, el, ec⟩ := ok.tie t ht
  rw [spl_commas (by simp) (h (by omega)), if_neg]
  have t6 := (ok.tie4 ht).1
  rw [tell_num (show t.1 < 10 ^ 6 by omega)]
  unfold tieB
  show ¬ ((below (.int (t.1 : Nat)) (b.length : Nat)) && (match b[((t.1 : Nat) : Int).toNat]? with | some r => _ | none => _)) = true
  rw [Int.toNat_natCast, er]
  show ¬ ((below (.int (t.1 : Nat)) (b.length : Nat)) && (decide (((tW t ++ [x]).map _).length = r.1) && _)) = true
  have hl : (tW t).length = r.1 := by unfold tW; rw [List.length_map]; exact el
  rw [List.length_map, List.length_append, List.length_singleton, decide_eq_false (by omega), Bool.false_and, Bool.and_false]
  exact Bool.false_ne_true
/-- tabs for blanks -/
theorem bad_t5 (st : RSt) : lineS st (replL (cs " ") (cs "\t") (tieL t)) = none := by
  refine line1 ?_
  rw [c32, repl1]
  intro h
  obtain ⟨d, _, hd⟩ := List.mem_flatMap.mp h
  split at hd
  · exact absurd hd (by decide)
  · rename_i hne
    rw [List.mem_singleton] at hd
    exact hne hd.symm
theorem tie_eq : tieL t = cs "tie" ++ cs " " ++ numL t.1 ++ cs " " ++ joinL (cs ",") (tW t) := by
  unfold tieL commaL tW
  rw [cs_tie]
theorem tW_32 : 32 ∉ joinL (cs ",") (tW t) := j32 (tW_free (by omega))
/-- a blank at the end -/
theorem bad_t6a (st : RSt) : lineS st (tieL t ++ cs " ") = none := by
  unfold lineS
  have e : tieL t ++ cs " " = cs "tie" ++ cs " " ++ numL t.1 ++ cs " " ++ (joinL (cs ",") (tW t) ++ cs " ") := by rw [tie_eq]; simp
  rw [e, words3 (by decide) (num_32 _), c32]
  refine words_long ?_
  have := (spl_end (s := 32) (joinL (cs ",") (tW t)) []).2
  rw [List.length_cons, List.length_cons]
  omega
/-- a comma at the end -/
theorem bad_t6b (ts' : List Tie) : lineS (aft b m ts') (tieL t ++ cs ",") = none := by
  have e : tieL t ++ cs "," = cs "tie " ++ numL t.1 ++ cs " " ++ (joinL (cs ",") (tW t) ++ cs ",") := by rw [tie_eq, cs_tie]; simp
  rw [e, tie_line (num_32 _) (not_app tW_32 (by decide))]
  refine tieS_cell ⟨[], ?_, fun c hc => by rw [tell_nil] at hc; cases hc⟩ ts'
  rw [c44]
  exact (spl_end (s := 44) _ []).1
/-- a tab at the end -/
theorem bad_t6c (ts' : List Tie) : lineS (aft b m ts') (tieL t ++ cs "\t") = none := by
  have e : tieL t ++ cs "\t" = cs "tie " ++ numL t.1 ++ cs " " ++ (joinL (cs ",") (tW t) ++ cs "\t") := by rw [tie_eq, cs_tie]; simp
  rw [e, tie_line (num_32 _) (not_app tW_32 (by decide))]
  obtain ⟨w, hw, hc⟩ := spl_mem (s := 44) (c := 9) (by decide) (joinL (cs ",") (tW t) ++ cs "\t") [] (.inl (List.mem_append_right _ (by decide)))
  exact tieS_cell ⟨w, by rw [c44]; exact hw, fun c h => by rw [tell_bad hc (by omega)] at h; cases h⟩ ts'
/-- a relation that there is not -/
theorem bad_t7 (h6 : b.length ≤ 6) (ts' : List Tie) : lineS (aft b m ts') (cs "tie " ++ numL b.length ++ cs " " ++ joinL (cs ",") (tW t)) = none := by
  rw [tie_line (num_32 _) tW_32]
  unfold tieS
  dsimp only
  rw [tell_num (show b.length < 10 ^ 6 by omega), if_neg]
  unfold tieB
  have : below (natD (some b.length)) (b.length : Nat) = false := by
    show (decide (0 ≤ ((b.length : Nat) : Int)) && decide (((b.length : Nat) : Int) < (b.length : Nat))) = false
    rw [decide_eq_false (Int.lt_irrefl _), Bool.and_false]
  rw [this, Bool.false_and]
  exact Bool.false_ne_true
theorem keepS {c : Nat} {z : List Nat} : ∀ {l : List Nat}, c ∉ l → (l.flatMap fun d => if d = c then z else [d]) = l
  | [], _ => rfl
  | d :: l, h => by
    rw [List.flatMap_cons, if_neg (fun e => h (by rw [e]; simp)), keepS fun hm => h (List.mem_cons_of_mem _ hm)]
    rfl
/-- second blanks -/
theorem bad_t8a (st : RSt) : lineS st (replL (cs " ") (cs "  ") (tieL t)) = none := by
  have e : replL (cs " ") (cs "  ") (tieL t) = cs "tie" ++ cs " " ++ [] ++ cs " " ++ (numL t.1 ++ cs " " ++ [] ++ cs " " ++ joinL (cs ",") (tW t)) := by
    rw [tie_eq, c32, repl1, List.flatMap_append, List.flatMap_append, List.flatMap_append, List.flatMap_append, keepS (by decide), keepS (num_32 _), keepS tW_32]
    simp [cs]
  unfold lineS
  rw [e, words3 (by decide) (by simp), words3 (num_32 _) (by simp)]
  exact words_long (by simp)
/-- a blank ahead -/
theorem bad_t8b (st : RSt) : lineS st (cs " " ++ tieL t) = none := by
  have e : cs " " ++ tieL t = [] ++ cs " " ++ cs "tie" ++ cs " " ++ (numL t.1 ++ cs " " ++ joinL (cs ",") (tW t)) := by rw [tie_eq]; simp
  unfold lineS
  rw [e, words3 (by simp) (by decide), words2 (num_32 _), words1 tW_32]
  exact words_long (by simp)
/-- another word -/
theorem bad_t8c (st : RSt) : lineS st (replL (cs "tie") (cs "Tie") (tieL t)) = none := by
  have e : ∃ x, replL (cs "tie") (cs "Tie") (tieL t) = cs "Tie" ++ cs " " ++ x := by
    have e0 : tieL t = 116 :: (([105, 101] : List Nat) ++ (32 :: (numL t.1 ++ cs " " ++ joinL (cs ",") (tW t)))) := by rw [tie_eq]; simp [cs]
    rw [e0]
    have h := PySem.StrLaws.replL_hit (y := cs "tie") (z := cs "Tie") (c := 116) (r := ([105, 101] : List Nat) ++ (32 :: (numL t.1 ++ cs " " ++ joinL (cs ",") (tW t)))) (by decide) (by rfl)
    refine ⟨replL (cs "tie") (cs "Tie") (numL t.1 ++ cs " " ++ joinL (cs ",") (tW t)), ?_⟩
    refine h.trans ?_
    have hm : ¬ (32 :: (numL t.1 ++ cs " " ++ joinL (cs ",") (tW t))).take (cs "tie").length = cs "tie" := by
      show ¬ (32 :: _) = _
      intro e
      injection e with e _
      cases e
    have h2 := PySem.StrLaws.replL_miss (y := cs "tie") (z := cs "Tie") hm
    have hd : (116 :: (([105, 101] : List Nat) ++ (32 :: (numL t.1 ++ cs " " ++ joinL (cs ",") (tW t))))).drop (cs "tie").length = 32 :: (numL t.1 ++ cs " " ++ joinL (cs ",") (tW t)) := rfl
    rw [hd, h2, c32]
    simp
  obtain ⟨x, e⟩ := e
  unfold lineS
  rw [e, words2 (by decide)]
  exact words_first (by decide) (by decide) (by decide)
/-- no relation -/
theorem bad_t8d (st : RSt) : lineS st (cs "tie " ++ joinL (cs ",") (tW t)) = none := by
  rw [cs_tie, line2 (by decide) tW_32, w2, if_neg (by decide)]
end
end K08
namespace K08
open PySem L2 Eg
open TL (numL joinL spl)
open PyProof.Rows (boot_int boot_tuple boot_bool boot_list boot_str boot_isinstance boot_range boot_enumerate boot_abs)
local macro_rules | `(tactic| walk_at "is") => `(tactic| first | assumption | (refine Fx.is (by assumption) ?_; walk_at "is"))
local macro_rules | `(tactic| walk_at "sz") => `(tactic| first | assumption | omega | (show _ ≤ sizeLine; decide) | (show _ < sizeLine; decide))
local macro_rules | `(tactic| walk_at "r2") => `(tactic| first
  | exact r2_addI | exact r2_addS (by walk_at "sz") | exact r2_addT (by walk_at "sz") | exact r2_addL (by walk_at "sz")
  | exact r2_eqI | exact r2_eqS | exact r2_neI | exact r2_neS | exact r2_lt | exact r2_le | exact r2_gt | exact r2_ge | exact r2_sub | exact r2_isN | exact r2_notN)
local macro_rules | `(tactic| walk_at "ea") => `(tactic| first | exact ea_nil | refine ea_cons (by walk_at "ev") (by walk_at "ea"))
local macro_rules | `(tactic| walk_at "ev") => `(tactic| first
  | exact ev_int | exact ev_str | exact ev_bl | exact ev_non
  | refine ev_var rfl (by walk_at "is")
  | refine ev_op (by walk_at "ev") (by walk_at "ev") (by walk_at "r2")
  | refine ev_tup (by walk_at "ea") (by walk_at "sz")
  | refine ev_lst (by walk_at "ea") (by walk_at "sz")
  | refine ev_cb (by walk_at "ea") (by first | exact rc_len rfl | exact rc_intI | exact rc_tupL | exact rc_tupT))

section
variable {P : Program} {w : World} {K : PySem.W.Frag} {mg : Str → Option Value} {base : Heap}
/-! tests of a known number -/
theorem q_kindN {σ : L2.St} {H : Hp} {E : Ends} {ts tw : TS} {i : Nat} {n c : Int} (hi : σ[i]? = some (some (.int n))) (h : n ≠ c) (k : tw E σ H) : tSeq (tIfS (tTest (tOp (Eg.rEqA K) (tVar i) (tC (.int c)))) ts tNext) tw E σ H :=
  ⟨.int n, hi, .inl ⟨rfl, _, rfl, by rw [dec_i, decide_eq_false h]; exact iteF k⟩⟩
theorem q_kindY {σ : L2.St} {H : Hp} {E : Ends} {ts tw : TS} {i : Nat} {n c : Int} (hi : σ[i]? = some (some (.int n))) (h : n = c) (k : ts { E with nx := tw E } σ H) : tSeq (tIfS (tTest (tOp (Eg.rEqA K) (tVar i) (tC (.int c)))) ts tNext) tw E σ H :=
  ⟨.int n, hi, .inl ⟨rfl, _, rfl, by rw [dec_i, decide_eq_true h]; exact iteT k⟩⟩
/-- words[j], words may change -/
theorem ev_ixM {σ : L2.St} {F H : Hp} {te : TE} {i : Nat} {l : Addr} {acc : List V} {ds : List D} {d : D} {j : Int} (hi : σ[i]? = some (some (.ref l))) (nf : F l = none) (hl : H l = some (.lst acc)) (r : Iss K F ds acc) (hj : Ev K te σ F H (.int j)) (e : L2.atI ds j = some d) : Ev K (tOp (rIx K) (tVar i) te) σ F H d := fun F1 H1 z Q k =>
  ⟨.ref l, hi, hj F1 H1 z _ fun u F2 H2 z2 hu => by
    cases hu
    obtain ⟨v, ev, hv⟩ := ((z.trans z2).iss r).atI e
    exact .inl ⟨l, acc, j, v, rfl, rfl, SqL.of ((z.trans z2).hh _ _ id hl), ev, k v F2 H2 z2 hv⟩⟩
theorem iss_set {F : Hp} {ds : List D} {acc : List V} {d : D} {v : V} {n : Nat} (r : Iss K F ds acc) (h : Is K F d v) : Iss K F (ds.set n d) (acc.set n v) := r.set n h
/-! a bent relation line -/
def BadRel (l : List Nat) : Prop := (∀ st, lineS st l = none) ∧ Plain l
def P_bent_rel : List D → Prop := fun ds => ∃ r, ds = [tD (relL r), .int r.1, .tup (r.2.map rowD)] ∧ OkRel r
def R_bent_rel : List D → D → Prop := fun ds z => ∃ l, z = tD l ∧ BadRel l
theorem join10 {W : List (List Nat)} (hl : W.length ≤ 17) (hw : ∀ p ∈ W, p.length ≤ 10) : (joinL (cs ",") W).length ≤ 187 := by
  have := join_len (a := cs ",") hl hw
  exact this
/-- 'relation ' + str(size) + ' ' + ','.join(words) -/
theorem ev_rel {σ : L2.St} {F H : Hp} {n : Nat} {W : List (List Nat)} {v : V} {te : TE} {j : Nat} {s : String} (hs : (cs s).length ≤ 20) (hn : n < 10 ^ 6) (hj : σ[j]? = some (some v)) (hv : Is K F (.lst (W.map tD)) v) (he : Ev K te σ F H (.int n)) (hl : W.length ≤ 17) (hw : ∀ p ∈ W, p.length ≤ 10) :
    Ev K (tOp (Eg.rAddA K) (tOp (Eg.rAddA K) (tOp (Eg.rAddA K) (tC (.str (Str.ofString s))) (tCB rStr (tCons te tNil))) (tC (.str (Str.ofString " ")))) (tBM K "str" (Eg.rJoin K) (tC (.str (Str.ofString ","))) (tCons (tVar j) tNil))) σ F H (tD (cs s ++ numL n ++ cs " " ++ joinL (cs ",") W)) := by
  have l1 := num_small hn
  have l2 := join10 hl hw
  have l4 := lc1
  refine ev_op (ev_op (ev_op ev_txt (ev_cb (ea_cons he ea_nil) (rc_strN (by omega))) (r2_addX (by rw [sizeLine_eq]; omega))) ev_txt (r2_addX (by rw [List.length_append, sizeLine_eq]; omega))) (ev_bmS ev_txt (ea_cons (ev_var hj hv) ea_nil) (z := tD (joinL (cs ",") W)) ?_) (r2_addX (by rw [List.length_append, List.length_append, sizeLine_eq]; omega))
  exact rm_joinX (Nat.le_trans (join_size (n := 17) hl hw) (by decide))
theorem ok_law_bent_relation (T : Tx K mg) : FnOk P w K mg base CX0 2 T.a_law_bent_relation T.fd_law_bent_relation ["hand", "line", "size", "rows"] (Ph K P_bent_rel R_bent_rel) := by
  refine T.F_law_bent_relation.ok sc_law_bent_relation (fun vs H Q E ⟨F, p, q, ds, ws, _, _, e, hi, ⟨m, em, _⟩, _⟩ => by rw [e, List.length_cons, ← hi.length, em]; rfl) (fun cdv A outer s H vs Q E hr h => ?_)
  obtain ⟨F, p, q, ds, ws, s0, hh, rfl, hi, ⟨r, rfl, or⟩, k⟩ := h
  obtain ⟨x, y, u, rfl, h1, h2, h3⟩ := iss3 hi
  refine ⟨_, (pss_cons (ps_setLc (i := 4) (own := [("row", 5)]) rfl sc_law_bent_relation.nd rfl rfl (sw_true rfl rfl rfl (by decide +kernel)) (pi_seqK K (pv 3)) (blkOk_by (own := [("row", 5)]) (N := N_law_bent_relation) (sc := defScope s_law_bent_relation) (by decide +kernel)) (fun _ _ _ _ _ => (pg_name (i := 5) sc_law_bent_relation.nd rfl (by first | exact Or.inl rfl | exact Or.inr rfl))) (fun _ _ _ _ _ => pts_nil) (fun _ _ _ _ _ => (pe_bmK K PySem.F.plainAttrs_str PySem.F.slot_str_join PySem.F.type_str_join (mtK K Eg.rJoin mt_joinA) pe_str (pa_cons (pe_lc (own := [("value", 6)]) rfl sc_law_bent_relation.nd (pi_seqK K (pv 5)) (by refine blkOk_by ?_; kernel_rfl) (fun _ _ _ _ _ => (pg_name (i := 6) sc_law_bent_relation.nd rfl (by first | exact Or.inl rfl | exact Or.inr rfl))) (fun _ _ _ _ _ => pts_nil) (fun _ _ _ _ _ => (pe_callTy call_strA (by rfl) T.n_str (by decide +kernel) (pa_cons (pv 6) pa_nil)))) pa_nil))))
    (pss_cons (ps_set (i := 7) sc_law_bent_relation.nd rfl (by first | exact Or.inl rfl | exact Or.inr rfl) (pe_call (ok_law_take T) (hr.mono (by decide)) rfl T.mg_law_take T.F_law_take.kp T.b_law_take .nil pass0 (pa_cons (pv 0) (pa_cons pe_int pa_nil))))
    (pss_cons (ps_if (pt_cmpR (opK K Eg.rEqA (op_eqA hr)) (pv 7) pe_int (nomark _)) (pss_one (ps_set (i := 4) sc_law_bent_relation.nd rfl (by first | exact Or.inl rfl | exact Or.inr rfl) (pe_op (opK K Eg.rAddA op_addA) (pv 4) (pe_lst (pa_cons (pe_ix (ixK K ix_seq) (pv 4) (pe_un un_neg pe_int) (fun _ _ => rfl)) pa_nil))))) pss_nil)
    (pss_cons (ps_if (pt_cmpR (opK K Eg.rEqA (op_eqA hr)) (pv 7) pe_int (nomark _)) (pss_one (ps_set (i := 4) sc_law_bent_relation.nd rfl (by first | exact Or.inl rfl | exact Or.inr rfl) (pe_op (opK K Eg.rAddA op_addA) (pv 4) (pe_lst (pa_cons (pe_op (opK K Eg.rAddA op_addA) (pe_ix (ixK K ix_seq) (pv 4) pe_int (fun _ _ => rfl)) pe_str) pa_nil))))) pss_nil)
    (pss_cons (ps_if (pt_cmpR (opK K Eg.rEqA (op_eqA hr)) (pv 7) pe_int (nomark _)) (pss_one (ps_asg (pe_op (opK K Eg.rAddA op_addA) pe_str (pe_slice (slK K sl_X) (pe_ix (ixK K ix_seq) (pv 4) pe_int (fun _ _ => rfl)) (po_some pe_int) po_none)) (pg_sub (pv 4) pe_int set_list))) pss_nil)
    (pss_cons (ps_if (pt_cmpR (opK K Eg.rEqA (op_eqA hr)) (pv 7) pe_int (nomark _)) (pss_one (ps_ret (pe_op (opK K Eg.rAddA op_addA) (pe_op (opK K Eg.rAddA op_addA) (pe_op (opK K Eg.rAddA op_addA) pe_str (pe_callTy call_strA (by rfl) T.n_str (by decide +kernel) (pa_cons (pv 2) pa_nil))) pe_str) (pe_bmK K PySem.F.plainAttrs_str PySem.F.slot_str_join PySem.F.type_str_join (mtK K Eg.rJoin mt_joinA) pe_str (pa_cons (pv 4) pa_nil))))) pss_nil)
    (pss_cons (ps_if (pt_cmpR (opK K Eg.rEqA (op_eqA hr)) (pv 7) pe_int (nomark _)) (pss_one (ps_ret (pe_op (opK K Eg.rAddA op_addA) (pe_op (opK K Eg.rAddA op_addA) (pe_op (opK K Eg.rAddA op_addA) pe_str (pe_callTy call_strA (by rfl) T.n_str (by decide +kernel) (pa_cons (pe_op (opK K Eg.rAddA op_addA) (pv 2) pe_int) pa_nil))) pe_str) (pe_bmK K PySem.F.plainAttrs_str PySem.F.slot_str_join PySem.F.type_str_join (mtK K Eg.rJoin mt_joinA) pe_str (pa_cons (pv 4) pa_nil))))) pss_nil)
    (pss_cons (ps_if (pt_cmpR (opK K Eg.rEqA (op_eqA hr)) (pv 7) pe_int (nomark _)) (pss_one (ps_ret (pe_op (opK K Eg.rAddA op_addA) pe_str (pe_callTy call_strA (by rfl) T.n_str (by decide +kernel) (pa_cons (pv 2) pa_nil))))) pss_nil)
    (pss_cons (ps_ifK (opK K Eg.rEqA (op_eqA hr)) (pv 7) (nomark _) (CwR.psst_one (CwR.pst_ret (CwR.pet_op (opK K Eg.rAddA op_addA) (CwR.pet_replC (pv 1)) (CwR.PET.of pe_str)))) pss_nil)
    (pss_one (ps_ret (pe_op (opK K Eg.rAddA op_addA) (pe_op (opK K Eg.rAddA op_addA) (pe_op (opK K Eg.rAddA op_addA) pe_str (pe_callTy call_strA (by rfl) T.n_str (by decide +kernel) (pa_cons (pv 2) pa_nil))) pe_str) (pe_bmK K PySem.F.plainAttrs_str PySem.F.slot_str_join PySem.F.type_str_join (mtK K Eg.rJoin mt_joinA) pe_str (pa_cons (pv 4) pa_nil)))))))))))))), ?_⟩
  have fin : ∀ {l : List Nat} {F' H' : Hp} {v : V}, Fx (Hx p q) F H F' H' → HandAt K F' H' p q → BadRel l → Is K F' (tD l) v → Q v H' := fun {l F' H' v} z h' hb hv => k v _ F' H' z h' ⟨l, rfl, hb⟩ hv
  refine q_asgL s0 (evl_la1 (xs := r.2) (dd := rowD) (wa_seqT (ev_var rfl h3)) (fun q => tD (wordL q)) (fun x => rfl) (fun q hq F3 H3 x a3 hx => ?_) (Nat.lt_of_le_of_lt or.few (by decide))) fun l acc F1 H1 a1 nl n0 hl hacc => ?_
  · obtain ⟨w1, w2⟩ := word_len or.2.1 (or.2.2.2.1 q hq)
    refine ev_bmS ev_txt (ea_cons (ev_la1 (xs := q) (dd := D.int) (wa_seqT (ev_var rfl hx)) (fun v => tD (numL v.toNat)) (fun x => rfl) (fun v hv F4 H4 x4 a4 hx4 => ?_) (by rw [List.length_map] at w1; exact Nat.lt_of_le_of_lt w1 (by decide))) ea_nil) ?_
    · have b := (or.2.2.2.1 q hq).2 v hv
      have h := rc_strN (K := K) (n := v.toNat) (by omega)
      rw [Int.toNat_of_nonneg b.1] at h
      exact ev_cb (ea_cons (ev_var rfl hx4) ea_nil) h
    · have h := rm_joinX (K := K) (a := cs "") (ys := q.map fun v => numL v.toNat) (Nat.le_trans (join_size w1 w2) (by decide))
      rw [List.map_map] at h
      exact h
  have hacc : Iss K F1 ((r.2.map wordL).map tD) acc := by rw [List.map_map]; exact hacc
  have Wne := W_ne or
  have W44 := words_44 or
  have W10 := W_10 or
  have Wl : (r.2.map wordL).length ≤ 16 := by rw [List.length_map]; exact or.few
  have Ww : ∀ p ∈ r.2.map wordL, p.length ≤ 4 := words_len or
  have b0 := fun x (hx : (r.2.map wordL).getLast? = some x) => bad_r0 or hx
  have b1 := fun x (hx : (r.2.map wordL)[0]? = some x) => bad_r1 or hx
  have b2 := fun x (hx : (r.2.map wordL)[0]? = some x) => bad_r2 or hx
  have b3 := bad_r3 or
  have b4 := bad_r4 or
  have b6 := bad_r6 or
  have lineL := relL_len or
  have line10 : 10 ∉ relL r := by
    unfold relL
    exact not_app (not_app (not_app (by decide) (num_10 _)) (by decide)) (jfree (by decide) W10)
  have n4 := or.2.1
  have n1 := or.1
  generalize hW : r.2.map wordL = W at hacc Wne W44 W10 Wl Ww b0 b1 b2 b3 b4
  obtain ⟨W0, Wr, eW⟩ := List.exists_cons_of_ne_nil Wne
  have hW0 : W[0]? = some W0 := by rw [eW]; rfl
  have mW0 : W0 ∈ W := by rw [eW]; simp
  have hh1 := hh.keep a1
  obtain ⟨lp, lq⟩ := hh.ne_of n0
  have nx : ¬ Hx p q l := fun z => z.elim lp lq
  refine h_asg (p := p) (q := q) (R := fun d => ∃ c : Nat, c < 7 ∧ d = .int c) hh1 a1.fh (evh_take (m := 7) rfl (fun F2 H2 a hh => ev_int) (by decide) (fun r hr => ⟨r, hr, rfl⟩)) fun v7 d7 F2 H2 a2 hh2 ⟨c, hc7, e7⟩ hv7 => ?_
  subst e7
  cases hv7
  have m2 := a2.m nl hl nx
  have z2 : Fx (Hx p q) F H F2 H2 := a1.of.trans a2
  have hacc2 : Iss K F2 (W.map tD) acc := a2.iss hacc
  have h1 : Is K F2 (tD (relL r)) x := z2.is h1
  have h2 : Is K F2 (.int r.1) y := z2.is h2
  have hW2 : L2.atI (W.map tD) 0 = some (tD W0) := atI_of (Int.le_refl 0) (by rw [List.getElem?_map]; show Option.map tD W[0]? = _; rw [hW0]; rfl)
  have plainW : ∀ {n : Nat} {V : List (List Nat)}, n < 10 ^ 6 → (∀ p ∈ V, 10 ∉ p) → V.length ≤ 17 → (∀ p ∈ V, p.length ≤ 10) → Plain (cs "relation " ++ numL n ++ cs " " ++ joinL (cs ",") V) := fun hn h10 hl hw =>
    rel_plain (num_10 _) (jfree (by decide) h10) (Nat.le_trans (num_small hn) (by decide)) (Nat.le_trans (join10 hl hw) (by decide))
  by_cases e2 : c = 2
  · subst e2
    refine q_kindN rfl (by decide) (q_kindN rfl (by decide) (q_kindY rfl rfl ?_))
    refine (ev_op (ev_txt (s := "2")) (ev_sl (ev_ixM rfl m2.2 m2.1 hacc2 ev_int hW2) (eo_some (K := K) ev_int) eo_no (rs_strX (lo := 1) (hi := none) rfl (by rw [sizeLine_eq]; have := Ww W0 mW0; omega))) (r2_addX (b := W0.drop 1) (by rw [List.length_drop, sizeLine_eq]; have := Ww W0 mW0; show 1 + _ ≤ _; omega)) : Ev K _ _ F2 H2 _).go z2.fh fun v F3 H3 a3 hv => ?_
    have m3 := a3.m m2.2 m2.1 id
    refine ⟨V.ref l, rfl, l, acc, 0, 0, rfl, rfl, m3.1, ?_, ?_⟩
    · unfold ixN
      have : 0 < acc.length := by rw [← hacc2.length, List.length_map, eW]; simp
      rw [if_pos (Int.le_refl 0), if_pos (by omega)]
      rfl
    · have z3 := (z2.trans a3.of).mut (p := l) (o := .lst (acc.set 0 v)) (.inl n0) m3.2
      have is3 : Iss K F3 ((W.set 0 ([50] ++ W0.drop 1)).map tD) (acc.set 0 v) := by
        rw [List.map_set]
        exact iss_set (a3.iss hacc2) hv
      have z4 := z3.freeze s0 n0 upd_same
      have s4 := frz_same z3.fh m3.2 (H := upd H3 l (.lst (acc.set 0 v))) upd_same
      have hh4 : HandAt K (upd F3 l (.lst (acc.set 0 v))) (upd H3 l (.lst (acc.set 0 v))) p q := ((hh2.keep a3).other lp lq).frz lp lq m3.2
      refine q_kindN rfl (by decide) (q_kindN rfl (by decide) (q_kindN rfl (by decide) (q_kindN rfl (by decide) ?_)))
      have mem2 : ∀ {P : List Nat → Prop}, (∀ p ∈ W, P p) → P ([50] ++ W0.drop 1) → ∀ p ∈ W.set 0 ([50] ++ W0.drop 1), P p := fun h1 h2 p hp => by
        rcases List.mem_or_eq_of_mem_set hp with hp | rfl
        · exact h1 p hp
        · exact h2
      have L17 : (W.set 0 ([50] ++ W0.drop 1)).length ≤ 17 := by rw [List.length_set]; omega
      have w10 : ∀ p ∈ W.set 0 ([50] ++ W0.drop 1), p.length ≤ 10 := mem2 (fun p hp => Nat.le_trans (Ww p hp) (by decide)) (by rw [List.length_append, List.length_drop]; have := Ww W0 mW0; show 1 + _ ≤ _; omega)
      refine s_ret z4.fh (ev_rel (by decide) (show r.1 < 10 ^ 6 by omega) rfl (.lst upd_same (Iss.up s4.1 _ _ is3)) (ev_var rfl (Is.up s4.1 _ _ (a3.is h2))) L17 w10) fun v' F5 H5 a5 hv' => ?_
      exact fin (z4.trans a5.of) (hh4.keep a5) ⟨b2 W0 hW0, plainW (by omega) (mem2 W10 (not_app (by decide) fun hm => W10 _ mW0 (List.mem_of_mem_drop hm))) L17 w10⟩ hv'
  · -- the words are not changed any more
    have z3 := z2.freeze s0 n0 m2.1
    have s3 := frz_same z2.fh m2.2 m2.1
    have hh3 : HandAt K (upd F2 l (.lst acc)) H2 p q := hh2.frz lp lq m2.2
    have hw : Is K (upd F2 l (.lst acc)) (.lst (W.map tD)) (.ref l) := .lst upd_same (Iss.up s3.1 _ _ hacc2)
    have h1 : Is K (upd F2 l (.lst acc)) (tD (relL r)) x := Is.up s3.1 _ _ h1
    have h2 : Is K (upd F2 l (.lst acc)) (.int r.1) y := Is.up s3.1 _ _ h2
    generalize upd F2 l (.lst acc) = G at z3 hh3 hw h1 h2
    have memA : ∀ {P : List Nat → Prop} {x : List Nat}, (∀ p ∈ W, P p) → P x → ∀ p ∈ W ++ [x], P p := fun h1 h2 p hp => by
      rcases List.mem_append.mp hp with hp | hp
      · exact h1 p hp
      · rw [List.mem_singleton] at hp; subst hp; exact h2
    have small : ∀ p ∈ W, p.length ≤ 10 := fun p hp => Nat.le_trans (Ww p hp) (by decide)
    have c6 : c = 0 ∨ c = 1 ∨ c = 3 ∨ c = 4 ∨ c = 5 ∨ c = 6 := by omega
    rcases c6 with rfl | rfl | rfl | rfl | rfl | rfl
    · obtain ⟨xl, hxl⟩ : ∃ xl, W.getLast? = some xl := ⟨W.getLast Wne, List.getLast?_eq_some_getLast Wne⟩
      have mxl : xl ∈ W := List.mem_of_getLast? hxl
      refine q_kindY rfl rfl ?_
      refine s_asg z3.fh (ev_op (ev_var rfl hw) (ev_lst (ea_cons (ev_op (ev_var rfl hw) (ev_un ev_int (un_negD (i := 1))) (r2_ixL (z := tD xl) ?_)) ea_nil) (by show 1 ≤ sizeLine; decide)) (r2_addL (by rw [List.length_map, sizeLine_eq]; show W.length + 1 ≤ _; omega))) fun v F3 H3 a3 hv => ?_
      · exact atI_last hxl
      have hv : Is K F3 (.lst ((W ++ [xl]).map tD)) v := by rw [List.map_append]; exact hv
      refine q_kindN rfl (by decide) (q_kindN rfl (by decide) (q_kindN rfl (by decide) (q_kindN rfl (by decide) (q_kindN rfl (by decide) (q_kindN rfl (by decide) ?_)))))
      have L17 : (W ++ [xl]).length ≤ 17 := by rw [List.length_append, List.length_singleton]; omega
      have w10 := memA small (small xl mxl)
      refine s_ret a3.fh (ev_rel (by decide) (show r.1 < 10 ^ 6 by omega) rfl hv (ev_var rfl (a3.is h2)) L17 w10) fun v' F5 H5 a5 hv' => ?_
      exact fin (z3.trans (a3.of.trans a5.of)) ((hh3.keep a3).keep a5) ⟨b0 xl hxl, plainW (by omega) (memA W10 (W10 xl mxl)) L17 w10⟩ hv'
    · refine q_kindN rfl (by decide) (q_kindY rfl rfl ?_)
      refine s_asg z3.fh (ev_op (ev_var rfl hw) (ev_lst (ea_cons (ev_op (ev_op (ev_var rfl hw) ev_int (r2_ixL hW2)) (ev_txt (s := "0")) (r2_addX (by rw [sizeLine_eq]; have := Ww W0 mW0; show W0.length + 1 ≤ _; omega))) ea_nil) (by show 1 ≤ sizeLine; decide)) (r2_addL (by rw [List.length_map, sizeLine_eq]; show W.length + 1 ≤ _; omega))) fun v F3 H3 a3 hv => ?_
      have hv : Is K F3 (.lst ((W ++ [W0 ++ [48]]).map tD)) v := by rw [List.map_append]; exact hv
      refine q_kindN rfl (by decide) (q_kindN rfl (by decide) (q_kindN rfl (by decide) (q_kindN rfl (by decide) (q_kindN rfl (by decide) ?_))))
      have L17 : (W ++ [W0 ++ [48]]).length ≤ 17 := by rw [List.length_append, List.length_singleton]; omega
      have w10 := memA small (x := W0 ++ [48]) (by rw [List.length_append, List.length_singleton]; have := Ww W0 mW0; omega)
      refine s_ret a3.fh (ev_rel (by decide) (show r.1 < 10 ^ 6 by omega) rfl hv (ev_var rfl (a3.is h2)) L17 w10) fun v' F5 H5 a5 hv' => ?_
      exact fin (z3.trans (a3.of.trans a5.of)) ((hh3.keep a3).keep a5) ⟨b1 W0 hW0, plainW (by omega) (memA W10 (not_app (W10 W0 mW0) (by decide))) L17 w10⟩ hv'
    · refine q_kindN rfl (by decide) (q_kindN rfl (by decide) (q_kindN rfl (by decide) (q_kindY rfl rfl ?_)))
      refine s_ret z3.fh (ev_rel (s := "relation 0") (by decide) (show r.1 < 10 ^ 6 by omega) rfl hw (ev_var rfl h2) (by omega) small) fun v' F5 H5 a5 hv' => ?_
      refine fin (z3.trans a5.of) (hh3.keep a5) ⟨b3, ?_⟩ hv'
      have l1 := num_small (show r.1 < 10 ^ 6 by omega)
      have l2 := join10 (by omega) small
      have l3 : (cs "relation 0").length = 10 := by decide
      have l4 := lc1
      refine ⟨not_app (not_app (not_app (by decide) (num_10 _)) (by decide)) (jfree (by decide) W10), ?_⟩
      rw [List.length_append, List.length_append, List.length_append]
      omega
    · refine q_kindN rfl (by decide) (q_kindN rfl (by decide) (q_kindN rfl (by decide) (q_kindN rfl (by decide) (q_kindY rfl rfl ?_))))
      refine s_ret z3.fh (ev_rel (n := r.1 + 1) (by decide) (by omega) rfl hw (ev_op (ev_var rfl h2) ev_int (r2_addI (j := 1))) (by omega) small) fun v' F5 H5 a5 hv' => ?_
      exact fin (z3.trans a5.of) (hh3.keep a5) ⟨b4, plainW (by omega) W10 (by omega) small⟩ hv'
    · refine q_kindN rfl (by decide) (q_kindN rfl (by decide) (q_kindN rfl (by decide) (q_kindN rfl (by decide) (q_kindN rfl (by decide) (q_kindY rfl rfl ?_)))))
      have l1 := num_small (show r.1 < 10 ^ 6 by omega)
      have l3 := lc9
      refine s_ret z3.fh (ev_op ev_txt (ev_cb (ea_cons (ev_var rfl h2) ea_nil) (rc_strN (by omega))) (r2_addX (by rw [sizeLine_eq]; omega))) fun v' F5 H5 a5 hv' => ?_
      exact fin (z3.trans a5.of) (hh3.keep a5) ⟨fun st => bad_r5 st, not_app (by decide) (num_10 _), by rw [List.length_append]; omega⟩ hv'
    · refine q_kindN rfl (by decide) (q_kindN rfl (by decide) (q_kindN rfl (by decide) (q_kindN rfl (by decide) (q_kindN rfl (by decide) (q_kindN rfl (by decide) (q_kindY rfl rfl ?_))))))
      have lr := repl1_len 44 (cs ", ") (relL r)
      have lc : (cs ", ").length = 2 := by decide
      rw [lc] at lr
      have lr : (replL (cs ",") (cs ", ") (relL r)).length ≤ (relL r).length * 3 := lr
      refine s_ret z3.fh (ev_op (ev_repl (ev_var rfl h1) (by decide) (by rw [lc]; omega)) ev_txt (r2_addX (by rw [sizeLine_eq]; have := lc1; omega))) fun v' F5 H5 a5 hv' => ?_
      refine fin (z3.trans a5.of) (hh3.keep a5) ⟨b6, not_app ?_ (by decide), by rw [List.length_append]; have := lc1; omega⟩ hv'
      rw [c44, repl1]
      intro hm
      obtain ⟨d, hd, hm⟩ := List.mem_flatMap.mp hm
      split at hm
      · exact absurd hm (by decide)
      · rw [List.mem_singleton] at hm
        rw [← hm] at hd
        exact line10 hd
end
end K08
namespace K08
open PySem L2 Eg
open TL (numL joinL spl)
open PyProof.Rows (boot_int boot_tuple boot_bool boot_list boot_str boot_isinstance boot_range boot_enumerate boot_abs)
local macro_rules | `(tactic| walk_at "is") => `(tactic| first | assumption | (refine Fx.is (by assumption) ?_; walk_at "is"))
local macro_rules | `(tactic| walk_at "sz") => `(tactic| first | assumption | omega | (show _ ≤ sizeLine; decide) | (show _ < sizeLine; decide))
local macro_rules | `(tactic| walk_at "r2") => `(tactic| first
  | exact r2_addI | exact r2_addS (by walk_at "sz") | exact r2_addT (by walk_at "sz") | exact r2_addL (by walk_at "sz")
  | exact r2_eqI | exact r2_eqS | exact r2_neI | exact r2_neS | exact r2_lt | exact r2_le | exact r2_gt | exact r2_ge | exact r2_sub | exact r2_isN | exact r2_notN)
local macro_rules | `(tactic| walk_at "ea") => `(tactic| first | exact ea_nil | refine ea_cons (by walk_at "ev") (by walk_at "ea"))
local macro_rules | `(tactic| walk_at "ev") => `(tactic| first
  | exact ev_int | exact ev_str | exact ev_bl | exact ev_non
  | refine ev_var rfl (by walk_at "is")
  | refine ev_op (by walk_at "ev") (by walk_at "ev") (by walk_at "r2")
  | refine ev_tup (by walk_at "ea") (by walk_at "sz")
  | refine ev_lst (by walk_at "ea") (by walk_at "sz")
  | refine ev_cb (by walk_at "ea") (by first | exact rc_len rfl | exact rc_intI | exact rc_tupL | exact rc_tupT))

section
variable {P : Program} {w : World} {K : PySem.W.Frag} {mg : Str → Option Value} {base : Heap}
theorem q_ltN {σ : L2.St} {H : Hp} {E : Ends} {ts tw : TS} {i : Nat} {n c : Int} (hi : σ[i]? = some (some (.int n))) (h : ¬ n < c) (k : tw E σ H) : tSeq (tIfS (tTest (tOp (rI0 fun i j => .bl (decide (i < j))) (tVar i) (tC (.int c)))) ts tNext) tw E σ H :=
  ⟨.int n, hi, n, c, rfl, rfl, _, rfl, by rw [decide_eq_false h]; exact iteF k⟩
theorem q_ltY {σ : L2.St} {H : Hp} {E : Ends} {ts tw : TS} {i : Nat} {n c : Int} (hi : σ[i]? = some (some (.int n))) (h : n < c) (k : ts { E with nx := tw E } σ H) : tSeq (tIfS (tTest (tOp (rI0 fun i j => .bl (decide (i < j))) (tVar i) (tC (.int c)))) ts tNext) tw E σ H :=
  ⟨.int n, hi, n, c, rfl, rfl, _, rfl, by rw [decide_eq_true h]; exact iteT k⟩
/-- len(words), words may change -/
theorem ev_lenL {σ : L2.St} {F H : Hp} {i : Nat} {l : Addr} {acc : List V} (hi : σ[i]? = some (some (.ref l))) (hl : H l = some (.lst acc)) : Ev K (tCB (Eg.rLen K) (tCons (tVar i) tNil)) σ F H (.int acc.length) := fun F1 H1 z Q k =>
  ⟨.ref l, hi, ⟨_, _, rfl, .inl ⟨acc, SqL.of (z.hh _ _ id hl), rfl⟩, k _ F1 H1 (Fx.refl z.fh) (.int _)⟩⟩
theorem mem_replS {y z : List Nat} {c : Nat} : ∀ (l : List Nat) (k : Nat), c ∈ PySem.StrLaws.replS y z k l → c ∈ l ∨ c ∈ z
  | [], k, h => by cases k <;> (rw [PySem.StrLaws.replS] at h; simp at h)
  | d :: r, 0, h => by
    rw [PySem.StrLaws.replS] at h
    split at h
    · rcases List.mem_append.mp h with h | h
      · exact .inr h
      · exact (mem_replS r _ h).imp (List.mem_cons_of_mem _) id
    · rcases List.mem_cons.mp h with h | h
      · exact .inl (by rw [h]; exact List.mem_cons_self ..)
      · exact (mem_replS r _ h).imp (List.mem_cons_of_mem _) id
  | d :: r, k + 1, h => by
    rw [PySem.StrLaws.replS] at h
    exact (mem_replS r _ h).imp (List.mem_cons_of_mem _) id
/-! a bent tie line -/
def BadTie (b : BR) (m : Nat) (l : List Nat) : Prop := (∀ ts', lineS (aft b m ts') l = none) ∧ Plain l
def P_bent_tie (b : BR) (m : Nat) (ts : List Tie) : List D → Prop := fun ds => ∃ t ∈ ts, ds = [tD (tieL t), tieD t, .lst (b.map plainD), .int m]
def R_bent_tie (b : BR) (m : Nat) : List D → D → Prop := fun ds z => ∃ l, z = tD l ∧ BadTie b m l
theorem ok_law_bent_tie (T : Tx K mg) (b : BR) (m : Nat) (ts : List Tie) (ok : OkPuz b m ts) : FnOk P w K mg base CX0 2 T.a_law_bent_tie T.fd_law_bent_tie ["hand", "line", "tie", "book", "many"] (Ph K (P_bent_tie b m ts) (R_bent_tie b m)) := by
  refine T.F_law_bent_tie.ok sc_law_bent_tie (fun vs H Q E ⟨F, p, q, ds, ws, _, _, e, hi, ⟨t, _, em⟩, _⟩ => by rw [e, List.length_cons, ← hi.length, em]; rfl) (fun cdv A outer s H vs Q E hr h => ?_)
  obtain ⟨F, p, q, ds, ws, s0, hh, rfl, hi, ⟨t, mt, rfl⟩, k⟩ := h
  obtain ⟨x, y, u, v, rfl, h1, h2, h3, h4⟩ := iss4 hi
  refine ⟨_, (pss_cons (ps_asg (pv 2) (pg_tupK K rfl (pgs_cons (pg_name (i := 5) sc_law_bent_tie.nd rfl (by first | exact Or.inl rfl | exact Or.inr rfl)) (pgs_cons (pg_name (i := 6) sc_law_bent_tie.nd rfl (by first | exact Or.inl rfl | exact Or.inr rfl)) pgs_nil))))
    (pss_cons (ps_setLc (i := 7) (own := [("cell", 8)]) rfl sc_law_bent_tie.nd rfl rfl (sw_true rfl rfl rfl (by decide +kernel)) (pi_seqK K (pv 6)) (blkOk_by (own := [("cell", 8)]) (N := N_law_bent_tie) (sc := defScope s_law_bent_tie) (by decide +kernel)) (fun _ _ _ _ _ => (pg_name (i := 8) sc_law_bent_tie.nd rfl (by first | exact Or.inl rfl | exact Or.inr rfl))) (fun _ _ _ _ _ => pts_nil) (fun _ _ _ _ _ => (pe_callTy call_strA (by rfl) T.n_str (by decide +kernel) (pa_cons (pv 8) pa_nil))))
    (pss_cons (ps_set (i := 9) sc_law_bent_tie.nd rfl (by first | exact Or.inl rfl | exact Or.inr rfl) (pe_call (ok_law_take T) (hr.mono (by decide)) rfl T.mg_law_take T.F_law_take.kp T.b_law_take .nil pass0 (pa_cons (pv 0) (pa_cons (pe_callB (callK K Eg.rLen call_lenA) (by rfl) T.n_len (by decide +kernel) (pa_cons (pv 7) pa_nil)) pa_nil))))
    (pss_cons (ps_set (i := 10) sc_law_bent_tie.nd rfl (by first | exact Or.inl rfl | exact Or.inr rfl) (pe_call (ok_law_take T) (hr.mono (by decide)) rfl T.mg_law_take T.F_law_take.kp T.b_law_take .nil pass0 (pa_cons (pv 0) (pa_cons pe_int pa_nil))))
    (pss_cons (ps_if (pt_cmpR op_lt (pv 10) pe_int (nomark _)) (pss_one (ps_asg (pe_ix (ixK K ix_seq) (pe_lst (pa_cons (pe_op (opK K Eg.rAddA op_addA) pe_str (pe_ix (ixK K ix_seq) (pv 7) (pv 9) (fun _ _ => rfl))) (pa_cons (pe_op (opK K Eg.rAddA op_addA) pe_str (pe_ix (ixK K ix_seq) (pv 7) (pv 9) (fun _ _ => rfl))) (pa_cons (pe_op (opK K Eg.rAddA op_addA) pe_str (pe_ix (ixK K ix_seq) (pv 7) (pv 9) (fun _ _ => rfl))) (pa_cons (pe_callTy call_strA (by rfl) T.n_str (by decide +kernel) (pa_cons (pv 4) pa_nil)) pa_nil))))) (pv 10) (fun _ _ => rfl)) (pg_sub (pv 7) (pv 9) set_list))) pss_nil)
    (pss_cons (ps_if (pt_cmpR (opK K Eg.rEqA (op_eqA hr)) (pv 10) pe_int (nomark _)) (pss_one (ps_set (i := 7) sc_law_bent_tie.nd rfl (by first | exact Or.inl rfl | exact Or.inr rfl) (pe_op (opK K Eg.rAddA op_addA) (pv 7) (pe_lst (pa_cons (pe_ix (ixK K ix_seq) (pv 7) (pv 9) (fun _ _ => rfl)) pa_nil))))) pss_nil)
    (pss_cons (ps_ifK (opK K Eg.rEqA (op_eqA hr)) (pv 10) (nomark _) (CwR.psst_one (CwR.pst_ret (CwR.pet_replC (pv 1)))) pss_nil)
    (pss_cons (ps_if (pt_cmpR (opK K Eg.rEqA (op_eqA hr)) (pv 10) pe_int (nomark _)) (pss_one (ps_ret (pe_op (opK K Eg.rAddA op_addA) (pv 1) (pe_ix (ixK K ix_seq) (pe_lst (pa_cons pe_str (pa_cons pe_str (pa_cons pe_str pa_nil)))) (pe_call (ok_law_take T) (hr.mono (by decide)) rfl T.mg_law_take T.F_law_take.kp T.b_law_take .nil pass0 (pa_cons (pv 0) (pa_cons pe_int pa_nil))) (fun _ _ => rfl))))) pss_nil)
    (pss_cons (ps_if (pt_cmpR (opK K Eg.rEqA (op_eqA hr)) (pv 10) pe_int (nomark _)) (pss_one (ps_ret (pe_op (opK K Eg.rAddA op_addA) (pe_op (opK K Eg.rAddA op_addA) (pe_op (opK K Eg.rAddA op_addA) pe_str (pe_callTy call_strA (by rfl) T.n_str (by decide +kernel) (pa_cons (pe_callB (callK K Eg.rLen call_lenA) (by rfl) T.n_len (by decide +kernel) (pa_cons (pv 3) pa_nil)) pa_nil))) pe_str) (pe_bmK K PySem.F.plainAttrs_str PySem.F.slot_str_join PySem.F.type_str_join (mtK K Eg.rJoin mt_joinA) pe_str (pa_cons (pv 7) pa_nil))))) pss_nil)
    (pss_cons (ps_ifK (opK K Eg.rEqA (op_eqA hr)) (pv 10) (nomark _) (psst_cons (pst_set (i := 11) sc_law_bent_tie.nd rfl (by first | exact Or.inl rfl | exact Or.inr rfl) (pet_lst (pat_cons (CwR.pet_replC (pv 1)) (pat_cons (CwR.PET.of (pe_op (opK K Eg.rAddA op_addA) pe_str (pv 1))) (pat_cons (CwR.pet_replC (pv 1)) (pat_cons (CwR.PET.of (pe_op (opK K Eg.rAddA op_addA) pe_str (pe_bmK K PySem.F.plainAttrs_str PySem.F.slot_str_join PySem.F.type_str_join (mtK K Eg.rJoin mt_joinA) pe_str (pa_cons (pv 7) pa_nil)))) pat_nil))))))
    (CwR.psst_one (CwR.pst_ret (CwR.PET.of (pe_ix (ixK K ix_seq) (pv 11) (pe_call (ok_law_take T) (hr.mono (by decide)) rfl T.mg_law_take T.F_law_take.kp T.b_law_take .nil pass0 (pa_cons (pv 0) (pa_cons pe_int pa_nil))) (fun _ _ => rfl)))))) pss_nil)
    (pss_one (ps_ret (pe_op (opK K Eg.rAddA op_addA) (pe_op (opK K Eg.rAddA op_addA) (pe_op (opK K Eg.rAddA op_addA) pe_str (pe_callTy call_strA (by rfl) T.n_str (by decide +kernel) (pa_cons (pv 5) pa_nil))) pe_str) (pe_bmK K PySem.F.plainAttrs_str PySem.F.slot_str_join PySem.F.type_str_join (mtK K Eg.rJoin mt_joinA) pe_str (pa_cons (pv 7) pa_nil))))))))))))))), ?_⟩
  have fin : ∀ {l : List Nat} {F' H' : Hp} {v : V}, Fx (Hx p q) F H F' H' → HandAt K F' H' p q → BadTie b m l → Is K F' (tD l) v → Q v H' := fun {l F' H' v} z h' hb hv => k v _ F' H' z h' ⟨l, rfl, hb⟩ hv
  obtain ⟨t1, t2, t3⟩ := ok.tie4 mt
  have m6 := ok.m6
  refine ⟨y, rfl, g_pair s0 h2 fun v5 v6 hv5 hv6 => ?_⟩
  refine q_asgL s0 (evl_la1 (xs := t.2) (dd := fun c => D.int (c : Nat)) (wa_seqT (ev_var (i := 6) rfl hv6)) (fun c => tD (numL c)) (fun x => rfl) (fun c hc F3 H3 x a3 hx => ev_cb (ea_cons (ev_var rfl hx) ea_nil) (rc_strN (by have := t3 c hc; omega))) (Nat.lt_of_le_of_lt t2 (by decide))) fun l acc F1 H1 a1 nl n0 hl hacc => ?_
  have hacc : Iss K F1 ((tW t).map tD) acc := by unfold tW; rw [List.map_map]; exact hacc
  have Wl : (tW t).length ≤ 4 := by unfold tW; rw [List.length_map]; exact t2
  have Wn : 0 < (tW t).length := by
    obtain ⟨r, er, el, ec⟩ := ok.tie t mt
    have := (ok.rel r (List.mem_of_getElem? er)).1
    unfold tW; rw [List.length_map]; omega
  have Ww : ∀ p ∈ tW t, p.length ≤ 6 := comma_small t3
  have W10 : ∀ p ∈ tW t, 10 ∉ p := tW_free (by omega)
  have al : acc.length = (tW t).length := by rw [← hacc.length, List.length_map]
  have bset := fun {i n : Nat} {x : List Nat} (hi : i < (tW t).length) (a : 44 ∉ x) (b' : 32 ∉ x) (c : ∀ c : Nat, tellN x = some c → ¬ c < m) => bad_tset (b := b) (m := m) (n := n) hi a b' c
  have b4 := fun {x : List Nat} (hx : x ∈ tW t) => bad_t4 ok mt hx
  have b7 := bad_t7 (b := b) (m := m) (t := t) ok.b6
  have b8d := bad_t8d (t := t)
  have tl := tieL_len ok mt
  have tl10 : 10 ∉ tieL t := by
    rw [tie_eq]
    exact not_app (not_app (not_app (not_app (by decide) (by decide)) (num_10 _)) (by decide)) (jfree (by decide) W10)
  have memW := fun (i : Nat) (hi : i < (tW t).length) => List.getElem_mem hi
  have free44 : ∀ p ∈ tW t, 44 ∉ p := tW_free (by omega)
  have free32 : ∀ p ∈ tW t, 32 ∉ p := tW_free (by omega)
  generalize hWt : tW t = W at hacc Wl Wn Ww W10 al bset b4 b7 b8d memW free44 free32
  have hh1 := hh.keep a1
  obtain ⟨lp, lq⟩ := hh.ne_of n0
  have nx : ¬ Hx p q l := fun z => z.elim lp lq
  -- at
  refine h_asg (p := p) (q := q) (R := fun d => ∃ c : Nat, c < W.length ∧ d = .int c) hh1 a1.fh (evh_take (m := W.length) rfl (fun F2 H2 a hh => by
    have h := ev_lenL (K := K) (F := F2) (i := 7) (σ := (((L2.start N_law_bent_tie [V.ref p, x, y, u, v]).set 5 (some v5)).set 6 (some v6)).set 7 (some (V.ref l))) rfl (a.m nl hl nx).1
    rw [al] at h
    exact h) Wn (fun r hr => ⟨r, hr, rfl⟩)) fun v9 d9 F2 H2 a2 hh2 ⟨at_, hat, e9⟩ hv9 => ?_
  subst e9
  cases hv9
  have m2 := a2.m nl hl nx
  -- kind
  refine h_asg (p := p) (q := q) (R := fun d => ∃ c : Nat, c < 9 ∧ d = .int c) hh2 a2.fh (evh_take (m := 9) rfl (fun F2 H2 a hh => ev_int) (by decide) (fun r hr => ⟨r, hr, rfl⟩)) fun v10 d10 F3 H3 a3 hh3 ⟨c, hc9, e10⟩ hv10 => ?_
  subst e10
  cases hv10
  have m3 := a3.m m2.2 m2.1 nx
  have z3 : Fx (Hx p q) F H F3 H3 := a1.of.trans (a2.trans a3)
  have a13 : Fx (Hx p q) F1 H1 F3 H3 := a2.trans a3
  have hacc3 : Iss K F3 (W.map tD) acc := a13.iss hacc
  have h1 : Is K F3 (tD (tieL t)) x := z3.is h1
  have h3 : Is K F3 (.lst (b.map plainD)) u := z3.is h3
  have h4 : Is K F3 (.int m) v := z3.is h4
  have hv5 : Is K F3 (.int t.1) v5 := z3.is hv5
  have atW : L2.atI (W.map tD) (at_ : Nat) = some (tD W[at_]) := atI_of (by omega) (by rw [Int.toNat_natCast, List.getElem?_map, List.getElem?_eq_getElem hat]; rfl)
  have mAt := memW at_ hat
  have wAt := Ww _ mAt
  have small : ∀ p ∈ W, p.length ≤ 10 := fun p hp => Nat.le_trans (Ww p hp) (by decide)
  have plainW : ∀ {n : Nat} {V : List (List Nat)}, n < 10 ^ 6 → (∀ p ∈ V, 10 ∉ p) → V.length ≤ 17 → (∀ p ∈ V, p.length ≤ 10) → Plain (cs "tie " ++ numL n ++ cs " " ++ joinL (cs ",") V) := fun hn h10 hl hw =>
    tie_plain (num_10 _) (jfree (by decide) h10) (Nat.le_trans (num_small hn) (by decide)) (Nat.le_trans (join10 hl hw) (by decide))
  by_cases c4 : c < 4
  · refine q_ltY rfl (by omega) ?_
    have mw := num_small m6
    obtain ⟨xc, hxc, x44, x32, x10, xl, xb⟩ : ∃ xc, [48 :: W[at_], 43 :: W[at_], 45 :: W[at_], numL m][c]? = some xc ∧ 44 ∉ xc ∧ 32 ∉ xc ∧ 10 ∉ xc ∧ xc.length ≤ 10 ∧ ∀ n : Nat, tellN xc = some n → ¬ n < m := by
      have cc : c = 0 ∨ c = 1 ∨ c = 2 ∨ c = 3 := by omega
      have nc : ∀ {a y : Nat}, a ≠ y → a ∉ W[at_] → a ∉ y :: W[at_] := fun h1 h2 hm => by
        rcases List.mem_cons.mp hm with hm | hm
        · exact h1 hm
        · exact h2 hm
      have f44 := free44 _ mAt
      have f32 := free32 _ mAt
      have f10 := W10 _ mAt
      have wl : ∀ y : Nat, (y :: W[at_]).length ≤ 10 := fun y => by rw [List.length_cons]; omega
      rcases cc with rfl | rfl | rfl | rfl
      · refine ⟨_, rfl, nc (by decide) f44, nc (by decide) f32, nc (by decide) f10, wl _, fun n hn => ?_⟩
        have ne : W[at_] ≠ [] := by
          have : W[at_] ∈ tW t := by rw [hWt]; exact mAt
          obtain ⟨z, _, e⟩ := List.mem_map.mp this
          rw [← e]; exact TL.numL_ne z
        rw [tell_zero ne] at hn; cases hn
      · refine ⟨_, rfl, nc (by decide) f44, nc (by decide) f32, nc (by decide) f10, wl _, fun n hn => ?_⟩
        rw [tell_bad (List.mem_cons_self ..) (by omega)] at hn; cases hn
      · refine ⟨_, rfl, nc (by decide) f44, nc (by decide) f32, nc (by decide) f10, wl _, fun n hn => ?_⟩
        rw [tell_bad (List.mem_cons_self ..) (by omega)] at hn; cases hn
      · refine ⟨_, rfl, TL.numL_free (by omega), num_32 _, num_10 _, by omega, fun n hn => ?_⟩
        rw [tell_num m6] at hn
        cases hn
        exact Nat.lt_irrefl _
    have gW : ∀ {σ : L2.St}, σ[7]? = some (some (V.ref l)) → σ[9]? = some (some (V.int (at_ : Nat))) → Ev K (tOp (rIx K) (tVar 7) (tVar 9)) σ F3 H3 (tD W[at_]) := fun g7 g9 => ev_ixM g7 m3.2 m3.1 hacc3 (ev_var g9 (.int _)) atW
    have addc : ∀ {σ : L2.St} (sg : String) (cg : Nat), cs sg = [cg] → σ[7]? = some (some (V.ref l)) → σ[9]? = some (some (V.int (at_ : Nat))) → Ev K (tOp (Eg.rAddA K) (tC (.str (Str.ofString sg))) (tOp (rIx K) (tVar 7) (tVar 9))) σ F3 H3 (tD (cg :: W[at_])) := fun sg cg e g7 g9 => by
      have h := ev_op (ev_txt (K := K) (s := sg)) (gW g7 g9) (r2_addX (K := K) (a := cs sg) (b := W[at_]) (by rw [e, sizeLine_eq]; show 1 + _ ≤ _; omega))
      rw [e] at h
      exact h
    refine (ev_op (ev_lst (ea_cons (addc "0" 48 (by decide) rfl rfl) (ea_cons (addc "+" 43 (by decide) rfl rfl) (ea_cons (addc "-" 45 (by decide) rfl rfl) (ea_cons (ev_cb (ea_cons (ev_var (i := 4) rfl h4) ea_nil) (rc_strN (by omega))) ea_nil)))) (by show 4 ≤ sizeLine; decide)) (ev_var (i := 10) rfl (.int (c : Nat))) (r2_ixL (z := tD xc) ?_) : Ev K _ _ F3 H3 _).go z3.fh fun vx F4 H4 a4 hvx => ?_
    · refine atI_of (by omega) ?_
      have := congrArg (Option.map tD) hxc
      rw [← List.getElem?_map] at this
      exact this
    · have m4 := a4.m m3.2 m3.1 id
      refine ⟨V.ref l, rfl, V.int (at_ : Nat), rfl, l, acc, (at_ : Nat), at_, rfl, rfl, m4.1, ?_, ?_⟩
      · unfold ixN
        rw [if_pos (by omega), if_pos (by omega), Int.toNat_natCast]
      · have z4 := (z3.trans a4.of).mut (p := l) (o := .lst (acc.set at_ vx)) (.inl n0) m4.2
        have is4 : Iss K F4 ((W.set at_ xc).map tD) (acc.set at_ vx) := by
          rw [List.map_set]
          exact iss_set (a4.iss hacc3) hvx
        have z5 := z4.freeze s0 n0 upd_same
        have s5 := frz_same z4.fh m4.2 (H := upd H4 l (.lst (acc.set at_ vx))) upd_same
        have hh5 : HandAt K (upd F4 l (.lst (acc.set at_ vx))) (upd H4 l (.lst (acc.set at_ vx))) p q := ((hh3.keep a4).other lp lq).frz lp lq m4.2
        refine q_kindN rfl (by omega) (q_kindN rfl (by omega) (q_kindN rfl (by omega) (q_kindN rfl (by omega) (q_kindN rfl (by omega) ?_))))
        have mem2 : ∀ {P : List Nat → Prop}, (∀ p ∈ W, P p) → P xc → ∀ p ∈ W.set at_ xc, P p := fun h1 h2 p hp => by
          rcases List.mem_or_eq_of_mem_set hp with hp | rfl
          · exact h1 p hp
          · exact h2
        have L17 : (W.set at_ xc).length ≤ 17 := by rw [List.length_set]; omega
        have w10 := mem2 small xl
        refine s_ret z5.fh (ev_rel (by decide) (show t.1 < 10 ^ 6 by omega) rfl (.lst upd_same (Iss.up s5.1 _ _ is4)) (ev_var (i := 5) rfl (Is.up s5.1 _ _ (a4.is hv5))) L17 w10) fun v' F5 H5 a5 hv' => ?_
        exact fin (z5.trans a5.of) (hh5.keep a5) ⟨bset hat x44 x32 xb, plainW (by omega) (mem2 W10 x10) L17 w10⟩ hv'
  · refine q_ltN rfl (by omega) ?_
    have z4 := z3.freeze s0 n0 m3.1
    have s4 := frz_same z3.fh m3.2 m3.1
    have hh4 : HandAt K (upd F3 l (.lst acc)) H3 p q := hh3.frz lp lq m3.2
    have hw : Is K (upd F3 l (.lst acc)) (.lst (W.map tD)) (.ref l) := .lst upd_same (Iss.up s4.1 _ _ hacc3)
    have h1 : Is K (upd F3 l (.lst acc)) (tD (tieL t)) x := Is.up s4.1 _ _ h1
    have h3 : Is K (upd F3 l (.lst acc)) (.lst (b.map plainD)) u := Is.up s4.1 _ _ h3
    have hv5 : Is K (upd F3 l (.lst acc)) (.int t.1) v5 := Is.up s4.1 _ _ hv5
    generalize upd F3 l (.lst acc) = G at z4 hh4 hw h1 h3 hv5
    have l1c := lc1
    have rep1 := repl1_len 32 (cs "\t") (tieL t)
    have lt1 : (cs "\t").length = 1 := by decide
    rw [lt1] at rep1
    have rep1 : (replL (cs " ") (cs "\t") (tieL t)).length ≤ (tieL t).length * 2 := rep1
    have rep2 := repl1_len 32 (cs "  ") (tieL t)
    have lt2 : (cs "  ").length = 2 := by decide
    rw [lt2] at rep2
    have rep2 : (replL (cs " ") (cs "  ") (tieL t)).length ≤ (tieL t).length * 3 := rep2
    have fl10 : ∀ {z : List Nat}, 10 ∉ z → 10 ∉ replL (cs " ") z (tieL t) := fun {z} hz => by
      rw [c32, repl1]
      intro hm
      obtain ⟨d, hd, hm⟩ := List.mem_flatMap.mp hm
      split at hm
      · exact hz hm
      · rw [List.mem_singleton] at hm
        rw [← hm] at hd
        exact tl10 hd
    have cc : c = 4 ∨ c = 5 ∨ c = 6 ∨ c = 7 ∨ c = 8 := by omega
    rcases cc with rfl | rfl | rfl | rfl | rfl
    · refine q_kindY rfl rfl ?_
      refine s_asg z4.fh (ev_op (ev_var (i := 7) rfl hw) (ev_lst (ea_cons (ev_op (ev_var (i := 7) rfl hw) (ev_var (i := 9) rfl (.int (at_ : Nat))) (r2_ixL atW)) ea_nil) (by show 1 ≤ sizeLine; decide)) (r2_addL (by rw [List.length_map, sizeLine_eq]; show W.length + 1 ≤ _; omega))) fun v' F5 H5 a5 hv' => ?_
      have hv' : Is K F5 (.lst ((W ++ [W[at_]]).map tD)) v' := by rw [List.map_append]; exact hv'
      refine q_kindN rfl (by decide) (q_kindN rfl (by decide) (q_kindN rfl (by decide) (q_kindN rfl (by decide) ?_)))
      have memA : ∀ {P : List Nat → Prop}, (∀ p ∈ W, P p) → ∀ p ∈ W ++ [W[at_]], P p := fun h1 p hp => by
        rcases List.mem_append.mp hp with hp | hp
        · exact h1 p hp
        · rw [List.mem_singleton] at hp; subst hp; exact h1 _ mAt
      have L17 : (W ++ [W[at_]]).length ≤ 17 := by rw [List.length_append, List.length_singleton]; omega
      refine s_ret a5.fh (ev_rel (by decide) (show t.1 < 10 ^ 6 by omega) rfl hv' (ev_var (i := 5) rfl (a5.is hv5)) L17 (memA small)) fun v'' F6 H6 a6 hv'' => ?_
      exact fin (z4.trans (a5.of.trans a6.of)) ((hh4.keep a5).keep a6) ⟨b4 mAt, plainW (by omega) (memA W10) L17 (memA small)⟩ hv''
    · refine q_kindN rfl (by decide) (q_kindY rfl rfl ?_)
      refine s_ret z4.fh (ev_repl (ev_var (i := 1) rfl h1) (by decide) (by rw [lt1]; omega)) fun v' F5 H5 a5 hv' => ?_
      exact fin (z4.trans a5.of) (hh4.keep a5) ⟨fun ts' => bad_t5 _, fl10 (by decide), by omega⟩ hv'
    · refine q_kindN rfl (by decide) (q_kindN rfl (by decide) (q_kindY rfl rfl ?_))
      refine h_ret (p := p) (q := q) (R := fun d => ∃ l, d = tD l ∧ BadTie b m l) hh4 z4.fh (evh_op (A := fun d => d = tD (tieL t)) (B := fun d => d = tD (cs " ") ∨ d = tD (cs ",") ∨ d = tD (cs "\t")) (evh_of (fun F5 H5 a5 _ => ev_var (i := 1) rfl (a5.is h1)) rfl)
        (evh_op (A := fun d => d = .lst [tD (cs " "), tD (cs ","), tD (cs "\t")]) (B := fun d => ∃ c : Nat, c < 3 ∧ d = .int c) (evh_of (fun F5 H5 a5 _ => ev_lst (ea_cons ev_txt (ea_cons ev_txt (ea_cons ev_txt ea_nil))) (by show 3 ≤ sizeLine; decide)) rfl) (evh_take (m := 3) rfl (fun F2 H2 a hh => ev_int) (by decide) (fun r hr => ⟨r, hr, rfl⟩)) (fun d e hd ⟨c, hc, he⟩ => by
          subst hd he
          have cc : c = 0 ∨ c = 1 ∨ c = 2 := by omega
          rcases cc with rfl | rfl | rfl
          · exact ⟨_, .inl rfl, r2_ixL rfl⟩
          · exact ⟨_, .inr (.inl rfl), r2_ixL rfl⟩
          · exact ⟨_, .inr (.inr rfl), r2_ixL rfl⟩))
        (fun d e hd he => by
          subst hd
          have lcc' := lcc
          rcases he with rfl | rfl | rfl
          · exact ⟨_, ⟨_, rfl, fun ts' => bad_t6a _, not_app tl10 (by decide), by rw [List.length_append]; omega⟩, r2_addX (by rw [sizeLine_eq]; omega)⟩
          · exact ⟨_, ⟨_, rfl, fun ts' => bad_t6b ts', not_app tl10 (by decide), by rw [List.length_append]; omega⟩, r2_addX (by rw [sizeLine_eq]; omega)⟩
          · exact ⟨_, ⟨_, rfl, fun ts' => bad_t6c ts', not_app tl10 (by decide), by rw [List.length_append]; omega⟩, r2_addX (by rw [sizeLine_eq]; omega)⟩)) fun v' d' F5 H5 a5 h5 ⟨lx, ed, hb⟩ hv' => ?_
      subst ed
      exact fin (z4.trans a5) h5 hb hv'
    · refine q_kindN rfl (by decide) (q_kindN rfl (by decide) (q_kindN rfl (by decide) (q_kindY rfl rfl ?_)))
      have b6 := ok.b6
      refine s_ret z4.fh (ev_rel (n := b.length) (by decide) (by omega) rfl hw (ev_cb (ea_cons (ev_var (i := 3) rfl h3) ea_nil) (rc_len (by show some _ = _; rw [List.length_map]))) (by omega) small) fun v' F5 H5 a5 hv' => ?_
      exact fin (z4.trans a5.of) (hh4.keep a5) ⟨b7, plainW (by omega) W10 (by omega) small⟩ hv'
    · refine q_kindN rfl (by decide) (q_kindN rfl (by decide) (q_kindN rfl (by decide) (q_kindN rfl (by decide) (q_kindY rfl rfl ?_))))
      have lt3 : (cs "Tie").length = 3 := by decide
      have lj := join10 (W := W) (by omega) small
      have l4 := lc4
      have rep3 : (replL (cs "tie") (cs "Tie") (tieL t)).length ≤ 300 := by
        have h := TK.replace_len (SX.S (tieL t)) (SX.S (cs "tie")) (SX.S (cs "Tie"))
        rw [repl_S (by decide), SX.S_len, SX.S_len, SX.S_len, lt3] at h
        omega
      have b8c10 : 10 ∉ replL (cs "tie") (cs "Tie") (tieL t) := fun hm => (mem_replS _ _ hm).elim tl10 (by decide)
      refine q_asg z4.fh (ev_lst (ea_cons (ev_repl (y := " ") (z := "  ") (ev_var (i := 1) rfl h1) (by decide) (by rw [lt2]; omega)) (ea_cons (ev_op ev_txt (ev_var (i := 1) rfl h1) (r2_addX (by rw [sizeLine_eq]; omega))) (ea_cons (ev_repl (y := "tie") (z := "Tie") (ev_var (i := 1) rfl h1) (by decide) (by rw [lt3]; omega))
        (ea_cons (ev_op ev_txt (ev_bmS ev_txt (ea_cons (ev_var (i := 7) rfl hw) ea_nil) (z := tD (joinL (cs ",") W)) (rm_joinX (Nat.le_trans (join_size (n := 17) (by omega) small) (by decide)))) (r2_addX (by rw [sizeLine_eq]; omega))) ea_nil)))) (by show 4 ≤ sizeLine; decide)) fun v' F5 H5 a5 hv' => ?_
      refine h_ret (p := p) (q := q) (R := fun d => ∃ l, d = tD l ∧ BadTie b m l) (hh4.keep a5) a5.fh (evh_op (A := fun d => d = .lst [tD (replL (cs " ") (cs "  ") (tieL t)), tD (cs " " ++ tieL t), tD (replL (cs "tie") (cs "Tie") (tieL t)), tD (cs "tie " ++ joinL (cs ",") W)]) (B := fun d => ∃ c : Nat, c < 4 ∧ d = .int c)
        (evh_of (fun F6 H6 a6 _ => ev_var (i := 11) rfl (a6.is hv')) rfl) (evh_take (m := 4) rfl (fun F2 H2 a hh => ev_int) (by decide) (fun r hr => ⟨r, hr, rfl⟩)) (fun d e hd ⟨c, hc, he⟩ => by
          subst hd he
          have cc : c = 0 ∨ c = 1 ∨ c = 2 ∨ c = 3 := by omega
          rcases cc with rfl | rfl | rfl | rfl
          · exact ⟨_, ⟨_, rfl, fun ts' => bad_t8a _, fl10 (by decide), by omega⟩, r2_ixL rfl⟩
          · exact ⟨_, ⟨_, rfl, fun ts' => bad_t8b _, not_app (by decide) tl10, by rw [List.length_append]; omega⟩, r2_ixL rfl⟩
          · exact ⟨_, ⟨_, rfl, fun ts' => bad_t8c _, b8c10, by omega⟩, r2_ixL rfl⟩
          · exact ⟨_, ⟨_, rfl, fun ts' => b8d _, not_app (by decide) (jfree (by decide) W10), by rw [List.length_append]; omega⟩, r2_ixL rfl⟩)) fun v'' d' F6 H6 a6 h6 ⟨lx, ed, hb⟩ hv'' => ?_
      subst ed
      exact fin (z4.trans (a5.of.trans a6)) h6 hb hv''
end
end K08
namespace K08
open PySem L2 Eg
open TL (numL joinL spl)
open PyProof.Rows (boot_int boot_tuple boot_bool boot_list boot_str boot_isinstance boot_range boot_enumerate boot_abs)
local macro_rules | `(tactic| walk_at "is") => `(tactic| first | assumption | (refine Fx.is (by assumption) ?_; walk_at "is"))
local macro_rules | `(tactic| walk_at "sz") => `(tactic| first | assumption | omega | (show _ ≤ sizeLine; decide) | (show _ < sizeLine; decide))
local macro_rules | `(tactic| walk_at "r2") => `(tactic| first
  | exact r2_addI | exact r2_addS (by walk_at "sz") | exact r2_addT (by walk_at "sz") | exact r2_addL (by walk_at "sz")
  | exact r2_eqI | exact r2_eqS | exact r2_neI | exact r2_neS | exact r2_lt | exact r2_le | exact r2_gt | exact r2_ge | exact r2_sub | exact r2_isN | exact r2_notN)
local macro_rules | `(tactic| walk_at "ea") => `(tactic| first | exact ea_nil | refine ea_cons (by walk_at "ev") (by walk_at "ea"))
local macro_rules | `(tactic| walk_at "ev") => `(tactic| first
  | exact ev_int | exact ev_str | exact ev_bl | exact ev_non
  | refine ev_var rfl (by walk_at "is")
  | refine ev_op (by walk_at "ev") (by walk_at "ev") (by walk_at "r2")
  | refine ev_tup (by walk_at "ea") (by walk_at "sz")
  | refine ev_lst (by walk_at "ea") (by walk_at "sz")
  | refine ev_cb (by walk_at "ea") (by first | exact rc_len rfl | exact rc_intI | exact rc_tupL | exact rc_tupT))

/-! the plain law: how far a bent book is read -/
def dueL (ls : List (List Nat)) : Nat := (ls.map fun l => l.length + 1).sum
abbrev st0 : RSt := ⟨[], none, []⟩
theorem run_rels : ∀ (pre : BR) (told : BR) (a : Nat) (rest : List (List Nat)), told.length + pre.length ≤ 6 → (∀ r ∈ pre, OkRel r) → runS ⟨told, none, []⟩ a (pre.map relL ++ rest) = runS ⟨told ++ pre, none, []⟩ (a + dueL (pre.map relL)) rest
  | [], told, a, rest, _, _ => by rw [List.append_nil]; rfl
  | r :: pre, told, a, rest, hl, ho => by
    rw [List.length_cons] at hl
    have h1 : lineS ⟨told, none, []⟩ (relL r) = some ⟨told ++ [r], none, []⟩ := line_rel (ho r (List.mem_cons_self ..)) rfl (show told.length < 6 by omega)
    have h2 := run_rels pre (told ++ [r]) (a + ((relL r).length + 1)) rest (by rw [List.length_append, List.length_singleton]; omega) (fun q hq => ho q (List.mem_cons_of_mem _ hq))
    rw [List.map_cons, List.cons_append]
    conv => lhs; unfold runS
    rw [h1]
    dsimp only
    rw [h2, List.append_assoc]
    have e : a + dueL (relL r :: pre.map relL) = a + ((relL r).length + 1) + dueL (pre.map relL) := by unfold dueL; rw [List.map_cons, List.sum_cons]; omega
    rw [e]
    rfl
theorem run_ties {b : BR} {m : Nat} {ts : List Tie} (ok : OkPuz b m ts) : ∀ (pre acc : List Tie) (a : Nat) (rest : List (List Nat)), (∀ t ∈ pre, t ∈ ts) → runS (aft b m acc) a (pre.map tieL ++ rest) = runS (aft b m (acc ++ pre)) (a + dueL (pre.map tieL)) rest
  | [], acc, a, rest, _ => by rw [List.append_nil]; rfl
  | t :: pre, acc, a, rest, ho => by
    have h1 : lineS (aft b m acc) (tieL t) = some (aft b m (acc ++ [t])) := line_tie ok (ho t (List.mem_cons_self ..)) rfl rfl
    have h2 := run_ties ok pre (acc ++ [t]) (a + ((tieL t).length + 1)) rest (fun q hq => ho q (List.mem_cons_of_mem _ hq))
    rw [List.map_cons, List.cons_append]
    conv => lhs; unfold runS
    rw [h1]
    dsimp only
    rw [h2, List.append_assoc]
    have e : a + dueL (tieL t :: pre.map tieL) = a + ((tieL t).length + 1) + dueL (pre.map tieL) := by unfold dueL; rw [List.map_cons, List.sum_cons]; omega
    rw [e]
    rfl
theorem due_app (x y : List (List Nat)) : dueL (x ++ y) = dueL x + dueL y := by unfold dueL; rw [List.map_append, List.sum_append]
section
variable {b : BR} {m : Nat} {ts : List Tie}
theorem run_cell (ok : OkPuz b m ts) (a : Nat) (rest : List (List Nat)) : runS ⟨b, none, []⟩ a (cellL m :: rest) = runS (aft b m []) (a + ((cellL m).length + 1)) rest := by
  have h1 : lineS ⟨b, none, []⟩ (cellL m) = some (aft b m []) := line_cell ok.m6 rfl ok.b0
  conv => lhs; unfold runS
  rw [h1]
theorem lines_rel {i : Nat} (h : i ≤ b.length) : (linesL b m ts).take i = (b.take i).map relL := by
  unfold linesL
  rw [List.append_assoc, List.take_append_of_le_length (by rw [List.length_map]; exact h), ← List.map_take]
theorem lines_tie {j : Nat} (h : j ≤ ts.length) : (linesL b m ts).take (b.length + 1 + j) = b.map relL ++ [cellL m] ++ (ts.take j).map tieL := by
  unfold linesL
  have e : b.length + 1 + j = (b.map relL ++ [cellL m]).length + j := by rw [List.length_append, List.length_map]; rfl
  rw [e, List.take_length_add_append, ← List.map_take]
theorem lines_length : (linesL b m ts).length = b.length + 1 + ts.length := by unfold linesL; rw [List.length_append, List.length_append, List.length_map, List.length_map]; rfl
theorem run_rel (ok : OkPuz b m ts) {i : Nat} (h : i ≤ b.length) (rest : List (List Nat)) : runS st0 0 ((linesL b m ts).take i ++ rest) = runS ⟨b.take i, none, []⟩ (dueL ((linesL b m ts).take i)) rest := by
  rw [lines_rel h]
  have := run_rels (b.take i) [] 0 rest (by rw [List.length_take]; have := ok.b6; show 0 + _ ≤ 6; omega) fun r hr => ok.rel r (List.mem_of_mem_take hr)
  rw [Nat.zero_add] at this
  exact this
theorem run_tie (ok : OkPuz b m ts) {j : Nat} (h : j ≤ ts.length) (rest : List (List Nat)) : runS st0 0 ((linesL b m ts).take (b.length + 1 + j) ++ rest) = runS (aft b m (ts.take j)) (dueL ((linesL b m ts).take (b.length + 1 + j))) rest := by
  rw [lines_tie h, List.append_assoc, List.append_assoc]
  have e1 := run_rels b [] 0 ([cellL m] ++ ((ts.take j).map tieL ++ rest)) (by show 0 + _ ≤ 6; have := ok.b6; omega) ok.rel
  rw [Nat.zero_add, List.nil_append] at e1
  refine e1.trans ?_
  show runS _ _ (cellL m :: ((ts.take j).map tieL ++ rest)) = _
  rw [run_cell ok, run_ties ok _ _ _ _ fun t ht => List.mem_of_mem_take ht, List.nil_append]
  congr 1
  rw [due_app, due_app]
  unfold dueL
  simp
/-- what is told of a bent text -/
def Told (bent : List (List Nat)) (i : Nat) : Prop := i ≤ bent.length ∧ bent ≠ [] ∧ bent.length ≤ 500 ∧ (∀ l ∈ bent, Plain l) ∧ ((i < bent.length ∧ runS st0 0 bent = .error (dueL (bent.take i))) ∨ (i = bent.length ∧ ∃ st, runS st0 0 bent = .ok st ∧ st.cells = none))
theorem line_plain (ok : OkPuz b m ts) : ∀ l ∈ linesL b m ts, Plain l := fun l hl => by
  refine ⟨?_, Nat.le_trans ((lines_len ok).2 l hl) (by decide)⟩
  unfold linesL at hl
  rcases List.mem_append.mp hl with hl | hl
  · rcases List.mem_append.mp hl with hl | hl
    · obtain ⟨r, hr, rfl⟩ := List.mem_map.mp hl
      unfold relL
      exact not_app (not_app (not_app (by decide) (num_10 _)) (by decide)) (jfree (by decide) (W_10 (ok.rel r hr)))
    · rw [List.mem_singleton] at hl
      subst hl
      exact not_app (by decide) (num_10 _)
  · obtain ⟨t, ht, rfl⟩ := List.mem_map.mp hl
    unfold tieL commaL
    exact not_app (not_app (not_app (by decide) (num_10 _)) (by decide)) (jfree (by decide) fun p hp hc => by obtain ⟨n, _, rfl⟩ := List.mem_map.mp hp; exact num_10 n hc)
/-- a bent line at place i, the lines ahead as they were -/
theorem told_at (ok : OkPuz b m ts) {i : Nat} {l : List Nat} {rest : List (List Nat)} {st : RSt} (hi : i ≤ (linesL b m ts).length) (hr : ∀ x ∈ rest, x ∈ linesL b m ts) (hl : rest.length ≤ 210) (hp : Plain l) (run : ∀ rest, runS st0 0 ((linesL b m ts).take i ++ rest) = runS st (dueL ((linesL b m ts).take i)) rest) (no : lineS st l = none) :
    Told ((linesL b m ts).take i ++ [l] ++ rest) i := by
  have l1 := (lines_len ok).1
  have lt : ((linesL b m ts).take i).length = i := by rw [List.length_take]; omega
  refine ⟨?_, by simp, ?_, fun x hx => ?_, .inl ⟨?_, ?_⟩⟩
  · rw [List.length_append, List.length_append, lt]; omega
  · rw [List.length_append, List.length_append, lt]; show i + 1 + _ ≤ 500; omega
  · rcases List.mem_append.mp hx with hx | hx
    · rcases List.mem_append.mp hx with hx | hx
      · exact line_plain ok x (List.mem_of_mem_take hx)
      · rw [List.mem_singleton] at hx; subst hx; exact hp
    · exact line_plain ok x (hr x hx)
  · rw [List.length_append, List.length_append, lt]; show i < i + 1 + _; omega
  · rw [List.append_assoc, run]
    have e : (((linesL b m ts).take i ++ ([l] ++ rest)).take i) = (linesL b m ts).take i := by
      rw [List.take_append_of_le_length (by omega), List.take_take, Nat.min_self]
    rw [e]
    show runS st _ (l :: rest) = _
    unfold runS
    rw [no]
theorem told_cut (ok : OkPuz b m ts) : Told ((linesL b m ts).take b.length) b.length := by
  have e := run_rel ok (Nat.le_refl b.length) []
  rw [List.append_nil] at e
  have lt : ((linesL b m ts).take b.length).length = b.length := by rw [List.length_take, lines_length]; omega
  have l1 := (lines_len ok).1
  have b0 := ok.b0
  refine ⟨by omega, fun h => by rw [h] at lt; simp at lt; omega, by have := ok.b6; omega, fun x hx => line_plain ok x (List.mem_of_mem_take hx), .inr ⟨lt.symm, _, e, rfl⟩⟩
theorem told_six (ok : OkPuz b m ts) (h6 : b.length = 6) : Told ((linesL b m ts).take 1 ++ linesL b m ts) 6 := by
  have l1 := (lines_len ok).1
  have ll := lines_length (b := b) (m := m) (ts := ts)
  have t1 : ((linesL b m ts).take 1).length = 1 := by rw [List.length_take]; omega
  obtain ⟨r0, r1, r2, r3, r4, r5, rfl⟩ : ∃ r0 r1 r2 r3 r4 r5, b = [r0, r1, r2, r3, r4, r5] := by
    match b, h6 with
    | [r0, r1, r2, r3, r4, r5], _ => exact ⟨r0, r1, r2, r3, r4, r5, rfl⟩
  have e0 : (linesL [r0, r1, r2, r3, r4, r5] m ts).take 1 ++ linesL [r0, r1, r2, r3, r4, r5] m ts = [r0, r0, r1, r2, r3, r4].map relL ++ (relL r5 :: (cellL m :: ts.map tieL)) := by
    unfold linesL; rfl
  have oo : ∀ r ∈ [r0, r0, r1, r2, r3, r4], OkRel r := fun r hr => ok.rel r (by simp at hr ⊢; rcases hr with h | h | h | h | h <;> simp [h])
  have lt : ([r0, r0, r1, r2, r3, r4].map relL).length = 6 := rfl
  refine ⟨?_, by simp [e0], ?_, fun x hx => ?_, .inl ⟨?_, ?_⟩⟩
  · rw [List.length_append, t1]; omega
  · rw [List.length_append, t1]; omega
  · rcases List.mem_append.mp hx with hx | hx
    · exact line_plain ok x (List.mem_of_mem_take hx)
    · exact line_plain ok x hx
  · rw [List.length_append, t1]; show 6 < _; omega
  · rw [e0, run_rels _ [] 0 _ (by show 0 + 6 ≤ 6; decide) oo, Nat.zero_add]
    have e : ([r0, r0, r1, r2, r3, r4].map relL ++ (relL r5 :: (cellL m :: ts.map tieL))).take 6 = [r0, r0, r1, r2, r3, r4].map relL := rfl
    rw [e]
    unfold runS
    have no : lineS ⟨[] ++ [r0, r0, r1, r2, r3, r4], none, []⟩ (relL r5) = none := by
      have h5 : OkRel r5 := ok.rel r5 (by simp)
      unfold relL
      rw [rel_line (num_32 _) (words_j32 h5)]
      unfold relS
      rw [tellRel_ok h5]
      rfl
    rw [no]
/-- behind the cells line no relation, no cells -/
theorem no_rel {r : Nat × List (List Int)} (h : OkRel r) (ts' : List Tie) : lineS (aft b m ts') (relL r) = none := by
  unfold relL
  rw [rel_line (num_32 _) (words_j32 h)]
  unfold relS
  rw [tellRel_ok h]
  rfl
theorem no_cell (hm : m < 10 ^ 6) (ts' : List Tie) : lineS (aft b m ts') (cellL m) = none := by
  unfold cellL
  rw [cel_line (num_32 _)]
  unfold celS
  rw [tell_num hm]
  rfl
theorem no_empty (st : RSt) : lineS st [] = none := line1 (by simp)
theorem no_cells (hm : m < 10 ^ 6) (i : Nat) {l : List Nat} (h : [cs "cells 0" ++ numL m, cs "cells 1000000", cs "cells -1", cs "cells", cs "cells " ++ numL m ++ cs " ", cs "Cells 3"][i]? = some l) (st : RSt) : lineS st l = none ∧ Plain l := by
  have l6 := num_small hm
  have n10 := num_10 m
  have pl : ∀ {x : List Nat}, x.length ≤ 10 → 10 ∉ x → Plain x := fun a b => ⟨b, by omega⟩
  match i, h with
  | 0, h =>
    cases h
    have c7 : (cs "cells 0").length = 7 := by decide
    refine ⟨?_, not_app (by decide) n10, by rw [List.length_append]; omega⟩
    have e : cs "cells 0" ++ numL m = cs "cells " ++ (48 :: numL m) := by
      have : cs "cells 0" = cs "cells " ++ [48] := by decide
      rw [this, List.append_assoc]; rfl
    rw [e, cel_line (by intro hm'; rcases List.mem_cons.mp hm' with hm' | hm'; omega; exact num_32 _ hm')]
    unfold celS
    rw [tell_zero (TL.numL_ne _)]
  | 1, h =>
    cases h
    refine ⟨?_, by decide, by decide⟩
    have e : cs "cells 1000000" = cs "cells " ++ cs "1000000" := by decide
    rw [e, cel_line (by decide)]
    unfold celS
    rw [tell_many (by decide)]
  | 2, h =>
    cases h
    refine ⟨?_, by decide, by decide⟩
    have e : cs "cells -1" = cs "cells " ++ cs "-1" := by decide
    rw [e, cel_line (by decide)]
    unfold celS
    rw [tell_bad (c := 45) (by decide) (by decide)]
  | 3, h =>
    cases h
    exact ⟨line1 (by decide), by decide, by decide⟩
  | 4, h =>
    cases h
    refine ⟨?_, not_app (not_app (by decide) n10) (by decide), by rw [List.length_append, List.length_append]; have := lc6; have := lc1; omega⟩
    have e : cs "cells " ++ numL m ++ cs " " = cs "cells" ++ cs " " ++ numL m ++ cs " " ++ [] := by rw [cs_cells]; simp
    rw [e, line3 (by decide) (num_32 _) (by simp), w3, if_neg (by decide), if_neg (by decide)]
  | 5, h =>
    cases h
    refine ⟨?_, by decide, by decide⟩
    have e : cs "Cells 3" = cs "Cells" ++ cs " " ++ cs "3" := by decide
    rw [e, line2 (by decide) (by decide), w2, if_neg (by decide)]
  | i + 6, h => simp at h
end
end K08
namespace K08
open PySem L2 Eg
open TL (numL joinL spl)
open PyProof.Rows (boot_int boot_tuple boot_bool boot_list boot_str boot_isinstance boot_range boot_enumerate boot_abs)
local macro_rules | `(tactic| walk_at "is") => `(tactic| first | assumption | (refine Fx.is (by assumption) ?_; walk_at "is"))
local macro_rules | `(tactic| walk_at "sz") => `(tactic| first | assumption | omega | (show _ ≤ sizeLine; decide) | (show _ < sizeLine; decide))
local macro_rules | `(tactic| walk_at "r2") => `(tactic| first
  | exact r2_addI | exact r2_addS (by walk_at "sz") | exact r2_addT (by walk_at "sz") | exact r2_addL (by walk_at "sz")
  | exact r2_eqI | exact r2_eqS | exact r2_neI | exact r2_neS | exact r2_lt | exact r2_le | exact r2_gt | exact r2_ge | exact r2_sub | exact r2_isN | exact r2_notN)
local macro_rules | `(tactic| walk_at "ea") => `(tactic| first | exact ea_nil | refine ea_cons (by walk_at "ev") (by walk_at "ea"))
local macro_rules | `(tactic| walk_at "ev") => `(tactic| first
  | exact ev_int | exact ev_str | exact ev_bl | exact ev_non
  | refine ev_var rfl (by walk_at "is")
  | refine ev_op (by walk_at "ev") (by walk_at "ev") (by walk_at "r2")
  | refine ev_tup (by walk_at "ea") (by walk_at "sz")
  | refine ev_lst (by walk_at "ea") (by walk_at "sz")
  | refine ev_cb (by walk_at "ea") (by first | exact rc_len rfl | exact rc_intI | exact rc_tupL | exact rc_tupT))

section
variable {P : Program} {w : World} {K : PySem.W.Frag} {mg : Str → Option Value} {base : Heap}
/-- (lines[:i] + [x] + lines[j:], i) -/
theorem evh_pack {p q : Addr} {σ : L2.St} {F H : Hp} {lines : List (List Nat)} {i j s : Nat} {y : V} {tx thi tlo tat : TE} {A : D → Prop} {R : List Nat → Prop} (hs : σ[s]? = some (some y)) (hy : Is K F (.lst (lines.map tD)) y)
    (h1 : ∀ F1 H1, Ev K thi σ F1 H1 (.int i)) (h2 : ∀ F1 H1, Ev K tlo σ F1 H1 (.int j)) (h3 : ∀ F1 H1, Ev K tat σ F1 H1 (.int i)) (hx : EvH K p q tx σ F H A) (hr : ∀ d, A d → ∃ l, d = tD l ∧ R l) (hl : lines.length ≤ 300) (hi : i ≤ lines.length) (hj : j ≤ lines.length) :
    EvH K p q (tTup (tCons (tOp (Eg.rAddA K) (tOp (Eg.rAddA K) (tSl (rSlX K) (tVar s) tNoPart (tPart thi)) (tLst (tCons tx tNil))) (tSl (rSlX K) (tVar s) (tPart tlo) tNoPart)) (tCons tat tNil))) σ F H (fun z => ∃ l, R l ∧ z = .tup [.lst ((lines.take i ++ [l] ++ lines.drop j).map tD), .int i]) := by
  have s1 := sizeLine_eq
  have sl1 : ∀ F1 H1, Fx (Hx p q) F H F1 H1 → Ev K (tSl (rSlX K) (tVar s) tNoPart (tPart thi)) σ F1 H1 (.lst ((lines.take i).map tD)) := fun F1 H1 a => by
    have h := ev_sl (K := K) (ev_var (F := F1) (H := H1) hs (a.is hy)) eo_no (eo_some (h1 F1 H1)) rs_lst
    rw [cut_to (by rw [List.length_map]; exact hi), ← List.map_take] at h
    exact h
  have sl2 : ∀ F1 H1, Fx (Hx p q) F H F1 H1 → Ev K (tSl (rSlX K) (tVar s) (tPart tlo) tNoPart) σ F1 H1 (.lst ((lines.drop j).map tD)) := fun F1 H1 a => by
    have h := ev_sl (K := K) (ev_var (F := F1) (H := H1) hs (a.is hy)) (eo_some (h2 F1 H1)) eo_no rs_lst
    rw [cut_from (by rw [List.length_map]; exact hj), ← List.map_drop] at h
    exact h
  refine evh_tup (S := fun ds => ∃ l, R l ∧ ds = [.lst ((lines.take i ++ [l] ++ lines.drop j).map tD), .int i]) (evha_cons (A := fun d => ∃ l, R l ∧ d = .lst ((lines.take i ++ [l] ++ lines.drop j).map tD)) (S := fun ds => ds = [.int i]) (evh_op (A := fun d => ∃ l, R l ∧ d = .lst ((lines.take i ++ [l]).map tD)) (B := fun d => d = .lst ((lines.drop j).map tD))
    (evh_op (A := fun d => d = .lst ((lines.take i).map tD)) (B := fun d => ∃ l, R l ∧ d = .lst [tD l]) (evh_of (fun F1 H1 a _ => sl1 F1 H1 a) rfl) (evh_lst (S := fun ds => ∃ l, R l ∧ ds = [tD l]) (evha_cons hx evha_nil (fun d ds hd hds => by
      obtain ⟨l, e, hR⟩ := hr d hd
      subst e hds
      exact ⟨l, hR, rfl⟩)) (fun ds ⟨l, hR, e⟩ => by subst e; exact ⟨by rw [s1]; show 1 ≤ _; decide, l, hR, rfl⟩)) (fun d e hd ⟨l, hR, he⟩ => by
      subst hd he
      refine ⟨_, ⟨l, hR, rfl⟩, ?_⟩
      rw [List.map_append]
      exact r2_addL (by rw [List.length_map, List.length_take, s1]; show _ + 1 ≤ _; omega)))
    (evh_of (fun F1 H1 a _ => sl2 F1 H1 a) rfl) (fun d e ⟨l, hR, hd⟩ he => by
      subst hd he
      refine ⟨_, ⟨l, hR, rfl⟩, ?_⟩
      rw [List.map_append (l₁ := lines.take i ++ [l])]
      exact r2_addL (by rw [List.length_map, List.length_map, List.length_append, List.length_take, List.length_drop, s1]; show _ + 1 + _ ≤ _; omega)))
    (evha_of (fun F1 H1 a _ => ea_cons (h3 F1 H1) ea_nil) rfl) (fun d ds ⟨l, hR, hd⟩ hds => by subst hd hds; exact ⟨l, hR, rfl⟩)) (fun ds ⟨l, hR, e⟩ => by subst e; exact ⟨by rw [s1]; show 2 ≤ _; decide, l, hR, rfl⟩)
def P_bent (b : BR) (m : Nat) (ts : List Tie) : List D → Prop := fun ds => ds = [.lst (b.map plainD), .int m, .tup (ts.map tieD), .lst ((linesL b m ts).map tD)]
def R_bent : List D → D → Prop := fun ds z => ∃ bent i, z = .tup [.lst (bent.map tD), .int (i : Nat)] ∧ Told bent i
theorem ok_law_bent (T : Tx K mg) (b : BR) (m : Nat) (ts : List Tie) (ok : OkPuz b m ts) : FnOk P w K mg base CX0 3 T.a_law_bent T.fd_law_bent ["hand", "book", "many", "ties", "lines"] (Ph K (P_bent b m ts) R_bent) := by
  refine T.F_law_bent.ok sc_law_bent (fun vs H Q E ⟨F, p, q, ds, ws, _, _, e, hi, em, _⟩ => by rw [e, List.length_cons, ← hi.length, em]; rfl) (fun cdv A outer s H vs Q E hr h => ?_)
  obtain ⟨F, p, q, ds, ws, s0, hh, rfl, hi, em, k⟩ := h
  unfold P_bent at em
  subst em
  obtain ⟨x, y, u, v, rfl, h1, h2, h3, h4⟩ := iss4 hi
  refine ⟨_, (pss_cons (ps_set (i := 5) sc_law_bent.nd rfl (by first | exact Or.inl rfl | exact Or.inr rfl) (pe_call (ok_law_take T) (hr.mono (by decide)) rfl T.mg_law_take T.F_law_take.kp T.b_law_take .nil pass0 (pa_cons (pv 0) (pa_cons pe_int pa_nil))))
    (pss_cons (ps_set (i := 6) sc_law_bent.nd rfl (by first | exact Or.inl rfl | exact Or.inr rfl) (pe_callB (callK K Eg.rLen call_lenA) (by rfl) T.n_len (by decide +kernel) (pa_cons (pv 1) pa_nil)))
    (pss_cons (ps_if (PW.pt (pw_and (pt_cmpR (opK K Eg.rEqA (op_eqA hr)) (pv 5) pe_int (nomark _)) (pw_and1 (pt_cmpR op_gt (pe_callB (callK K Eg.rLen call_lenA) (by rfl) T.n_len (by decide +kernel) (pa_cons (pv 3) pa_nil)) pe_int (nomark _))))) (pss_cons (ps_set (i := 7) sc_law_bent.nd rfl (by first | exact Or.inl rfl | exact Or.inr rfl) (pe_call (ok_law_take T) (hr.mono (by decide)) rfl T.mg_law_take T.F_law_take.kp T.b_law_take .nil pass0 (pa_cons (pv 0) (pa_cons (pe_callB (callK K Eg.rLen call_lenA) (by rfl) T.n_len (by decide +kernel) (pa_cons (pv 3) pa_nil)) pa_nil))))
    (pss_cons (ps_set (i := 8) sc_law_bent.nd rfl (by first | exact Or.inl rfl | exact Or.inr rfl) (pe_op (opK K Eg.rAddA op_addA) (pe_op (opK K Eg.rAddA op_addA) (pv 6) pe_int) (pv 7)))
    (pss_one (ps_ret (pe_tup (pa_cons (pe_op (opK K Eg.rAddA op_addA) (pe_op (opK K Eg.rAddA op_addA) (pe_slice (slK K sl_X) (pv 4) po_none (po_some (pv 8))) (pe_lst (pa_cons (pe_call (ok_law_bent_tie T b m ts ok) (hr.mono (by decide)) rfl T.mg_law_bent_tie T.F_law_bent_tie.kp T.b_law_bent_tie .nil pass0 (pa_cons (pv 0) (pa_cons (pe_ix (ixK K ix_seq) (pv 4) (pv 8) (fun _ _ => rfl)) (pa_cons (pe_ix (ixK K ix_seq) (pv 3) (pv 7) (fun _ _ => rfl)) (pa_cons (pv 1) (pa_cons (pv 2) pa_nil)))))) pa_nil))) (pe_slice (slK K sl_X) (pv 4) (po_some (pe_op (opK K Eg.rAddA op_addA) (pv 8) pe_int)) po_none)) (pa_cons (pv 8) pa_nil))))))) pss_nil)
    (pss_cons (ps_if (pt_cmpR (opK K Eg.rEqA (op_eqA hr)) (pv 5) pe_int (nomark _)) (pss_cons (ps_set (i := 8) sc_law_bent.nd rfl (by first | exact Or.inl rfl | exact Or.inr rfl) (pe_call (ok_law_take T) (hr.mono (by decide)) rfl T.mg_law_take T.F_law_take.kp T.b_law_take .nil pass0 (pa_cons (pv 0) (pa_cons (pv 6) pa_nil))))
    (pss_one (ps_ret (pe_tup (pa_cons (pe_op (opK K Eg.rAddA op_addA) (pe_op (opK K Eg.rAddA op_addA) (pe_slice (slK K sl_X) (pv 4) po_none (po_some (pv 8))) (pe_lst (pa_cons (pe_call (ok_law_bent_relation T) (hr.mono (by decide)) rfl T.mg_law_bent_relation T.F_law_bent_relation.kp T.b_law_bent_relation .nil pass0 (pa_cons (pv 0) (pa_cons (pe_ix (ixK K ix_seq) (pv 4) (pv 8) (fun _ _ => rfl)) (pa_cons (pe_ix (ixK K ix_seq) (pe_ix (ixK K ix_seq) (pv 1) (pv 8) (fun _ _ => rfl)) pe_int (fun _ _ => rfl)) (pa_cons (pe_ix (ixK K ix_seq) (pe_ix (ixK K ix_seq) (pv 1) (pv 8) (fun _ _ => rfl)) pe_int (fun _ _ => rfl)) pa_nil))))) pa_nil))) (pe_slice (slK K sl_X) (pv 4) (po_some (pe_op (opK K Eg.rAddA op_addA) (pv 8) pe_int)) po_none)) (pa_cons (pv 8) pa_nil)))))) pss_nil)
    (pss_cons (ps_if (pt_cmpR (opK K Eg.rEqA (op_eqA hr)) (pv 5) pe_int (nomark _)) (pss_cons (ps_set (i := 9) sc_law_bent.nd rfl (by first | exact Or.inl rfl | exact Or.inr rfl) (pe_lst (pa_cons (pe_op (opK K Eg.rAddA op_addA) pe_str (pe_callTy call_strA (by rfl) T.n_str (by decide +kernel) (pa_cons (pv 2) pa_nil))) (pa_cons pe_str (pa_cons pe_str (pa_cons pe_str (pa_cons (pe_op (opK K Eg.rAddA op_addA) (pe_op (opK K Eg.rAddA op_addA) pe_str (pe_callTy call_strA (by rfl) T.n_str (by decide +kernel) (pa_cons (pv 2) pa_nil))) pe_str) (pa_cons pe_str pa_nil))))))))
    (pss_one (ps_ret (pe_tup (pa_cons (pe_op (opK K Eg.rAddA op_addA) (pe_op (opK K Eg.rAddA op_addA) (pe_slice (slK K sl_X) (pv 4) po_none (po_some (pv 6))) (pe_lst (pa_cons (pe_ix (ixK K ix_seq) (pv 9) (pe_call (ok_law_take T) (hr.mono (by decide)) rfl T.mg_law_take T.F_law_take.kp T.b_law_take .nil pass0 (pa_cons (pv 0) (pa_cons pe_int pa_nil))) (fun _ _ => rfl)) pa_nil))) (pe_slice (slK K sl_X) (pv 4) (po_some (pe_op (opK K Eg.rAddA op_addA) (pv 6) pe_int)) po_none)) (pa_cons (pv 6) pa_nil)))))) pss_nil)
    (pss_cons (ps_if (pt_cmpR (opK K Eg.rEqA (op_eqA hr)) (pv 5) pe_int (nomark _)) (pss_cons (ps_set (i := 8) sc_law_bent.nd rfl (by first | exact Or.inl rfl | exact Or.inr rfl) (pe_call (ok_law_take T) (hr.mono (by decide)) rfl T.mg_law_take T.F_law_take.kp T.b_law_take .nil pass0 (pa_cons (pv 0) (pa_cons (pe_op (opK K Eg.rAddA op_addA) (pe_callB (callK K Eg.rLen call_lenA) (by rfl) T.n_len (by decide +kernel) (pa_cons (pv 4) pa_nil)) pe_int) pa_nil))))
    (pss_one (ps_ret (pe_tup (pa_cons (pe_op (opK K Eg.rAddA op_addA) (pe_op (opK K Eg.rAddA op_addA) (pe_slice (slK K sl_X) (pv 4) po_none (po_some (pv 8))) (pe_lst (pa_cons pe_str pa_nil))) (pe_slice (slK K sl_X) (pv 4) (po_some (pv 8)) po_none)) (pa_cons (pv 8) pa_nil)))))) pss_nil)
    (pss_cons (ps_if (pt_cmpR (opK K Eg.rEqA (op_eqA hr)) (pv 5) pe_int (nomark _)) (pss_cons (ps_set (i := 8) sc_law_bent.nd rfl (by first | exact Or.inl rfl | exact Or.inr rfl) (pe_op (opK K Eg.rAddA op_addA) (pe_op (opK K Eg.rAddA op_addA) (pv 6) pe_int) (pe_call (ok_law_take T) (hr.mono (by decide)) rfl T.mg_law_take T.F_law_take.kp T.b_law_take .nil pass0 (pa_cons (pv 0) (pa_cons (pe_op (opK K Eg.rAddA op_addA) (pe_callB (callK K Eg.rLen call_lenA) (by rfl) T.n_len (by decide +kernel) (pa_cons (pv 3) pa_nil)) pe_int) pa_nil)))))
    (pss_one (ps_ret (pe_tup (pa_cons (pe_op (opK K Eg.rAddA op_addA) (pe_op (opK K Eg.rAddA op_addA) (pe_slice (slK K sl_X) (pv 4) po_none (po_some (pv 8))) (pe_lst (pa_cons (pe_ix (ixK K ix_seq) (pv 4) (pe_call (ok_law_take T) (hr.mono (by decide)) rfl T.mg_law_take T.F_law_take.kp T.b_law_take .nil pass0 (pa_cons (pv 0) (pa_cons (pe_op (opK K Eg.rAddA op_addA) (pv 6) pe_int) pa_nil))) (fun _ _ => rfl)) pa_nil))) (pe_slice (slK K sl_X) (pv 4) (po_some (pv 8)) po_none)) (pa_cons (pv 8) pa_nil)))))) pss_nil)
    (pss_cons (ps_if (PW.pt (pw_and (pt_cmpR (opK K Eg.rEqA (op_eqA hr)) (pv 5) pe_int (nomark _)) (pw_and1 (pt_cmpR (opK K Eg.rEqA (op_eqA hr)) (pv 6) pe_int (nomark _))))) (pss_one (ps_ret (pe_tup (pa_cons (pe_op (opK K Eg.rAddA op_addA) (pe_slice (slK K sl_X) (pv 4) po_none (po_some pe_int)) (pv 4)) (pa_cons pe_int pa_nil))))) pss_nil)
    (pss_one (ps_ret (pe_tup (pa_cons (pe_slice (slK K sl_X) (pv 4) po_none (po_some (pv 6))) (pa_cons (pv 6) pa_nil))))))))))))), ?_⟩
  have fin : ∀ {bent : List (List Nat)} {i : Nat} {F' H' : Hp} {v : V}, Fx (Hx p q) F H F' H' → HandAt K F' H' p q → Told bent i → Is K F' (.tup [.lst (bent.map tD), .int i]) v → Q v H' := fun {bent i F' H' v} z h' hb hv => k v _ F' H' z h' ⟨bent, i, rfl, hb⟩ hv
  have b0 := ok.b0
  have b6 := ok.b6
  have few := ok.few
  have m6 := ok.m6
  have ll := lines_length (b := b) (m := m) (ts := ts)
  have lp := lines_len ok
  have s1 := sizeLine_eq
  cases h2
  refine h_asg (p := p) (q := q) (R := fun d => ∃ c : Nat, c < 7 ∧ d = .int c) hh s0 (evh_take (m := 7) rfl (fun F2 H2 a hh => ev_int) (by decide) (fun r hr => ⟨r, hr, rfl⟩)) fun v5 d5 F1 H1 a1 hh1 ⟨c, hc7, e5⟩ hv5 => ?_
  subst e5
  cases hv5
  refine q_asg a1.fh (ev_cb (ea_cons (ev_var (i := 1) rfl (a1.is h1)) ea_nil) (rc_len (by show some _ = _; rw [List.length_map]))) fun v6 F2 H2 a2 hv6 => ?_
  cases hv6
  have z2 := a1.trans a2.of
  have hh2 := hh1.keep a2
  have h1 : Is K F2 (.lst (b.map plainD)) x := z2.is h1
  have h3 : Is K F2 (.tup (ts.map tieD)) u := z2.is h3
  have h4 : Is K F2 (.lst ((linesL b m ts).map tD)) v := z2.is h4
  have lenT : ∀ {σ : L2.St} {F' H' : Hp}, Fx (Hx p q) F2 H2 F' H' → σ[3]? = some (some u) → Ev K (tCB (Eg.rLen K) (tCons (tVar 3) tNil)) σ F' H' (.int ts.length) := fun a hs => ev_cb (ea_cons (ev_var (i := 3) hs (a.is h3)) ea_nil) (rc_len (by show some _ = _; rw [List.length_map]))
  have atB : ∀ {i : Nat} (h : i < b.length), L2.atI (b.map plainD) (i : Int) = some (plainD b[i]) := fun {i} h => atI_of (by omega) (by rw [Int.toNat_natCast, List.getElem?_map, List.getElem?_eq_getElem h]; rfl)
  have atT : ∀ {i : Nat} (h : i < ts.length), L2.atI (ts.map tieD) (i : Int) = some (tieD ts[i]) := fun {i} h => atI_of (by omega) (by rw [Int.toNat_natCast, List.getElem?_map, List.getElem?_eq_getElem h]; rfl)
  have atL : ∀ {i : Nat} {l : List Nat} (h : (linesL b m ts)[i]? = some l), L2.atI ((linesL b m ts).map tD) (i : Int) = some (tD l) := fun {i l} h => atI_of (by omega) (by rw [Int.toNat_natCast, List.getElem?_map, h]; rfl)
  have lineR : ∀ {i : Nat} (h : i < b.length), (linesL b m ts)[i]? = some (relL b[i]) := fun {i} h => by
    unfold linesL
    rw [List.append_assoc, List.getElem?_append_left (by rw [List.length_map]; exact h), List.getElem?_map, List.getElem?_eq_getElem h]; rfl
  have lineC : (linesL b m ts)[b.length]? = some (cellL m) := by
    unfold linesL
    rw [List.append_assoc, List.getElem?_append_right (by rw [List.length_map]; omega), List.length_map, Nat.sub_self]; rfl
  have lineT : ∀ {i : Nat} (h : i < ts.length), (linesL b m ts)[b.length + 1 + i]? = some (tieL ts[i]) := fun {i} h => by
    unfold linesL
    have e : (b.map relL ++ [cellL m]).length = b.length + 1 := by rw [List.length_append, List.length_map]; rfl
    rw [List.getElem?_append_right (by omega), e, Nat.add_sub_cancel_left, List.getElem?_map, List.getElem?_eq_getElem h]; rfl
  have memD : ∀ {n : Nat}, ∀ x ∈ (linesL b m ts).drop n, x ∈ linesL b m ts := fun x hx => List.mem_of_mem_drop hx
  have lenD : ∀ {n : Nat}, ((linesL b m ts).drop n).length ≤ 210 := fun {n} => by rw [List.length_drop]; omega
  by_cases k0 : c = 0 ∧ 0 < ts.length
  · obtain ⟨rfl, t0⟩ := k0
    refine q_when (b := true && true) z2.fh (et_and (x := true) (EvT.cast (et_test (ev_op (ev_var (i := 5) rfl (.int _)) ev_int r2_eqI)) (by decide)) fun _ => EvT.cast (et_test (ev_op (lenT (Fx.refl z2.fh) rfl) ev_int r2_gt)) (by simp; omega)) (fun _ F3 H3 a3 => ?_) (fun h => by cases h)
    have z3 := z2.trans a3.of
    refine h_asg (p := p) (q := q) (R := fun d => ∃ c : Nat, c < ts.length ∧ d = .int c) (hh2.keep a3) z3.fh (evh_take (m := ts.length) rfl (fun F4 H4 a hh => lenT (a3.of.trans a) rfl) t0 (fun r hr => ⟨r, hr, rfl⟩)) fun v7 d7 F4 H4 a4 hh4 ⟨t, ht, e7⟩ hv7 => ?_
    subst e7
    cases hv7
    have z4 := z3.trans a4
    have a24 := a3.of.trans a4
    refine q_asg z4.fh (ev_op (ev_op (ev_var (i := 6) rfl (.int _)) ev_int r2_addI) (ev_var (i := 7) rfl (.int _)) r2_addI) fun v8 F5 H5 a5 hv8 => ?_
    have e8 : (b.length : Int) + 1 + (t : Nat) = ((b.length + 1 + t : Nat) : Int) := by omega
    rw [e8] at hv8
    cases hv8
    have a25 := a24.trans a5.of
    refine h_ret (p := p) (q := q) (hh4.keep a5) (z4.trans a5.of).fh (evh_pack (i := b.length + 1 + t) (j := b.length + 1 + t + 1) (R := fun l => BadTie b m l) rfl (a25.is h4) (fun F6 H6 => ev_var (i := 8) rfl (.int _)) (fun F6 H6 => ev_op (ev_var (i := 8) rfl (.int _)) ev_int r2_addI) (fun F6 H6 => ev_var (i := 8) rfl (.int _))
      (evh_call (R := fun d => ∃ l, d = tD l ∧ BadTie b m l) (S := fun ds => ds = [tD (tieL ts[t]), tieD ts[t], .lst (b.map plainD), .int m]) rfl (evha_of (fun F6 H6 a6 _ => ea_cons (ev_op (ev_var (i := 4) rfl ((a25.trans a6).is h4)) (ev_var (i := 8) rfl (.int _)) (r2_ixL (atL (lineT ht)))) (ea_cons (ev_op (ev_var (i := 3) rfl ((a25.trans a6).is h3)) (ev_var (i := 7) rfl (.int _)) (r2_ixT (atT ht))) (ea_cons (ev_var (i := 1) rfl ((a25.trans a6).is h1)) (ea_cons (ev_var (i := 2) rfl (.int _)) ea_nil)))) rfl)
        (fun ds e => ⟨⟨_, List.getElem_mem ht, e⟩, fun d hd => hd⟩)) (fun d hd => hd) (by omega) (by omega) (by omega)) fun v9 d9 F6 H6 a6 h6 ⟨l, hb, ed⟩ hv => ?_
    subst ed
    exact fin ((z4.trans a5.of).trans a6) h6 (told_at ok (by omega) memD lenD hb.2 (fun rest => run_tie ok (Nat.le_of_lt ht) rest) (hb.1 _)) hv
  · refine q_when (b := decide (c = 0) && decide (0 < ts.length)) z2.fh (et_and (EvT.cast (et_test (ev_op (ev_var (i := 5) rfl (.int _)) ev_int r2_eqI)) (by congr 1; exact propext (by omega))) fun _ => EvT.cast (et_test (ev_op (lenT (Fx.refl z2.fh) rfl) ev_int r2_gt)) (by congr 1; exact propext (by omega))) (fun h => by
      rw [Bool.and_eq_true, decide_eq_true_iff, decide_eq_true_iff] at h; exact absurd h k0) fun _ F3 H3 a3 => ?_
    have z3 := z2.trans a3.of
    have hh3 := hh2.keep a3
    have h1 : Is K F3 (.lst (b.map plainD)) x := a3.is h1
    have h3 : Is K F3 (.tup (ts.map tieD)) u := a3.is h3
    have h4 : Is K F3 (.lst ((linesL b m ts).map tD)) v := a3.is h4
    have lenT3 : ∀ {σ : L2.St} {F' H' : Hp}, Fx (Hx p q) F3 H3 F' H' → σ[3]? = some (some u) → Ev K (tCB (Eg.rLen K) (tCons (tVar 3) tNil)) σ F' H' (.int ts.length) := fun a hs => ev_cb (ea_cons (ev_var (i := 3) hs (a.is h3)) ea_nil) (rc_len (by show some _ = _; rw [List.length_map]))
    clear lenT k0
    by_cases k1 : c = 1
    · subst k1
      refine q_kindY rfl rfl ?_
      refine h_asg (p := p) (q := q) (R := fun d => ∃ c : Nat, c < b.length ∧ d = .int c) hh3 z3.fh (evh_take (m := b.length) rfl (fun F4 H4 a hh => ev_var (i := 6) rfl (.int _)) b0 (fun r hr => ⟨r, hr, rfl⟩)) fun v8 d8 F4 H4 a4 hh4 ⟨t, ht, e8⟩ hv8 => ?_
      subst e8
      cases hv8
      have z4 := z3.trans a4
      have bt : ∀ {σ : L2.St} {F' H' : Hp}, Fx (Hx p q) F3 H3 F' H' → σ[1]? = some (some x) → σ[8]? = some (some (V.int (t : Nat))) → Ev K (tOp (rIx K) (tVar 1) (tVar 8)) σ F' H' (plainD b[t]) := fun a g1 g8 => ev_op (ev_var g1 (a.is h1)) (ev_var g8 (.int _)) (r2_ixL (atB ht))
      refine h_ret (p := p) (q := q) hh4 z4.fh (evh_pack (i := t) (j := t + 1) (R := fun l => BadRel l) rfl (a4.is h4) (fun F6 H6 => ev_var (i := 8) rfl (.int _)) (fun F6 H6 => ev_op (ev_var (i := 8) rfl (.int _)) ev_int r2_addI) (fun F6 H6 => ev_var (i := 8) rfl (.int _))
        (evh_call (R := fun d => ∃ l, d = tD l ∧ BadRel l) (S := fun ds => ds = [tD (relL b[t]), .int b[t].1, .tup (b[t].2.map rowD)]) rfl (evha_of (fun F6 H6 a6 _ => ea_cons (ev_op (ev_var (i := 4) rfl ((a4.trans a6).is h4)) (ev_var (i := 8) rfl (.int _)) (r2_ixL (atL (lineR ht)))) (ea_cons (ev_op (bt (a4.trans a6) rfl rfl) ev_int (r2_ixT rfl)) (ea_cons (ev_op (bt (a4.trans a6) rfl rfl) ev_int (r2_ixT rfl)) ea_nil))) rfl)
          (fun ds e => ⟨⟨_, e, ok.rel _ (List.getElem_mem ht)⟩, fun d hd => hd⟩)) (fun d hd => hd) (by omega) (by omega) (by omega)) fun v9 d9 F6 H6 a6 h6 ⟨l, hb, ed⟩ hv => ?_
      subst ed
      exact fin (z4.trans a6) h6 (told_at ok (by omega) memD lenD hb.2 (fun rest => run_rel ok (Nat.le_of_lt ht) rest) (hb.1 _)) hv
    refine q_kindN rfl (by omega) ?_
    by_cases k2 : c = 2
    · subst k2
      refine q_kindY rfl rfl ?_
      have c7 : (cs "cells 0").length = 7 := by decide
      have c6 : (cs "cells ").length = 6 := by decide
      have c1 : (cs " ").length = 1 := by decide
      have mw := num_small m6
      have sm : ∀ {σ : L2.St} {F' H' : Hp}, σ[2]? = some (some (V.int m)) → Ev K (tCB rStr (tCons (tVar 2) tNil)) σ F' H' (tD (numL m)) := fun g => ev_cb (ea_cons (ev_var g (.int _)) ea_nil) (rc_strN (by omega))
      refine q_asg z3.fh (ev_lst (ea_cons (ev_op ev_txt (sm rfl) (r2_addX (by rw [s1]; omega))) (ea_cons ev_txt (ea_cons ev_txt (ea_cons ev_txt (ea_cons (ev_op (ev_op ev_txt (sm rfl) (r2_addX (by rw [s1]; omega))) ev_txt (r2_addX (by rw [s1, List.length_append]; omega))) (ea_cons ev_txt ea_nil)))))) (by rw [s1]; show 6 ≤ _; decide)) fun v9 F4 H4 a4 hv9 => ?_
      have z4 := z3.trans a4.of
      have a34 := a4.of (X := Hx p q)
      refine h_ret (p := p) (q := q) (hh3.keep a4) z4.fh (evh_pack (i := b.length) (j := b.length + 1) (R := fun l => ∀ st, lineS st l = none ∧ Plain l) rfl (a4.is h4) (fun F6 H6 => ev_var (i := 6) rfl (.int _)) (fun F6 H6 => ev_op (ev_var (i := 6) rfl (.int _)) ev_int r2_addI) (fun F6 H6 => ev_var (i := 6) rfl (.int _))
        (evh_op (R := fun d => ∃ l, d = tD l ∧ ∀ st, lineS st l = none ∧ Plain l) (A := fun d => d = .lst ([cs "cells 0" ++ numL m, cs "cells 1000000", cs "cells -1", cs "cells", cs "cells " ++ numL m ++ cs " ", cs "Cells 3"].map tD)) (B := fun d => ∃ c : Nat, c < 6 ∧ d = .int c) (evh_of (fun F6 H6 a6 _ => ev_var (i := 9) rfl (a6.is hv9)) rfl) (evh_take (m := 6) rfl (fun F2 H2 a hh => ev_int) (by decide) (fun r hr => ⟨r, hr, rfl⟩)) (fun d e hd ⟨c, hc, he⟩ => by
          subst hd he
          obtain ⟨l, hl⟩ : ∃ l, [cs "cells 0" ++ numL m, cs "cells 1000000", cs "cells -1", cs "cells", cs "cells " ++ numL m ++ cs " ", cs "Cells 3"][c]? = some l := ⟨_, List.getElem?_eq_getElem (by show c < 6; exact hc)⟩
          exact ⟨_, ⟨l, rfl, fun st => no_cells m6 c hl st⟩, r2_ixL (atI_of (by omega) (by rw [Int.toNat_natCast, List.getElem?_map, hl]; rfl))⟩)) (fun d hd => hd) (by omega) (by omega) (by omega)) fun v10 d9 F6 H6 a6 h6 ⟨l, hb, ed⟩ hv => ?_
      subst ed
      exact fin (z4.trans a6) h6 (told_at ok (by omega) memD lenD (hb st0).2 (fun rest => run_rel ok (Nat.le_refl _) rest) (hb _).1) hv
    refine q_kindN rfl (by omega) ?_
    by_cases k3 : c = 3
    · subst k3
      refine q_kindY rfl rfl ?_
      refine h_asg (p := p) (q := q) (R := fun d => ∃ c : Nat, c < (linesL b m ts).length + 1 ∧ d = .int c) hh3 z3.fh (evh_take (m := (linesL b m ts).length + 1) rfl (fun F4 H4 a hh => ev_op (ev_cb (ea_cons (ev_var (i := 4) rfl (a.is h4)) ea_nil) (rc_len (n := (linesL b m ts).length) (by show some _ = _; rw [List.length_map]))) ev_int r2_addI) (by omega) (fun r hr => ⟨r, hr, rfl⟩)) fun v8 d8 F4 H4 a4 hh4 ⟨t, ht, e8⟩ hv8 => ?_
      subst e8
      cases hv8
      have z4 := z3.trans a4
      refine h_ret (p := p) (q := q) hh4 z4.fh (evh_pack (i := t) (j := t) (R := fun l => l = []) rfl (a4.is h4) (fun F6 H6 => ev_var (i := 8) rfl (.int _)) (fun F6 H6 => ev_var (i := 8) rfl (.int _)) (fun F6 H6 => ev_var (i := 8) rfl (.int _))
        (evh_of (R := fun d => ∃ l, d = tD l ∧ l = []) (fun F6 H6 a6 _ => ev_txt (s := "")) ⟨[], rfl, rfl⟩) (fun d hd => hd) (by omega) (by omega) (by omega)) fun v9 d9 F6 H6 a6 h6 ⟨l, hb, ed⟩ hv => ?_
      subst ed
      subst hb
      have pl : Plain [] := ⟨by simp, by decide⟩
      refine fin (z4.trans a6) h6 (i := t) ?_ hv
      by_cases ht2 : t ≤ b.length
      · exact told_at ok (by omega) memD lenD pl (fun rest => run_rel ok ht2 rest) (no_empty _)
      · obtain ⟨j, rfl⟩ : ∃ j, t = b.length + 1 + j := ⟨t - (b.length + 1), by omega⟩
        exact told_at ok (by omega) memD lenD pl (fun rest => run_tie ok (by omega) rest) (no_empty _)
    refine q_kindN rfl (by omega) ?_
    by_cases k4 : c = 4
    · subst k4
      refine q_kindY rfl rfl ?_
      refine h_asg (p := p) (q := q) (R := fun d => ∃ c : Nat, c < ts.length + 1 ∧ d = .int ((b.length + 1 + c : Nat) : Int)) hh3 z3.fh (evh_op (A := fun d => d = .int ((b.length : Int) + 1)) (B := fun d => ∃ c : Nat, c < ts.length + 1 ∧ d = .int c) (evh_of (fun F4 H4 a _ => ev_op (ev_var (i := 6) rfl (.int _)) ev_int r2_addI) rfl) (evh_take (m := ts.length + 1) rfl (fun F4 H4 a hh => ev_op (lenT3 a rfl) ev_int r2_addI) (by omega) (fun r hr => ⟨r, hr, rfl⟩)) (fun d e hd ⟨c, hc, he⟩ => by
        subst hd he
        refine ⟨_, ⟨c, hc, rfl⟩, ?_⟩
        rw [show ((b.length + 1 + c : Nat) : Int) = (b.length : Int) + 1 + (c : Int) by omega]
        exact r2_addI)) fun v8 d8 F4 H4 a4 hh4 ⟨t, ht, e8⟩ hv8 => ?_
      subst e8
      cases hv8
      have z4 := z3.trans a4
      refine h_ret (p := p) (q := q) hh4 z4.fh (evh_pack (i := b.length + 1 + t) (j := b.length + 1 + t) (R := fun l => ∃ c, c < b.length + 1 ∧ (linesL b m ts)[c]? = some l) rfl (a4.is h4) (fun F6 H6 => ev_var (i := 8) rfl (.int _)) (fun F6 H6 => ev_var (i := 8) rfl (.int _)) (fun F6 H6 => ev_var (i := 8) rfl (.int _))
        (evh_op (R := fun d => ∃ l, d = tD l ∧ ∃ c, c < b.length + 1 ∧ (linesL b m ts)[c]? = some l) (A := fun d => d = .lst ((linesL b m ts).map tD)) (B := fun d => ∃ c : Nat, c < b.length + 1 ∧ d = .int c) (evh_of (fun F6 H6 a6 _ => ev_var (i := 4) rfl ((a4.trans a6).is h4)) rfl) (evh_take (m := b.length + 1) rfl (fun F2 H2 a hh => ev_op (ev_var (i := 6) rfl (.int _)) ev_int r2_addI) (by omega) (fun r hr => ⟨r, hr, rfl⟩)) (fun d e hd ⟨c, hc, he⟩ => by
          subst hd he
          obtain ⟨l, hl⟩ : ∃ l, (linesL b m ts)[c]? = some l := ⟨_, List.getElem?_eq_getElem (by omega)⟩
          exact ⟨_, ⟨l, rfl, c, hc, hl⟩, r2_ixL (atL hl)⟩)) (fun d hd => hd) (by omega) (by omega) (by omega)) fun v9 d9 F6 H6 a6 h6 ⟨l, ⟨cl, hcl, hl⟩, ed⟩ hv => ?_
      subst ed
      have no : ∀ ts', lineS (aft b m ts') l = none := fun ts' => by
        by_cases hc2 : cl < b.length
        · rw [lineR hc2] at hl
          cases hl
          exact no_rel (ok.rel _ (List.getElem_mem hc2)) ts'
        · have : cl = b.length := by omega
          subst this
          rw [lineC] at hl
          cases hl
          exact no_cell m6 ts'
      exact fin (z4.trans a6) h6 (told_at ok (by omega) memD lenD (line_plain ok l (List.mem_of_getElem? hl)) (fun rest => run_tie ok (by omega) rest) (no _)) hv
    refine q_kindN rfl (by omega) ?_
    by_cases k5 : c = 5 ∧ b.length = 6
    · obtain ⟨rfl, k6⟩ := k5
      refine q_when (b := true && true) z3.fh (et_and (x := true) (EvT.cast (et_test (ev_op (ev_var (i := 5) rfl (.int _)) ev_int r2_eqI)) (by decide)) fun _ => EvT.cast (et_test (ev_op (ev_var (i := 6) rfl (.int _)) ev_int r2_eqI)) (by simp; omega)) (fun _ F4 H4 a4 => ?_) (fun h => by cases h)
      have z4 := z3.trans a4.of
      have sl1 : ∀ {σ : L2.St}, σ[4]? = some (some v) → Ev K (tSl (rSlX K) (tVar 4) tNoPart (tPart (tC (.int 1)))) σ F4 H4 (.lst (((linesL b m ts).take 1).map tD)) := fun g => by
        have h := ev_sl (K := K) (ev_var (F := F4) (H := H4) g (a4.is h4)) eo_no (eo_some (i := ((1 : Nat) : Int)) (ev_int (K := K))) rs_lst
        rw [cut_to (by rw [List.length_map]; omega), ← List.map_take] at h
        exact h
      refine s_ret z4.fh (ev_tup (ea_cons (ev_op (sl1 rfl) (ev_var (i := 4) rfl (a4.is h4)) (r2_addL (by rw [List.length_map, List.length_map, List.length_take, s1]; omega))) (ea_cons (ev_int (K := K)) ea_nil)) (by rw [s1]; show 2 ≤ _; decide)) fun v' F5 H5 a5 hv' => ?_
      rw [← List.map_append] at hv'
      exact fin (z4.trans a5.of) ((hh3.keep a4).keep a5) (i := 6) (told_six ok k6) hv'
    refine q_when (b := decide (c = 5) && decide (b.length = 6)) z3.fh (et_and (EvT.cast (et_test (ev_op (ev_var (i := 5) rfl (.int _)) ev_int r2_eqI)) (by congr 1; exact propext (by omega))) fun _ => EvT.cast (et_test (ev_op (ev_var (i := 6) rfl (.int _)) ev_int r2_eqI)) (by congr 1; exact propext (by omega))) (fun h => by
      rw [Bool.and_eq_true, decide_eq_true_iff, decide_eq_true_iff] at h; exact absurd h k5) fun _ F4 H4 a4 => ?_
    have z4 := z3.trans a4.of
    have sl1 : ∀ {σ : L2.St}, σ[4]? = some (some v) → σ[6]? = some (some (V.int b.length)) → Ev K (tSl (rSlX K) (tVar 4) tNoPart (tPart (tVar 6))) σ F4 H4 (.lst (((linesL b m ts).take b.length).map tD)) := fun g g6 => by
      have h := ev_sl (K := K) (ev_var (F := F4) (H := H4) g (a4.is h4)) eo_no (eo_some (i := (b.length : Int)) (ev_var (F := F4) (H := H4) (K := K) g6 (.int _))) (rs_lst (K := K))
      rw [cut_to (by rw [List.length_map]; omega), ← List.map_take] at h
      exact h
    refine s_ret z4.fh (ev_tup (ea_cons (sl1 rfl rfl) (ea_cons (ev_var (i := 6) rfl (.int _)) ea_nil)) (by rw [s1]; show 2 ≤ _; decide)) fun v' F5 H5 a5 hv' => ?_
    exact fin (z4.trans a5.of) ((hh3.keep a4).keep a5) (told_cut ok) hv'
end
end K08
namespace K08
open PySem L2 Eg
open TL (numL joinL spl)
open PyProof.Rows (boot_int boot_tuple boot_bool boot_list boot_str boot_isinstance boot_range boot_enumerate boot_abs)
local macro_rules | `(tactic| walk_at "is") => `(tactic| first | assumption | (refine Fx.is (by assumption) ?_; walk_at "is"))
local macro_rules | `(tactic| walk_at "sz") => `(tactic| first | assumption | omega | (show _ ≤ sizeLine; decide) | (show _ < sizeLine; decide))
local macro_rules | `(tactic| walk_at "r2") => `(tactic| first
  | exact r2_addI | exact r2_addS (by walk_at "sz") | exact r2_addT (by walk_at "sz") | exact r2_addL (by walk_at "sz")
  | exact r2_eqI | exact r2_eqS | exact r2_neI | exact r2_neS | exact r2_lt | exact r2_le | exact r2_gt | exact r2_ge | exact r2_sub | exact r2_isN | exact r2_notN)
local macro_rules | `(tactic| walk_at "ea") => `(tactic| first | exact ea_nil | refine ea_cons (by walk_at "ev") (by walk_at "ea"))
local macro_rules | `(tactic| walk_at "ev") => `(tactic| first
  | exact ev_int | exact ev_str | exact ev_bl | exact ev_non
  | refine ev_var rfl (by walk_at "is")
  | refine ev_op (by walk_at "ev") (by walk_at "ev") (by walk_at "r2")
  | refine ev_tup (by walk_at "ea") (by walk_at "sz")
  | refine ev_lst (by walk_at "ea") (by walk_at "sz")
  | refine ev_cb (by walk_at "ea") (by first | exact rc_len rfl | exact rc_intI | exact rc_tupL | exact rc_tupT))

section
variable {P : Program} {w : World} {K : PySem.W.Frag} {mg : Str → Option Value} {base : Heap}
/-- the place told of a bent text -/
def dueS (bent : List (List Nat)) (i : Nat) : Nat := if i = bent.length then (joinL (cs "\n") bent).length else dueL (bent.take i)
theorem told_read {bent : List (List Nat)} {i : Nat} (h : Told bent i) : readS (joinL (cs "\n") bent) = .error (dueS bent i) := by
  obtain ⟨hi, ne, _, pl, h⟩ := h
  unfold readS dueS
  have e : spl (cs "\n") 0 [] (joinL (cs "\n") bent) = bent := by
    rw [c10]
    exact TL.spl_join ne fun p hp => (pl p hp).1
  rw [e]
  rcases h with ⟨h1, h2⟩ | ⟨h1, st, h2, h3⟩
  · have h2 : runS ⟨[], none, []⟩ 0 bent = .error (dueL (bent.take i)) := h2
    rw [h2, if_neg (by omega)]
  · have h2 : runS ⟨[], none, []⟩ 0 bent = .ok st := h2
    rw [h2, if_pos h1]
    dsimp only
    rw [h3]
theorem told_len {bent : List (List Nat)} {i : Nat} (h : Told bent i) : (bent.map (·.length)).sum + bent.length * (cs "\n").length ≤ 500500 ∧ (joinL (cs "\n") bent).length ≤ 500500 := by
  obtain ⟨hi, ne, b5, pl, h⟩ := h
  have l1 : (cs "\n").length = 1 := by decide
  have a := join_size (a := cs "\n") b5 fun y hy => (pl y hy).2
  have b := join_len (a := cs "\n") b5 fun y hy => (pl y hy).2
  rw [l1] at *
  exact ⟨a, b⟩
theorem due_int : ∀ l : List (List Nat), (l.map fun x => (x.length : Int) + 1).sum = (dueL l : Nat)
  | [] => rfl
  | x :: l => by
    have h := due_int l
    unfold dueL at *
    rw [List.map_cons, List.sum_cons, List.map_cons, List.sum_cons, h]
    omega
theorem due_le (bent : List (List Nat)) (i : Nat) : dueL (bent.take i) ≤ (bent.map (·.length)).sum + bent.length := by
  induction bent generalizing i with
  | nil => cases i <;> exact Nat.le_refl 0
  | cons x l ih =>
    cases i with
    | zero => show 0 ≤ _; omega
    | succ i =>
      have := ih i
      unfold dueL at *
      rw [List.take_succ_cons, List.map_cons, List.sum_cons, List.map_cons, List.sum_cons, List.length_cons]
      omega
def P_told : List D → Prop := fun ds => ∃ b m ts, OkPuz b m ts ∧ ds = [.lst (b.map plainD), .int (m : Nat), .tup (ts.map tieD), .lst ((linesL b m ts).map tD)]
theorem ok_law_is_told (T : Tx K mg) : FnG P w K mg base CX0 11 T.a_law_is_told T.fd_law_is_told ["hand", "book", "many", "ties", "lines"] (Ph K P_told (fun _ z => z = .bl true)) := by
  refine Eg.Fun.okG T.F_law_is_told sc_law_is_told (fun vs H Q E ⟨F, p, q, ds, ws, _, _, e, hi, ⟨_, _, _, _, em⟩, _⟩ => by rw [e, List.length_cons, ← hi.length, em]; rfl) (fun cdv A outer s H vs Q E hgd hr h => ?_)
  obtain ⟨F, p, q, ds, ws, s0, hh, rfl, hi, ⟨b, m, ts, ok, rfl⟩, k⟩ := h
  obtain ⟨x, y, u, v, rfl, h1, h2, h3, h4⟩ := iss4 hi
  refine ⟨_, (pss_cons (ps_asg (pe_call (ok_law_bent T b m ts ok) (hr.mono (by decide)) rfl T.mg_law_bent T.F_law_bent.kp T.b_law_bent .nil pass0 (pa_cons (pv 0) (pa_cons (pv 1) (pa_cons (pv 2) (pa_cons (pv 3) (pa_cons (pv 4) pa_nil)))))) (pg_tupK K rfl (pgs_cons (pg_name (i := 5) sc_law_is_told.nd rfl (by first | exact Or.inl rfl | exact Or.inr rfl)) (pgs_cons (pg_name (i := 6) sc_law_is_told.nd rfl (by first | exact Or.inl rfl | exact Or.inr rfl)) pgs_nil))))
    (pss_cons (ps_set (i := 7) sc_law_is_told.nd rfl (by first | exact Or.inl rfl | exact Or.inr rfl) (pe_bmK K PySem.F.plainAttrs_str PySem.F.slot_str_join PySem.F.type_str_join (mtK K Eg.rJoin mt_joinA) pe_str (pa_cons (pv 5) pa_nil)))
    (pss_cons (ps_set (i := 8) sc_law_is_told.nd rfl (by first | exact Or.inl rfl | exact Or.inr rfl) (pe_callB (callK K rSum (cr_sum rfl)) (by rfl) T.n_sum (by decide +kernel) (pa_cons (pe_lc (own := [("line", 9)]) rfl sc_law_is_told.nd (pi_seqK K (pe_slice (slK K sl_X) (pv 5) po_none (po_some (pv 6)))) (blkOk_by (own := [("line", 9)]) (N := N_law_is_told) (sc := defScope s_law_is_told) (by decide +kernel)) (fun _ _ _ _ _ => (pg_name (i := 9) sc_law_is_told.nd rfl (by first | exact Or.inl rfl | exact Or.inr rfl))) (fun _ _ _ _ _ => pts_nil) (fun _ _ _ _ _ => (pe_op (opK K Eg.rAddA op_addA) (pe_callB (callK K Eg.rLen call_lenA) (by rfl) T.n_len (by decide +kernel) (pa_cons (pv 9) pa_nil)) pe_int))) pa_nil)))
    (pss_cons (ps_if (pt_cmpR (opK K Eg.rEqA (op_eqA hr)) (pv 6) (pe_callB (callK K Eg.rLen call_lenA) (by rfl) T.n_len (by decide +kernel) (pa_cons (pv 5) pa_nil)) (nomark _)) (pss_one (ps_set (i := 8) sc_law_is_told.nd rfl (by first | exact Or.inl rfl | exact Or.inr rfl) (pe_callB (callK K Eg.rLen call_lenA) (by rfl) T.n_len (by decide +kernel) (pa_cons (pv 7) pa_nil)))) pss_nil)
    (pss_one (ps_ret (pe_cmpR (opK K Eg.rEqA (op_eqA hr)) (pe_callB (callK K Eg.rRepr (call_reprA hr hgd)) (by rfl) T.n_repr (by decide +kernel) (pa_cons (pe_call (ok_law_read T) (hr.mono (by decide)) rfl T.mg_law_read T.F_law_read.kp T.b_law_read .nil pass0 (pa_cons (pv 7) pa_nil)) pa_nil)) (pe_callB (callK K Eg.rRepr (call_reprA hr hgd)) (by rfl) T.n_repr (by decide +kernel) (pa_cons (pe_tup (pa_cons pe_str (pa_cons (pv 8) pa_nil))) pa_nil)) (nomark _)))))))), ?_⟩
  have s1 := sizeLine_eq
  refine EvH.go hh s0 (evh_call (R := R_bent _) (S := fun ds => ds = [.lst (b.map plainD), .int m, .tup (ts.map tieD), .lst ((linesL b m ts).map tD)]) rfl (evha_of (fun F6 H6 a6 _ => ea_cons (ev_var (i := 1) rfl (a6.is h1)) (ea_cons (ev_var (i := 2) rfl (a6.is h2)) (ea_cons (ev_var (i := 3) rfl (a6.is h3)) (ea_cons (ev_var (i := 4) rfl (a6.is h4)) ea_nil)))) rfl)
    (fun ds e => ⟨e, fun d hd => by subst e; exact hd⟩)) fun v0 d0 F1 H1 a1 hh1 ⟨bent, i, e0, hT⟩ hv0 => ?_
  subst e0
  refine g_pair a1.fh hv0 fun v5 v6 hv5 hv6 => ?_
  cases hv6
  obtain ⟨tl1, tl2⟩ := told_len hT
  have hi' := hT.1
  have bl := hT.2.2.1
  have pl := hT.2.2.2.1
  refine q_asg a1.fh (ev_bmS ev_txt (ea_cons (ev_var (i := 5) rfl hv5) ea_nil) (z := tD (joinL (cs "\n") bent)) (rm_joinX (Nat.le_trans tl1 (by decide)))) fun v7 F2 H2 a2 hv7 => ?_
  have hv5 := a2.is hv5
  have lj : (joinL (cs "\n") bent).length ≤ sizeLine := by rw [s1]; omega
  have sl1 : ∀ {σ : L2.St}, σ[5]? = some (some v5) → σ[6]? = some (some (V.int i)) → Ev K (tSl (rSlX K) (tVar 5) tNoPart (tPart (tVar 6))) σ F2 H2 (.lst ((bent.take i).map tD)) := fun g g6 => by
    have h := ev_sl (K := K) (ev_var (F := F2) (H := H2) g hv5) eo_no (eo_some (i := (i : Int)) (ev_var (F := F2) (H := H2) (K := K) g6 (.int _))) (rs_lst (K := K))
    rw [cut_to (by rw [List.length_map]; omega), ← List.map_take] at h
    exact h
  have dl := due_le bent i
  refine q_asg a2.fh (ev_cb (ea_cons (ev_la1 (xs := bent.take i) (dd := tD) (wa_seqL (sl1 rfl rfl)) (fun l => D.int ((l.length : Int) + 1)) (fun x => rfl) (fun l hl F3 H3 x a3 hx => ev_op (ev_cb (ea_cons (ev_var rfl hx) ea_nil) (rc_lenX (by have := (pl l (List.mem_of_mem_take hl)).2; rw [s1]; omega))) ev_int r2_addI) (by rw [s1, List.length_take]; omega)) ea_nil) (z := .int (dueL (bent.take i) : Nat)) (by
    have h := rc_sum (K := K) (ns := (bent.take i).map fun x => (x.length : Int) + 1)
    rw [due_int, List.map_map] at h
    exact h)) fun v8 F3 H3 a3 hv8 => ?_
  cases hv8
  have hv5 := a3.is hv5
  have hv7 := a3.is hv7
  have z3 := a1.trans (a2.of.trans a3.of)
  have hh3 := (hh1.keep a2).keep a3
  have fin : ∀ {σ : L2.St} {F4 H4 : Hp}, Fz F3 H3 F4 H4 → σ[7]? = some (some v7) → σ[8]? = some (some (V.int (dueS bent i : Nat))) → ∀ te, te = tRet (tOp (Eg.rEqA K) (tCB (Eg.rRepr K) (tCons (tCall (Pu K (R_law_read T)) [] E0 (tCons (tVar 7) tNil)) tNil)) (tCB (Eg.rRepr K) (tCons (tTup (tCons (tC (.str (Str.ofString "fault"))) (tCons (tVar 8) tNil))) tNil))) → te { nx := fun _ H' => Q .non H', rt := Q } σ H4 := fun {σ F4 H4} a4 g7 g8 te et => by
    subst et
    have dsm : dueS bent i < 10 ^ 12 := by unfold dueS; split <;> omega
    have n0 : ((dueS bent i : Nat) : Int).natAbs < 10 ^ 12 := by omega
    have rr : Rcd K (rRepr K) [.tup [tD (cs "fault"), .int (dueS bent i : Nat)]] (.str (py (.tup [tD (cs "fault"), .int (dueS bent i : Nat)])).shown) := by
      refine rc_reprS (n := 1) ?_ (by decide) ?_
      · show (sm 0 (tD (cs "fault")) && (sm 0 (.int (dueS bent i : Nat)) && true)) = true
        rw [show sm 0 (tD (cs "fault")) = true by decide +kernel, show sm 0 (.int (dueS bent i : Nat)) = true from decide_eq_true n0]
        rfl
      · refine Nat.le_trans (weight_tup (n := 2) (c := 100) (Nat.le_refl 2) fun d hd => ?_) (by decide)
        rcases List.mem_cons.mp hd with rfl | hd
        · decide +kernel
        · rw [List.mem_singleton] at hd
          subst hd
          exact Nat.le_trans (weight_int n0) (by decide)
    have rd := told_read hT
    refine s_ret (d := .bl true) a4.fh (Ev.cast (ev_op (ev_cb (ea_cons (ev_call (d := .tup [tD (cs "fault"), .int (dueS bent i : Nat)]) (ea_cons (ev_var (i := 7) g7 (a4.is hv7)) ea_nil) ⟨_, rfl, by omega, by rw [rd]; rfl⟩) ea_nil) rr) (ev_cb (ea_cons (ev_tup (ea_cons ev_txt (ea_cons (ev_var (i := 8) g8 (.int _)) ea_nil)) (by rw [s1]; show 2 ≤ _; decide)) ea_nil) rr) r2_eqS) (by simp)) fun v' F5 H5 a5 hv' => ?_
    exact k v' (.bl true) F5 H5 (z3.trans (a4.of.trans a5.of)) ((hh3.keep a4).keep a5) rfl hv'
  have lenB : ∀ {σ : L2.St}, σ[5]? = some (some v5) → Ev K (tCB (Eg.rLen K) (tCons (tVar 5) tNil)) σ F3 H3 (.int bent.length) := fun g => ev_cb (ea_cons (ev_var (i := 5) g hv5) ea_nil) (rc_len (by show some _ = _; rw [List.length_map]))
  refine q_when (b := decide (i = bent.length)) a3.fh (EvT.cast (et_test (ev_op (ev_var (i := 6) rfl (.int _)) (lenB rfl) r2_eqI)) (by congr 1; exact propext (by omega))) (fun hb F4 H4 a4 => ?_) (fun hb F4 H4 a4 => ?_)
  · have hb := of_decide_eq_true hb
    refine s_asg a4.fh (ev_cb (ea_cons (ev_var (i := 7) rfl (a4.is hv7)) ea_nil) (rc_lenX lj)) fun v8 F5 H5 a5 hv8 => ?_
    have ed : (joinL (cs "\n") bent).length = dueS bent i := by unfold dueS; rw [if_pos hb]
    rw [ed] at hv8
    cases hv8
    exact fin (a4.trans a5) rfl rfl _ rfl
  · have hb := of_decide_eq_false hb
    have ed : dueL (bent.take i) = dueS bent i := by unfold dueS; rw [if_neg hb]
    rw [ed]
    exact fin a4 rfl rfl _ rfl
end
end K08
namespace K08
open PySem L2 Eg
open TL (numL joinL spl)
open PyProof.Rows (boot_int boot_tuple boot_bool boot_list boot_str boot_isinstance boot_range boot_enumerate boot_abs)
local macro_rules | `(tactic| walk_at "is") => `(tactic| first | assumption | (refine Fx.is (by assumption) ?_; walk_at "is"))
local macro_rules | `(tactic| walk_at "sz") => `(tactic| first | assumption | omega | (show _ ≤ sizeLine; decide) | (show _ < sizeLine; decide))
local macro_rules | `(tactic| walk_at "r2") => `(tactic| first
  | exact r2_addI | exact r2_addS (by walk_at "sz") | exact r2_addT (by walk_at "sz") | exact r2_addL (by walk_at "sz")
  | exact r2_eqI | exact r2_eqS | exact r2_neI | exact r2_neS | exact r2_lt | exact r2_le | exact r2_gt | exact r2_ge | exact r2_sub | exact r2_isN | exact r2_notN)
local macro_rules | `(tactic| walk_at "ea") => `(tactic| first | exact ea_nil | refine ea_cons (by walk_at "ev") (by walk_at "ea"))
local macro_rules | `(tactic| walk_at "ev") => `(tactic| first
  | exact ev_int | exact ev_str | exact ev_bl | exact ev_non
  | refine ev_var rfl (by walk_at "is")
  | refine ev_op (by walk_at "ev") (by walk_at "ev") (by walk_at "r2")
  | refine ev_tup (by walk_at "ea") (by walk_at "sz")
  | refine ev_lst (by walk_at "ea") (by walk_at "sz")
  | refine ev_cb (by walk_at "ea") (by first | exact rc_len rfl | exact rc_intI | exact rc_tupL | exact rc_tupT))

section
variable {P : Program} {w : World} {K : PySem.W.Frag} {mg : Str → Option Value} {base : Heap}
theorem pl_of_sm : ∀ (n : Nat) (d : D), sm n d = true → pl n d = true
  | n, .non, _ => by cases n <;> rfl
  | n, .int _, _ => by cases n <;> rfl
  | n, .str _, h => by cases n <;> exact h
  | n + 1, .lst ds, h => List.all_eq_true.mpr fun d hd => pl_of_sm n d (List.all_eq_true.mp h d hd)
  | n + 1, .tup ds, h => List.all_eq_true.mpr fun d hd => pl_of_sm n d (List.all_eq_true.mp h d hd)
  | 0, .lst _, h => by cases h
  | 0, .tup _, h => by cases h
  | 0, .bl _, h => by cases h
  | n + 1, .bl _, h => by cases h
  | 0, .obj _ _, h => by cases h
  | n + 1, .obj _ _, h => by cases h
  | 0, .dic _, h => by cases h
  | n + 1, .dic _, h => by cases h
theorem deq_self {n : Nat} {d : D} (h : sm n d = true) : deq d d = true := (deq_iff (pl_of_sm n d h) (pl_of_sm n d h)).mpr rfl
/-! == of puzzles: the text's own -/
def REq (K : PySem.W.Frag) {mg : Str → Option Value} (T : Tx K mg) (a c : Addr) (H : Hp) : Prop := ∃ F b m ts, Same F H ∧ Is K F (puzD T b m ts) (.ref a) ∧ Is K F (puzD T b m ts) (.ref c) ∧ OkPuz b m ts
theorem ok_Puzzle_eq (T : Tx K mg) : FnOk P w K mg base CX0 1 T.a_Puzzle_eq T.fd_Puzzle_eq ["self", "other"] (spEq (REq K T)) := by
  refine T.F_Puzzle_eq.ok sc_Puzzle_eq (fun vs H Q E ⟨a, c, e, _⟩ => by rw [e]; rfl) (fun cdv A outer s H vs Q E hr h => ?_)
  obtain ⟨a, c, rfl, ⟨F, b, m, ts, s0, h1, h2, ok⟩, k⟩ := h
  refine ⟨_, (pss_cons (ps_if (pt_not (pt_val (pe_callB (callK K rIsi call_isi) (by rfl) T.n_isinstance (by decide +kernel) (pa_cons (pv 1) (pa_cons (pe_glob (v := .ref T.c_Puzzle) rfl T.mc_Puzzle rfl) pa_nil))))) (pss_one (ps_ret pe_bl)) pss_nil)
    (pss_cons (ps_if (PW.pt (pw_or (pt_cmpR (opK K Eg.rNeA (op_neA hr)) (pe_fldK K (pe_fldK K (pv 0) rfl) rfl) (pe_fldK K (pe_fldK K (pv 1) rfl) rfl) (nomark _)) (pw_or1 (pt_cmpR (opK K Eg.rNeA (op_neA hr)) (pe_fldK K (pv 0) rfl) (pe_fldK K (pv 1) rfl) (nomark _))))) (pss_one (ps_ret pe_bl)) pss_nil)
    (pss_one (ps_ret (pe_cmpR (opK K Eg.rEqA (op_eqA hr)) (pe_fldK K (pv 0) rfl) (pe_fldK K (pv 1) rfl) (nomark _)))))), ?_⟩
  obtain ⟨b1, _⟩ := book_small ok.b6 ok.rel
  have b1 : sm 4 (.tup (b.map plainD)) = true := b1
  obtain ⟨t1, _⟩ := ties_small ok
  have pB : ∀ {i : Nat} {x : V} {F' H' : Hp} {σ : L2.St}, σ[i]? = some (some x) → Is K F' (puzD T b m ts) x → Ev K (tFld K (tFld K (tVar i) "book") "plain") σ F' H' (.tup (b.map plainD)) := fun g h => ev_fld T.o_Book.cl T.na_Book_plain (ev_fld T.o_Puzzle.cl T.na_Puzzle_book (ev_var g h) rfl) rfl
  have pM : ∀ {i : Nat} {x : V} {F' H' : Hp} {σ : L2.St}, σ[i]? = some (some x) → Is K F' (puzD T b m ts) x → Ev K (tFld K (tVar i) "cell_count") σ F' H' (.int m) := fun g h => ev_fld T.o_Puzzle.cl T.na_Puzzle_cell_count (ev_var g h) rfl
  have pT : ∀ {i : Nat} {x : V} {F' H' : Hp} {σ : L2.St}, σ[i]? = some (some x) → Is K F' (puzD T b m ts) x → Ev K (tFld K (tVar i) "ties") σ F' H' (.tup (ts.map tieD)) := fun g h => ev_fld T.o_Puzzle.cl T.na_Puzzle_ties (ev_var g h) rfl
  refine q_when (b := false) s0 (EvT.cast (et_not (et_test (ev_own T.o_Puzzle (ev_var (i := 1) rfl h2)))) rfl) (fun z => by cases z) fun _ F2 H2 a2 => ?_
  refine q_when (b := false) a2.fh (EvT.cast (et_or (x := false) (y := false) (EvT.cast (et_test (ev_op (pB (i := 0) rfl (a2.is h1)) (pB (i := 1) rfl (a2.is h2)) (r2_neD (n := 4) (by decide) (pb_of_sm _ _ b1) (pb_of_sm _ _ b1)))) (by rw [deq_self b1]; rfl)) fun _ => EvT.cast (et_test (ev_op (pM (i := 0) rfl (a2.is h1)) (pM (i := 1) rfl (a2.is h2)) r2_neI)) (by simp)) rfl) (fun z => by cases z) fun _ F3 H3 a3 => ?_
  have z3 := a2.trans a3
  refine s_ret (d := .bl true) a3.fh (Ev.cast (ev_op (pT (i := 0) rfl (z3.is h1)) (pT (i := 1) rfl (z3.is h2)) (r2_eqD (n := 4) (by decide) (pb_of_sm _ _ t1) (pb_of_sm _ _ t1))) (by rw [deq_self t1])) fun v F4 H4 a4 hv => ?_
  cases hv
  exact k H4 fun a o h => (z3.trans a4).hh a o id h
abbrev rEqP (K : PySem.W.Frag) {mg : Str → Option Value} (T : Tx K mg) : R2 := rEqG (DIns T.c_Puzzle (REq K T))
theorem op_eqP {X : Cx} {k : Nat} (T : Tx X.K X.mg) (hr : Room k X.A) (hk : 1 ≤ k) : OpR X (compareOp .Eq) (rEqP X.K T) :=
  op_eqG (n := 1) (rcG_ins (ok_Puzzle_eq T) T.m_Puzzle_eq.at_ T.m_Puzzle_eq.fn T.b_Puzzle_eq pass0) (hr.mono hk)
theorem r2_eqP (T : Tx K mg) {b : BR} {m : Nat} {ts : List Tie} (ok : OkPuz b m ts) : R2d K (rEqP K T) (puzD T b m ts) (puzD T b m ts) (.bl true) := fun F H s x y hx hy Q q => by
  have hx' := hx
  have hy' := hy
  cases hx with
  | @obj a dx _ fs _ e1 r1 =>
    cases hy with
    | @obj c dy _ gs _ e2 r2 =>
      refine ⟨⟨a, c, dx, dy, fs, gs, rfl, rfl, s _ _ e1, s _ _ e2, F, b, m, ts, s, hx', hy', ok⟩, fun H' e => ?_⟩
      have th : ∀ b, H b ≠ none → H' b ≠ none := fun b h => by
        cases hb : H b with
        | none => exact absurd hb h
        | some o => rw [e b o hb]; exact fun z => by cases z
      exact q _ F H' ⟨fun _ _ h => h, fun a o h => e a o (s a o h), fun a o _ h => e a o h, th, fun a _ h _ => h⟩ (.bl true)
end
end K08
namespace K08
open PySem L2 Eg
open TL (numL joinL spl)
open PyProof.Rows (boot_int boot_tuple boot_bool boot_list boot_str boot_isinstance boot_range boot_enumerate boot_abs)
local macro_rules | `(tactic| walk_at "is") => `(tactic| first | assumption | (refine Fx.is (by assumption) ?_; walk_at "is"))
local macro_rules | `(tactic| walk_at "sz") => `(tactic| first | assumption | omega | (show _ ≤ sizeLine; decide) | (show _ < sizeLine; decide))
local macro_rules | `(tactic| walk_at "r2") => `(tactic| first
  | exact r2_addI | exact r2_addS (by walk_at "sz") | exact r2_addT (by walk_at "sz") | exact r2_addL (by walk_at "sz")
  | exact r2_eqI | exact r2_eqS | exact r2_neI | exact r2_neS | exact r2_lt | exact r2_le | exact r2_gt | exact r2_ge | exact r2_sub | exact r2_isN | exact r2_notN)
local macro_rules | `(tactic| walk_at "ea") => `(tactic| first | exact ea_nil | refine ea_cons (by walk_at "ev") (by walk_at "ea"))
local macro_rules | `(tactic| walk_at "ev") => `(tactic| first
  | exact ev_int | exact ev_str | exact ev_bl | exact ev_non
  | refine ev_var rfl (by walk_at "is")
  | refine ev_op (by walk_at "ev") (by walk_at "ev") (by walk_at "r2")
  | refine ev_tup (by walk_at "ea") (by walk_at "sz")
  | refine ev_lst (by walk_at "ea") (by walk_at "sz")
  | refine ev_cb (by walk_at "ea") (by first | exact rc_len rfl | exact rc_intI | exact rc_tupL | exact rc_tupT))

section
variable {P : Program} {w : World} {K : PySem.W.Frag} {mg : Str → Option Value} {base : Heap}
theorem tieB_ok {b : BR} {m : Nat} {ts : List Tie} (ok : OkPuz b m ts) {t : Tie} (ht : t ∈ ts) : tieB b m (.int t.1) (t.2.map fun c => D.int (c : Nat)) = true := by
  obtain ⟨r, er, el, ec⟩ := ok.tie t ht
  have hl := (List.getElem?_eq_some_iff.mp er).1
  unfold tieB
  show ((decide (0 ≤ ((t.1 : Nat) : Int)) && decide (((t.1 : Nat) : Int) < (b.length : Nat))) && (match b[((t.1 : Nat) : Int).toNat]? with | some r => _ | none => _)) = true
  rw [decide_eq_true (by omega), decide_eq_true (by omega), Int.toNat_natCast, er]
  show (true && (decide ((t.2.map _).length = r.1) && _)) = true
  rw [List.length_map, decide_eq_true el, Bool.true_and, Bool.true_and, List.all_map, List.all_eq_true]
  intro c hc
  have := ec c hc
  show (decide (0 ≤ ((c : Nat) : Int)) && decide (((c : Nat) : Int) < (m : Nat))) = true
  rw [decide_eq_true (by omega), decide_eq_true (by omega)]; rfl
/-- the text of a puzzle is read as it -/
theorem read_ok {b : BR} {m : Nat} {ts : List Tie} (ok : OkPuz b m ts) : readS (textL b m ts) = .ok (⟨b, some m, ts⟩, m) := by
  have e : spl (cs "\n") 0 [] (textL b m ts) = linesL b m ts := by
    unfold textL
    rw [c10]
    exact TL.spl_join (fun h => by have := lines_length (b := b) (m := m) (ts := ts); rw [h] at this; simp at this; omega) fun p hp => (line_plain ok p hp).1
  have h := run_tie ok (Nat.le_refl ts.length) []
  rw [List.append_nil, List.take_of_length_le (Nat.le_refl _), List.take_of_length_le (by rw [lines_length]; omega)] at h
  have h : runS ⟨[], none, []⟩ 0 (linesL b m ts) = .ok (aft b m ts) := h
  unfold readS
  rw [e, h]
theorem hs_app {p q : Addr} {σ : L2.St} {F H : Hp} {E : Ends} {te : TE} {R : D → Prop} {i : Nat} {l : Addr} {xs : List V} (hh : HandAt K F H p q) (s : Same F H) (hi : σ[i]? = some (some (.ref l))) (nf : F l = none) (hl : H l = some (.lst xs)) (nx : ¬ Hx p q l) (hz : xs.length < sizeLine) (h : EvH K p q te σ F H R)
    (k : ∀ v d F2 H2, Fx (Hx p q) F H F2 H2 → HandAt K F2 H2 p q → R d → Is K F2 d v → F2 l = none → E.nx σ (upd H2 l (.lst (xs ++ [v])))) : tDrop (tBM K "list" rAppend (tVar i) (tCons te tNil)) E σ H :=
  ⟨.ref l, hi, .inl ⟨rfl, xs, SqL.of hl⟩, h.go hh s fun v d F2 H2 a h2 hd hv => ⟨l, xs, v, rfl, rfl, (a.m nf hl nx).1, hz, k v d F2 H2 a h2 hd hv (a.m nf hl nx).2⟩⟩
theorem q_pair {σ : L2.St} {F H : Hp} {E : Ends} {te : TE} {tu : TS} {i j : Nat} {d1 d2 : D} (s : Same F H) (h : Ev K te σ F H (.tup [d1, d2])) (k : ∀ x y F2 H2, Fz F H F2 H2 → Is K F2 d1 x → Is K F2 d2 y → tu E ((σ.set i (some x)).set j (some y)) H2) :
    tSeq (tAsg te (gTup K 2 (gCons (gName i) (gCons (gName j) gNil)))) tu E σ H := h.go s fun v F2 H2 a hv => g_pair a.fh hv fun x y hx hy => k x y F2 H2 a hx hy
theorem hq_par {p q : Addr} {σ : L2.St} {F H : Hp} {E : Ends} {ta : TA} {tu : TS} {i j : Nat} {S : List D → Prop} (hh : HandAt K F H p q) (s : Same F H) (h : EvHA K p q ta σ F H S) (k : ∀ vs ds F2 H2, Fx (Hx p q) F H F2 H2 → HandAt K F2 H2 p q → S ds → Iss K F2 ds vs → ∃ v w, vs = [v, w] ∧ tu E ((σ.set i (some v)).set j (some w)) H2) :
    tSeq (tPar i j ta) tu E σ H := h F H (Fx.refl s) hh _ k
theorem all_nats {m : Nat} : ∀ {es : List D}, (∀ e ∈ es, ∃ c : Nat, c < m ∧ e = .int c) → ∃ cs : List Nat, es = cs.map (fun c => D.int (c : Nat)) ∧ cs.length = es.length ∧ ∀ c ∈ cs, c < m
  | [], _ => ⟨[], rfl, rfl, fun r h => by simp at h⟩
  | e :: es, h => by
    obtain ⟨r, m, rfl⟩ := h e (List.mem_cons_self ..)
    obtain ⟨rows, e2, e3, e4⟩ := all_nats fun x hx => h x (List.mem_cons_of_mem _ hx)
    exact ⟨r :: rows, by rw [e2]; rfl, by rw [List.length_cons, List.length_cons, e3], fun c hc => by rcases List.mem_cons.mp hc with rfl | hc; exact m; exact e4 c hc⟩
theorem all_true : ∀ {es : List D}, (∀ e ∈ es, e = .bl true) → es = (List.replicate es.length true).map D.bl
  | [], _ => rfl
  | e :: es, h => by
    rw [h e (List.mem_cons_self ..), List.length_cons, List.replicate_succ, List.map_cons, ← all_true fun x hx => h x (List.mem_cons_of_mem _ hx)]
theorem rep_all : ∀ n, (List.replicate n true).all id = true
  | 0 => rfl
  | n + 1 => by rw [List.replicate_succ, List.all_cons, rep_all n]; rfl
def P_right (K : PySem.W.Frag) : Sp := fun vs H Q _ => ∃ F sc, ∃ st : List Int, Same F H ∧ vs = [V.ref sc] ∧ SqL K F sc (st.map V.int) ∧ st.length ≤ 63 ∧ ∀ H', Q (.bl true) H'
abbrev S_right (sc p : Addr) (vb v6 : V) (many n top : Nat) (o7 o8 : Option V) : L2.St := [some (.ref sc), some (.ref p), some vb, some (.int many), some (.int n), some (.int top), some v6, o7, o8, none, none, none, none, none, none, none, none]
theorem ok_law_right (T : Tx K mg) : FnG P w K mg base CX0 12 T.a_law_right T.fd_law_right ["script"] (P_right K) := by
  refine Eg.Fun.okG T.F_law_right sc_law_right (fun vs H Q E ⟨F, sc, st, _, e, _⟩ => by rw [e]; rfl) (fun cdv A outer s H vs Q E hgd hr h => ?_)
  obtain ⟨F0, sc, st, s0, rfl, hS, h63, k⟩ := h
  refine ⟨_, (pss_cons (ps_set (i := 1) sc_law_right.nd rfl (by first | exact Or.inl rfl | exact Or.inr rfl) (pe_call (ok_law_hand T) (hr.mono (by decide)) rfl T.mg_law_hand T.F_law_hand.kp T.b_law_hand .nil pass0 (pa_cons (pv 0) pa_nil)))
    (pss_cons (ps_set (i := 2) sc_law_right.nd rfl (by first | exact Or.inl rfl | exact Or.inr rfl) (pe_call (ok_law_book T) (hr.mono (by decide)) rfl T.mg_law_book T.F_law_book.kp T.b_law_book .nil pass0 (pa_cons (pv 1) (pa_cons pe_int pa_nil))))
    (pss_cons (ps_par (i := 3) (j := 4) rfl sc_law_right.nd rfl rfl (by decide) rfl rfl (pa_cons (pe_op (opK K Eg.rAddA op_addA) pe_int (pe_call (ok_law_take T) (hr.mono (by decide)) rfl T.mg_law_take T.F_law_take.kp T.b_law_take .nil pass0 (pa_cons (pv 1) (pa_cons pe_int pa_nil)))) (pa_cons (pe_call (ok_law_take T) (hr.mono (by decide)) rfl T.mg_law_take T.F_law_take.kp T.b_law_take .nil pass0 (pa_cons (pv 1) (pa_cons pe_int pa_nil))) pa_nil)) rfl)
    (pss_cons (ps_if (pt_cmpR (opK K Eg.rEqA (op_eqA hr)) (pe_call (ok_law_take T) (hr.mono (by decide)) rfl T.mg_law_take T.F_law_take.kp T.b_law_take .nil pass0 (pa_cons (pv 1) (pa_cons pe_int pa_nil))) pe_int (nomark _)) (pss_one (ps_set (i := 4) sc_law_right.nd rfl (by first | exact Or.inl rfl | exact Or.inr rfl) (pe_op (opK K Eg.rAddA op_addA) pe_int (pe_call (ok_law_take T) (hr.mono (by decide)) rfl T.mg_law_take T.F_law_take.kp T.b_law_take .nil pass0 (pa_cons (pv 1) (pa_cons pe_int pa_nil)))))) pss_nil)
    (pss_cons (ps_set (i := 5) sc_law_right.nd rfl (by first | exact Or.inl rfl | exact Or.inr rfl) (pv 3))
    (pss_cons (ps_if (pt_cmpR (opK K Eg.rEqA (op_eqA hr)) (pe_call (ok_law_take T) (hr.mono (by decide)) rfl T.mg_law_take T.F_law_take.kp T.b_law_take .nil pass0 (pa_cons (pv 1) (pa_cons pe_int pa_nil))) pe_int (nomark _)) (pss_one (ps_set (i := 5) sc_law_right.nd rfl (by first | exact Or.inl rfl | exact Or.inr rfl) (pe_ix (ixK K ix_seq) (pe_lst (pa_cons pe_int (pa_cons pe_int (pa_cons pe_int (pa_cons pe_int pa_nil))))) (pe_call (ok_law_take T) (hr.mono (by decide)) rfl T.mg_law_take T.F_law_take.kp T.b_law_take .nil pass0 (pa_cons (pv 1) (pa_cons pe_int pa_nil))) (fun _ _ => rfl)))) pss_nil)
    (pss_cons (ps_set (i := 6) sc_law_right.nd rfl (by first | exact Or.inl rfl | exact Or.inr rfl) (pe_lst pa_nil))
    (pss_cons (ps_for PassesOwn.never rfl (pi_range1 (by rfl) T.n_range (pa_cons (pv 4) pa_nil)) (pg_name (i := 7) sc_law_right.nd rfl (by first | exact Or.inl rfl | exact Or.inr rfl)) (pss_cons (ps_set (i := 8) sc_law_right.nd rfl (by first | exact Or.inl rfl | exact Or.inr rfl) (pe_call (ok_law_take T) (hr.mono (by decide)) rfl T.mg_law_take T.F_law_take.kp T.b_law_take .nil pass0 (pa_cons (pv 1) (pa_cons (pe_callB (callK K Eg.rLen call_lenA) (by rfl) T.n_len (by decide +kernel) (pa_cons (pv 2) pa_nil)) pa_nil))))
    (pss_one (ps_expr (pe_bmK K PySem.F.plainAttrs_list PySem.F.slot_list_append PySem.F.type_list_append mt_append (pv 6) (pa_cons (pe_tup (pa_cons (pv 8) (pa_cons (pe_callTy (callK K Eg.rTupOf call_tupOf) (by rfl) T.n_tuple (by decide +kernel) (pa_cons (pe_lc (own := [("j", 9)]) rfl sc_law_right.nd (pi_range1 (by rfl) T.n_range (pa_cons (pe_ix (ixK K ix_seq) (pe_ix (ixK K ix_seq) (pv 2) (pv 8) (fun _ _ => rfl)) pe_int (fun _ _ => rfl)) pa_nil)) (blkOk_by (own := [("j", 9)]) (N := N_law_right) (sc := defScope s_law_right) (by decide +kernel)) (fun _ _ _ _ _ => (pg_name (i := 9) sc_law_right.nd rfl (by first | exact Or.inl rfl | exact Or.inr rfl))) (fun _ _ _ _ _ => pts_nil) (fun _ _ _ _ _ => (pe_call (ok_law_take T) (hr.mono (by decide)) rfl T.mg_law_take T.F_law_take.kp T.b_law_take .nil pass0 (pa_cons (pv 1) (pa_cons (pv 5) pa_nil))))) pa_nil)) pa_nil))) pa_nil))))))
    (pss_cons (ps_set (i := 6) sc_law_right.nd rfl (by first | exact Or.inl rfl | exact Or.inr rfl) (pe_callTy (callK K Eg.rTupOf call_tupOf) (by rfl) T.n_tuple (by decide +kernel) (pa_cons (pv 6) pa_nil)))
    (pss_cons (ps_set (i := 10) sc_law_right.nd rfl (by first | exact Or.inl rfl | exact Or.inr rfl) (pe_call (ok_law_lines T) (hr.mono (by decide)) rfl T.mg_law_lines T.F_law_lines.kp T.b_law_lines .nil pass0 (pa_cons (pv 2) (pa_cons (pv 5) (pa_cons (pv 6) pa_nil)))))
    (pss_cons (ps_set (i := 11) sc_law_right.nd rfl (by first | exact Or.inl rfl | exact Or.inr rfl) (pe_bmK K PySem.F.plainAttrs_str PySem.F.slot_str_join PySem.F.type_str_join (mtK K Eg.rJoin mt_joinA) pe_str (pa_cons (pv 10) pa_nil)))
    (pss_cons (ps_asg (pe_call (ok_law_read T) (hr.mono (by decide)) rfl T.mg_law_read T.F_law_read.kp T.b_law_read .nil pass0 (pa_cons (pv 11) pa_nil)) (pg_tupK (n := 2) K rfl (pgs_cons (pg_name (i := 12) sc_law_right.nd rfl (by first | exact Or.inl rfl | exact Or.inr rfl)) (pgs_cons (pg_name (i := 13) sc_law_right.nd rfl (by first | exact Or.inl rfl | exact Or.inr rfl)) pgs_nil))))
    (pss_cons (ps_if (PW.pt (pw_or (pt_cmpR (opK K Eg.rNeA (op_neA hr)) (pv 12) pe_str (nomark _)) (pw_or (pt_not (pt_val (pe_callG hgd (ok_law_is_same T) (hr.mono (by decide)) rfl T.mg_law_is_same T.F_law_is_same.kp T.b_law_is_same pass0 (pa_cons (pv 13) (pa_cons (pv 2) (pa_cons (pv 5) (pa_cons (pv 6) pa_nil))))))) (pw_or1 (pt_cmpR (opK K Eg.rNeA (op_neA hr)) (pe_call (ok_write_puzzle T) (hr.mono (by decide)) rfl T.mg_write_puzzle T.F_write_puzzle.kp T.b_write_puzzle .nil pass0 (pa_cons (pv 13) pa_nil)) (pv 11) (nomark _)))))) (pss_one (ps_ret pe_bl)) pss_nil)
    (pss_cons (ps_if (pt_cmpR (opK K Eg.rEqA (op_eqA hr)) (pv 5) (pv 3) (nomark _)) (pss_cons (ps_set (i := 14) sc_law_right.nd rfl (by first | exact Or.inl rfl | exact Or.inr rfl) (pe_make T.M_Puzzle (ok_Puzzle_init T) (hr.mono (by decide)) rfl T.mc_Puzzle T.b_Puzzle_init .nil pass0 (pa_cons (pe_make T.M_Book (ok_Book_init T) (hr.mono (by decide)) rfl T.mc_Book T.b_Book_init .nil pass0 (pa_cons (pe_lc (own := [("size", 15), ("rows", 16)]) rfl sc_law_right.nd (pi_seqK K (pv 2)) (blkOk_by (own := [("size", 15), ("rows", 16)]) (N := N_law_right) (sc := defScope s_law_right) (by decide +kernel)) (fun _ _ _ _ _ => (pg_tupK (n := 2) K rfl (pgs_cons (pg_name (i := 15) sc_law_right.nd rfl (by first | exact Or.inl rfl | exact Or.inr rfl)) (pgs_cons (pg_name (i := 16) sc_law_right.nd rfl (by first | exact Or.inl rfl | exact Or.inr rfl)) pgs_nil)))) (fun _ _ _ _ _ => pts_nil) (fun _ _ _ _ _ => (pe_make T.M_Relation (ok_Relation_init T) (hr.mono (by decide)) rfl T.mc_Relation T.b_Relation_init .nil pass0 (pa_cons (pv 15) (pa_cons (pv 16) pa_nil))))) pa_nil)) (pa_cons (pv 3) (pa_cons (pv 6) pa_nil)))))
    (pss_one (ps_if (PW.pt (pw_or (pt_cmpR (opK K Eg.rNeA (op_neA hr)) (pe_call (ok_write_puzzle T) (hr.mono (by decide)) rfl T.mg_write_puzzle T.F_write_puzzle.kp T.b_write_puzzle .nil pass0 (pa_cons (pv 14) pa_nil)) (pv 11) (nomark _)) (pw_or1 (pt_not (pt_cmpR (op_eqP (k := 11) T hr (by decide)) (pv 14) (pv 13) (nomark _)))))) (pss_one (ps_ret pe_bl)) pss_nil))) pss_nil)
    (pss_one (ps_ret (pe_callB (callK K rAll (cr_all rfl)) (by rfl) T.n_all (by decide +kernel) (pa_cons (pe_lc (own := [("k", 7)]) rfl sc_law_right.nd (pi_range1 (by rfl) T.n_range (pa_cons pe_int pa_nil)) (blkOk_by (own := [("k", 7)]) (N := N_law_right) (sc := defScope s_law_right) (by decide +kernel)) (fun _ _ _ _ _ => (pg_name (i := 7) sc_law_right.nd rfl (by first | exact Or.inl rfl | exact Or.inr rfl))) (fun _ _ _ _ _ => pts_nil) (fun _ _ _ _ _ => (pe_callG hgd (ok_law_is_told T) (hr.mono (by decide)) rfl T.mg_law_is_told T.F_law_is_told.kp T.b_law_is_told pass0 (pa_cons (pv 1) (pa_cons (pv 2) (pa_cons (pv 5) (pa_cons (pv 6) (pa_cons (pv 10) pa_nil)))))))) pa_nil)))))))))))))))))), ?_⟩
  have s1 := sizeLine_eq
  refine ⟨V.ref sc, rfl, F0, sc, st, s0, rfl, hS, h63, fun p q F H a0 hh np nq => ?_⟩
  have sF := a0.fh
  clear a0 s0 hS
  -- book
  refine h_asg (p := p) (q := q) (R := fun d => ∃ b : BR, d = .lst (b.map plainD) ∧ 0 < b.length ∧ b.length ≤ 6 ∧ ∀ r ∈ b, OkRel r) hh sF (evh_call (S := fun ds => ds = [.int ((6 : Nat) : Int)]) rfl (evha_of (fun F1 H1 a _ => ea_cons ev_int ea_nil) rfl) (fun ds e => by
    subst e
    refine ⟨⟨6, rfl, by decide, by decide⟩, fun d ⟨mo, b, e, ed, b0, bm, hb⟩ => ⟨b, ed, b0, ?_, hb⟩⟩
    injection e with e _
    injection e with e
    omega)) fun vb db F1 H1 a1 hh1 ⟨b, eb, b0, b6, br⟩ hvb => ?_
  subst eb
  -- many, tie_count
  refine hq_par (p := p) (q := q) hh1 a1.fh (evha_cons (A := fun d => ∃ r : Nat, r < 40 ∧ d = .int (1 + r : Nat)) (S := fun ds => ∃ r : Nat, r < 24 ∧ ds = [.int r]) (R := fun ds => ∃ r t : Nat, r < 40 ∧ t < 24 ∧ ds = [.int (1 + r : Nat), .int t])
    (evh_op (A := fun d => d = .int 1) (B := fun d => ∃ r : Nat, r < 40 ∧ d = .int r) (evh_of (fun _ _ _ _ => ev_int) rfl) (evh_take (m := 40) rfl (fun F2 H2 a hh => ev_int) (by decide) (fun r hr => ⟨r, hr, rfl⟩)) (fun d e hd ⟨r, hr, he⟩ => by
        subst hd he
        exact ⟨_, ⟨r, hr, rfl⟩, by have h := r2_addI (K := K) (i := 1) (j := (r : Nat)); rw [show (1 : Int) + (r : Nat) = ((1 + r : Nat) : Int) by omega] at h; exact h⟩))
    (evha_cons (A := fun d => ∃ r : Nat, r < 24 ∧ d = .int r) (S := fun ds => ds = []) (evh_take (m := 24) rfl (fun F2 H2 a hh => ev_int) (by decide) (fun r hr => ⟨r, hr, rfl⟩)) evha_nil (fun d ds ⟨r, hr, e1⟩ e2 => ⟨r, hr, by rw [e1, e2]⟩))
    (fun d ds ⟨r, hr, e1⟩ ⟨t, ht, e2⟩ => ⟨r, t, hr, ht, by rw [e1, e2]⟩)) fun vs ds F2 H2 a2 hh2 ⟨r, t, hr, ht, ed⟩ hvs => ?_
  subst ed
  obtain ⟨v3, v4, rfl, hv3, hv4⟩ := iss2 hvs
  cases hv3
  cases hv4
  refine ⟨_, _, rfl, ?_⟩
  have many40 : 1 + r ≤ 40 := by omega
  have many1 : 1 ≤ 1 + r := by omega
  generalize 1 + r = many at many40 many1
  have s2 := a2.fh
  have hvb := a2.is hvb
  clear a1 a2
  -- tie_count
  refine hq_whenT (p := p) (q := q) (fun σ' H3 => ∃ F3 n, Fx (Hx p q) F2 H2 F3 H3 ∧ HandAt K F3 H3 p q ∧ n ≤ 200 ∧ σ' = ([some (.ref sc), some (.ref p), some vb, some (.int many), some (.int (n : Nat)), none, none, none, none, none, none, none, none, none, none, none, none] : L2.St)) hh2 s2
    (eht_test (evh_op (A := fun d => ∃ r : Nat, r < 6 ∧ d = .int r) (B := fun d => d = .int 0) (evh_take (m := 6) (by rfl) (fun F2 H2 a hh => ev_int) (by decide) (fun r hr => ⟨r, hr, rfl⟩)) (evh_of (fun _ _ _ _ => ev_int) rfl) (fun d e ⟨r, hr, hd⟩ he => by subst hd he; exact ⟨_, ⟨_, rfl⟩, r2_eqI⟩))) ?_ ?_
    (fun F3 H3 a3 h3 => ⟨F3, t, a3, h3, by omega, rfl⟩)
  rotate_left
  · intro tl F3 H3 a3 h3
    refine h_asg (p := p) (q := q) (R := fun d => ∃ r : Nat, r < 141 ∧ d = .int (60 + r : Nat)) h3 a3.fh (evh_op (A := fun d => d = .int 60) (B := fun d => ∃ r : Nat, r < 141 ∧ d = .int r) (evh_of (fun _ _ _ _ => ev_int) rfl) (evh_take (m := 141) rfl (fun F2 H2 a hh => ev_int) (by decide) (fun r hr => ⟨r, hr, rfl⟩)) (fun d e hd ⟨r, hr, he⟩ => by
        subst hd he
        exact ⟨_, ⟨r, hr, rfl⟩, by have h := r2_addI (K := K) (i := 60) (j := (r : Nat)); rw [show (60 : Int) + (r : Nat) = ((60 + r : Nat) : Int) by omega] at h; exact h⟩)) fun v5 d5 F4 H4 a4 h4 ⟨r, hr, e5⟩ hv5 => ?_
    subst e5
    cases hv5
    exact tl _ _ ⟨F4, 60 + r, a3.trans a4, h4, by omega, rfl⟩
  rintro σ' H3 ⟨F3, n, a3, hh3, n200, rfl⟩
  have hvb := a3.is hvb
  have s3 := a3.fh
  clear a3 s2 sF
  refine q_asg (K := K) s3 (ev_var (i := 3) rfl (.int many)) fun v5 F4 H4 a4 hv5 => ?_
  cases hv5
  have hh4 := hh3.keep a4
  have hvb := a4.is hvb
  have s4 := a4.fh
  clear a4 s3
  refine hq_whenT (p := p) (q := q) (fun σ' H5 => ∃ F5 top, Fx (Hx p q) F4 H4 F5 H5 ∧ HandAt K F5 H5 p q ∧ 0 < top ∧ top < 10 ^ 6 ∧ σ' = ([some (.ref sc), some (.ref p), some vb, some (.int many), some (.int (n : Nat)), some (.int (top : Nat)), none, none, none, none, none, none, none, none, none, none, none] : L2.St)) hh4 s4
    (eht_test (evh_op (A := fun d => ∃ r : Nat, r < 4 ∧ d = .int r) (B := fun d => d = .int 0) (evh_take (m := 4) (by rfl) (fun F2 H2 a hh => ev_int) (by decide) (fun r hr => ⟨r, hr, rfl⟩)) (evh_of (fun _ _ _ _ => ev_int) rfl) (fun d e ⟨r, hr, hd⟩ he => by subst hd he; exact ⟨_, ⟨_, rfl⟩, r2_eqI⟩))) ?_ ?_
    (fun F3 H3 a3 h3 => ⟨F3, many, a3, h3, many1, by omega, rfl⟩)
  rotate_left
  · intro tl F5 H5 a5 h5
    refine h_asg (p := p) (q := q) (R := fun d => ∃ c : Nat, 0 < c ∧ c < 10 ^ 6 ∧ d = .int c) h5 a5.fh (evh_op (A := fun d => d = .lst [.int ((999999 : Nat) : Int), .int ((100000 : Nat) : Int), .int ((99999 : Nat) : Int), .int ((123456 : Nat) : Int)]) (B := fun d => ∃ r : Nat, r < 4 ∧ d = .int r) (evh_of (fun _ _ _ _ => ev_lst (ea_cons ev_int (ea_cons ev_int (ea_cons ev_int (ea_cons ev_int ea_nil)))) (by rw [s1]; show 4 ≤ _; decide)) rfl) (evh_take (m := 4) (by rfl) (fun F2 H2 a hh => ev_int) (by decide) (fun r hr => ⟨r, hr, rfl⟩)) (fun d e hd ⟨r, hr, he⟩ => by
        subst hd he
        have cc : r = 0 ∨ r = 1 ∨ r = 2 ∨ r = 3 := by omega
        rcases cc with rfl | rfl | rfl | rfl
        · exact ⟨_, ⟨999999, by decide, by decide, rfl⟩, r2_ixL rfl⟩
        · exact ⟨_, ⟨100000, by decide, by decide, rfl⟩, r2_ixL rfl⟩
        · exact ⟨_, ⟨99999, by decide, by decide, rfl⟩, r2_ixL rfl⟩
        · exact ⟨_, ⟨123456, by decide, by decide, rfl⟩, r2_ixL rfl⟩)) fun v6 d6 F6 H6 a6 h6 ⟨c, c0, c6, e6⟩ hv6 => ?_
    subst e6
    cases hv6
    exact tl _ _ ⟨F6, c, a5.trans a6, h6, c0, c6, rfl⟩
  rintro σ' H5 ⟨F5, top, a5, hh5, top0, top6, rfl⟩
  have hvb := a5.is hvb
  have s5 := a5.fh
  clear a5 s4
  -- ties
  refine q_asgL (K := K) s5 evl_nil fun l acc F6 H6 a6 nl n0 hl hacc => ?_
  cases hacc
  have hh6 := hh5.keep a6
  obtain ⟨lp, lq⟩ := hh5.ne_of n0
  have nx : ¬ Hx p q l := fun z => z.elim lp lq
  have hvb6 := a6.is hvb
  refine hq_fora (p := p) (q := q) (PX := fun xs : List Nat => xs.length ≤ 200) hh6 a6.fh (waH_range (S := fun ds => ds = [.int n]) (evha_of (fun F7 H7 a7 _ => ea_cons (ev_var (by rfl) (.int (n : Nat))) ea_nil) rfl) (fun ds e => ⟨n, e, by omega, by rw [List.length_range]; exact n200⟩))
    (fun xs pre post σ' F' H' => ∃ acc, ∃ ts : List Tie, ∃ o7 o8, Fx (Hx p q) F5 H5 F' H' ∧ HandAt K F' H' p q ∧ σ' = S_right sc p vb (.ref l) many n top o7 o8 ∧ F' l = none ∧ H' l = some (.lst acc) ∧ Iss K F' (ts.map tieD) acc ∧ ts.length = pre.length ∧ (∀ t ∈ ts, ∃ r, b[t.1]? = some r ∧ t.2.length = r.1 ∧ ∀ c ∈ t.2, c < top))
    (fun xs F7 H7 px a7 h7 => ⟨[], [], none, none, a6.of.trans a7, h7, rfl, (a7.m nl hl nx).2, (a7.m nl hl nx).1, .nil, rfl, fun r h => by simp at h⟩) (fun _ _ _ _ _ _ ⟨_, _, _, _, h, _⟩ => h.fh) ?_ ?_
  · intro xs B pre i post σ' F' H' xi F7 H7 px e sB ⟨acc, ts, o7, o8, z, h', eσ, nl', hl', hb, bl, bo⟩ a7 hxi
    subst eσ
    have lpre : pre.length < 200 := by
      have := congrArg List.length e
      rw [List.length_append, List.length_cons] at this; omega
    have h7 := h'.keep a7
    have m7 := a7.m nl' hl' id
    have z7 := z.trans a7.of
    have hb7 := z7.is hvb
    show tSeq _ _ _ (S_right sc p vb (.ref l) many n top (some xi) o8) H7
    refine h_asg (p := p) (q := q) (R := fun d => ∃ r : Nat, r < b.length ∧ d = .int r) h7 a7.fh (evh_take (m := b.length) (by rfl) (fun F2 H2 a hh => ev_cb (ea_cons (ev_var (i := 2) (by rfl) (a.is hb7)) ea_nil) (rc_len (by show some _ = _; rw [List.length_map]))) b0 (fun r hr => ⟨r, hr, rfl⟩)) fun v8 d8 F8 H8 a8 h8 ⟨r, hr, e8⟩ hv8 => ?_
    subst e8
    cases hv8
    have m8 := a8.m m7.2 m7.1 nx
    have hb8 := a8.is hb7
    have atB : L2.atI (b.map plainD) (r : Int) = some (plainD b[r]) := atI_of (by omega) (by rw [Int.toNat_natCast, List.getElem?_map, List.getElem?_eq_getElem hr]; rfl)
    have rel := br _ (List.getElem_mem hr)
    show tDrop _ _ (S_right sc p vb (.ref l) many n top (some xi) (some (.int (r : Nat)))) H8
    refine hs_app (p := p) (q := q) (R := fun d => ∃ cs : List Nat, d = tieD (r, cs) ∧ cs.length = b[r].1 ∧ ∀ c ∈ cs, c < top) h8 a8.fh (by rfl) m8.2 m8.1 nx (by rw [← hb.length, List.length_map, bl, s1]; omega)
      (evh_tup (S := fun ds => ∃ cs : List Nat, ds = [.int r, intsD cs] ∧ cs.length = b[r].1 ∧ ∀ c ∈ cs, c < top) (evha_cons (A := fun d => d = .int r) (S := fun ds => ∃ cs : List Nat, ds = [intsD cs] ∧ cs.length = b[r].1 ∧ ∀ c ∈ cs, c < top) (evh_of (fun F9 H9 a9 _ => ev_var (i := 8) (by rfl) (.int (r : Nat))) rfl)
        (evha_cons (A := fun d => ∃ cs : List Nat, d = intsD cs ∧ cs.length = b[r].1 ∧ ∀ c ∈ cs, c < top) (S := fun ds => ds = []) (evh_cb (S := fun ds => ∃ cs : List Nat, ds = [.lst (cs.map fun c => D.int (c : Nat))] ∧ cs.length = b[r].1 ∧ ∀ c ∈ cs, c < top) (evha_cons (A := fun d => ∃ cs : List Nat, d = .lst (cs.map fun c => D.int (c : Nat)) ∧ cs.length = b[r].1 ∧ ∀ c ∈ cs, c < top) (S := fun ds => ds = [])
          (evh_la (A := fun d => ∃ c : Nat, c < top ∧ d = .int c) (PX := fun xs : List Nat => xs.length = b[r].1) (waH_range (S := fun ds => ds = [.int b[r].1]) (evha_of (fun F9 H9 a9 _ => ea_cons (ev_op (ev_op (ev_var (i := 2) (by rfl) (a9.is hb8)) (ev_var (i := 8) (by rfl) (.int (r : Nat))) (r2_ixL atB)) ev_int (r2_ixT rfl)) ea_nil) rfl) (fun ds e => ⟨b[r].1, e, by have := rel.2.1; omega, by rw [List.length_range]⟩))
            (fun x => rfl) (fun xs px d hd F9 H9 x a9 hx => evh_take (m := top) (by rfl) (fun F10 H10 a10 _ => ev_var (i := 5) (by rfl) (.int (top : Nat))) top0 (fun r hr => ⟨r, hr, rfl⟩)) (fun xs px => by rw [s1]; have := rel.2.1; omega) (fun xs es px le al => by
              obtain ⟨cs, e1, e2, e3⟩ := all_nats al
              exact ⟨cs, by rw [e1], by omega, e3⟩))
          evha_nil (fun d ds ⟨cs, e1, e3⟩ e2 => ⟨cs, by rw [e1, e2], e3⟩)) (fun ds ⟨cs, e1, e3⟩ => by subst e1; exact ⟨_, ⟨cs, rfl, e3⟩, rc_tupL⟩))
          evha_nil (fun d ds ⟨cs, e1, e3⟩ e2 => ⟨cs, by rw [e1, e2], e3⟩)) (fun d ds e1 ⟨cs, e2, e3⟩ => ⟨cs, by rw [e1, e2], e3⟩)) (fun ds ⟨cs, e1, e3⟩ => by subst e1; exact ⟨by rw [s1]; show 2 ≤ _; decide, cs, rfl, e3⟩))
      fun v9 d9 F9 H9 a9 h9 ⟨cs, ed, cl, ct⟩ hv9 nl9 => ?_
    subst ed
    have a79 := a7.of.trans (a8.trans a9)
    refine ⟨F9, sB.trans a79.ff, acc ++ [v9], ts ++ [(r, cs)], _, _, (z.trans a79).mut (.inl n0) nl9, h9.other lp lq, rfl, nl9, upd_same, ?_, ?_, ?_⟩
    · rw [List.map_append]
      exact (Fx.iss a79 hb).snoc hv9
    · rw [List.length_append, List.length_append, bl]; rfl
    · intro t ht
      rcases List.mem_append.mp ht with ht | ht
      · exact bo t ht
      · rw [List.mem_singleton] at ht
        subst ht
        exact ⟨b[r], List.getElem?_eq_getElem hr, cl, ct⟩
  rintro xs σ' F7 H7 px ⟨acc, ts, o7, o8, z7, hh7, rfl, nl7, hl7, hb7, bl, bo⟩
  have ok : OkPuz b top ts := ⟨b0, b6, br, top6, by omega, bo⟩
  have sS := frz_same z7.fh nl7 hl7
  have hh8 : HandAt K (upd F7 l (.lst acc)) H7 p q := hh7.frz lp lq nl7
  have hv6 : Is K (upd F7 l (.lst acc)) (.lst (ts.map tieD)) (.ref l) := .lst upd_same (Iss.up sS.1 _ _ hb7)
  have hvb : Is K (upd F7 l (.lst acc)) (.lst (b.map plainD)) vb := Is.up sS.1 _ _ (z7.is hvb)
  have s8 := sS.2
  generalize upd F7 l (.lst acc) = F8 at hh8 hv6 hvb s8
  clear hh7 hb7 sS z7 nl7 hl7 hvb6 hh6 a6 hh5 s5 hh4 hh3 hh2 hh1 hl n0 nl
  -- ties = tuple(ties)
  refine q_asg s8 (ev_cb (ea_cons (ev_var (i := 6) (by rfl) hv6) ea_nil) rc_tupL) fun v6 F9 H9 a9 hv6 => ?_
  have hh9 := hh8.keep a9
  have hvb := a9.is hvb
  -- lines
  refine q_asg a9.fh (ev_call (ea_cons (ev_var (i := 2) (by rfl) hvb) (ea_cons (ev_var (i := 5) (by rfl) (.int (top : Nat))) (ea_cons (ev_var (i := 6) (by rfl) hv6) ea_nil))) ⟨b, top, ts, rfl, ok, rfl⟩) fun v10 F10 H10 a10 hv10 => ?_
  have hh10 := hh9.keep a10
  have hvb := a10.is hvb
  have hv6 := a10.is hv6
  have ll := lines_len ok
  have tl := text_len ok
  -- text
  refine q_asg a10.fh (ev_bmS ev_txt (ea_cons (ev_var (i := 10) (by rfl) hv10) ea_nil) (z := tD (textL b top ts)) (rm_joinX (Nat.le_trans (join_size ll.1 ll.2) (by decide)))) fun v11 F11 H11 a11 hv11 => ?_
  have hh11 := hh10.keep a11
  have hvb := a11.is hvb
  have hv6 := a11.is hv6
  have hv10 := a11.is hv10
  -- word, puzzle
  refine q_pair (d1 := tD (cs "puzzle")) (d2 := puzD T b top ts) a11.fh (ev_call (ea_cons (ev_var (i := 11) (by rfl) hv11) ea_nil) ⟨textL b top ts, rfl, by omega, by rw [read_ok ok]; rfl⟩) fun v12 v13 F12 H12 a12 hv12 hv13 => ?_
  have hh12 := hh11.keep a12
  have hvb := a12.is hvb
  have hv6 := a12.is hv6
  have hv10 := a12.is hv10
  have hv11 := a12.is hv11
  have wr : R_write_puzzle T [puzD T b top ts] (tD (textL b top ts)) := ⟨b, top, ts, rfl, ok, rfl⟩
  refine q_when (b := false) a12.fh (et_or (x := false) (y := false) (EvT.cast (et_test (ev_op (ev_var (i := 12) (by rfl) hv12) ev_txt r2_neX)) (by simp)) fun _ => et_or (x := false) (y := false) (EvT.cast (et_not (et_test (ev_call (R := R_is_same T) (d := .bl true) (ea_cons (ev_var (i := 13) (by rfl) hv13) (ea_cons (ev_var (i := 2) (by rfl) hvb) (ea_cons (ev_var (i := 5) (by rfl) (.int (top : Nat))) (ea_cons (ev_var (i := 6) (by rfl) hv6) ea_nil)))) ⟨b, top, ts, rfl, ok, rfl⟩))) rfl) fun _ =>
    EvT.cast (et_test (ev_op (ev_call (ea_cons (ev_var (i := 13) (by rfl) hv13) ea_nil) wr) (ev_var (i := 11) (by rfl) hv11) r2_neX)) (by simp)) (fun z => by cases z) fun _ F13 H13 a13 => ?_
  have hh13 := hh12.keep a13
  have hvb := a13.is hvb
  have hv6 := a13.is hv6
  have hv10 := a13.is hv10
  have hv11 := a13.is hv11
  have hv13 := a13.is hv13
  -- top == many
  refine q_whenT (b := decide (top = many)) (fun σ' H14 => ∃ F14 o14, Fz F13 H13 F14 H14 ∧ σ' = ([some (.ref sc), some (.ref p), some vb, some (.int many), some (.int (n : Nat)), some (.int (top : Nat)), some v6, o7, o8, none, some v10, some v11, some v12, some v13, o14, none, none] : L2.St)) a13.fh
    (EvT.cast (et_test (ev_op (ev_var (i := 5) (by rfl) (.int (top : Nat))) (ev_var (i := 3) (by rfl) (.int (many : Nat))) r2_eqI)) (by congr 1; exact propext (by omega))) ?_ ?_ (fun _ F14 H14 a14 => ⟨F14, none, a14, rfl⟩)
  rotate_left
  · intro tl hb F14 H14 a14
    have hb := of_decide_eq_true hb
    subst hb
    refine q_asg (d := puzD T b top ts) a14.fh (ev_make (ea_cons (ev_make (gs := bookF T b) (ea_cons (ev_la2 (xs := b) (d1 := fun r => .int r.1) (d2 := fun r => .tup (r.2.map rowD)) (wa_seqL (ev_var (i := 2) (by rfl) (a14.is hvb))) (relD T) (fun x y => rfl) (fun r hr F15 H15 x y a15 hx hy => by
      have rel := br r hr
      have hl := rel.few
      exact ev_make (gs := relF r.1 r.2) (ea_cons (ev_var (i := 15) (by rfl) hx) (ea_cons (ev_var (i := 16) (by rfl) hy) ea_nil)) ⟨r.2, r.1, .inr rfl, rel.2.2.2.1, List.length_pos_iff.mpr rel.2.2.1, rel.1, rel.2.1, by rw [s1]; omega, by rw [srt_self rel.2.2.2.1 rel.2.2.2.2]⟩)
      (by rw [s1]; omega)) ea_nil) ⟨b, rfl, b0, b6, rfl⟩) (ea_cons (ev_var (i := 3) (by rfl) (.int (top : Nat))) (ea_cons (ev_var (i := 6) (by rfl) (a14.is hv6)) ea_nil))) ⟨b, top, ts, .inr rfl, b6, by rw [s1]; omega, fun t ht => tieB_ok ok ht, rfl⟩) fun v14 F15 H15 a15 hv14 => ?_
    have a1315 := a14.trans a15
    refine s_if (b := false) a15.fh (et_or (x := false) (y := false) (EvT.cast (et_test (ev_op (ev_call (ea_cons (ev_var (i := 14) (by rfl) hv14) ea_nil) wr) (ev_var (i := 11) (by rfl) (a1315.is hv11)) r2_neX)) (by simp)) fun _ => EvT.cast (et_not (et_test (ev_op (ev_var (i := 14) (by rfl) hv14) (ev_var (i := 13) (by rfl) (a1315.is hv13)) (r2_eqP T ok)))) rfl) (fun z => by cases z) fun _ F16 H16 a16 => ?_
    exact tl _ _ ⟨F16, some v14, a1315.trans a16, rfl⟩
  rintro σ' H14 ⟨F14, o14, a14, rfl⟩
  have hvb := a14.is hvb
  have hv6 := a14.is hv6
  have hv10 := a14.is hv10
  refine h_ret (p := p) (q := q) (R := fun d => d = .bl true) (hh13.keep a14) a14.fh (evh_cb (S := fun ds => ∃ es : List D, ds = [.lst es] ∧ ∀ e ∈ es, e = .bl true) (evha_cons (A := fun d => ∃ es : List D, d = .lst es ∧ ∀ e ∈ es, e = .bl true) (S := fun ds => ds = [])
    (evh_la (A := fun d => d = .bl true) (PX := fun xs : List Nat => xs.length ≤ 4) (waH_range (S := fun ds => ds = [.int ((4 : Nat) : Int)]) (evha_of (fun F9 H9 a9 _ => ea_cons ev_int ea_nil) rfl) (fun ds e => ⟨4, e, by decide, by rw [List.length_range]; decide⟩))
      (fun x => rfl) (fun xs px d hd F15 H15 x a15 hx => evh_call (S := fun ds => ds = [.lst (b.map plainD), .int (top : Nat), .tup (ts.map tieD), .lst ((linesL b top ts).map tD)]) (by rfl) (evha_of (fun F16 H16 a16 _ => ea_cons (ev_var (i := 2) (by rfl) ((a15.trans a16).is hvb)) (ea_cons (ev_var (i := 5) (by rfl) (.int (top : Nat))) (ea_cons (ev_var (i := 6) (by rfl) ((a15.trans a16).is hv6)) (ea_cons (ev_var (i := 10) (by rfl) ((a15.trans a16).is hv10)) ea_nil)))) rfl)
        (fun ds e => ⟨⟨b, top, ts, ok, e⟩, fun d hd => hd⟩)) (fun xs px => by rw [s1]; omega) (fun xs es px le al => ⟨es, rfl, al⟩))
    evha_nil (fun d ds ⟨es, e1, e3⟩ e2 => ⟨es, by rw [e1, e2], e3⟩)) (fun ds ⟨es, e1, e3⟩ => by
      subst e1
      have e := all_true e3
      refine ⟨_, rfl, ?_⟩
      rw [e]
      have h := rc_all (K := K) (bs := List.replicate es.length true)
      rw [rep_all] at h
      exact h)) fun v15 d15 F15 H15 a15 h15 e15 hv15 => ?_
  subst e15
  cases hv15
  exact k H15
end
end K08
namespace K08
open PySem L2 Eg
open PyProof.Rows (boot_int boot_tuple boot_bool boot_list boot_str boot_isinstance boot_range boot_enumerate boot_abs)
local macro_rules | `(tactic| walk_at "is") => `(tactic| first | assumption | (refine Fx.is (by assumption) ?_; walk_at "is"))
local macro_rules | `(tactic| walk_at "sz") => `(tactic| first | assumption | omega | (show _ ≤ sizeLine; decide) | (show _ < sizeLine; decide))
local macro_rules | `(tactic| walk_at "r2") => `(tactic| first
  | exact r2_addI | exact r2_addS (by walk_at "sz") | exact r2_addT (by walk_at "sz") | exact r2_addL (by walk_at "sz")
  | exact r2_eqI | exact r2_eqS | exact r2_neI | exact r2_neS | exact r2_lt | exact r2_le | exact r2_gt | exact r2_ge | exact r2_sub | exact r2_isN | exact r2_notN)
local macro_rules | `(tactic| walk_at "ea") => `(tactic| first | exact ea_nil | refine ea_cons (by walk_at "ev") (by walk_at "ea"))
local macro_rules | `(tactic| walk_at "ev") => `(tactic| first
  | exact ev_int | exact ev_str | exact ev_bl | exact ev_non
  | refine ev_var rfl (by walk_at "is")
  | refine ev_op (by walk_at "ev") (by walk_at "ev") (by walk_at "r2")
  | refine ev_tup (by walk_at "ea") (by walk_at "sz")
  | refine ev_lst (by walk_at "ea") (by walk_at "sz")
  | refine ev_cb (by walk_at "ea") (by first | exact rc_len rfl | exact rc_intI | exact rc_tupL | exact rc_tupT))

section
variable {P : Program} {w : World} {K : PySem.W.Frag} {mg : Str → Option Value} {base : Heap}
theorem ok_law (T : Tx K mg) : FnG P w K mg base CX0 13 T.a_law T.fd_law ["script"] (P_right K) := by
  refine Eg.Fun.okG T.F_law sc_law (fun vs H Q E ⟨F, sc, st, _, e, _⟩ => by rw [e]; rfl) (fun cdv A outer s H vs Q E hgd hr h => ?_)
  obtain ⟨F, sc, st, s0, rfl, hS, h63, k⟩ := h
  refine ⟨_, (pss_one (ps_try_thru0 (pss_one (ps_ret (pe_callG hgd (ok_law_right T) (hr.mono (by decide)) rfl T.mg_law_right T.F_law_right.kp T.b_law_right pass0 (pa_cons (pv 0) pa_nil)))))), ?_⟩
  exact ⟨V.ref sc, rfl, F, sc, st, s0, rfl, hS, h63, k⟩
end
end K08
namespace K08
open PySem PySem.Spec L2 Eg PyProof.Rows
/-- the law called from outside, where no repr is being made: the promise needs to hold there alone -/
theorem goG {P : Program} {w : World} {K : PySem.W.Frag} {mg mb : Str → Option Value} {k : Nat} {fa a : Addr} {fd : FuncData} {s1 : Shared} {us : List Value} {zs : List Int}
    (kx : K.In s1.heap) (gm : s1.heap.Ns mainGlobals mg) (gb : s1.heap.Ns builtinsNs mb) (bb : ∀ n : Str, n ≠ "__name__" → mb n = bootBuiltins n) (nl : s1.heap.NoLimit) (g0 : s1.gens = #[])
    (ea : s1.heap.get? a = some { cls := .type "list", data := .seq us.toArray }) (iu : IntsAre us zs) (z63 : zs.length ≤ 63) (rm : Room k callerA) (bd : Binds K fd ["script"] [])
    (F : ∀ B : Heap, K.In B → B.Ns mainGlobals mg → FnG P w K mg B CX0 k fa fd ["script"] (P_right K)) :
    codeAny (model P w) callerA (.call (.ref fa) ⟨[.ref a], []⟩) (fun r t => r = .ok (.ret (.bool true)) ∧ OldK s1.heap t.heap ∧ t.os = s1.os ∧ AllBare t.gens) s1 := by
  have big : zs.length ≤ sizeLine := Nat.le_trans z63 (by decide)
  have pz : Vals (zs.map V.int) us := vals_ints iu
  -- what is tracked at the start
  obtain ⟨H, only, script, good⟩ : ∃ H : Hp, (∀ b, H b = none ∨ (b = a ∧ K.lookup a = none ∧ H a = some (.frz { cls := .type "list", data := .seq us.toArray } (.lst (zs.map V.int))))) ∧ SqL K H a (zs.map V.int) ∧ HOk P w H s1.heap := by
    cases own : K.lookup a with
    | none =>
      let u : HO := .frz { cls := .type "list", data := .seq us.toArray } (.lst (zs.map V.int))
      refine ⟨fun b => if b = a then some u else none, fun b => ?_, .inl (.inr ⟨_, if_pos rfl⟩), fun b o e => ?_⟩
      · by_cases c : b = a
        · exact .inr ⟨c, rfl, if_pos rfl⟩
        · exact .inl (if_neg c)
      · by_cases c : b = a
        · subst c
          have e : some u = some o := (if_pos rfl : (if b = b then some u else none) = some u).symm.trans e
          cases e
          exact ⟨ea, by rw [List.length_map]; exact big, us, _, pz, ea⟩
        · have e : none = some o := (if_neg c : (if b = a then some u else none) = none).symm.trans e
          cases e
    | some o =>
      obtain rfl : o = { cls := .type "list", data := .seq us.toArray } := Option.some.inj ((kx a o own).symm.trans ea)
      refine ⟨fun _ => none, fun _ => .inl rfl, .inr ⟨_, us.toArray, _, own, rfl, rfl, rfl, ?_, by simpa using pz⟩, fun b u e => nomatch e⟩
      rw [List.size_toArray, iu.length]
      exact big
  -- the rest of the heap stays as it is
  have plain : ∀ {b : Addr} {o : Obj} {es : Array DictEntry} {n : Nat}, s1.heap.get? b = some o → o.data = .dict es n → H b = none := fun {b o es n} e d => (only b).elim id fun ⟨q, _, _⟩ => by
    subst q
    have e := e.symm.trans ea
    cases e
    cases d
  have ns : ∀ {b : Addr} {m : Str → Option Value}, s1.heap.Ns b m → (hidT s1.heap H).Ns b m := fun {b m} ⟨o, es, n, e, d, r⟩ => ⟨o, es, n, hidT_get e (plain e d), d, r⟩
  have kB : K.In (hidT s1.heap H) := fun b o e => hidT_get (kx b o e) ((only b).elim id fun ⟨q, z, _⟩ => by
    subst q
    cases e.symm.trans z)
  obtain ⟨mc, l1, l2⟩ := nl
  have en : Env0 P w K mg (hidT s1.heap H) callerA [] s1 H := ⟨rfl, ⟨kB, ns gm, ⟨mb, ns gb, bb⟩, ⟨mc, ns l1, l2⟩⟩, fun b o e => of_hidT e, Nat.le_of_eq (hidT_size _ _), trivial, (fun b m => by cases m), good, .of_eq g0⟩
  have sp : P_right K [.ref a] H (fun v _ => v = .bl true) fun _ _ _ => False := ⟨H, a, zs, fun _ _ e => e, rfl, script, z63, fun _ => rfl⟩
  refine codeAny_mono ((F _ kB (ns gm)).run callerA [] s1 H ⟨[.ref a], []⟩ [.ref a] [.ref a] _ _ rfl rm en (bd s1 [.ref a] kx rfl) (.cons rfl .nil) sp) fun r t q => ?_
  match r, q with
  | .error e, q => exact (show False from q).elim
  | .ok .next, q => exact (show False from q).elim
  | .ok .brk, q => exact (show False from q).elim
  | .ok .cont, q => exact (show False from q).elim
  | .ok (.ret u), ⟨v, H2, so, sb, un, good2, rv, qv⟩ =>
    have qv : v = .bl true := qv
    subst qv
    have rv : u = Value.bool true := rv
    subst rv
    refine ⟨rfl, OldK.of_keep fun b o e => ?_, so, sb⟩
    rcases only b with z | ⟨q, _, z⟩
    · exact un.keep b o e z (by intro m; cases m) (by intro m; cases m)
    · subst q
      have e1 := (good b _ z).1
      have e2 := (good2 b _ (un.frzs b _ _ z)).1
      cases e.symm.trans e1
      exact e2
theorem walkG {l : PySem.W.OpenLaw} {q : Program} {loose : List Str} {XP : (Str → Option Value) → Heap → Prop} {YP : World → Heap → Prop} {d : DefRec} {K : Params → PySem.W.Frag} {k : Nat} (hn : l.most = some 63) (hd : d.params.defaults = []) (rm : Room k callerA)
    (hY : ∀ (w : World) (h : Heap), YP w h → (K w.params).In h)
    (F : ∀ (w : World) (mg : Str → Option Value) (fa : Addr) (h : Heap), (K w.params).In h → h.Ns mainGlobals mg → mg d.name = some (.ref fa) →
      ∃ fd : FuncData, Binds (K w.params) fd ["script"] [] ∧ ∀ B : Heap, (K w.params).In B → B.Ns mainGlobals mg → FnG l.prog w (K w.params) mg B CX0 k fa fd ["script"] (P_right (K w.params))) :
    PySem.W.WalkO q loose XP YP l.row.toRowW d [] (fun f vs => PySem.call f vs) := by
  refine Att.attach_call hn hd fun w s0 s1 mg mb fa o pm cd doc a us zs G Y _ _ _ em ea iu z63 g0 => ?_
  obtain ⟨fd, bd, G2⟩ := F w mg fa _ (hY w _ Y) G.T.g em
  exact goG (hY w _ Y) G.T.g G.T.b G.T.builtins G.T.nolimit g0 ea iu z63 rm bd G2
theorem room13 : Room 13 callerA := ⟨rfl, by decide, by decide⟩
end K08
namespace K08
open PySem L2 Eg PyProof.Rows
section
variable {K : PySem.W.Frag} {S C : Addr} {t : Value}
theorem kit_sub (i : PySem.W.isClsIn K C = true) (ty : PySem.W.typeIn K (.ref C) = some (.type "type")) (s : PySem.W.subIn K t (.ref C) = some true) : PySem.W.kitOne K t (.ref C) = some true := by
  have i : (PySem.W.clsIn K C).isSome = true := i
  unfold PySem.W.kitOne
  split
  · rfl
  · show (if ((PySem.W.clsIn K C).isSome && PySem.W.typeIn K (.ref C) == some (.type "type")) = true then PySem.W.subIn K t (.ref C) else none) = some true
    rw [i, ty, if_pos (by rfl)]
    exact s
theorem kit_not (i : PySem.W.isClsIn K C = true) (ty : PySem.W.typeIn K (.ref C) = some (.type "type")) (self : PySem.W.subIn K (.ref S) (.ref S) = some true) (s : PySem.W.subIn K (.ref S) (.ref C) = some false) : PySem.W.kitOne K (.ref S) (.ref C) = some false := by
  have i : (PySem.W.clsIn K C).isSome = true := i
  unfold PySem.W.kitOne
  split
  · rename_i e
    have e : Value.ref S = Value.ref C := beq_iff_eq.mp e
    rw [← e, self] at s
    cases s
  · show (if ((PySem.W.clsIn K C).isSome && PySem.W.typeIn K (.ref C) == some (.type "type")) = true then PySem.W.subIn K (.ref S) (.ref C) else none) = some false
    rw [i, ty, if_pos (by rfl)]
    exact s
theorem exm_own (b : PySem.W.subIn K (.ref S) (.type "BaseException") = some true) (i : PySem.W.isClsIn K S = true) (ty : PySem.W.typeIn K (.ref S) = some (.type "type")) (s : PySem.W.subIn K (.ref S) (.ref S) = some true) : PySem.W.exmOne K (.ref S) (.ref S) = some true := by
  have i : (PySem.W.clsIn K S).isSome = true := i
  unfold PySem.W.exmOne
  rw [b, if_pos (by rfl)]
  show (if ((PySem.W.clsIn K S).isSome && PySem.W.typeIn K (.ref S) == some (.type "type")) = true then PySem.W.subIn K (.ref S) (.ref S) else none) = some true
  rw [i, ty, if_pos (by rfl)]
  exact s
end
theorem top_mk {K : PySem.W.Frag} {h : Heap} {mg : Str → Option Value} (X : K.In h) (G : h.Ns mainGlobals mg)
    {c_CellError : Addr}
    {c_InvalidPuzzle : Addr}
    {c_InvalidText : Addr}
    {c_Relation : Addr}
    {c_Book : Addr}
    {c_Puzzle : Addr}
    {c_PuzzleReading : Addr}
    {a_InvalidText_init : Addr} {fd_InvalidText_init : FuncData}
    {a_is_below : Addr} {fd_is_below : FuncData}
    {a_is_row : Addr} {fd_is_row : FuncData}
    {a_are_rows : Addr} {fd_are_rows : FuncData}
    {a_Relation_init : Addr} {fd_Relation_init : FuncData}
    {a_are_relations : Addr} {fd_are_relations : FuncData}
    {a_Book_init : Addr} {fd_Book_init : FuncData}
    {a_Book_len : Addr} {fd_Book_len : FuncData}
    {a_are_cells : Addr} {fd_are_cells : FuncData}
    {a_is_tie : Addr} {fd_is_tie : FuncData}
    {a_Puzzle_init : Addr} {fd_Puzzle_init : FuncData}
    {a_Puzzle_eq : Addr} {fd_Puzzle_eq : FuncData}
    {a_joined_by_commas : Addr} {fd_joined_by_commas : FuncData}
    {a_write_relation : Addr} {fd_write_relation : FuncData}
    {a_write_puzzle : Addr} {fd_write_puzzle : FuncData}
    {a_number_told : Addr} {fd_number_told : FuncData}
    {a_row_told : Addr} {fd_row_told : FuncData}
    {a_relation_told : Addr} {fd_relation_told : FuncData}
    {a_PuzzleReading_init : Addr} {fd_PuzzleReading_init : FuncData}
    {a_PuzzleReading_take : Addr} {fd_PuzzleReading_take : FuncData}
    {a_PuzzleReading_take_relation : Addr} {fd_PuzzleReading_take_relation : FuncData}
    {a_PuzzleReading_take_cells : Addr} {fd_PuzzleReading_take_cells : FuncData}
    {a_PuzzleReading_take_tie : Addr} {fd_PuzzleReading_take_tie : FuncData}
    {a_read_puzzle : Addr} {fd_read_puzzle : FuncData}
    {a_law_hand : Addr} {fd_law_hand : FuncData}
    {a_law_take : Addr} {fd_law_take : FuncData}
    {a_law_every : Addr} {fd_law_every : FuncData}
    {a_law_each_once : Addr} {fd_law_each_once : FuncData}
    {a_law_book : Addr} {fd_law_book : FuncData}
    {a_law_lines : Addr} {fd_law_lines : FuncData}
    {a_law_read : Addr} {fd_law_read : FuncData}
    {a_law_is_same : Addr} {fd_law_is_same : FuncData}
    {a_law_bent_tie : Addr} {fd_law_bent_tie : FuncData}
    {a_law_bent_relation : Addr} {fd_law_bent_relation : FuncData}
    {a_law_bent : Addr} {fd_law_bent : FuncData}
    {a_law_is_told : Addr} {fd_law_is_told : FuncData}
    {a_law_right : Addr} {fd_law_right : FuncData}
    {a_law : Addr} {fd_law : FuncData}
    {nm_t q_t : Str} {N_t : Addr} {bs_t bm_t : List Value} {sn_t : List Str} {sub_t : List Value} {ab_t : Bool} {col_t : Option Bool} {dd_t : Option Addr} {k0_t k1_t k2_t k3_t k5_t : Option Value}
    {u_MOST_PLACES : Value}
    {u_MOST_RELATIONS : Value}
    {u_FIGURES : Value}
    {u_MOST_FIGURES : Value}
    (z_isinstance : PySem.W.nsIn K mainGlobals "isinstance" = some none)
    (z_int : PySem.W.nsIn K mainGlobals "int" = some none)
    (z_bool : PySem.W.nsIn K mainGlobals "bool" = some none)
    (z_tuple : PySem.W.nsIn K mainGlobals "tuple" = some none)
    (z_list : PySem.W.nsIn K mainGlobals "list" = some none)
    (z_str : PySem.W.nsIn K mainGlobals "str" = some none)
    (z_len : PySem.W.nsIn K mainGlobals "len" = some none)
    (z_range : PySem.W.nsIn K mainGlobals "range" = some none)
    (z_sum : PySem.W.nsIn K mainGlobals "sum" = some none)
    (z_all : PySem.W.nsIn K mainGlobals "all" = some none)
    (z_sorted : PySem.W.nsIn K mainGlobals "sorted" = some none)
    (z_enumerate : PySem.W.nsIn K mainGlobals "enumerate" = some none)
    (z_abs : PySem.W.nsIn K mainGlobals "abs" = some none)
    (z_repr : PySem.W.nsIn K mainGlobals "repr" = some none)
    (z_ValueError : PySem.W.nsIn K mainGlobals "ValueError" = some none)
    (g_CellError : PySem.W.nsIn K mainGlobals "CellError" = some (some (.ref c_CellError)))
    (g_InvalidPuzzle : PySem.W.nsIn K mainGlobals "InvalidPuzzle" = some (some (.ref c_InvalidPuzzle)))
    (g_InvalidText : PySem.W.nsIn K mainGlobals "InvalidText" = some (some (.ref c_InvalidText)))
    (g_Relation : PySem.W.nsIn K mainGlobals "Relation" = some (some (.ref c_Relation)))
    (g_Book : PySem.W.nsIn K mainGlobals "Book" = some (some (.ref c_Book)))
    (g_Puzzle : PySem.W.nsIn K mainGlobals "Puzzle" = some (some (.ref c_Puzzle)))
    (g_PuzzleReading : PySem.W.nsIn K mainGlobals "PuzzleReading" = some (some (.ref c_PuzzleReading)))
    (g_InvalidText_init : PySem.W.findIn K (.ref c_InvalidText) "__init__" = some (some (.ref a_InvalidText_init)))
    (i_InvalidText_init : PySem.W.isFn K (.ref a_InvalidText_init) = true)
    (F_InvalidText_init : Fun K "__init__" "InvalidText.__init__" s_InvalidText_init a_InvalidText_init fd_InvalidText_init)
    (g_is_below : PySem.W.nsIn K mainGlobals "is_below" = some (some (.ref a_is_below)))
    (F_is_below : Fun K "is_below" "is_below" s_is_below a_is_below fd_is_below)
    (g_is_row : PySem.W.nsIn K mainGlobals "is_row" = some (some (.ref a_is_row)))
    (F_is_row : Fun K "is_row" "is_row" s_is_row a_is_row fd_is_row)
    (g_are_rows : PySem.W.nsIn K mainGlobals "are_rows" = some (some (.ref a_are_rows)))
    (F_are_rows : Fun K "are_rows" "are_rows" s_are_rows a_are_rows fd_are_rows)
    (g_Relation_init : PySem.W.findIn K (.ref c_Relation) "__init__" = some (some (.ref a_Relation_init)))
    (i_Relation_init : PySem.W.isFn K (.ref a_Relation_init) = true)
    (F_Relation_init : Fun K "__init__" "Relation.__init__" s_Relation_init a_Relation_init fd_Relation_init)
    (g_are_relations : PySem.W.nsIn K mainGlobals "are_relations" = some (some (.ref a_are_relations)))
    (F_are_relations : Fun K "are_relations" "are_relations" s_are_relations a_are_relations fd_are_relations)
    (g_Book_init : PySem.W.findIn K (.ref c_Book) "__init__" = some (some (.ref a_Book_init)))
    (i_Book_init : PySem.W.isFn K (.ref a_Book_init) = true)
    (F_Book_init : Fun K "__init__" "Book.__init__" s_Book_init a_Book_init fd_Book_init)
    (g_Book_len : PySem.W.findIn K (.ref c_Book) "__len__" = some (some (.ref a_Book_len)))
    (i_Book_len : PySem.W.isFn K (.ref a_Book_len) = true)
    (F_Book_len : Fun K "__len__" "Book.__len__" s_Book_len a_Book_len fd_Book_len)
    (g_are_cells : PySem.W.nsIn K mainGlobals "are_cells" = some (some (.ref a_are_cells)))
    (F_are_cells : Fun K "are_cells" "are_cells" s_are_cells a_are_cells fd_are_cells)
    (g_is_tie : PySem.W.nsIn K mainGlobals "is_tie" = some (some (.ref a_is_tie)))
    (F_is_tie : Fun K "is_tie" "is_tie" s_is_tie a_is_tie fd_is_tie)
    (g_Puzzle_init : PySem.W.findIn K (.ref c_Puzzle) "__init__" = some (some (.ref a_Puzzle_init)))
    (i_Puzzle_init : PySem.W.isFn K (.ref a_Puzzle_init) = true)
    (F_Puzzle_init : Fun K "__init__" "Puzzle.__init__" s_Puzzle_init a_Puzzle_init fd_Puzzle_init)
    (g_Puzzle_eq : PySem.W.findIn K (.ref c_Puzzle) "__eq__" = some (some (.ref a_Puzzle_eq)))
    (i_Puzzle_eq : PySem.W.isFn K (.ref a_Puzzle_eq) = true)
    (F_Puzzle_eq : Fun K "__eq__" "Puzzle.__eq__" s_Puzzle_eq a_Puzzle_eq fd_Puzzle_eq)
    (g_joined_by_commas : PySem.W.nsIn K mainGlobals "joined_by_commas" = some (some (.ref a_joined_by_commas)))
    (F_joined_by_commas : Fun K "joined_by_commas" "joined_by_commas" s_joined_by_commas a_joined_by_commas fd_joined_by_commas)
    (g_write_relation : PySem.W.nsIn K mainGlobals "write_relation" = some (some (.ref a_write_relation)))
    (F_write_relation : Fun K "write_relation" "write_relation" s_write_relation a_write_relation fd_write_relation)
    (g_write_puzzle : PySem.W.nsIn K mainGlobals "write_puzzle" = some (some (.ref a_write_puzzle)))
    (F_write_puzzle : Fun K "write_puzzle" "write_puzzle" s_write_puzzle a_write_puzzle fd_write_puzzle)
    (g_number_told : PySem.W.nsIn K mainGlobals "number_told" = some (some (.ref a_number_told)))
    (F_number_told : Fun K "number_told" "number_told" s_number_told a_number_told fd_number_told)
    (g_row_told : PySem.W.nsIn K mainGlobals "row_told" = some (some (.ref a_row_told)))
    (F_row_told : Fun K "row_told" "row_told" s_row_told a_row_told fd_row_told)
    (g_relation_told : PySem.W.nsIn K mainGlobals "relation_told" = some (some (.ref a_relation_told)))
    (F_relation_told : Fun K "relation_told" "relation_told" s_relation_told a_relation_told fd_relation_told)
    (g_PuzzleReading_init : PySem.W.findIn K (.ref c_PuzzleReading) "__init__" = some (some (.ref a_PuzzleReading_init)))
    (i_PuzzleReading_init : PySem.W.isFn K (.ref a_PuzzleReading_init) = true)
    (F_PuzzleReading_init : Fun K "__init__" "PuzzleReading.__init__" s_PuzzleReading_init a_PuzzleReading_init fd_PuzzleReading_init)
    (g_PuzzleReading_take : PySem.W.findIn K (.ref c_PuzzleReading) "take" = some (some (.ref a_PuzzleReading_take)))
    (i_PuzzleReading_take : PySem.W.isFn K (.ref a_PuzzleReading_take) = true)
    (F_PuzzleReading_take : Fun K "take" "PuzzleReading.take" s_PuzzleReading_take a_PuzzleReading_take fd_PuzzleReading_take)
    (g_PuzzleReading_take_relation : PySem.W.findIn K (.ref c_PuzzleReading) "take_relation" = some (some (.ref a_PuzzleReading_take_relation)))
    (i_PuzzleReading_take_relation : PySem.W.isFn K (.ref a_PuzzleReading_take_relation) = true)
    (F_PuzzleReading_take_relation : Fun K "take_relation" "PuzzleReading.take_relation" s_PuzzleReading_take_relation a_PuzzleReading_take_relation fd_PuzzleReading_take_relation)
    (g_PuzzleReading_take_cells : PySem.W.findIn K (.ref c_PuzzleReading) "take_cells" = some (some (.ref a_PuzzleReading_take_cells)))
    (i_PuzzleReading_take_cells : PySem.W.isFn K (.ref a_PuzzleReading_take_cells) = true)
    (F_PuzzleReading_take_cells : Fun K "take_cells" "PuzzleReading.take_cells" s_PuzzleReading_take_cells a_PuzzleReading_take_cells fd_PuzzleReading_take_cells)
    (g_PuzzleReading_take_tie : PySem.W.findIn K (.ref c_PuzzleReading) "take_tie" = some (some (.ref a_PuzzleReading_take_tie)))
    (i_PuzzleReading_take_tie : PySem.W.isFn K (.ref a_PuzzleReading_take_tie) = true)
    (F_PuzzleReading_take_tie : Fun K "take_tie" "PuzzleReading.take_tie" s_PuzzleReading_take_tie a_PuzzleReading_take_tie fd_PuzzleReading_take_tie)
    (g_read_puzzle : PySem.W.nsIn K mainGlobals "read_puzzle" = some (some (.ref a_read_puzzle)))
    (F_read_puzzle : Fun K "read_puzzle" "read_puzzle" s_read_puzzle a_read_puzzle fd_read_puzzle)
    (g_law_hand : PySem.W.nsIn K mainGlobals "_law_hand" = some (some (.ref a_law_hand)))
    (F_law_hand : Fun K "_law_hand" "_law_hand" s_law_hand a_law_hand fd_law_hand)
    (g_law_take : PySem.W.nsIn K mainGlobals "_law_take" = some (some (.ref a_law_take)))
    (F_law_take : Fun K "_law_take" "_law_take" s_law_take a_law_take fd_law_take)
    (g_law_every : PySem.W.nsIn K mainGlobals "_law_every" = some (some (.ref a_law_every)))
    (F_law_every : Fun K "_law_every" "_law_every" s_law_every a_law_every fd_law_every)
    (g_law_each_once : PySem.W.nsIn K mainGlobals "_law_each_once" = some (some (.ref a_law_each_once)))
    (F_law_each_once : Fun K "_law_each_once" "_law_each_once" s_law_each_once a_law_each_once fd_law_each_once)
    (g_law_book : PySem.W.nsIn K mainGlobals "_law_book" = some (some (.ref a_law_book)))
    (F_law_book : Fun K "_law_book" "_law_book" s_law_book a_law_book fd_law_book)
    (g_law_lines : PySem.W.nsIn K mainGlobals "_law_lines" = some (some (.ref a_law_lines)))
    (F_law_lines : Fun K "_law_lines" "_law_lines" s_law_lines a_law_lines fd_law_lines)
    (g_law_read : PySem.W.nsIn K mainGlobals "_law_read" = some (some (.ref a_law_read)))
    (F_law_read : Fun K "_law_read" "_law_read" s_law_read a_law_read fd_law_read)
    (g_law_is_same : PySem.W.nsIn K mainGlobals "_law_is_same" = some (some (.ref a_law_is_same)))
    (F_law_is_same : Fun K "_law_is_same" "_law_is_same" s_law_is_same a_law_is_same fd_law_is_same)
    (g_law_bent_tie : PySem.W.nsIn K mainGlobals "_law_bent_tie" = some (some (.ref a_law_bent_tie)))
    (F_law_bent_tie : Fun K "_law_bent_tie" "_law_bent_tie" s_law_bent_tie a_law_bent_tie fd_law_bent_tie)
    (g_law_bent_relation : PySem.W.nsIn K mainGlobals "_law_bent_relation" = some (some (.ref a_law_bent_relation)))
    (F_law_bent_relation : Fun K "_law_bent_relation" "_law_bent_relation" s_law_bent_relation a_law_bent_relation fd_law_bent_relation)
    (g_law_bent : PySem.W.nsIn K mainGlobals "_law_bent" = some (some (.ref a_law_bent)))
    (F_law_bent : Fun K "_law_bent" "_law_bent" s_law_bent a_law_bent fd_law_bent)
    (g_law_is_told : PySem.W.nsIn K mainGlobals "_law_is_told" = some (some (.ref a_law_is_told)))
    (F_law_is_told : Fun K "_law_is_told" "_law_is_told" s_law_is_told a_law_is_told fd_law_is_told)
    (g_law_right : PySem.W.nsIn K mainGlobals "_law_right" = some (some (.ref a_law_right)))
    (F_law_right : Fun K "_law_right" "_law_right" s_law_right a_law_right fd_law_right)
    (g_law : PySem.W.nsIn K mainGlobals "law" = some (some (.ref a_law)))
    (F_law : Fun K "law" "law" s_law a_law fd_law)
    (o_n : PySem.W.specialIn K (.builtin "object.__class__") "__get__" = some (some (.builtin "getset_descriptor.__get__")))
    (o_t : PySem.W.takesIn K (.builtin "object.__class__") = some true)
    (xL : K.lookup c_InvalidText = some (excClassObj nm_t q_t c_InvalidText N_t bs_t bm_t true sn_t sub_t ab_t col_t dd_t k0_t k1_t k2_t k3_t k5_t "ValueError.__new__"))
    (xV : PySem.HandSPX.refsVE bm_t = true)
    (sa_t : PySem.W.findIn K (.ref c_InvalidText) "__setattr__" = some (some (.builtin "object.__setattr__")))
    (xC : PySem.W.subIn K (.ref c_InvalidText) (.type "BaseException") = some true)
    (tC : PySem.W.typeIn K (.ref c_InvalidText) = some (.type "type"))
    (iC : PySem.W.isClsIn K c_InvalidText = true)
    (sC : PySem.W.subIn K (.ref c_InvalidText) (.ref c_InvalidText) = some true)
    (kC : PySem.W.keepIn K (.ref c_InvalidText) = true)
    (gA : PySem.W.findIn K (.ref c_InvalidText) "__getattribute__" = some (some (.builtin "BaseException.__getattribute__")))
    (gB : PySem.W.findIn K (.ref c_InvalidText) "__getattr__" = some none)
    (hD : PySem.W.hasDictIn K c_InvalidText = true)
    (hA : PySem.W.findIn K (.ref c_InvalidText) "__class__" = some (some (.builtin "object.__class__")))
    (hM : PySem.W.mroIn K c_InvalidText (.type "object") = some true)
    (tI : PySem.W.typeIn K (.ref a_InvalidText_init) = some (.type "function"))
    (nT : PySem.W.findIn K (.ref c_InvalidText) "text" = some none)
    (nA : PySem.W.findIn K (.ref c_InvalidText) "at" = some none)
    (i1 : PySem.W.isClsIn K c_CellError = true)
    (t1 : PySem.W.typeIn K (.ref c_CellError) = some (.type "type"))
    (s1 : PySem.W.subIn K (.ref c_InvalidText) (.ref c_CellError) = some true)
    (i2 : PySem.W.isClsIn K c_InvalidPuzzle = true)
    (t2 : PySem.W.typeIn K (.ref c_InvalidPuzzle) = some (.type "type"))
    (s2 : PySem.W.subIn K (.ref c_InvalidText) (.ref c_InvalidPuzzle) = some false)
    (pg_Relation : PySem.W.plainGet K c_Relation Str.empty = true)
    (hd_Relation : PySem.W.hasDictIn K c_Relation = true)
    (po_Relation : PySem.W.plainOver K c_Relation = true)
    (sa_Relation : PySem.W.findIn K (.ref c_Relation) "__setattr__" = some (some (.builtin "object.__setattr__")))
    (ha_Relation : PySem.W.findIn K (.ref c_Relation) "__class__" = some (some (.builtin "object.__class__")))
    (hm_Relation : PySem.W.mroIn K c_Relation (.type "object") = some true)
    (mk_Relation : PySem.W.makesIn K c_Relation = true)
    (kc_Relation : PySem.W.keepIn K (.ref c_Relation) = true)
    (na_Relation_size : PySem.W.findIn K (.ref c_Relation) "size" = some none)
    (na_Relation_rows : PySem.W.findIn K (.ref c_Relation) "rows" = some none)
    (pg_Book : PySem.W.plainGet K c_Book Str.empty = true)
    (hd_Book : PySem.W.hasDictIn K c_Book = true)
    (po_Book : PySem.W.plainOver K c_Book = true)
    (sa_Book : PySem.W.findIn K (.ref c_Book) "__setattr__" = some (some (.builtin "object.__setattr__")))
    (ha_Book : PySem.W.findIn K (.ref c_Book) "__class__" = some (some (.builtin "object.__class__")))
    (hm_Book : PySem.W.mroIn K c_Book (.type "object") = some true)
    (mk_Book : PySem.W.makesIn K c_Book = true)
    (kc_Book : PySem.W.keepIn K (.ref c_Book) = true)
    (na_Book_relations : PySem.W.findIn K (.ref c_Book) "relations" = some none)
    (na_Book_plain : PySem.W.findIn K (.ref c_Book) "plain" = some none)
    (pg_Puzzle : PySem.W.plainGet K c_Puzzle Str.empty = true)
    (hd_Puzzle : PySem.W.hasDictIn K c_Puzzle = true)
    (po_Puzzle : PySem.W.plainOver K c_Puzzle = true)
    (sa_Puzzle : PySem.W.findIn K (.ref c_Puzzle) "__setattr__" = some (some (.builtin "object.__setattr__")))
    (ha_Puzzle : PySem.W.findIn K (.ref c_Puzzle) "__class__" = some (some (.builtin "object.__class__")))
    (hm_Puzzle : PySem.W.mroIn K c_Puzzle (.type "object") = some true)
    (mk_Puzzle : PySem.W.makesIn K c_Puzzle = true)
    (kc_Puzzle : PySem.W.keepIn K (.ref c_Puzzle) = true)
    (na_Puzzle_book : PySem.W.findIn K (.ref c_Puzzle) "book" = some none)
    (na_Puzzle_cell_count : PySem.W.findIn K (.ref c_Puzzle) "cell_count" = some none)
    (na_Puzzle_ties : PySem.W.findIn K (.ref c_Puzzle) "ties" = some none)
    (pg_PuzzleReading : PySem.W.plainGet K c_PuzzleReading Str.empty = true)
    (hd_PuzzleReading : PySem.W.hasDictIn K c_PuzzleReading = true)
    (po_PuzzleReading : PySem.W.plainOver K c_PuzzleReading = true)
    (sa_PuzzleReading : PySem.W.findIn K (.ref c_PuzzleReading) "__setattr__" = some (some (.builtin "object.__setattr__")))
    (ha_PuzzleReading : PySem.W.findIn K (.ref c_PuzzleReading) "__class__" = some (some (.builtin "object.__class__")))
    (hm_PuzzleReading : PySem.W.mroIn K c_PuzzleReading (.type "object") = some true)
    (mk_PuzzleReading : PySem.W.makesIn K c_PuzzleReading = true)
    (kc_PuzzleReading : PySem.W.keepIn K (.ref c_PuzzleReading) = true)
    (na_PuzzleReading_told : PySem.W.findIn K (.ref c_PuzzleReading) "told" = some none)
    (na_PuzzleReading_book : PySem.W.findIn K (.ref c_PuzzleReading) "book" = some none)
    (na_PuzzleReading_cells : PySem.W.findIn K (.ref c_PuzzleReading) "cells" = some none)
    (na_PuzzleReading_ties : PySem.W.findIn K (.ref c_PuzzleReading) "ties" = some none)
    (g_MOST_PLACES : PySem.W.nsIn K mainGlobals "MOST_PLACES" = some (some u_MOST_PLACES))
    (r_MOST_PLACES : RelV (.int 4) u_MOST_PLACES)
    (g_MOST_RELATIONS : PySem.W.nsIn K mainGlobals "MOST_RELATIONS" = some (some u_MOST_RELATIONS))
    (r_MOST_RELATIONS : RelV (.int 6) u_MOST_RELATIONS)
    (g_FIGURES : PySem.W.nsIn K mainGlobals "FIGURES" = some (some u_FIGURES))
    (r_FIGURES : RelV (.str "0123456789") u_FIGURES)
    (g_MOST_FIGURES : PySem.W.nsIn K mainGlobals "MOST_FIGURES" = some (some u_MOST_FIGURES))
    (r_MOST_FIGURES : RelV (.int 6) u_MOST_FIGURES)
    : Nonempty (Tx K mg) := by
  refine ⟨{
    n_isinstance := PySem.W.mg_none_of X G z_isinstance,
    n_int := PySem.W.mg_none_of X G z_int,
    n_bool := PySem.W.mg_none_of X G z_bool,
    n_tuple := PySem.W.mg_none_of X G z_tuple,
    n_list := PySem.W.mg_none_of X G z_list,
    n_str := PySem.W.mg_none_of X G z_str,
    n_len := PySem.W.mg_none_of X G z_len,
    n_range := PySem.W.mg_none_of X G z_range,
    n_sum := PySem.W.mg_none_of X G z_sum,
    n_all := PySem.W.mg_none_of X G z_all,
    n_sorted := PySem.W.mg_none_of X G z_sorted,
    n_enumerate := PySem.W.mg_none_of X G z_enumerate,
    n_abs := PySem.W.mg_none_of X G z_abs,
    n_repr := PySem.W.mg_none_of X G z_repr,
    n_ValueError := PySem.W.mg_none_of X G z_ValueError,
    a_InvalidText_init := a_InvalidText_init,
    fd_InvalidText_init := fd_InvalidText_init,
    F_InvalidText_init := F_InvalidText_init,
    b_InvalidText_init := F_InvalidText_init.binds fun _ _ _ _ _ _ us hl => match us, hl with | [_, _, _], _ => rfl,
    a_is_below := a_is_below,
    fd_is_below := fd_is_below,
    F_is_below := F_is_below,
    mg_is_below := PySem.W.mg_of X G g_is_below,
    b_is_below := F_is_below.binds fun _ _ _ _ _ _ us hl => match us, hl with | [_, _], _ => rfl,
    a_is_row := a_is_row,
    fd_is_row := fd_is_row,
    F_is_row := F_is_row,
    mg_is_row := PySem.W.mg_of X G g_is_row,
    b_is_row := F_is_row.binds fun _ _ _ _ _ _ us hl => match us, hl with | [_, _], _ => rfl,
    a_are_rows := a_are_rows,
    fd_are_rows := fd_are_rows,
    F_are_rows := F_are_rows,
    mg_are_rows := PySem.W.mg_of X G g_are_rows,
    b_are_rows := F_are_rows.binds fun _ _ _ _ _ _ us hl => match us, hl with | [_, _], _ => rfl,
    a_Relation_init := a_Relation_init,
    fd_Relation_init := fd_Relation_init,
    F_Relation_init := F_Relation_init,
    b_Relation_init := F_Relation_init.binds fun _ _ _ _ _ _ us hl => match us, hl with | [_, _, _], _ => rfl,
    a_are_relations := a_are_relations,
    fd_are_relations := fd_are_relations,
    F_are_relations := F_are_relations,
    mg_are_relations := PySem.W.mg_of X G g_are_relations,
    b_are_relations := F_are_relations.binds fun _ _ _ _ _ _ us hl => match us, hl with | [_], _ => rfl,
    a_Book_init := a_Book_init,
    fd_Book_init := fd_Book_init,
    F_Book_init := F_Book_init,
    b_Book_init := F_Book_init.binds fun _ _ _ _ _ _ us hl => match us, hl with | [_, _], _ => rfl,
    a_Book_len := a_Book_len,
    fd_Book_len := fd_Book_len,
    F_Book_len := F_Book_len,
    b_Book_len := F_Book_len.binds fun _ _ _ _ _ _ us hl => match us, hl with | [_], _ => rfl,
    a_are_cells := a_are_cells,
    fd_are_cells := fd_are_cells,
    F_are_cells := F_are_cells,
    mg_are_cells := PySem.W.mg_of X G g_are_cells,
    b_are_cells := F_are_cells.binds fun _ _ _ _ _ _ us hl => match us, hl with | [_, _, _], _ => rfl,
    a_is_tie := a_is_tie,
    fd_is_tie := fd_is_tie,
    F_is_tie := F_is_tie,
    mg_is_tie := PySem.W.mg_of X G g_is_tie,
    b_is_tie := F_is_tie.binds fun _ _ _ _ _ _ us hl => match us, hl with | [_, _, _], _ => rfl,
    a_Puzzle_init := a_Puzzle_init,
    fd_Puzzle_init := fd_Puzzle_init,
    F_Puzzle_init := F_Puzzle_init,
    b_Puzzle_init := F_Puzzle_init.binds fun _ _ _ _ _ _ us hl => match us, hl with | [_, _, _, _], _ => rfl,
    a_Puzzle_eq := a_Puzzle_eq,
    fd_Puzzle_eq := fd_Puzzle_eq,
    F_Puzzle_eq := F_Puzzle_eq,
    b_Puzzle_eq := F_Puzzle_eq.binds fun _ _ _ _ _ _ us hl => match us, hl with | [_, _], _ => rfl,
    a_joined_by_commas := a_joined_by_commas,
    fd_joined_by_commas := fd_joined_by_commas,
    F_joined_by_commas := F_joined_by_commas,
    mg_joined_by_commas := PySem.W.mg_of X G g_joined_by_commas,
    b_joined_by_commas := F_joined_by_commas.binds fun _ _ _ _ _ _ us hl => match us, hl with | [_], _ => rfl,
    a_write_relation := a_write_relation,
    fd_write_relation := fd_write_relation,
    F_write_relation := F_write_relation,
    mg_write_relation := PySem.W.mg_of X G g_write_relation,
    b_write_relation := F_write_relation.binds fun _ _ _ _ _ _ us hl => match us, hl with | [_], _ => rfl,
    a_write_puzzle := a_write_puzzle,
    fd_write_puzzle := fd_write_puzzle,
    F_write_puzzle := F_write_puzzle,
    mg_write_puzzle := PySem.W.mg_of X G g_write_puzzle,
    b_write_puzzle := F_write_puzzle.binds fun _ _ _ _ _ _ us hl => match us, hl with | [_], _ => rfl,
    a_number_told := a_number_told,
    fd_number_told := fd_number_told,
    F_number_told := F_number_told,
    mg_number_told := PySem.W.mg_of X G g_number_told,
    b_number_told := F_number_told.binds fun _ _ _ _ _ _ us hl => match us, hl with | [_], _ => rfl,
    a_row_told := a_row_told,
    fd_row_told := fd_row_told,
    F_row_told := F_row_told,
    mg_row_told := PySem.W.mg_of X G g_row_told,
    b_row_told := F_row_told.binds fun _ _ _ _ _ _ us hl => match us, hl with | [_, _], _ => rfl,
    a_relation_told := a_relation_told,
    fd_relation_told := fd_relation_told,
    F_relation_told := F_relation_told,
    mg_relation_told := PySem.W.mg_of X G g_relation_told,
    b_relation_told := F_relation_told.binds fun _ _ _ _ _ _ us hl => match us, hl with | [_, _], _ => rfl,
    a_PuzzleReading_init := a_PuzzleReading_init,
    fd_PuzzleReading_init := fd_PuzzleReading_init,
    F_PuzzleReading_init := F_PuzzleReading_init,
    b_PuzzleReading_init := F_PuzzleReading_init.binds fun _ _ _ _ _ _ us hl => match us, hl with | [_], _ => rfl,
    a_PuzzleReading_take := a_PuzzleReading_take,
    fd_PuzzleReading_take := fd_PuzzleReading_take,
    F_PuzzleReading_take := F_PuzzleReading_take,
    b_PuzzleReading_take := F_PuzzleReading_take.binds fun _ _ _ _ _ _ us hl => match us, hl with | [_, _], _ => rfl,
    a_PuzzleReading_take_relation := a_PuzzleReading_take_relation,
    fd_PuzzleReading_take_relation := fd_PuzzleReading_take_relation,
    F_PuzzleReading_take_relation := F_PuzzleReading_take_relation,
    b_PuzzleReading_take_relation := F_PuzzleReading_take_relation.binds fun _ _ _ _ _ _ us hl => match us, hl with | [_, _], _ => rfl,
    a_PuzzleReading_take_cells := a_PuzzleReading_take_cells,
    fd_PuzzleReading_take_cells := fd_PuzzleReading_take_cells,
    F_PuzzleReading_take_cells := F_PuzzleReading_take_cells,
    b_PuzzleReading_take_cells := F_PuzzleReading_take_cells.binds fun _ _ _ _ _ _ us hl => match us, hl with | [_, _], _ => rfl,
    a_PuzzleReading_take_tie := a_PuzzleReading_take_tie,
    fd_PuzzleReading_take_tie := fd_PuzzleReading_take_tie,
    F_PuzzleReading_take_tie := F_PuzzleReading_take_tie,
    b_PuzzleReading_take_tie := F_PuzzleReading_take_tie.binds fun _ _ _ _ _ _ us hl => match us, hl with | [_, _], _ => rfl,
    a_read_puzzle := a_read_puzzle,
    fd_read_puzzle := fd_read_puzzle,
    F_read_puzzle := F_read_puzzle,
    mg_read_puzzle := PySem.W.mg_of X G g_read_puzzle,
    b_read_puzzle := F_read_puzzle.binds fun _ _ _ _ _ _ us hl => match us, hl with | [_], _ => rfl,
    a_law_hand := a_law_hand,
    fd_law_hand := fd_law_hand,
    F_law_hand := F_law_hand,
    mg_law_hand := PySem.W.mg_of X G g_law_hand,
    b_law_hand := F_law_hand.binds fun _ _ _ _ _ _ us hl => match us, hl with | [_], _ => rfl,
    a_law_take := a_law_take,
    fd_law_take := fd_law_take,
    F_law_take := F_law_take,
    mg_law_take := PySem.W.mg_of X G g_law_take,
    b_law_take := F_law_take.binds fun _ _ _ _ _ _ us hl => match us, hl with | [_, _], _ => rfl,
    a_law_every := a_law_every,
    fd_law_every := fd_law_every,
    F_law_every := F_law_every,
    mg_law_every := PySem.W.mg_of X G g_law_every,
    b_law_every := F_law_every.binds fun _ _ _ _ _ _ us hl => match us, hl with | [_], _ => rfl,
    a_law_each_once := a_law_each_once,
    fd_law_each_once := fd_law_each_once,
    F_law_each_once := F_law_each_once,
    mg_law_each_once := PySem.W.mg_of X G g_law_each_once,
    b_law_each_once := F_law_each_once.binds fun _ _ _ _ _ _ us hl => match us, hl with | [_, _], _ => rfl,
    a_law_book := a_law_book,
    fd_law_book := fd_law_book,
    F_law_book := F_law_book,
    mg_law_book := PySem.W.mg_of X G g_law_book,
    b_law_book := F_law_book.binds fun _ _ _ _ _ _ us hl => match us, hl with | [_, _], _ => rfl,
    a_law_lines := a_law_lines,
    fd_law_lines := fd_law_lines,
    F_law_lines := F_law_lines,
    mg_law_lines := PySem.W.mg_of X G g_law_lines,
    b_law_lines := F_law_lines.binds fun _ _ _ _ _ _ us hl => match us, hl with | [_, _, _], _ => rfl,
    a_law_read := a_law_read,
    fd_law_read := fd_law_read,
    F_law_read := F_law_read,
    mg_law_read := PySem.W.mg_of X G g_law_read,
    b_law_read := F_law_read.binds fun _ _ _ _ _ _ us hl => match us, hl with | [_], _ => rfl,
    a_law_is_same := a_law_is_same,
    fd_law_is_same := fd_law_is_same,
    F_law_is_same := F_law_is_same,
    mg_law_is_same := PySem.W.mg_of X G g_law_is_same,
    b_law_is_same := F_law_is_same.binds fun _ _ _ _ _ _ us hl => match us, hl with | [_, _, _, _], _ => rfl,
    a_law_bent_tie := a_law_bent_tie,
    fd_law_bent_tie := fd_law_bent_tie,
    F_law_bent_tie := F_law_bent_tie,
    mg_law_bent_tie := PySem.W.mg_of X G g_law_bent_tie,
    b_law_bent_tie := F_law_bent_tie.binds fun _ _ _ _ _ _ us hl => match us, hl with | [_, _, _, _, _], _ => rfl,
    a_law_bent_relation := a_law_bent_relation,
    fd_law_bent_relation := fd_law_bent_relation,
    F_law_bent_relation := F_law_bent_relation,
    mg_law_bent_relation := PySem.W.mg_of X G g_law_bent_relation,
    b_law_bent_relation := F_law_bent_relation.binds fun _ _ _ _ _ _ us hl => match us, hl with | [_, _, _, _], _ => rfl,
    a_law_bent := a_law_bent,
    fd_law_bent := fd_law_bent,
    F_law_bent := F_law_bent,
    mg_law_bent := PySem.W.mg_of X G g_law_bent,
    b_law_bent := F_law_bent.binds fun _ _ _ _ _ _ us hl => match us, hl with | [_, _, _, _, _], _ => rfl,
    a_law_is_told := a_law_is_told,
    fd_law_is_told := fd_law_is_told,
    F_law_is_told := F_law_is_told,
    mg_law_is_told := PySem.W.mg_of X G g_law_is_told,
    b_law_is_told := F_law_is_told.binds fun _ _ _ _ _ _ us hl => match us, hl with | [_, _, _, _, _], _ => rfl,
    a_law_right := a_law_right,
    fd_law_right := fd_law_right,
    F_law_right := F_law_right,
    mg_law_right := PySem.W.mg_of X G g_law_right,
    b_law_right := F_law_right.binds fun _ _ _ _ _ _ us hl => match us, hl with | [_], _ => rfl,
    a_law := a_law,
    fd_law := fd_law,
    F_law := F_law,
    mg_law := PySem.W.mg_of X G g_law,
    b_law := F_law.binds fun _ _ _ _ _ _ us hl => match us, hl with | [_], _ => rfl,
    c_CellError := c_CellError,
    mc_CellError := PySem.W.mg_of X G g_CellError,
    c_InvalidPuzzle := c_InvalidPuzzle,
    mc_InvalidPuzzle := PySem.W.mg_of X G g_InvalidPuzzle,
    c_InvalidText := c_InvalidText,
    mc_InvalidText := PySem.W.mg_of X G g_InvalidText,
    x_InvalidText := ⟨⟨nm_t, q_t, N_t, bs_t, bm_t, sn_t, sub_t, ab_t, col_t, dd_t, k0_t, k1_t, k2_t, k3_t, k5_t, xL, xV⟩, sa_t, xC, tC, kC⟩,
    e_InvalidText := ⟨gA, gB, xC, hD, hA, o_n, o_t, hM⟩,
    xi_InvalidText := g_InvalidText_init,
    xt_InvalidText := tI,
    no_text := nT,
    no_at := nA,
    kit1 := kit_sub i1 t1 s1,
    kit2 := kit_not i2 t2 sC s2,
    ex1 := exm_own xC iC tC sC,
    c_Relation := c_Relation,
    mc_Relation := PySem.W.mg_of X G g_Relation,
    o_Relation := ⟨⟨pg_Relation, hd_Relation, po_Relation, sa_Relation⟩, ha_Relation, o_n, o_t, hm_Relation⟩,
    M_Relation := ⟨mk_Relation, g_Relation_init, i_Relation_init, kc_Relation⟩,
    na_Relation_size := na_Relation_size,
    na_Relation_rows := na_Relation_rows,
    c_Book := c_Book,
    mc_Book := PySem.W.mg_of X G g_Book,
    o_Book := ⟨⟨pg_Book, hd_Book, po_Book, sa_Book⟩, ha_Book, o_n, o_t, hm_Book⟩,
    M_Book := ⟨mk_Book, g_Book_init, i_Book_init, kc_Book⟩,
    na_Book_relations := na_Book_relations,
    na_Book_plain := na_Book_plain,
    m_Book_len := ⟨g_Book_len, i_Book_len, F_Book_len.kp⟩,
    c_Puzzle := c_Puzzle,
    mc_Puzzle := PySem.W.mg_of X G g_Puzzle,
    o_Puzzle := ⟨⟨pg_Puzzle, hd_Puzzle, po_Puzzle, sa_Puzzle⟩, ha_Puzzle, o_n, o_t, hm_Puzzle⟩,
    M_Puzzle := ⟨mk_Puzzle, g_Puzzle_init, i_Puzzle_init, kc_Puzzle⟩,
    na_Puzzle_book := na_Puzzle_book,
    na_Puzzle_cell_count := na_Puzzle_cell_count,
    na_Puzzle_ties := na_Puzzle_ties,
    m_Puzzle_eq := ⟨g_Puzzle_eq, i_Puzzle_eq, F_Puzzle_eq.kp⟩,
    c_PuzzleReading := c_PuzzleReading,
    mc_PuzzleReading := PySem.W.mg_of X G g_PuzzleReading,
    o_PuzzleReading := ⟨⟨pg_PuzzleReading, hd_PuzzleReading, po_PuzzleReading, sa_PuzzleReading⟩, ha_PuzzleReading, o_n, o_t, hm_PuzzleReading⟩,
    M_PuzzleReading := ⟨mk_PuzzleReading, g_PuzzleReading_init, i_PuzzleReading_init, kc_PuzzleReading⟩,
    na_PuzzleReading_told := na_PuzzleReading_told,
    na_PuzzleReading_book := na_PuzzleReading_book,
    na_PuzzleReading_cells := na_PuzzleReading_cells,
    na_PuzzleReading_ties := na_PuzzleReading_ties,
    m_PuzzleReading_take := ⟨g_PuzzleReading_take, i_PuzzleReading_take, F_PuzzleReading_take.kp⟩,
    m_PuzzleReading_take_relation := ⟨g_PuzzleReading_take_relation, i_PuzzleReading_take_relation, F_PuzzleReading_take_relation.kp⟩,
    m_PuzzleReading_take_cells := ⟨g_PuzzleReading_take_cells, i_PuzzleReading_take_cells, F_PuzzleReading_take_cells.kp⟩,
    m_PuzzleReading_take_tie := ⟨g_PuzzleReading_take_tie, i_PuzzleReading_take_tie, F_PuzzleReading_take_tie.kp⟩,
    u_MOST_PLACES := u_MOST_PLACES,
    mg_MOST_PLACES := PySem.W.mg_of X G g_MOST_PLACES,
    rel_MOST_PLACES := r_MOST_PLACES,
    u_MOST_RELATIONS := u_MOST_RELATIONS,
    mg_MOST_RELATIONS := PySem.W.mg_of X G g_MOST_RELATIONS,
    rel_MOST_RELATIONS := r_MOST_RELATIONS,
    u_FIGURES := u_FIGURES,
    mg_FIGURES := PySem.W.mg_of X G g_FIGURES,
    rel_FIGURES := r_FIGURES,
    u_MOST_FIGURES := u_MOST_FIGURES,
    mg_MOST_FIGURES := PySem.W.mg_of X G g_MOST_FIGURES,
    rel_MOST_FIGURES := r_MOST_FIGURES }⟩

theorem fin {P : Program} {w : World} {K : PySem.W.Frag} {mg : Str → Option Value} {fa : Addr} (N : Nonempty (Tx K mg)) (e : mg "law" = some (.ref fa)) :
    ∃ fd : FuncData, Binds K fd ["script"] [] ∧ ∀ B : Heap, K.In B → B.Ns mainGlobals mg → FnG P w K mg B CX0 13 fa fd ["script"] (P_right K) := by
  obtain ⟨T⟩ := N
  have e := e.symm.trans T.mg_law
  cases e
  exact ⟨T.fd_law, T.b_law, fun B _ _ => ok_law T⟩
end K08
open PySem PySem.W PyProof.Rows in
set_option maxRecDepth 100000 in
set_option maxHeartbeats 0 in
theorem PySem.Challenge.cw_eightcells_k08_long_puzzle_texts_holds : PySem.Challenge.rw_eightcells_k08_long_puzzle_texts.Holds := by
  w_on; o_law; k_head; (case hw => w_witness2)
  k_fill
  refine K08.walkG (l := PySem.Challenge.rw_eightcells_k08_long_puzzle_texts) (k := 13) rfl rfl K08.room13 (fun w h Y => PySem.W.kIn_of Y) ?F
  case F =>
    intro w mg fa h KX G hmg
    refine K08.fin ?TX hmg
    case TX =>
      refine' K08.top_mk KX G ?y_z_isinstance ?y_z_int ?y_z_bool ?y_z_tuple ?y_z_list ?y_z_str ?y_z_len ?y_z_range ?y_z_sum ?y_z_all ?y_z_sorted ?y_z_enumerate ?y_z_abs ?y_z_repr ?y_z_ValueError ?y_g_CellError ?y_g_InvalidPuzzle ?y_g_InvalidText ?y_g_Relation ?y_g_Book ?y_g_Puzzle ?y_g_PuzzleReading ?y_g_InvalidText_init ?y_i_InvalidText_init ?y_F_InvalidText_init ?y_g_is_below ?y_F_is_below ?y_g_is_row ?y_F_is_row ?y_g_are_rows ?y_F_are_rows ?y_g_Relation_init ?y_i_Relation_init ?y_F_Relation_init ?y_g_are_relations ?y_F_are_relations ?y_g_Book_init ?y_i_Book_init ?y_F_Book_init ?y_g_Book_len ?y_i_Book_len ?y_F_Book_len ?y_g_are_cells ?y_F_are_cells ?y_g_is_tie ?y_F_is_tie ?y_g_Puzzle_init ?y_i_Puzzle_init ?y_F_Puzzle_init ?y_g_Puzzle_eq ?y_i_Puzzle_eq ?y_F_Puzzle_eq ?y_g_joined_by_commas ?y_F_joined_by_commas ?y_g_write_relation ?y_F_write_relation ?y_g_write_puzzle ?y_F_write_puzzle ?y_g_number_told ?y_F_number_told ?y_g_row_told ?y_F_row_told ?y_g_relation_told ?y_F_relation_told ?y_g_PuzzleReading_init ?y_i_PuzzleReading_init ?y_F_PuzzleReading_init ?y_g_PuzzleReading_take ?y_i_PuzzleReading_take ?y_F_PuzzleReading_take ?y_g_PuzzleReading_take_relation ?y_i_PuzzleReading_take_relation ?y_F_PuzzleReading_take_relation ?y_g_PuzzleReading_take_cells ?y_i_PuzzleReading_take_cells ?y_F_PuzzleReading_take_cells ?y_g_PuzzleReading_take_tie ?y_i_PuzzleReading_take_tie ?y_F_PuzzleReading_take_tie ?y_g_read_puzzle ?y_F_read_puzzle ?y_g_law_hand ?y_F_law_hand ?y_g_law_take ?y_F_law_take ?y_g_law_every ?y_F_law_every ?y_g_law_each_once ?y_F_law_each_once ?y_g_law_book ?y_F_law_book ?y_g_law_lines ?y_F_law_lines ?y_g_law_read ?y_F_law_read ?y_g_law_is_same ?y_F_law_is_same ?y_g_law_bent_tie ?y_F_law_bent_tie ?y_g_law_bent_relation ?y_F_law_bent_relation ?y_g_law_bent ?y_F_law_bent ?y_g_law_is_told ?y_F_law_is_told ?y_g_law_right ?y_F_law_right ?y_g_law ?y_F_law ?y_o_n ?y_o_t ?y_xL ?y_xV ?y_sa_t ?y_xC ?y_tC ?y_iC ?y_sC ?y_kC ?y_gA ?y_gB ?y_hD ?y_hA ?y_hM ?y_tI ?y_nT ?y_nA ?y_i1 ?y_t1 ?y_s1 ?y_i2 ?y_t2 ?y_s2 ?y_pg_Relation ?y_hd_Relation ?y_po_Relation ?y_sa_Relation ?y_ha_Relation ?y_hm_Relation ?y_mk_Relation ?y_kc_Relation ?y_na_Relation_size ?y_na_Relation_rows ?y_pg_Book ?y_hd_Book ?y_po_Book ?y_sa_Book ?y_ha_Book ?y_hm_Book ?y_mk_Book ?y_kc_Book ?y_na_Book_relations ?y_na_Book_plain ?y_pg_Puzzle ?y_hd_Puzzle ?y_po_Puzzle ?y_sa_Puzzle ?y_ha_Puzzle ?y_hm_Puzzle ?y_mk_Puzzle ?y_kc_Puzzle ?y_na_Puzzle_book ?y_na_Puzzle_cell_count ?y_na_Puzzle_ties ?y_pg_PuzzleReading ?y_hd_PuzzleReading ?y_po_PuzzleReading ?y_sa_PuzzleReading ?y_ha_PuzzleReading ?y_hm_PuzzleReading ?y_mk_PuzzleReading ?y_kc_PuzzleReading ?y_na_PuzzleReading_told ?y_na_PuzzleReading_book ?y_na_PuzzleReading_cells ?y_na_PuzzleReading_ties ?y_g_MOST_PLACES ?y_r_MOST_PLACES ?y_g_MOST_RELATIONS ?y_r_MOST_RELATIONS ?y_g_FIGURES ?y_r_FIGURES ?y_g_MOST_FIGURES ?y_r_MOST_FIGURES
      (case y_z_isinstance => k_is)
      (case y_z_int => k_is)
      (case y_z_bool => k_is)
      (case y_z_tuple => k_is)
      (case y_z_list => k_is)
      (case y_z_str => k_is)
      (case y_z_len => k_is)
      (case y_z_range => k_is)
      (case y_z_sum => k_is)
      (case y_z_all => k_is)
      (case y_z_sorted => k_is)
      (case y_z_enumerate => k_is)
      (case y_z_abs => k_is)
      (case y_z_repr => k_is)
      (case y_z_ValueError => k_is)
      (case y_g_CellError => k_is)
      (case y_g_InvalidPuzzle => k_is)
      (case y_g_InvalidText => k_is)
      (case y_g_Relation => k_is)
      (case y_g_Book => k_is)
      (case y_g_Puzzle => k_is)
      (case y_g_PuzzleReading => k_is)
      (case y_g_InvalidText_init => k_is)
      (case y_i_InvalidText_init => k_is)
      (case y_F_InvalidText_init => refine' L2.fun_mk ?y_l ?y_c ?y_k; (case y_l => k_is); (case y_c => k_is); (case y_k => k_is))
      (case y_g_is_below => k_is)
      (case y_F_is_below => refine' L2.fun_mk ?y_l ?y_c ?y_k; (case y_l => k_is); (case y_c => k_is); (case y_k => k_is))
      (case y_g_is_row => k_is)
      (case y_F_is_row => refine' L2.fun_mk ?y_l ?y_c ?y_k; (case y_l => k_is); (case y_c => k_is); (case y_k => k_is))
      (case y_g_are_rows => k_is)
      (case y_F_are_rows => refine' L2.fun_mk ?y_l ?y_c ?y_k; (case y_l => k_is); (case y_c => k_is); (case y_k => k_is))
      (case y_g_Relation_init => k_is)
      (case y_i_Relation_init => k_is)
      (case y_F_Relation_init => refine' L2.fun_mk ?y_l ?y_c ?y_k; (case y_l => k_is); (case y_c => k_is); (case y_k => k_is))
      (case y_g_are_relations => k_is)
      (case y_F_are_relations => refine' L2.fun_mk ?y_l ?y_c ?y_k; (case y_l => k_is); (case y_c => k_is); (case y_k => k_is))
      (case y_g_Book_init => k_is)
      (case y_i_Book_init => k_is)
      (case y_F_Book_init => refine' L2.fun_mk ?y_l ?y_c ?y_k; (case y_l => k_is); (case y_c => k_is); (case y_k => k_is))
      (case y_g_Book_len => k_is)
      (case y_i_Book_len => k_is)
      (case y_F_Book_len => refine' L2.fun_mk ?y_l ?y_c ?y_k; (case y_l => k_is); (case y_c => k_is); (case y_k => k_is))
      (case y_g_are_cells => k_is)
      (case y_F_are_cells => refine' L2.fun_mk ?y_l ?y_c ?y_k; (case y_l => k_is); (case y_c => k_is); (case y_k => k_is))
      (case y_g_is_tie => k_is)
      (case y_F_is_tie => refine' L2.fun_mk ?y_l ?y_c ?y_k; (case y_l => k_is); (case y_c => k_is); (case y_k => k_is))
      (case y_g_Puzzle_init => k_is)
      (case y_i_Puzzle_init => k_is)
      (case y_F_Puzzle_init => refine' L2.fun_mk ?y_l ?y_c ?y_k; (case y_l => k_is); (case y_c => k_is); (case y_k => k_is))
      (case y_g_Puzzle_eq => k_is)
      (case y_i_Puzzle_eq => k_is)
      (case y_F_Puzzle_eq => refine' L2.fun_mk ?y_l ?y_c ?y_k; (case y_l => k_is); (case y_c => k_is); (case y_k => k_is))
      (case y_g_joined_by_commas => k_is)
      (case y_F_joined_by_commas => refine' L2.fun_mk ?y_l ?y_c ?y_k; (case y_l => k_is); (case y_c => k_is); (case y_k => k_is))
      (case y_g_write_relation => k_is)
      (case y_F_write_relation => refine' L2.fun_mk ?y_l ?y_c ?y_k; (case y_l => k_is); (case y_c => k_is); (case y_k => k_is))
      (case y_g_write_puzzle => k_is)
      (case y_F_write_puzzle => refine' L2.fun_mk ?y_l ?y_c ?y_k; (case y_l => k_is); (case y_c => k_is); (case y_k => k_is))
      (case y_g_number_told => k_is)
      (case y_F_number_told => refine' L2.fun_mk ?y_l ?y_c ?y_k; (case y_l => k_is); (case y_c => k_is); (case y_k => k_is))
      (case y_g_row_told => k_is)
      (case y_F_row_told => refine' L2.fun_mk ?y_l ?y_c ?y_k; (case y_l => k_is); (case y_c => k_is); (case y_k => k_is))
      (case y_g_relation_told => k_is)
      (case y_F_relation_told => refine' L2.fun_mk ?y_l ?y_c ?y_k; (case y_l => k_is); (case y_c => k_is); (case y_k => k_is))
      (case y_g_PuzzleReading_init => k_is)
      (case y_i_PuzzleReading_init => k_is)
      (case y_F_PuzzleReading_init => refine' L2.fun_mk ?y_l ?y_c ?y_k; (case y_l => k_is); (case y_c => k_is); (case y_k => k_is))
      (case y_g_PuzzleReading_take => k_is)
      (case y_i_PuzzleReading_take => k_is)
      (case y_F_PuzzleReading_take => refine' L2.fun_mk ?y_l ?y_c ?y_k; (case y_l => k_is); (case y_c => k_is); (case y_k => k_is))
      (case y_g_PuzzleReading_take_relation => k_is)
      (case y_i_PuzzleReading_take_relation => k_is)
      (case y_F_PuzzleReading_take_relation => refine' L2.fun_mk ?y_l ?y_c ?y_k; (case y_l => k_is); (case y_c => k_is); (case y_k => k_is))
      (case y_g_PuzzleReading_take_cells => k_is)
      (case y_i_PuzzleReading_take_cells => k_is)
      (case y_F_PuzzleReading_take_cells => refine' L2.fun_mk ?y_l ?y_c ?y_k; (case y_l => k_is); (case y_c => k_is); (case y_k => k_is))
      (case y_g_PuzzleReading_take_tie => k_is)
      (case y_i_PuzzleReading_take_tie => k_is)
      (case y_F_PuzzleReading_take_tie => refine' L2.fun_mk ?y_l ?y_c ?y_k; (case y_l => k_is); (case y_c => k_is); (case y_k => k_is))
      (case y_g_read_puzzle => k_is)
      (case y_F_read_puzzle => refine' L2.fun_mk ?y_l ?y_c ?y_k; (case y_l => k_is); (case y_c => k_is); (case y_k => k_is))
      (case y_g_law_hand => k_is)
      (case y_F_law_hand => refine' L2.fun_mk ?y_l ?y_c ?y_k; (case y_l => k_is); (case y_c => k_is); (case y_k => k_is))
      (case y_g_law_take => k_is)
      (case y_F_law_take => refine' L2.fun_mk ?y_l ?y_c ?y_k; (case y_l => k_is); (case y_c => k_is); (case y_k => k_is))
      (case y_g_law_every => k_is)
      (case y_F_law_every => refine' L2.fun_mk ?y_l ?y_c ?y_k; (case y_l => k_is); (case y_c => k_is); (case y_k => k_is))
      (case y_g_law_each_once => k_is)
      (case y_F_law_each_once => refine' L2.fun_mk ?y_l ?y_c ?y_k; (case y_l => k_is); (case y_c => k_is); (case y_k => k_is))
      (case y_g_law_book => k_is)
      (case y_F_law_book => refine' L2.fun_mk ?y_l ?y_c ?y_k; (case y_l => k_is); (case y_c => k_is); (case y_k => k_is))
      (case y_g_law_lines => k_is)
      (case y_F_law_lines => refine' L2.fun_mk ?y_l ?y_c ?y_k; (case y_l => k_is); (case y_c => k_is); (case y_k => k_is))
      (case y_g_law_read => k_is)
      (case y_F_law_read => refine' L2.fun_mk ?y_l ?y_c ?y_k; (case y_l => k_is); (case y_c => k_is); (case y_k => k_is))
      (case y_g_law_is_same => k_is)
      (case y_F_law_is_same => refine' L2.fun_mk ?y_l ?y_c ?y_k; (case y_l => k_is); (case y_c => k_is); (case y_k => k_is))
      (case y_g_law_bent_tie => k_is)
      (case y_F_law_bent_tie => refine' L2.fun_mk ?y_l ?y_c ?y_k; (case y_l => k_is); (case y_c => k_is); (case y_k => k_is))
      (case y_g_law_bent_relation => k_is)
      (case y_F_law_bent_relation => refine' L2.fun_mk ?y_l ?y_c ?y_k; (case y_l => k_is); (case y_c => k_is); (case y_k => k_is))
      (case y_g_law_bent => k_is)
      (case y_F_law_bent => refine' L2.fun_mk ?y_l ?y_c ?y_k; (case y_l => k_is); (case y_c => k_is); (case y_k => k_is))
      (case y_g_law_is_told => k_is)
      (case y_F_law_is_told => refine' L2.fun_mk ?y_l ?y_c ?y_k; (case y_l => k_is); (case y_c => k_is); (case y_k => k_is))
      (case y_g_law_right => k_is)
      (case y_F_law_right => refine' L2.fun_mk ?y_l ?y_c ?y_k; (case y_l => k_is); (case y_c => k_is); (case y_k => k_is))
      (case y_g_law => k_is)
      (case y_F_law => refine' L2.fun_mk ?y_l ?y_c ?y_k; (case y_l => k_is); (case y_c => k_is); (case y_k => k_is))
      (case y_o_n => k_is)
      (case y_o_t => k_is)
      (case y_xL => k_is)
      (case y_xV => decide +kernel)
      (case y_sa_t => k_is)
      (case y_xC => k_is)
      (case y_tC => k_is)
      (case y_iC => k_is)
      (case y_sC => first | rfl | k_is)
      (case y_kC => k_is)
      (case y_gA => k_is)
      (case y_gB => k_is)
      (case y_hD => k_is)
      (case y_hA => k_is)
      (case y_hM => k_is)
      (case y_tI => k_is)
      (case y_nT => k_is)
      (case y_nA => k_is)
      (case y_i1 => k_is)
      (case y_t1 => k_is)
      (case y_s1 => first | rfl | k_is)
      (case y_i2 => k_is)
      (case y_t2 => k_is)
      (case y_s2 => first | rfl | k_is)
      (case y_pg_Relation => k_is)
      (case y_hd_Relation => k_is)
      (case y_po_Relation => k_is)
      (case y_sa_Relation => k_is)
      (case y_ha_Relation => k_is)
      (case y_hm_Relation => k_is)
      (case y_mk_Relation => k_is)
      (case y_kc_Relation => k_is)
      (case y_na_Relation_size => k_is)
      (case y_na_Relation_rows => k_is)
      (case y_pg_Book => k_is)
      (case y_hd_Book => k_is)
      (case y_po_Book => k_is)
      (case y_sa_Book => k_is)
      (case y_ha_Book => k_is)
      (case y_hm_Book => k_is)
      (case y_mk_Book => k_is)
      (case y_kc_Book => k_is)
      (case y_na_Book_relations => k_is)
      (case y_na_Book_plain => k_is)
      (case y_pg_Puzzle => k_is)
      (case y_hd_Puzzle => k_is)
      (case y_po_Puzzle => k_is)
      (case y_sa_Puzzle => k_is)
      (case y_ha_Puzzle => k_is)
      (case y_hm_Puzzle => k_is)
      (case y_mk_Puzzle => k_is)
      (case y_kc_Puzzle => k_is)
      (case y_na_Puzzle_book => k_is)
      (case y_na_Puzzle_cell_count => k_is)
      (case y_na_Puzzle_ties => k_is)
      (case y_pg_PuzzleReading => k_is)
      (case y_hd_PuzzleReading => k_is)
      (case y_po_PuzzleReading => k_is)
      (case y_sa_PuzzleReading => k_is)
      (case y_ha_PuzzleReading => k_is)
      (case y_hm_PuzzleReading => k_is)
      (case y_mk_PuzzleReading => k_is)
      (case y_kc_PuzzleReading => k_is)
      (case y_na_PuzzleReading_told => k_is)
      (case y_na_PuzzleReading_book => k_is)
      (case y_na_PuzzleReading_cells => k_is)
      (case y_na_PuzzleReading_ties => k_is)
      (case y_g_MOST_PLACES => k_is)
      (case y_r_MOST_PLACES => exact ⟨_, rfl⟩)
      (case y_g_MOST_RELATIONS => k_is)
      (case y_r_MOST_RELATIONS => exact ⟨_, rfl⟩)
      (case y_g_FIGURES => k_is)
      (case y_r_FIGURES => exact ⟨_, rfl⟩)
      (case y_g_MOST_FIGURES => k_is)
      (case y_r_MOST_FIGURES => exact ⟨_, rfl⟩)
#print axioms PySem.Challenge.cw_eightcells_k08_long_puzzle_texts_holds
