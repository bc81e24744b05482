import PyProof.Rows.All
import Wide.All
import OpenK.AllK
import Wide.FinOn
import HandS.ForMost
import HandS.Exc
import HandS.ExcOwn
import HandS.TryMany
import HandS.ExcField
import HandS.Star
import HandS.Style
import HandS.Conv
import HandS.NoneIn
import HandS.Zip
import HandS.Small
import HandS.Walk
import HandS.TupAny
import HandS.TupMul
import HandS.SortOrd
import HandS.Wide
import HandS.SortInts
import HandS.Deep
import HandS.IsInst
import KE.GoesEnum
import HandS.WordsExc
import PySem.Challenge.RW_renamedown_k91_whole_deeds_that_lie_in_d
section
set_option Elab.async false
set_option linter.all false
set_option maxRecDepth 100000
set_option maxHeartbeats 1000000
/-! Ev, part A: trees of values, what they stand for in an abstract heap. -/
namespace Ev
open PySem PySem.Spec PyProof.Rows L2

/-- Python values as trees; o tells whether a list, dict or object is owned (may be changed) -/
inductive T where
  | non | bl (b : Bool) | int (i : Int) | str (s : List Nat)
  | tup (xs : List T) | lst (o : Bool) (xs : List T)
  | dct (o : Bool) (ks vs : List T)
  | obj (o : Bool) (c : Nat) (ns : List Nat) (vs : List T)
  | fn (f : Nat) | cls (c : Nat)
  deriving Inhabited

/-- owned by nobody: it may be shared -/
def T.pure : T → Bool
  | .lst o _ => !o
  | .dct o _ _ => !o
  | .obj o _ _ _ => !o
  | _ => true
mutual
def T.fz : T → T
  | .lst true xs => .lst false (T.fzs xs)
  | .dct true ks vs => .dct false ks (T.fzs vs)
  | .obj true c ns vs => .obj false c ns (T.fzs vs)
  | t => t
def T.fzs : List T → List T
  | [] => []
  | t :: r => t.fz :: T.fzs r
end

abbrev Cell := Addr × HO
/-- the program's things by number -/
structure Gm where
  K : PySem.W.Frag
  fa : Nat → Addr
  ca : Nat → Addr
  fld : Nat → Str

def keyT : Key → T
  | .inl i => .int i
  | .inr x => .str x.cps.toList

mutual
inductive Rep (G : Gm) (F : Hp) : T → V → List Cell → Prop
  | non : Rep G F .non .non []
  | bl {b} : Rep G F (.bl b) (.bl b) []
  | int {i} : Rep G F (.int i) (.int i) []
  | str {s} : Rep G F (.str s) (.str ⟨s.toArray⟩) []
  | tup {a vs ts} : SqT G.K F a vs → Reps G F ts vs [] → Rep G F (.tup ts) (.ref a) []
  | lstF {a vs ts} : SqL G.K F a vs → Reps G F ts vs [] → Rep G F (.lst false ts) (.ref a) []
  | lstO {a vs ts L} : Reps G F ts vs L → Rep G F (.lst true ts) (.ref a) ((a, .lst vs) :: L)
  | dctF {a kvs ks ts} : F a = some (.dK kvs) → ks = kvs.map (fun p => keyT p.1) → Reps G F ts (kvs.map (·.2)) [] → Rep G F (.dct false ks ts) (.ref a) []
  | dctO {a kvs ks ts L} : ks = kvs.map (fun p => keyT p.1) → Reps G F ts (kvs.map (·.2)) L → Rep G F (.dct true ks ts) (.ref a) ((a, .dK kvs) :: L)
  | objF {a dx fs c ns ts} : F a = some (.ins (G.ca c) dx fs) → F dx = some (.own a) → fs.map (·.1) = ns.map G.fld → Reps G F ts (fs.map (·.2)) [] → Rep G F (.obj false c ns ts) (.ref a) []
  | objO {a dx fs c ns ts L} : fs.map (·.1) = ns.map G.fld → Reps G F ts (fs.map (·.2)) L → Rep G F (.obj true c ns ts) (.ref a) ((a, .ins (G.ca c) dx fs) :: (dx, .own a) :: L)
  | fn {f} : Rep G F (.fn f) (.ref (G.fa f)) []
  | cls {c} : Rep G F (.cls c) (.ref (G.ca c)) []
inductive Reps (G : Gm) (F : Hp) : List T → List V → List Cell → Prop
  | nil : Reps G F [] [] []
  | cons {t v L1 ts vs L2} : Rep G F t v L1 → Reps G F ts vs L2 → Reps G F (t :: ts) (v :: vs) (L1 ++ L2)
end

/-- F's facts stay -/
abbrev Ext (F F' : Hp) : Prop := ∀ a o, F a = some o → F' a = some o
theorem Ext.refl (F : Hp) : Ext F F := fun _ _ h => h
theorem Ext.trans {F F1 F2 : Hp} (a : Ext F F1) (b : Ext F1 F2) : Ext F F2 := fun c o h => b c o (a c o h)
theorem Ext.upd {F : Hp} {a : Addr} {o : HO} (h : F a = none) : Ext F (upd F a o) := fun b u e => by
  rw [upd_ne (ne_of_none e h)]; exact e
theorem Ext.rd {F F' : Hp} {a : Addr} {u : HO} (e : Ext F F') (r : Rd F a u) : Rd F' a u := by
  rcases r with r | ⟨o, r⟩
  · exact .inl (e _ _ r)
  · exact .inr ⟨o, e _ _ r⟩
theorem Ext.sqL {K : PySem.W.Frag} {F F' : Hp} {a : Addr} {xs : List V} (e : Ext F F') (h : SqL K F a xs) : SqL K F' a xs := by
  rcases h with h | h
  · exact .inl (e.rd h)
  · exact .inr h
theorem Ext.sqT {K : PySem.W.Frag} {F F' : Hp} {a : Addr} {xs : List V} (e : Ext F F') (h : SqT K F a xs) : SqT K F' a xs := by
  rcases h with h | h
  · exact .inl (e.rd h)
  · exact .inr h

mutual
theorem Rep.mono {G : Gm} {F F' : Hp} (e : Ext F F') : ∀ {t : T} {v : V} {L : List Cell}, Rep G F t v L → Rep G F' t v L
  | _, _, _, .non => .non
  | _, _, _, .bl => .bl
  | _, _, _, .int => .int
  | _, _, _, .str => .str
  | _, _, _, .tup h r => .tup (e.sqT h) (Reps.mono e r)
  | _, _, _, .lstF h r => .lstF (e.sqL h) (Reps.mono e r)
  | _, _, _, .lstO r => .lstO (Reps.mono e r)
  | _, _, _, .dctF h k r => .dctF (e _ _ h) k (Reps.mono e r)
  | _, _, _, .dctO k r => .dctO k (Reps.mono e r)
  | _, _, _, .objF h h2 k r => .objF (e _ _ h) (e _ _ h2) k (Reps.mono e r)
  | _, _, _, .objO k r => .objO k (Reps.mono e r)
  | _, _, _, .fn => .fn
  | _, _, _, .cls => .cls
theorem Reps.mono {G : Gm} {F F' : Hp} (e : Ext F F') : ∀ {ts : List T} {vs : List V} {L : List Cell}, Reps G F ts vs L → Reps G F' ts vs L
  | _, _, _, .nil => .nil
  | _, _, _, .cons h r => .cons (Rep.mono e h) (Reps.mono e r)
end

/-- the abstract heap has the facts F and, apart from them and from one another, the cells L -/
structure At (F : Hp) (L : List Cell) (H : Hp) : Prop where
  nd : (L.map (·.1)).Nodup
  at_ : ∀ p ∈ L, H p.1 = some p.2
  ap : ∀ p ∈ L, F p.1 = none
  ext : Ext F H

theorem At.perm {F H : Hp} {L L' : List Cell} (h : At F L H) (p : L.Perm L') : At F L' H :=
  ⟨(p.map (·.1)).nodup_iff.mp h.nd, fun q hq => h.at_ q (p.mem_iff.mpr hq), fun q hq => h.ap q (p.mem_iff.mpr hq), h.ext⟩
theorem At.drop {F H : Hp} {L L' : List Cell} (h : At F (L ++ L') H) : At F L' H := by
  refine ⟨?_, fun q hq => h.at_ q (List.mem_append_right _ hq), fun q hq => h.ap q (List.mem_append_right _ hq), h.ext⟩
  have := h.nd
  rw [List.map_append] at this
  exact (List.nodup_append.mp this).2.1
theorem At.left {F H : Hp} {L L' : List Cell} (h : At F (L ++ L') H) : At F L H := (h.perm List.perm_append_comm).drop
/-- a new object, owned -/
theorem At.new {F H : Hp} {L : List Cell} (h : At F L H) {p : Addr} (hp : H p = none) (o : HO) : At F ((p, o) :: L) (upd H p o) := by
  have hF : F p = none := by
    cases e : F p with
    | none => rfl
    | some u => rw [h.ext _ _ e] at hp; cases hp
  have hL : ∀ q ∈ L, q.1 ≠ p := fun q hq z => by have := h.at_ q hq; rw [z, hp] at this; cases this
  refine ⟨?_, fun q hq => ?_, fun q hq => ?_, fun b u e => ?_⟩
  · rw [List.map_cons]
    refine List.nodup_cons.mpr ⟨fun hm => ?_, h.nd⟩
    obtain ⟨q, hq, e⟩ := List.mem_map.mp hm
    exact hL q hq e
  · rcases List.mem_cons.mp hq with rfl | hq
    · exact upd_same
    · rw [upd_ne (hL q hq)]; exact h.at_ q hq
  · rcases List.mem_cons.mp hq with rfl | hq
    · exact hF
    · exact h.ap q hq
  · rw [upd_ne (ne_of_none (h.ext _ _ e) hp)]; exact h.ext _ _ e
/-- an owned object becomes a fact -/
theorem At.freeze {F H : Hp} {L : List Cell} {p : Addr} {o : HO} (h : At F ((p, o) :: L) H) : At (upd F p o) L H := by
  have hnd := h.nd
  rw [List.map_cons] at hnd
  have hn := List.nodup_cons.mp hnd
  refine ⟨hn.2, fun q hq => h.at_ q (List.mem_cons_of_mem _ hq), fun q hq => ?_, fun b u e => ?_⟩
  · have : q.1 ≠ p := fun z => hn.1 (List.mem_map.mpr ⟨q, hq, z⟩)
    rw [upd_ne this]; exact h.ap q (List.mem_cons_of_mem _ hq)
  · by_cases z : b = p
    · subst z; rw [upd_same] at e; cases e; exact h.at_ (b, o) List.mem_cons_self
    · rw [upd_ne z] at e; exact h.ext _ _ e
theorem At.freezeExt {F H : Hp} {L : List Cell} {p : Addr} {o : HO} (h : At F ((p, o) :: L) H) : Ext F (upd F p o) := Ext.upd (h.ap (p, o) List.mem_cons_self)
/-- a new fact -/
theorem At.newF {F H : Hp} {L : List Cell} (h : At F L H) {p : Addr} (hp : H p = none) (o : HO) : At (upd F p o) L (upd H p o) := (h.new hp o).freeze
theorem At.newFExt {F H : Hp} {L : List Cell} (h : At F L H) {p : Addr} (hp : H p = none) (o : HO) : Ext F (upd F p o) := (h.new hp o).freezeExt
/-- an owned object is changed -/
theorem At.set {F H : Hp} {L : List Cell} {p : Addr} {o o' : HO} (h : At F ((p, o) :: L) H) : At F ((p, o') :: L) (upd H p o') := by
  have hnd := h.nd
  rw [List.map_cons] at hnd
  have hn := List.nodup_cons.mp hnd
  have hL : ∀ q ∈ L, q.1 ≠ p := fun q hq z => hn.1 (List.mem_map.mpr ⟨q, hq, z⟩)
  have hF : F p = none := h.ap (p, o) List.mem_cons_self
  refine ⟨by rw [List.map_cons]; exact hnd, fun q hq => ?_, fun q hq => ?_, fun b u e => ?_⟩
  · rcases List.mem_cons.mp hq with rfl | hq
    · exact upd_same
    · rw [upd_ne (hL q hq)]; exact h.at_ q (List.mem_cons_of_mem _ hq)
  · rcases List.mem_cons.mp hq with rfl | hq
    · exact hF
    · exact h.ap q (List.mem_cons_of_mem _ hq)
  · rw [upd_ne (ne_of_none e hF)]; exact h.ext _ _ e

/-! ### freezing -/
mutual
theorem Rep.fz {G : Gm} {H : Hp} : ∀ {F : Hp} {t : T} {v : V} {L R : List Cell}, Rep G F t v L → At F (L ++ R) H → ∃ F', Ext F F' ∧ Rep G F' t.fz v [] ∧ At F' R H
  | F, _, _, _, R, .non, h => ⟨F, Ext.refl F, .non, h⟩
  | F, _, _, _, R, .bl, h => ⟨F, Ext.refl F, .bl, h⟩
  | F, _, _, _, R, .int, h => ⟨F, Ext.refl F, .int, h⟩
  | F, _, _, _, R, .str, h => ⟨F, Ext.refl F, .str, h⟩
  | F, _, _, _, R, .tup q r, h => ⟨F, Ext.refl F, .tup q r, h⟩
  | F, _, _, _, R, .lstF q r, h => ⟨F, Ext.refl F, .lstF q r, h⟩
  | F, _, _, _, R, @Rep.lstO _ _ a vs ts L r, h => by
    obtain ⟨F1, e1, r1, h1⟩ := Reps.fz (r.mono h.freezeExt) (R := R) h.freeze
    exact ⟨F1, h.freezeExt.trans e1, .lstF (.inl (.inl (e1 _ _ upd_same))) r1, h1⟩
  | F, _, _, _, R, .dctF q k r, h => ⟨F, Ext.refl F, .dctF q k r, h⟩
  | F, _, _, _, R, .dctO k r, h => by
    obtain ⟨F1, e1, r1, h1⟩ := Reps.fz (r.mono h.freezeExt) (R := R) h.freeze
    exact ⟨F1, h.freezeExt.trans e1, .dctF (e1 _ _ upd_same) k r1, h1⟩
  | F, _, _, _, R, .objF q q2 k r, h => ⟨F, Ext.refl F, .objF q q2 k r, h⟩
  | F, _, _, _, R, .objO k r, h => by
    have e0 : Ext F (upd (upd F _ _) _ _) := h.freezeExt.trans h.freeze.freezeExt
    obtain ⟨F1, e1, r1, h1⟩ := Reps.fz (r.mono e0) (R := R) h.freeze.freeze
    exact ⟨F1, e0.trans e1, .objF (e1 _ _ (h.freeze.freezeExt _ _ upd_same)) (e1 _ _ upd_same) k r1, h1⟩
  | F, _, _, _, R, .fn, h => ⟨F, Ext.refl F, .fn, h⟩
  | F, _, _, _, R, .cls, h => ⟨F, Ext.refl F, .cls, h⟩
theorem Reps.fz {G : Gm} {H : Hp} : ∀ {F : Hp} {ts : List T} {vs : List V} {L R : List Cell}, Reps G F ts vs L → At F (L ++ R) H → ∃ F', Ext F F' ∧ Reps G F' (T.fzs ts) vs [] ∧ At F' R H
  | F, _, _, _, R, .nil, h => ⟨F, Ext.refl F, .nil, h⟩
  | F, _, _, _, R, .cons h1 r1, h => by
    rw [List.append_assoc] at h
    obtain ⟨F1, e1, q1, a1⟩ := Rep.fz h1 h
    obtain ⟨F2, e2, q2, a2⟩ := Reps.fz (r1.mono e1) a1
    exact ⟨F2, e1.trans e2, .cons (L1 := []) (L2 := []) (q1.mono e2) q2, a2⟩
end
end Ev
end
section
set_option Elab.async false
set_option linter.all false
set_option maxRecDepth 100000
set_option maxHeartbeats 1000000
/-! Ev, part B: the small language and its evaluator. -/
namespace Ev
open PySem PySem.Spec PyProof.Rows L2

inductive Cmp where
  | eq | ne | lt | le | gt | ge | isin | notin | is | isnot
  deriving DecidableEq
/-- built-in operations on values -/
inductive Pr where
  | add | sub | mul | fdiv | mod | pow | neg
  | cmp (c : Cmp)
  | idx | rev
  | len | tuple | list | sorted | abs | int1 | max2 | min2 | all | sum1 | rg1 | rg2
  | lindex | lcount | isT (k : Nat) | repr
  deriving DecidableEq
/-- what a loop walks over -/
inductive Ik where
  | seq | rg1 | rg2 | rg3 | enum | zip
  deriving DecidableEq
inductive Tg where
  | name (i : Nat) | tup (is : List Tg)

mutual
inductive E where
  | var (i : Nat) | mv (i : Nat)
  | non | bl (b : Bool) | int (i : Int) | str (s : List Nat) | glb (t : T) (g : Nat)
  | pr (p : Pr) (es : Es)
  | bm (p : Pr) (r : Es) (es : Es)
  | slc (a : Es) (lo hi : Es)
  | chain (c d : Cmp) (a b e : E)
  | and (a b : E) | or (a b : E) | not (a : E) | ite (c a b : E)
  | tup (es : Es) | lst (es : Es) | dct0
  | call (f : Nat) (es : Es)
  | lc (elt : E) (tg : Tg) (own : List Nat) (k : Ik) (es : Es) (cond : Es)
  | popAt (x : Nat) (i : E) | pop (x : Nat) | never
inductive Es where
  | nil | cons (e : E) (r : Es) | star (e : E) (r : Es)
end
mutual
inductive S where
  | asg (i : Nat) (e : E)
  | unp (tg : Tg) (e : E)
  | par (is : List Nat) (es : Es)
  | swap (x1 : Nat) (i1 : E) (x2 : Nat) (i2 : E) (e1 e2 : E)
  | setix (x : Nat) (ix e : E)
  | aug (p : Pr) (i : Nat) (e : E)
  | ex (e : E) | app (x : Nat) (e : E) | ext (x : Nat) (e : E)
  | ret (e : E) | retN
  | ite (c : E) (a b : Ss)
  | whl (c : E) (b : Ss)
  | for_ (tg : Tg) (k : Ik) (es : Es) (b : Ss)
  | pass | brk | cnt
  | raise (c : Nat) (es : Es) | never
inductive Ss where
  | nil | cons (s : S) (r : Ss)
end

abbrev Env := List (Option T)
/-- an exception: its class, what it keeps -/
structure Exn where
  c : Nat
  a : List T
inductive Out (α : Type) where
  | ok (a : α) (env : Env) | ex (x : Exn) (env : Env) | no
def Out.bind {α β : Type} (o : Out α) (f : α → Env → Out β) : Out β := match o with
  | .ok a env => f a env
  | .ex x env => .ex x env
  | .no => .no
/-- what may raise nothing -/
def Out.noex {α : Type} (o : Out α) : Out α := match o with
  | .ex _ _ => .no
  | o => o
/-- an operand: a value of its own, or what stands in a slot -/
inductive Opd where
  | val (t : T) | slot (i : Nat)
def Opd.get (env : Env) : Opd → Option T
  | .val t => some t
  | .slot i => (env[i]?).join
def opds (env : Env) : List Opd → Option (List T)
  | [] => some []
  | o :: r => match o.get env, opds env r with
    | some t, some ts => some (t :: ts)
    | _, _ => none

/-! ### values -/
def data : Nat → T → Bool
  | 0, _ => false
  | _ + 1, .non => true
  | _ + 1, .bl _ => true
  | _ + 1, .int _ => true
  | _ + 1, .str s => s.all fun c => decide (c < 1114112)
  | n + 1, .tup ts => ts.all (data n)
  | n + 1, .lst _ ts => ts.all (data n)
  | _, _ => false
mutual
def eqB : T → T → Bool
  | .non, .non => true
  | .bl a, .bl b => a == b
  | .bl a, .int j => (if a then 1 else 0) == j
  | .int i, .bl b => i == (if b then 1 else 0)
  | .int i, .int j => i == j
  | .str x, .str y => x == y
  | .tup xs, .tup ys => eqBs xs ys
  | .lst _ xs, .lst _ ys => eqBs xs ys
  | _, _ => false
def eqBs : List T → List T → Bool
  | [], [] => true
  | x :: xs, y :: ys => eqB x y && eqBs xs ys
  | _, _ => false
end
def eqT (a b : T) : Option Bool := if data 12 a && data 12 b then some (eqB a b) else none
def natLt : List Nat → List Nat → Bool
  | _, [] => false
  | [], _ :: _ => true
  | x :: xs, y :: ys => if x < y then true else if y < x then false else natLt xs ys
def ltT : T → T → Option Bool
  | .int i, .int j => some (decide (i < j))
  | .str x, .str y => some (natLt x y)
  | _, _ => none
def pIx (n : Nat) (i : Int) : Option Nat := if 0 ≤ i then (if i < n then some i.toNat else none) else if -(n : Int) ≤ i then some (i + n).toNat else none
def sIx (n d : Nat) : Option Int → Nat
  | none => d
  | some v => if v < 0 then (v + (n : Int)).toNat else min v.toNat n
def cut {α : Type} (xs : List α) (lo hi : Option Int) : List α := (xs.drop (sIx xs.length 0 lo)).take (sIx xs.length xs.length hi - sIx xs.length 0 lo)
def isKey : T → Bool
  | .int _ => true
  | .str _ => true
  | _ => false
def inT (x : T) (ts : List T) : Option Bool := if data 12 x && ts.all (data 12) then some (ts.any fun t => eqB t x) else none
def cmpT : Cmp → T → T → Option Bool
  | .eq, a, b => eqT a b
  | .ne, a, b => (eqT a b).map (!·)
  | .lt, a, b => ltT a b
  | .gt, a, b => ltT b a
  | .le, a, b => (ltT b a).map (!·)
  | .ge, a, b => (ltT a b).map (!·)
  | .isin, x, .lst _ ts => inT x ts
  | .isin, x, .tup ts => inT x ts
  | .isin, x, .dct _ ks _ => if isKey x then some (ks.any fun t => eqB t x) else none
  | .notin, x, .lst _ ts => (inT x ts).map (!·)
  | .notin, x, .tup ts => (inT x ts).map (!·)
  | .notin, x, .dct _ ks _ => if isKey x then some (!ks.any fun t => eqB t x) else none
  | .is, .non, .non => some true
  | .is, .bl a, .bl b => some (a == b)
  | .is, _, .non => some false
  | .isnot, .non, .non => some false
  | .isnot, .bl a, .bl b => some (!(a == b))
  | .isnot, _, .non => some true
  | _, _, _ => none
/-- lengths may not pass this line -/
abbrev line : Nat := 16777216
def intsOf : List T → Option (List Int)
  | [] => some []
  | .int i :: r => (intsOf r).map (i :: ·)
  | _ => none
def bools : List T → Option (List Bool)
  | [] => some []
  | .bl i :: r => (bools r).map (i :: ·)
  | _ => none
def isData : T → Bool
  | .obj .. => false
  | .fn _ => false
  | .cls _ => false
  | _ => true
/-- 0 int, 1 bool, 2 str, 3 tuple, 4 list, 5 dict -/
def isTy : Nat → T → Bool
  | 0, .int _ => true
  | 0, .bl _ => true
  | 1, .bl _ => true
  | 2, .str _ => true
  | 3, .tup _ => true
  | 4, .lst _ _ => true
  | 5, .dct _ _ _ => true
  | _, _ => false
def digits (i : Int) : List Nat := match i with
  | .ofNat n => (Nat.toDigits 10 n).map Char.toNat
  | .negSucc n => 45 :: (Nat.toDigits 10 (n + 1)).map Char.toNat
def commas : List (List Nat) → List Nat
  | [] => []
  | [x] => x
  | x :: r => x ++ (44 :: 32 :: commas r)
mutual
def reprT : T → Option (List Nat)
  | .non => some [78, 111, 110, 101]
  | .bl true => some [84, 114, 117, 101]
  | .bl false => some [70, 97, 108, 115, 101]
  | .int i => some (digits i)
  | .str s => if s.all fun c => decide (32 ≤ c) && decide (c < 127) && c != 39 && c != 92 then some (39 :: s ++ [39]) else none
  | .tup [] => some [40, 41]
  | .tup [t] => (reprT t).map fun x => 40 :: x ++ [44, 41]
  | .tup ts => (reprTs ts).map fun xs => 40 :: commas xs ++ [41]
  | .lst _ ts => (reprTs ts).map fun xs => 91 :: commas xs ++ [93]
  | _ => none
def reprTs : List T → Option (List (List Nat))
  | [] => some []
  | t :: r => (reprT t).bind fun x => (reprTs r).map fun xs => x :: xs
end
def insI (x : Int) : List Int → List Int
  | [] => [x]
  | y :: r => if x ≤ y then x :: y :: r else y :: insI x r
def sortI : List Int → List Int
  | [] => []
  | x :: r => insI x (sortI r)
def upto (a : Int) : Nat → List T
  | 0 => []
  | n + 1 => .int a :: upto (a + 1) n
def downto (a : Int) : Nat → List T
  | 0 => []
  | n + 1 => .int a :: downto (a - 1) n
def items : T → Option (List T)
  | .tup ts => some ts
  | .lst _ ts => some ts
  | _ => none
def mulOk (i j : Int) : Bool := (decide (-18446744073709551616 < i) && decide (i < 18446744073709551616)) || (decide (-18446744073709551616 < j) && decide (j < 18446744073709551616)) || decide (i.natAbs.log2 + j.natAbs.log2 ≤ 999990)
def slice (t : T) (lo hi : Option Int) : Option T := match t with
  | .tup ts => some (.tup (cut ts lo hi))
  | .lst _ ts => if ts.all T.pure then some (.lst true (cut ts lo hi)) else none
  | .str s => if s.length ≤ line then some (.str (cut s lo hi)) else none
  | _ => none
def firstIx (x : T) : List T → Nat → Option Nat
  | [], _ => none
  | t :: r, n => if eqB t x then some n else firstIx x r (n + 1)
def small (i : Int) : Bool := decide (-4611686018427387904 ≤ i) && decide (i < 4611686018427387904)

def pAdd : T → T → Option T
  | .int i, .int j => some (.int (i + j))
  | .str x, .str y => if x.length + y.length ≤ line then some (.str (x ++ y)) else none
  | .tup xs, .tup ys => if xs.length + ys.length ≤ line then some (.tup (xs ++ ys)) else none
  | .lst true xs, .lst true ys => if xs.length + ys.length ≤ line && xs.all T.pure && ys.all T.pure then some (.lst true (xs ++ ys)) else none
  | _, _ => none
def pSub : T → T → Option T
  | .int i, .int j => some (.int (i - j))
  | _, _ => none
def pMul : T → T → Option T
  | .int i, .int j => if mulOk i j then some (.int (i * j)) else none
  | .lst true xs, .int k => if decide (0 ≤ k) && decide (k ≤ 1000) && decide (xs.length ≤ 1000) && xs.all T.pure then some (.lst true (List.replicate k.toNat xs).flatten) else none
  | _, _ => none
def pDiv : T → T → Option T
  | .int i, .int j => if decide (0 < j) && decide (j.natAbs.log2 ≤ 8000) then some (.int (i / j)) else none
  | _, _ => none
def pMod : T → T → Option T
  | .int i, .int j => if decide (0 < j) then some (.int (i % j)) else none
  | _, _ => none
def pPow : T → T → Option T
  | .int i, .int j => if decide (0 ≤ j) && decide (j ≤ 1000) && decide (i.natAbs.log2 ≤ 1000) then some (.int (i ^ j.toNat)) else none
  | _, _ => none
def pNeg : T → Option T
  | .int i => some (.int (-i))
  | _ => none
def pIdx : T → T → Option T
  | .tup ts, .int i => (pIx ts.length i).bind fun j => ts[j]?
  | .lst _ ts, .int i => (pIx ts.length i).bind fun j => (ts[j]?).bind fun t => if t.pure then some t else none
  | .dct _ ks vs, i => if isKey i then (firstIx i ks 0).bind fun j => (vs[j]?).bind fun t => if t.pure then some t else none else none
  | .str s, .int i => if s.length ≤ line then (pIx s.length i).bind fun j => (s[j]?).map fun c => .str [c] else none
  | _, _ => none
def pLen : T → Option T
  | .tup ts => some (.int ts.length)
  | .lst _ ts => some (.int ts.length)
  | .str s => if s.length ≤ line then some (.int s.length) else none
  | _ => none
def pTuple : T → Option T
  | .tup ts => some (.tup ts)
  | .lst _ ts => if ts.all T.pure then some (.tup ts) else none
  | _ => none
def pList : T → Option T
  | .tup ts => some (.lst true ts)
  | .lst _ ts => if ts.all T.pure then some (.lst true ts) else none
  | _ => none
def pRg1 : T → Option T
  | .int n => if small n && decide (n ≤ 16777216) then some (.lst true (upto 0 n.toNat)) else none
  | _ => none
def pRg2 : T → T → Option T
  | .int a, .int b => if small a && small b && decide (b - a ≤ 16777216) then some (.lst true (upto a (b - a).toNat)) else none
  | _, _ => none
def pSorted (t : T) : Option T := (items t).bind fun ts => (intsOf ts).map fun ns => .lst true ((sortI ns).map .int)
def pAbs : T → Option T
  | .int i => some (.int (if i < 0 then -i else i))
  | _ => none
def pInt : T → Option T
  | .int i => some (.int i)
  | .bl b => some (.int (if b then 1 else 0))
  | _ => none
def pMax : T → T → Option T
  | .int i, .int j => some (.int (if j > i then j else i))
  | _, _ => none
def pMin : T → T → Option T
  | .int i, .int j => some (.int (if j < i then j else i))
  | _, _ => none
def pAll : T → Option T
  | .lst _ ts => (bools ts).map fun bs => .bl (bs.all id)
  | _ => none
def pSum : T → Option T
  | .lst _ ts => (intsOf ts).map fun ns => .int ns.sum
  | _ => none
def pIndex : T → T → Option T
  | .lst _ ts, x => if data 12 x && ts.all (data 12) then (firstIx x ts 0).map fun n => .int n else none
  | _, _ => none
def asInt : T → Option Int
  | .int i => some i
  | _ => none

def pRepr : T → Option T
  | .bl b => some (.str (if b then [84, 114, 117, 101] else [70, 97, 108, 115, 101]))
  | _ => none
def prim : Pr → List T → Option T
  | .add, [a, b] => pAdd a b
  | .sub, [a, b] => pSub a b
  | .mul, [a, b] => pMul a b
  | .fdiv, [a, b] => pDiv a b
  | .mod, [a, b] => pMod a b
  | .pow, [a, b] => pPow a b
  | .neg, [a] => pNeg a
  | .cmp c, [a, b] => (cmpT c a b).map .bl
  | .idx, [a, b] => pIdx a b
  | .len, [a] => pLen a
  | .tuple, [a] => pTuple a
  | .list, [a] => pList a
  | .rg1, [a] => pRg1 a
  | .rg2, [a, b] => pRg2 a b
  | .sorted, [a] => pSorted a
  | .abs, [a] => pAbs a
  | .int1, [a] => pInt a
  | .max2, [a, b] => pMax a b
  | .min2, [a, b] => pMin a b
  | .repr, [t] => pRepr t
  | .isT k, [t] => if isData t then some (.bl (isTy k t)) else none
  | .all, [a] => pAll a
  | .sum1, [a] => pSum a
  | .lindex, [a, b] => pIndex a b
  | _, _ => none

/-- what a method's receiver is -/
def rcvOk : Pr → T → Bool
  | .lindex, .lst _ _ => true
  | _, _ => false
def isLst : T → Bool
  | .lst _ _ => true
  | _ => false
/-- the items of a loop -/
def iterT : Ik → List T → Option (List T)
  | .seq, [.tup ts] => some ts
  | .seq, [.lst false ts] => some ts
  | .rg1, [.int n] => if small n then some (upto 0 n.toNat) else none
  | .rg2, [.int a, .int b] => if small a && small b then some (upto a (b - a).toNat) else none
  | .rg3, [.int a, .int b, .int c] => if small a && small b && c == -1 then some (downto a (a - b).toNat) else none
  | .enum, [.lst false ts] => some (enumT 0 ts)
  | .enum, [.tup ts] => some (enumT 0 ts)
  | .zip, [.lst false xs, .lst false ys] => some (zipT xs ys)
  | .zip, [.tup xs, .tup ys] => some (zipT xs ys)
  | _, _ => none
where
  enumT : Nat → List T → List T
    | _, [] => []
    | n, t :: r => .tup [.int n, t] :: enumT (n + 1) r
  zipT : List T → List T → List T
    | x :: xs, y :: ys => .tup [x, y] :: zipT xs ys
    | _, _ => []

mutual
/-- a target takes a value that nobody owns -/
def bindT : Tg → T → Env → Option Env
  | .name i, t, env => some (env.set i (some t))
  | .tup gs, .tup ts, env => bindTs gs ts env
  | .tup gs, .lst false ts, env => bindTs gs ts env
  | _, _, _ => none
def bindTs : List Tg → List T → Env → Option Env
  | [], [], env => some env
  | g :: gs, t :: ts, env => (bindT g t env).bind fun env => bindTs gs ts env
  | _, _, _ => none
end
def setAll : List Nat → List T → Env → Option Env
  | [], [], env => some env
  | i :: is, t :: ts, env => setAll is ts (env.set i (some t))
  | _, _, _ => none
def wipeE (env : Env) : List Nat → Env
  | [] => env
  | v :: vs => (wipeE env vs).set v none
/-- back to what stood in the block's own slots -/
def unwipe (env e : Env) : List Nat → Env
  | [] => e
  | v :: vs => match (env[v]?).join with
    | some t => if t.pure then (unwipe env e vs).set v (some t) else unwipe env e vs
    | none => unwipe env e vs

/-- what a call hands back: its value, or an exception, and the arguments behind it -/
inductive CR where
  | ok (t : T) (as : List T) | ex (x : Exn) (as : List T) | no
/-- which arguments may be lent (the others are frozen), and the call -/
structure Fns where
  keep : Nat → List Bool
  call : Nat → List T → CR

/-- arguments taken out of the environment -/
def lend : List Bool → List Opd → Env → Option (List T × Env)
  | _, [], env => some ([], env)
  | ks, .val t :: r, env => (lend ks.tail r env).map fun (ts, env) => ((if ks.headD false then t else t.fz) :: ts, env)
  | ks, .slot i :: r, env => match (env[i]?).join with
    | none => none
    | some t =>
      if t.pure then (lend ks.tail r env).map fun (ts, env) => (t :: ts, env)
      else if ks.headD false then (lend ks.tail r (env.set i none)).map fun (ts, env) => (t :: ts, env)
      else (lend ks.tail r (env.set i (some t.fz))).map fun (ts, env) => (t.fz :: ts, env)
/-- and given back; env0: the environment ahead of the call -/
def giveBack : List Bool → List Opd → List T → Env → Env → Option Env
  | _, [], [], _, env => some env
  | ks, .val _ :: r, _ :: ts, env0, env => giveBack ks.tail r ts env0 env
  | ks, .slot i :: r, t :: ts, env0, env => match (env0[i]?).join with
    | none => none
    | some t0 => if t0.pure || !ks.headD false then giveBack ks.tail r ts env0 env else giveBack ks.tail r ts env0 (env.set i (some t))
  | _, _, _, _, _ => none

def callO (fs : Fns) (f : Nat) (os : List Opd) (env : Env) : Out T :=
  match lend (fs.keep f) os env with
  | none => .no
  | some (ts, env1) => match fs.call f ts with
    | .no => .no
    | .ok t as => match giveBack (fs.keep f) os as env env1 with
      | none => .no
      | some env2 => .ok t env2
    | .ex x as => match giveBack (fs.keep f) os as env env1 with
      | none => .no
      | some env2 => .ex x env2

def ofOpt {α : Type} (o : Option α) (env : Env) : Out α := match o with
  | some a => .ok a env
  | none => .no
def asBool (t : T) (env : Env) : Out Bool := match t with
  | .bl b => .ok b env
  | _ => .no

/-- the turns of a list comprehension: f one turn, which gives an item or none -/
def lcGo (f : T → Env → Out (Option T)) : List T → List T → Env → Out (List T)
  | [], acc, env => .ok acc.reverse env
  | t :: r, acc, env => (f t env).bind fun o env => match o with
    | none => lcGo f r acc env
    | some y => lcGo f r (y :: acc) env

mutual
def evE (fs : Fns) : E → Env → Out T
  | .var i, env => match (env[i]?).join with
    | some t => if t.pure then .ok t env else .ok t.fz (env.set i (some t.fz))
    | none => .no
  | .mv i, env => match (env[i]?).join with
    | some t => .ok t (env.set i none)
    | none => .no
  | .non, env => .ok .non env
  | .bl b, env => .ok (.bl b) env
  | .int i, env => .ok (.int i) env
  | .str s, env => .ok (.str s) env
  | .glb t _, env => .ok t env
  | .pr p es, env => (evO fs es env).bind fun os env => match opds env os with
    | some ts => ofOpt (prim p ts) env
    | none => .no
  | .bm p r es, env => (evO fs r env).bind fun os env => match opds env os with
    | some [t] => if rcvOk p t then (evO fs es env).bind fun os2 env => match opds env (os ++ os2) with
        | some ts => ofOpt (prim p ts) env
        | none => .no
      else .no
    | _ => .no
  | .slc a lo hi, env => (evO fs a env).bind fun os env => (evI fs lo env).bind fun l env => (evI fs hi env).bind fun h env => match opds env os with
    | some [t] => ofOpt (slice t l h) env
    | _ => .no
  | .chain c d a b e, env => (evE fs a env).bind fun x env => (evE fs b env).bind fun y env => match cmpT c x y with
    | some true => (evE fs e env).bind fun z env => ofOpt ((cmpT d y z).map .bl) env
    | some false => .ok (.bl false) env
    | none => .no
  | .and a b, env => (evE fs a env).bind fun x env => (asBool x env).bind fun k env => if k then evE fs b env else .ok (.bl false) env
  | .or a b, env => (evE fs a env).bind fun x env => (asBool x env).bind fun k env => if k then .ok (.bl true) env else evE fs b env
  | .not a, env => (evE fs a env).bind fun x env => (asBool x env).bind fun k env => .ok (.bl (!k)) env
  | .ite c a b, env => (evE fs c env).bind fun x env => (asBool x env).bind fun k env => if k then evE fs a env else evE fs b env
  | .tup es, env => (evL fs es env).bind fun ts env => if ts.all T.pure && decide (ts.length ≤ line) then .ok (.tup ts) env else .no
  | .lst es, env => (evL fs es env).bind fun ts env => if decide (ts.length ≤ line) then .ok (.lst true ts) env else .no
  | .dct0, env => .ok (.dct true [] []) env
  | .call f es, env => (evO fs es env).bind fun os env => callO fs f os env
  | .lc elt tg own k es cond, env => (evL fs es env).bind fun ts env => match iterT k (T.fzs ts) with
    | none => .no
    | some its => if decide (its.length ≤ line) then
        (lcGo (fun t env => match bindT tg t (wipeE env own) with
          | none => .no
          | some env => ((evC fs cond env).bind fun k env => if k then (evE fs elt env).bind fun y env => .ok (some y) env else .ok none env).noex) its [] (wipeE env own)).bind fun ys env' => .ok (.lst true ys) (unwipe env (wipeE env' own) own)
      else .no
  | .popAt x i, env => match (env[x]?).join with
    | some t => if isLst t then (evE fs i env).bind fun i env => match i, (env[x]?).join with
      | .int i, some (.lst true ts) => if small i then match pIx ts.length i with
        | some j => match ts[j]? with
          | some t => .ok t (env.set x (some (.lst true (ts.eraseIdx j))))
          | none => .no
        | none => .no
        else .no
      | _, _ => .no
      else .no
    | none => .no
  | .pop x, env => match (env[x]?).join with
    | some (.lst true ts) => match ts[ts.length - 1]? with
      | some t => .ok t (env.set x (some (.lst true ts.dropLast)))
      | none => .no
    | _ => .no
  | .never, _ => .no
/-- values -/
def evL (fs : Fns) : Es → Env → Out (List T)
  | .nil, env => .ok [] env
  | .cons e r, env => (evE fs e env).bind fun t env => (evL fs r env).bind fun ts env => .ok (t :: ts) env
  | .star e r, env => (evE fs e env).bind fun t env => match items t with
    | none => .no
    | some xs => if xs.all T.pure then (evL fs r env).bind fun ts env => .ok (xs ++ ts) env else .no
/-- operands -/
def evO (fs : Fns) : Es → Env → Out (List Opd)
  | .nil, env => .ok [] env
  | .cons e r, env => match e with
    | .var i => match (env[i]?).join with
      | some _ => (evO fs r env).bind fun os env => .ok (.slot i :: os) env
      | none => .no
    | e => (evE fs e env).bind fun t env => (evO fs r env).bind fun os env => .ok (.val t :: os) env
  | .star _ _, _ => .no
/-- an int, or none -/
def evI (fs : Fns) : Es → Env → Out (Option Int)
  | .nil, env => .ok none env
  | .cons e .nil, env => (evE fs e env).bind fun x env => match x with
    | .int i => .ok (some i) env
    | _ => .no
  | _, _ => .no
/-- a test, or none -/
def evC (fs : Fns) : Es → Env → Out Bool
  | .nil, env => .ok true env
  | .cons e .nil, env => (evE fs e env).bind fun x env => asBool x env
  | _, _ => .no
end

/-! ### statements -/
inductive Fl where
  | nx (env : Env) | rt (t : T) (env : Env) | bk (env : Env) | ct (env : Env) | ex (x : Exn) (env : Env) | no
def Out.fl {α : Type} (o : Out α) (f : α → Env → Fl) : Fl := match o with
  | .ok a env => f a env
  | .ex x env => .ex x env
  | .no => .no
def whileL (c : Env → Out Bool) (b : Env → Fl) : Nat → Env → Fl
  | 0, _ => .no
  | n + 1, env => (c env).fl fun k env => if k then match b env with
      | .nx env => whileL c b n env
      | .ct env => whileL c b n env
      | .bk env => .nx env
      | r => r
    else .nx env
def forL (b : T → Env → Fl) : List T → Env → Fl
  | [], env => .nx env
  | t :: r, env => match b t env with
    | .nx env => forL b r env
    | .ct env => forL b r env
    | .bk env => .nx env
    | q => q
/-- a key's place, if it stands once -/
def keyIx (i : T) (ks : List T) : Option (Option Nat) := match firstIx i ks 0 with
  | none => some none
  | some j => if (firstIx i (ks.drop (j + 1)) 0).isNone then some (some j) else none
def setIxT (env : Env) (x : Nat) (i t : T) : Option Env := match (env[x]?).join, i with
  | some (.lst true ts), .int i => if small i then (pIx ts.length i).map fun j => env.set x (some (.lst true (ts.set j t))) else none
  | some (.dct true ks vs), i => if isKey i && decide (ks.length < line) then (keyIx i ks).map fun o => env.set x (some (match o with
      | some j => .dct true ks (vs.set j t)
      | none => .dct true (ks ++ [i]) (vs ++ [t])))
    else none
  | _, _ => none
/-- x[..] = t, the place by ev -/
def setIxS (ev : Env → Out T) (env : Env) (x : Nat) (t : T) (g : Env → Fl) : Fl := match (env[x]?).join with
  | none => .no
  | some _ => (ev env).fl fun i env => match setIxT env x i t with
    | none => .no
    | some env => g env

/-- name op= value: ints, texts and tuples -/
def augT (p : Pr) (x t : T) : Option T := match x with
  | .int _ => prim p [x, t]
  | .str _ => prim p [x, t]
  | .tup _ => prim p [x, t]
  | _ => none

mutual
def evS (fs : Fns) (w : Nat) : S → Env → Fl
  | .asg i e, env => (evE fs e env).fl fun t env => .nx (env.set i (some t))
  | .unp tg e, env => (evE fs e env).fl fun t env => match bindT tg t.fz env with
    | some env => .nx env
    | none => .no
  | .par is es, env => (evL fs es env).fl fun ts env => match setAll is ts env with
    | some env => .nx env
    | none => .no
  | .swap x1 i1 x2 i2 e1 e2, env => (evE fs e1 env).fl fun a env => (evE fs e2 env).fl fun b env => if a.pure && b.pure then
      setIxS (evE fs i1) env x1 a fun env => setIxS (evE fs i2) env x2 b .nx
    else .no
  | .setix x ix e, env => (evE fs e env).fl fun t env => setIxS (evE fs ix) env x t .nx
  | .aug p i e, env => (evE fs e env).fl fun t env => match (env[i]?).join with
    | some x => match augT p x t with
      | some y => .nx (env.set i (some y))
      | none => .no
    | none => .no
  | .ex e, env => (evE fs e env).fl fun _ env => .nx env
  | .app x e, env => match (env[x]?).join with
    | some t0 => if isLst t0 then (evE fs e env).fl fun t env => match (env[x]?).join with
      | some (.lst true ts) => if decide (ts.length < line) then .nx (env.set x (some (.lst true (ts ++ [t])))) else .no
      | _ => .no
      else .no
    | none => .no
  | .ext x e, env => match (env[x]?).join with
    | some t0 => if isLst t0 then (evE fs e env).fl fun t env => match (env[x]?).join, t with
      | some (.lst true ts), .lst true us => if decide (ts.length + us.length ≤ line) && us.all T.pure then .nx (env.set x (some (.lst true (ts ++ us)))) else .no
      | _, _ => .no
      else .no
    | none => .no
  | .ret e, env => (evE fs e env).fl fun t env => .rt t env
  | .retN, env => .rt .non env
  | .ite c a b, env => (evE fs c env).fl fun x env => (asBool x env).fl fun k env => if k then evSs fs w a env else evSs fs w b env
  | .whl c b, env => whileL (fun env => (evE fs c env).bind asBool) (evSs fs w b) w env
  | .for_ tg k es b, env => (evL fs es env).fl fun ts env => match iterT k (T.fzs ts) with
    | none => .no
    | some its => forL (fun t env => match bindT tg t env with
      | none => .no
      | some env => evSs fs w b env) its env
  | .pass, env => .nx env
  | .brk, env => .bk env
  | .cnt, env => .ct env
  | .raise c es, env => (evL fs es env).fl fun ts env => .ex ⟨c, T.fzs ts⟩ env
  | .never, _ => .no
def evSs (fs : Fns) (w : Nat) : Ss → Env → Fl
  | .nil, env => .nx env
  | .cons s r, env => match evS fs w s env with
    | .nx env => evSs fs w r env
    | q => q
end

/-- a def: its parameters' number, its slots', which parameters are lent, its body -/
structure Df where
  np : Nat
  ns : Nat
  keep : List Bool
  body : Ss
/-- the arguments behind a body: those lent as they stand in their slots -/
def argsOut : List Bool → List T → Env → Option (List T)
  | _, [], _ => some []
  | ks, t :: ts, env => (argsOut ks.tail ts env.tail).bind fun r =>
    if ks.headD false then (env.headD none).map fun u => u :: r
    else if t.pure then some (t :: r) else none
def runD (d : Df) (fs : Fns) (w : Nat) (ts : List T) : CR :=
  if ts.length = d.np then
    match evSs fs w d.body (ts.map some ++ List.replicate (d.ns - d.np) none) with
    | .nx env => match argsOut d.keep ts env with
      | some as => .ok .non as
      | none => .no
    | .rt t env => match argsOut d.keep ts env with
      | some as => .ok t as
      | none => .no
    | .ex x env => match argsOut d.keep ts env with
      | some as => .ex x as
      | none => .no
    | _ => .no
  else .no
/-- a program: its defs by number -/
abbrev Prog := Nat → Option Df
def callK (P : Prog) (w : Nat) : Nat → Nat → List T → CR
  | 0, _, _ => .no
  | k + 1, f, ts => match P f with
    | none => .no
    | some d => runD d ⟨fun g => (P g).elim [] (·.keep), callK P w k⟩ w ts
end Ev
end
section
set_option Elab.async false
set_option linter.all false
set_option maxRecDepth 100000
set_option maxHeartbeats 1000000
/-! Ev, part C: environments over the abstract heap; what is wanted of an evaluation. -/
namespace Ev
open PySem PySem.Spec PyProof.Rows L2

inductive ERep (G : Gm) (F : Hp) : Env → L2.St → List Cell → Prop
  | nil : ERep G F [] [] []
  | no {es s σ L} : ERep G F es σ L → ERep G F (none :: es) (s :: σ) L
  | yes {t v L1 es σ L2} : Rep G F t v L1 → ERep G F es σ L2 → ERep G F (some t :: es) (some v :: σ) (L1 ++ L2)
theorem ERep.mono {G : Gm} {F F' : Hp} (e : Ext F F') : ∀ {env : Env} {σ : L2.St} {L : List Cell}, ERep G F env σ L → ERep G F' env σ L
  | _, _, _, .nil => .nil
  | _, _, _, .no h => .no (h.mono e)
  | _, _, _, .yes h r => .yes (h.mono e) (r.mono e)
theorem ERep.length {G : Gm} {F : Hp} : ∀ {env : Env} {σ : L2.St} {L : List Cell}, ERep G F env σ L → env.length = σ.length
  | _, _, _, .nil => rfl
  | _, _, _, .no h => by simp [h.length]
  | _, _, _, .yes _ r => by simp [r.length]
theorem perm_mid {L1 L2 M : List Cell} {X : List Cell} (p : X.Perm (M ++ L2)) : (L1 ++ X).Perm (M ++ (L1 ++ L2)) :=
  (p.append_left L1).trans (by rw [← List.append_assoc, ← List.append_assoc]; exact List.perm_append_comm.append_right L2)
/-- what stands in a slot: it can be taken out, and another thing put in -/
theorem ERep.at_ {G : Gm} {F : Hp} : ∀ {env : Env} {σ : L2.St} {L : List Cell} {i : Nat} {t : T}, ERep G F env σ L → env[i]? = some (some t) →
    ∃ v L1 L2, σ[i]? = some (some v) ∧ Rep G F t v L1 ∧ L.Perm (L1 ++ L2) ∧ ERep G F (env.set i none) σ L2 ∧
      ∀ {F' : Hp} {t' : T} {v' : V} {L' : List Cell}, Ext F F' → Rep G F' t' v' L' → ∃ L'', ERep G F' (env.set i (some t')) (σ.set i (some v')) L'' ∧ L''.Perm (L' ++ L2)
  | _, _, _, i, t, .nil, h => by simp at h
  | _, _, _, 0, t, .no _, h => by simp at h
  | _, _, _, 0, t, @ERep.yes _ _ t0 v L1 es σ L2 r q, h => by
    simp at h; subst h
    exact ⟨v, L1, L2, rfl, r, .refl _, .no q, fun {F' t' v' L'} e r' => ⟨L' ++ L2, .yes r' (q.mono e), .refl _⟩⟩
  | _, _, _, i + 1, t, .no q, h => by
    obtain ⟨v, L1, L2, h1, h2, h3, h4, h5⟩ := q.at_ (i := i) (t := t) (by simpa using h)
    exact ⟨v, L1, L2, by simpa using h1, h2, h3, .no h4, fun e r' => let ⟨L'', a, b⟩ := h5 e r'; ⟨L'', .no a, b⟩⟩
  | _, _, _, i + 1, t, @ERep.yes _ _ t0 v0 L0 es σ L3 r q, h => by
    obtain ⟨v, L1, L2, h1, h2, h3, h4, h5⟩ := q.at_ (i := i) (t := t) (by simpa using h)
    refine ⟨v, L1, L0 ++ L2, by simpa using h1, h2, perm_mid h3, .yes r h4, fun e r' => ?_⟩
    obtain ⟨L'', a, b⟩ := h5 e r'
    exact ⟨L0 ++ L'', .yes (r.mono e) a, perm_mid b⟩
/-- a slot is given something, whatever was there -/
theorem ERep.put {G : Gm} {F : Hp} : ∀ {env : Env} {σ : L2.St} {L : List Cell} {i : Nat}, ERep G F env σ L → ∃ L1 L2, L.Perm (L1 ++ L2) ∧ ERep G F (env.set i none) σ L2 ∧ ERep G F (env.set i none) (σ.set i none) L2 ∧
      ∀ {F' : Hp} {t' : T} {v' : V} {L' : List Cell}, i < env.length → Ext F F' → Rep G F' t' v' L' → ∃ L'', ERep G F' (env.set i (some t')) (σ.set i (some v')) L'' ∧ L''.Perm (L' ++ L2)
  | _, _, _, i, .nil => ⟨[], [], .refl _, .nil, .nil, fun h => by simp at h⟩
  | _, _, _, 0, @ERep.no _ _ es s σ L q => ⟨[], L, .refl _, .no q, .no q, fun {F' t' v' L'} _ e r' => ⟨L' ++ L, .yes r' (q.mono e), .refl _⟩⟩
  | _, _, _, 0, @ERep.yes _ _ t0 v L1 es σ L2 r q => ⟨L1, L2, .refl _, .no q, .no q, fun {F' t' v' L'} _ e r' => ⟨L' ++ L2, .yes r' (q.mono e), .refl _⟩⟩
  | _, _, _, i + 1, .no q => by
    obtain ⟨L1, L2, h1, h2, h3, h4⟩ := q.put (i := i)
    exact ⟨L1, L2, h1, .no h2, .no h3, fun hl e r' => let ⟨L'', a, b⟩ := h4 (by simpa using hl) e r'; ⟨L'', .no a, b⟩⟩
  | _, _, _, i + 1, @ERep.yes _ _ t0 v0 L0 es σ L3 r q => by
    obtain ⟨L1, L2, h1, h2, h3, h4⟩ := q.put (i := i)
    refine ⟨L1, L0 ++ L2, perm_mid h1, .yes r h2, .yes r h3, fun hl e r' => ?_⟩
    obtain ⟨L'', a, b⟩ := h4 (by simpa using hl) e r'
    exact ⟨L0 ++ L'', .yes (r.mono e) a, perm_mid b⟩

theorem join_some {α : Type} {o : Option (Option α)} {a : α} (h : o.join = some a) : o = some (some a) := by
  cases o with
  | none => cases h
  | some o => cases o with
    | none => cases h
    | some b => cases h; rfl
theorem set_same {α : Type} : ∀ {l : List α} {i : Nat} {a : α}, l[i]? = some a → l.set i a = l
  | [], _, _, h => by simp at h
  | x :: r, 0, a, h => by simp at h; subst h; rfl
  | x :: r, i + 1, a, h => by
    show x :: r.set i a = x :: r
    rw [set_same (by simpa using h)]

/-- slots that may not be given another value, with their values -/
abbrev Pins := List (Nat × V)
/-- the state: the frame's slots hold env; F facts, Lf cells of others -/
def Sat (G : Gm) (κ : Pins) (σ : L2.St) (env : Env) (F : Hp) (Lf : List Cell) (H : Hp) : Prop :=
  (∃ Le, ERep G F env σ Le ∧ At F (Le ++ Lf) H) ∧ ∀ p ∈ κ, σ[p.1]? = some (some p.2)
section
variable {G : Gm} {κ : Pins} {σ : L2.St} {env : Env} {F F' : Hp} {Lf L L' : List Cell} {H H' : Hp}
theorem Sat.ext (h : Sat G κ σ env F Lf H) : Ext F H := let ⟨⟨_, _, a⟩, _⟩ := h; a.ext
theorem Sat.at_ (h : Sat G κ σ env F Lf H) : At F Lf H := let ⟨⟨_, _, a⟩, _⟩ := h; a.drop
theorem Sat.perm (h : Sat G κ σ env F L H) (p : L.Perm L') : Sat G κ σ env F L' H := by
  obtain ⟨⟨Le, r, a⟩, k⟩ := h
  exact ⟨⟨Le, r, a.perm (p.append_left Le)⟩, k⟩
theorem Sat.drop (h : Sat G κ σ env F (L ++ Lf) H) : Sat G κ σ env F Lf H := by
  obtain ⟨⟨Le, r, a⟩, k⟩ := h
  refine ⟨⟨Le, r, ?_⟩, k⟩
  have p : (Le ++ (L ++ Lf)).Perm (L ++ (Le ++ Lf)) := by
    rw [← List.append_assoc, ← List.append_assoc]; exact List.perm_append_comm.append_right Lf
  exact (a.perm p).drop
theorem Sat.len (h : Sat G κ σ env F Lf H) : env.length = σ.length := let ⟨⟨_, r, _⟩, _⟩ := h; r.length
/-- the heap goes on, what is another's is kept -/
def Res (F H F' H' : Hp) (L : List Cell) : Prop := Ext F F' ∧ ∀ L0, At F L0 H → At F' (L ++ L0) H'
theorem Res.refl : Res F H F H [] := ⟨Ext.refl F, fun _ h => h⟩
theorem Sat.res (h : Sat G κ σ env F Lf H) (r : Res F H F' H' L) : Sat G κ σ env F' (L ++ Lf) H' := by
  obtain ⟨⟨Le, q, a⟩, k⟩ := h
  refine ⟨⟨Le, q.mono r.1, (r.2 _ a).perm ?_⟩, k⟩
  rw [← List.append_assoc, ← List.append_assoc]; exact List.perm_append_comm.append_right Lf
theorem Res.new {a : Addr} {o : HO} (h : H a = none) : Res F H F (upd H a o) [(a, o)] := ⟨Ext.refl F, fun _ q => q.new h o⟩
theorem Res.newF {a : Addr} {o : HO} (hF : Ext F H) (h : H a = none) : Res F H (upd F a o) (upd H a o) [] := by
  have hn : F a = none := by
    cases e : F a with
    | none => rfl
    | some u => rw [hF _ _ e] at h; cases h
  exact ⟨Ext.upd hn, fun _ q => q.newF h o⟩

theorem Rep.pure_nil {t : T} {v : V} (hp : t.pure = true) (r : Rep G F t v L) : L = [] := by
  cases r <;> first | rfl | cases hp
/-- what stands in slot i -/
theorem Sat.get {i : Nat} {t : T} (h : Sat G κ σ env F Lf H) (e : env[i]? = some (some t)) :
    ∃ v L1, σ[i]? = some (some v) ∧ Rep G F t v L1 ∧ Sat G κ σ (env.set i none) F (L1 ++ Lf) H := by
  obtain ⟨⟨Le, r, a⟩, k⟩ := h
  obtain ⟨v, L1, L2, h1, h2, h3, h4, _⟩ := r.at_ e
  refine ⟨v, L1, h1, h2, ⟨L2, h4, a.perm ?_⟩, k⟩
  refine (h3.append_right Lf).trans ?_
  rw [← List.append_assoc]
  exact List.perm_append_comm.append_right Lf
/-- back into its slot -/
theorem Sat.back {i : Nat} {t : T} {v : V} {L1 : List Cell} (h : Sat G κ σ env F (L1 ++ Lf) H) (hi : σ[i]? = some (some v)) (r : Rep G F t v L1) : Sat G κ σ (env.set i (some t)) F Lf H := by
  obtain ⟨⟨Le, q, a⟩, k⟩ := h
  obtain ⟨M1, M2, p, q2, _, f⟩ := q.put (i := i)
  have hl : i < env.length := by
    rw [q.length]
    exact (List.getElem?_eq_some_iff.mp hi).1
  obtain ⟨L'', q3, p3⟩ := f hl (Ext.refl F) r
  rw [set_same hi] at q3
  refine ⟨⟨L'', q3, ?_⟩, k⟩
  -- Le ++ (L1 ++ Lf) ~ M1 ++ (L'' ++ Lf)
  have p4 : (Le ++ (L1 ++ Lf)).Perm (M1 ++ (L'' ++ Lf)) := by
    refine (p.append_right _).trans ?_
    rw [List.append_assoc]
    refine List.Perm.append_left M1 ?_
    rw [← List.append_assoc]
    refine List.Perm.append_right Lf ?_
    exact List.perm_append_comm.trans p3.symm
  exact (a.perm p4).drop
/-- a slot is given a new value -/
theorem Sat.store {i : Nat} {t : T} {v : V} {L1 : List Cell} (h : Sat G κ σ env F (L1 ++ Lf) H) (hi : i < env.length) (hk : ∀ p ∈ κ, p.1 ≠ i) (r : Rep G F t v L1) :
    Sat G κ (σ.set i (some v)) (env.set i (some t)) F Lf H := by
  obtain ⟨⟨Le, q, a⟩, k⟩ := h
  obtain ⟨M1, M2, p, _, _, f⟩ := q.put (i := i)
  obtain ⟨L'', q3, p3⟩ := f hi (Ext.refl F) r
  refine ⟨⟨L'', q3, ?_⟩, fun p hp => ?_⟩
  · have p4 : (Le ++ (L1 ++ Lf)).Perm (M1 ++ (L'' ++ Lf)) := by
      refine (p.append_right _).trans ?_
      rw [List.append_assoc]
      refine List.Perm.append_left M1 ?_
      rw [← List.append_assoc]
      refine List.Perm.append_right Lf ?_
      exact List.perm_append_comm.trans p3.symm
    exact (a.perm p4).drop
  · rw [List.getElem?_set_ne (fun z => hk p hp z.symm)]
    exact k p hp
/-- a slot is forgotten -/
theorem Sat.forget (i : Nat) (h : Sat G κ σ env F Lf H) : Sat G κ σ (env.set i none) F Lf H := by
  obtain ⟨⟨Le, q, a⟩, k⟩ := h
  obtain ⟨M1, M2, p, q2, _, _⟩ := q.put (i := i)
  refine ⟨⟨M2, q2, ?_⟩, k⟩
  have p4 : (Le ++ Lf).Perm (M1 ++ (M2 ++ Lf)) := by
    refine (p.append_right _).trans ?_
    rw [List.append_assoc]
  exact (a.perm p4).drop
theorem Sat.freeze {t : T} {v : V} {L1 : List Cell} (h : Sat G κ σ env F (L1 ++ Lf) H) (r : Rep G F t v L1) : ∃ F', Ext F F' ∧ Rep G F' t.fz v [] ∧ Sat G κ σ env F' Lf H := by
  obtain ⟨⟨Le, q, a⟩, k⟩ := h
  have p : (Le ++ (L1 ++ Lf)).Perm (L1 ++ (Le ++ Lf)) := by
    rw [← List.append_assoc, ← List.append_assoc]; exact List.perm_append_comm.append_right Lf
  obtain ⟨F', e, r', a'⟩ := r.fz (a.perm p)
  exact ⟨F', e, r', ⟨⟨Le, q.mono e, a'⟩, k⟩⟩
end

/-- what an exception is -/
def XRep (G : Gm) (F : Hp) (x : Exn) (cls : Value) (d : Option Addr) : Prop :=
  cls = .ref (G.ca x.c) ∧ ∀ t, x.a = [t] → ∃ dd f v, d = some dd ∧ F dd = some (.xd [(f, v)]) ∧ Rep G F t v []
end Ev
end
section
set_option Elab.async false
set_option linter.all false
set_option maxRecDepth 100000
set_option maxHeartbeats 1000000
/-! Ev, part D: what is wanted of an evaluation, as a reading of HandS. -/
namespace Ev
open PySem PySem.Spec PyProof.Rows L2

section
variable (G : Gm) (W : WX) (κ : Pins)
/-- an exception leaves -/
def OkX (σ : L2.St) (F : Hp) (Lf : List Cell) (x : Exn) (env : Env) : Prop :=
  ∀ cls d F' H', Ext F F' → XRep G F' x cls d → Sat G κ σ env F' Lf H' → W cls d σ H'
/-- what is wanted behind an evaluation: K of what came, the environment, the facts, the frame's cells and the heap -/
def Rw {α : Type} (σ : L2.St) (F : Hp) (Lf : List Cell) (o : Out α) (K : α → Env → Prop) : Prop := match o with
  | .ok a env => K a env
  | .ex x env => OkX G W κ σ F Lf x env
  | .no => False
/-- a value is handed on -/
def Ok1 (σ : L2.St) (F : Hp) (Lf : List Cell) (Q : VK) (t : T) (env : Env) : Prop :=
  ∀ v F' H' L, Ext F F' → Rep G F' t v L → Sat G κ σ env F' (L ++ Lf) H' → Q v H'
def Okb (σ : L2.St) (F : Hp) (Lf : List Cell) (Q : Bool → Hp → Prop) (b : Bool) (env : Env) : Prop :=
  ∀ F' H', Ext F F' → Sat G κ σ env F' Lf H' → Q b H'
def Okl (σ : L2.St) (F : Hp) (Lf : List Cell) (Q : List V → Hp → Prop) (ts : List T) (env : Env) : Prop :=
  ∀ vs F' H' L, Ext F F' → Reps G F' ts vs L → Sat G κ σ env F' (L ++ Lf) H' → Q vs H'
/-- an operand -/
def ORep (F : Hp) (σ : L2.St) : Opd → V → List Cell → Prop
  | .val t, v, L => Rep G F t v L
  | .slot i, v, L => σ[i]? = some (some v) ∧ L = []
inductive OReps (F : Hp) (σ : L2.St) : List Opd → List V → List Cell → Prop
  | nil : OReps F σ [] [] []
  | cons {o v L1 os vs L2} : ORep G F σ o v L1 → OReps F σ os vs L2 → OReps F σ (o :: os) (v :: vs) (L1 ++ L2)
def Oko (σ : L2.St) (F : Hp) (Lf : List Cell) (Q : VK) (o : Opd) (env : Env) : Prop :=
  ∀ v F' H' L, Ext F F' → ORep G F' σ o v L → Sat G κ σ env F' (L ++ Lf) H' → Q v H'
def Okos (σ : L2.St) (F : Hp) (Lf : List Cell) (Q : List V → Hp → Prop) (os : List Opd) (env : Env) : Prop :=
  ∀ vs F' H' L, Ext F F' → OReps G F' σ os vs L → Sat G κ σ env F' (L ++ Lf) H' → Q vs H'
end

def evO1 (fs : Fns) (e : E) (env : Env) : Out Opd := match e with
  | .var i => match (env[i]?).join with
    | some _ => .ok (.slot i) env
    | none => .no
  | e => (evE fs e env).bind fun t env => .ok (.val t) env
theorem Out.bind_ok {α β : Type} (a : α) (env : Env) (f : α → Env → Out β) : (Out.ok a env).bind f = f a env := rfl
theorem Out.bind_assoc {α β γ : Type} (o : Out α) (f : α → Env → Out β) (g : β → Env → Out γ) : (o.bind f).bind g = o.bind fun a env => (f a env).bind g := by
  cases o <;> rfl
theorem evO_cons (fs : Fns) (e : E) (r : Es) (env : Env) : evO fs (.cons e r) env = (evO1 fs e env).bind fun o env => (evO fs r env).bind fun os env => .ok (o :: os) env := by
  cases e with
  | var i =>
    simp only [evO, evO1]
    cases (env[i]?).join <;> rfl
  | _ => simp only [evO, evO1, Out.bind_assoc, Out.bind_ok]

section
variable (G : Gm) (fs : Fns) (W : WX) (κ : Pins)
/-- the readings -/
def tE (e : E) : TE := fun σ H Q => ∃ env F Lf, Sat G κ σ env F Lf H ∧ Rw G W κ σ F Lf (evE fs e env) (Ok1 G κ σ F Lf Q)
def tT (e : E) : TT := fun σ H Q => ∃ env F Lf, Sat G κ σ env F Lf H ∧ Rw G W κ σ F Lf ((evE fs e env).bind asBool) (Okb G κ σ F Lf Q)
def tO (e : E) : TE := fun σ H Q => ∃ env F Lf, Sat G κ σ env F Lf H ∧ Rw G W κ σ F Lf (evO1 fs e env) (Oko G κ σ F Lf Q)
def tL (es : Es) : TA := fun σ H Q => ∃ env F Lf, Sat G κ σ env F Lf H ∧ Rw G W κ σ F Lf (evL fs es env) (Okl G κ σ F Lf Q)
def tOs (es : Es) : TA := fun σ H Q => ∃ env F Lf, Sat G κ σ env F Lf H ∧ Rw G W κ σ F Lf (evO fs es env) (Okos G κ σ F Lf Q)
end
section
variable {G : Gm} {fs : Fns} {W : WX} {κ : Pins} {σ : L2.St} {F F1 : Hp} {Lf L : List Cell} {H : Hp} {env : Env}
theorem OkX.mono {x : Exn} (h : OkX G W κ σ F Lf x env) (e : Ext F F1) : OkX G W κ σ F1 (L ++ Lf) x env :=
  fun cls d F' H' e' r s => h cls d F' H' (e.trans e') r s.drop
theorem OkX.ext {x : Exn} (h : OkX G W κ σ F Lf x env) (e : Ext F F1) : OkX G W κ σ F1 Lf x env := h.mono (L := []) e
theorem Rw.bind {α β : Type} {o : Out α} {f : α → Env → Out β} {K : β → Env → Prop} {K1 : α → Env → Prop} (h : Rw G W κ σ F Lf (o.bind f) K)
    (k : ∀ a env', o = .ok a env' → Rw G W κ σ F Lf (f a env') K → K1 a env') : Rw G W κ σ F Lf o K1 := by
  cases o with
  | ok a env' => exact k a env' rfl h
  | ex x env' => exact h
  | no => exact h
theorem Rw.imp {α : Type} {o : Out α} {K K1 : α → Env → Prop} (h : Rw G W κ σ F Lf o K) (k : ∀ a env', K a env' → K1 a env') : Rw G W κ σ F Lf o K1 := by
  cases o with
  | ok a env' => exact k a env' h
  | ex x env' => exact h
  | no => exact h
/-- on behind more facts and more cells -/
theorem Rw.go {α : Type} {o : Out α} {K K1 : α → Env → Prop} (h : Rw G W κ σ F Lf o K) (e : Ext F F1) (k : ∀ a env', K a env' → K1 a env') : Rw G W κ σ F1 (L ++ Lf) o K1 := by
  cases o with
  | ok a env' => exact k a env' h
  | ex x env' => exact h.mono e
  | no => exact h
theorem Rw.ext {α : Type} {o : Out α} {K K1 : α → Env → Prop} (h : Rw G W κ σ F Lf o K) (e : Ext F F1) (k : ∀ a env', K a env' → K1 a env') : Rw G W κ σ F1 Lf o K1 := h.go (L := []) e k
theorem Rw.opt {α : Type} {o : Option α} {K : α → Env → Prop} (h : Rw G W κ σ F Lf (ofOpt o env) K) : ∃ a, o = some a ∧ K a env := by
  cases o with
  | none => exact h.elim
  | some a => exact ⟨a, rfl, h⟩
theorem Rw.asBool {t : T} {K : Bool → Env → Prop} (h : Rw G W κ σ F Lf (asBool t env) K) : ∃ b, t = .bl b ∧ K b env := by
  cases t <;> first | exact ⟨_, rfl, h⟩ | exact h.elim

theorem ORep.mono {o : Opd} {v : V} (e : Ext F F1) (h : ORep G F σ o v L) : ORep G F1 σ o v L := by
  cases o with
  | val t => exact Rep.mono e h
  | slot i => exact h
theorem OReps.mono {os : List Opd} {vs : List V} (e : Ext F F1) (h : OReps G F σ os vs L) : OReps G F1 σ os vs L := by
  induction h with
  | nil => exact .nil
  | cons a _ ih => exact .cons (a.mono e) ih
end

/-! ### what stands in the heap -/
/-- t stands at v -/
def Has (G : Gm) (F H : Hp) (t : T) (v : V) : Prop := ∃ L, Rep G F t v L ∧ ∀ p ∈ L, H p.1 = some p.2
def Hass (G : Gm) (F H : Hp) (ts : List T) (vs : List V) : Prop := ∃ L, Reps G F ts vs L ∧ ∀ p ∈ L, H p.1 = some p.2
inductive HasA (G : Gm) (F H : Hp) : List T → List V → Prop
  | nil : HasA G F H [] []
  | cons {t v ts vs} : Has G F H t v → HasA G F H ts vs → HasA G F H (t :: ts) (v :: vs)
section
variable {G : Gm} {κ : Pins} {σ : L2.St} {F F1 : Hp} {Lf L : List Cell} {H : Hp} {env : Env}
theorem Sat.has_val {t : T} {v : V} (s : Sat G κ σ env F (L ++ Lf) H) (r : Rep G F t v L) : Has G F H t v := by
  refine ⟨L, r, fun p hp => ?_⟩
  exact s.at_.at_ p (List.mem_append_left _ hp)
theorem Sat.has_slot {i : Nat} {t : T} {v : V} (s : Sat G κ σ env F Lf H) (e : env[i]? = some (some t)) (hv : σ[i]? = some (some v)) : Has G F H t v := by
  obtain ⟨v', L1, h1, h2, h3⟩ := s.get e
  rw [hv] at h1; cases h1
  exact h3.has_val h2
theorem Sat.has_all {os : List Opd} {vs : List V} (r : OReps G F σ os vs L) : ∀ {Lf : List Cell} {ts : List T}, Sat G κ σ env F (L ++ Lf) H → opds env os = some ts → HasA G F H ts vs := by
  induction r with
  | nil => intro Lf ts s e; cases e; exact .nil
  | @cons o v L1 os vs L2 h _ ih =>
    intro Lf ts s e
    rw [List.append_assoc] at s
    unfold opds at e
    cases ho : o.get env with
    | none => rw [ho] at e; cases e
    | some t =>
      cases hr : opds env os with
      | none => rw [ho, hr] at e; cases e
      | some ts' =>
        rw [ho, hr] at e; cases e
        refine .cons ?_ (ih s.drop hr)
        cases o with
        | val t' =>
          cases (show some t' = some t from ho)
          exact s.has_val h
        | slot i => exact s.has_slot (join_some ho) h.1
theorem Has.lst {o : Bool} {ts : List T} {v : V} (h : Has G F H (.lst o ts) v) (hF : Ext F H) : ∃ a vs, v = .ref a ∧ SqL G.K H a vs ∧ Hass G F H ts vs ∧ (o = true → H a = some (.lst vs)) := by
  obtain ⟨L, r, hl⟩ := h
  cases r with
  | @lstF a vs _ q r => exact ⟨a, vs, rfl, hF.sqL q, ⟨[], r, by simp⟩, fun z => by cases z⟩
  | @lstO a vs _ L r => exact ⟨a, vs, rfl, .inl (.of (hl (a, .lst vs) List.mem_cons_self)), ⟨L, r, fun p hp => hl p (List.mem_cons_of_mem _ hp)⟩, fun _ => hl (a, .lst vs) List.mem_cons_self⟩
theorem Has.tup {ts : List T} {v : V} (h : Has G F H (.tup ts) v) (hF : Ext F H) : ∃ a vs, v = .ref a ∧ SqT G.K H a vs ∧ Reps G F ts vs [] := by
  obtain ⟨L, r, _⟩ := h
  cases r with
  | @tup a vs _ q r => exact ⟨a, vs, rfl, hF.sqT q, r⟩
theorem Has.int {i : Int} {v : V} (h : Has G F H (.int i) v) : v = .int i := by obtain ⟨L, r, _⟩ := h; cases r; rfl
theorem Has.bl {i : Bool} {v : V} (h : Has G F H (.bl i) v) : v = .bl i := by obtain ⟨L, r, _⟩ := h; cases r; rfl
theorem Has.non {v : V} (h : Has G F H .non v) : v = .non := by obtain ⟨L, r, _⟩ := h; cases r; rfl
theorem Has.str {s : List Nat} {v : V} (h : Has G F H (.str s) v) : v = .str ⟨s.toArray⟩ := by obtain ⟨L, r, _⟩ := h; cases r; rfl
theorem Reps.length {ts : List T} {vs : List V} (r : Reps G F ts vs L) : ts.length = vs.length := by
  induction ts generalizing vs L with
  | nil => cases r; rfl
  | cons t ts ih => cases r with | cons _ r => simp [ih r]
/-- what nobody owns among items -/
theorem Reps.at_ : ∀ {ts : List T} {vs : List V} {L : List Cell} {j : Nat} {t : T}, Reps G F ts vs L → ts[j]? = some t → t.pure = true → ∃ v, vs[j]? = some v ∧ Rep G F t v []
  | _, _, _, _, _, .nil, h, _ => by simp at h
  | _, _, _, 0, t, .cons h _, e, p => by
    simp at e; subst e
    cases h.pure_nil p
    exact ⟨_, rfl, h⟩
  | _, _, _, j + 1, t, .cons _ r, e, p => by
    obtain ⟨v, h1, h2⟩ := r.at_ (j := j) (by simpa using e) p
    exact ⟨v, by simpa using h1, h2⟩
theorem Reps.pure_nil : ∀ {ts : List T} {vs : List V} {L : List Cell}, Reps G F ts vs L → ts.all T.pure = true → Reps G F ts vs [] ∧ L = []
  | _, _, _, .nil, _ => ⟨.nil, rfl⟩
  | _, _, _, .cons h r, p => by
    simp only [List.all_cons, Bool.and_eq_true] at p
    cases h.pure_nil p.1
    obtain ⟨r1, e⟩ := r.pure_nil p.2
    subst e
    exact ⟨.cons h r1, rfl⟩
/-- items of a thing that nobody owns are owned by nobody -/
theorem Rep.nil_pure {t : T} {v : V} (r : Rep G F t v []) : t.pure = true := by
  generalize hL : ([] : List Cell) = L at r
  cases r <;> first | rfl | cases hL
theorem Reps.nil_all {ts : List T} {vs : List V} (r : Reps G F ts vs []) : ts.all T.pure = true := by
  generalize hL : ([] : List Cell) = L at r
  induction ts generalizing vs L with
  | nil => rfl
  | cons t ts ih =>
    cases r with
    | cons h r =>
      obtain ⟨e1, e2⟩ := List.append_eq_nil_iff.mp hL.symm
      subst e1 e2
      simp only [List.all_cons, Bool.and_eq_true]
      exact ⟨h.nil_pure, ih _ rfl r⟩
theorem Reps.nil_cons {t : T} {ts : List T} {vs : List V} (r : Reps G F (t :: ts) vs []) : ∃ v ws, vs = v :: ws ∧ Rep G F t v [] ∧ Reps G F ts ws [] := by
  generalize hL : ([] : List Cell) = L at r
  cases r with
  | cons h r =>
    obtain ⟨e1, e2⟩ := List.append_eq_nil_iff.mp hL.symm
    subst e1 e2
    exact ⟨_, _, rfl, h, r⟩
theorem Reps.take {ts : List T} {vs : List V} (n : Nat) (r : Reps G F ts vs []) : Reps G F (ts.take n) (vs.take n) [] := by
  induction ts generalizing vs n with
  | nil => cases r; simp; exact .nil
  | cons t ts ih =>
    obtain ⟨v, ws, rfl, h, r⟩ := r.nil_cons
    cases n with
    | zero => exact .nil
    | succ n => exact .cons (L1 := []) (L2 := []) h (ih n r)
theorem Reps.drop {ts : List T} {vs : List V} (n : Nat) (r : Reps G F ts vs []) : Reps G F (ts.drop n) (vs.drop n) [] := by
  induction ts generalizing vs n with
  | nil => cases r; simp; exact .nil
  | cons t ts ih =>
    cases n with
    | zero => exact r
    | succ n =>
      obtain ⟨v, ws, rfl, h, r⟩ := r.nil_cons
      exact ih n r
theorem Reps.app {ts us : List T} {vs ws : List V} {L' : List Cell} (r : Reps G F ts vs L) (q : Reps G F us ws L') : Reps G F (ts ++ us) (vs ++ ws) (L ++ L') := by
  induction ts generalizing vs L with
  | nil => cases r; exact q
  | cons t ts ih =>
    cases r with
    | cons h r => rw [List.append_assoc]; exact .cons h (ih r)
theorem Reps.ints {ns : List Int} {vs : List V} (r : Reps G F (ns.map .int) vs L) : vs = ns.map V.int ∧ L = [] := by
  induction ns generalizing vs L with
  | nil => cases r; exact ⟨rfl, rfl⟩
  | cons n ns ih =>
    cases r with
    | cons h r =>
      cases h
      obtain ⟨e1, e2⟩ := ih r
      subst e1 e2
      exact ⟨rfl, rfl⟩
theorem Reps.of_ints : ∀ ns : List Int, Reps G F (ns.map .int) (ns.map V.int) []
  | [] => .nil
  | n :: ns => .cons (L1 := []) (L2 := []) .int (Reps.of_ints ns)
theorem intsOf_eq : ∀ {ts : List T} {ns : List Int}, intsOf ts = some ns → ts = ns.map .int
  | [], ns, h => by cases h; rfl
  | t :: ts, ns, h => by
    cases t <;> simp only [intsOf] at h <;> first | cases h | skip
    cases e : intsOf ts with
    | none => rw [e] at h; cases h
    | some ms => rw [e] at h; cases h; rw [intsOf_eq e]; rfl
theorem bools_eq : ∀ {ts : List T} {ns : List Bool}, bools ts = some ns → ts = ns.map .bl
  | [], ns, h => by cases h; rfl
  | t :: ts, ns, h => by
    cases t <;> simp only [bools] at h <;> first | cases h | skip
    cases e : bools ts with
    | none => rw [e] at h; cases h
    | some ms => rw [e] at h; cases h; rw [bools_eq e]; rfl
theorem Reps.bls {ns : List Bool} {vs : List V} (r : Reps G F (ns.map .bl) vs L) : vs = ns.map V.bl := by
  induction ns generalizing vs L with
  | nil => cases r; rfl
  | cons n ns ih =>
    cases r with
    | cons h r => cases h; rw [ih r]; rfl
end
/-- a result is handed on -/
def Cont (G : Gm) (F H : Hp) (t : T) (Q : VK) : Prop := ∀ v F' H' L, Res F H F' H' L → Rep G F' t v L → Q v H'
theorem Cont.here {G : Gm} {F H : Hp} {t : T} {Q : VK} (c : Cont G F H t Q) {v : V} (r : Rep G F t v []) : Q v H := c v F H [] Res.refl r
theorem Cont.list {G : Gm} {F H : Hp} {ts : List T} {vs : List V} {Q : VK} (c : Cont G F H (.lst true ts) Q) (r : Reps G F ts vs []) {p : Addr} (hp : H p = none) : Q (.ref p) (upd H p (.lst vs)) :=
  c _ F _ [(p, .lst vs)] (Res.new hp) (.lstO r)
theorem Cont.tuple {G : Gm} {F H : Hp} {ts : List T} {vs : List V} {Q : VK} (c : Cont G F H (.tup ts) Q) (hF : Ext F H) (r : Reps G F ts vs []) {p : Addr} (hp : H p = none) : Q (.ref p) (upd H p (.tup vs)) := by
  have q := Res.newF (o := .tup vs) hF hp
  exact c _ _ _ [] q (.tup (.of upd_same) (r.mono q.1))
end Ev
end
section
set_option Elab.async false
set_option linter.all false
set_option maxRecDepth 100000
set_option maxHeartbeats 1000000
/-! Ev, part E: the built-in operations of the small language are Python's. -/
namespace Ev
open PySem PySem.Spec PyProof.Rows L2

section
variable {X : Cx} {G : Gm}
/-- a two-place operation -/
def Op2 (X : Cx) (G : Gm) (f : Value → Value → Sem Value) (p : Pr) : Prop :=
  ∀ (pins : List (Addr × Obj)) (s : Shared) (σ : L2.St) (H : Hp) (x y : V) (v u : Value) (Q : VK) (F : Hp) (a b t : T), Inv X pins σ H s → RelV x v → RelV y u → Ext F H →
    Has G F H a x → Has G F H b y → prim p [a, b] = some t → Cont G F H t Q → wpAny (model X.prog X.w) X.A (f v u) (EP X pins σ Q) X.xe s

theorem lineS : line = sizeLine := by rw [sizeLine_eq]
theorem str_app (x y : List Nat) : (⟨x.toArray⟩ : Str) ++ ⟨y.toArray⟩ = ⟨(x ++ y).toArray⟩ := by
  show (⟨x.toArray ++ y.toArray⟩ : Str) = _
  simp
theorem Rep.str_of {F : Hp} {x : Str} {s : List Nat} (h : x = ⟨s.toArray⟩) : Rep G F (.str s) (.str x) [] := by subst h; exact .str

theorem Has.lstS {F H : Hp} {o : Bool} {ts : List T} {v : V} (h : Has G F H (.lst o ts) v) (hF : Ext F H) (hp : ts.all T.pure = true) : ∃ a vs, v = .ref a ∧ SqL G.K H a vs ∧ Reps G F ts vs [] := by
  obtain ⟨a, vs, e, q, ⟨L, r, _⟩, _⟩ := h.lst hF
  exact ⟨a, vs, e, q, (r.pure_nil hp).1⟩
section
variable {pins : List (Addr × Obj)} {s : Shared} {σ : L2.St} {H : Hp} {l b : Addr} {xs zs : List V} {Q : VK}
theorem inv_rd (I : Inv X pins σ H s) (h : Rd H l (.lst xs)) : ∃ (us : List Value) (n : Nat), Vals xs us ∧ s.heap.get? l = some { cls := .type "list", data := .seq us.toArray n } ∧ xs.length = us.length ∧ xs.length ≤ sizeLine := by
  obtain ⟨z, us, n, r, e⟩ := h.ok I.hok
  exact ⟨us, n, r, e, r.length, z⟩
/-- a new list stands -/
theorem new_lst (I : Inv X pins σ H s) {us : List Value} (r : Vals xs us) (hz : xs.length ≤ sizeLine) (q : ∀ p, H p = none → Q (.ref p) (upd H p (.lst xs))) :
    EP X pins σ Q (.ref s.heap.objs.size) { s with heap := s.heap.push { cls := .type "list", data := .seq us.toArray } } :=
  ⟨.ref _, _, I.lnew (t' := s.toks) r hz, rfl, q _ I.fresh⟩
/-- two lists, wherever they stand -/
theorem cat_lists (I : Inv X pins σ H s) (hx : Rd H l (.lst xs)) (hy : Rd H b (.lst zs)) (hl : xs.length + zs.length ≤ sizeLine)
    (q : ∀ p, H p = none → Q (.ref p) (upd H p (.lst (xs ++ zs)))) : wpAny (model X.prog X.w) X.A (binaryOp .Add (.ref l) (.ref b)) (EP X pins σ Q) X.xe s := by
  obtain ⟨us, n1, r1, e1, l1, _⟩ := inv_rd I hx
  obtain ⟨ws, n2, r2, e2, l2, _⟩ := inv_rd I hy
  refine PySem.P.add_list e1 e2 ?_ (by simp only [List.size_toArray]; omega)
  rw [List.append_toArray]
  exact new_lst I (r1.append r2) (by simp only [List.length_append]; exact hl) q
end

theorem op2_add (hK : X.K = G.K) : Op2 X G (binaryOp .Add) .add := by
  intro pins s σ H x y v u Q F a b t I rx ry hF ha hb hp c
  change pAdd a b = some t at hp
  unfold pAdd at hp
  split at hp
  · cases hp
    exact op_add pins s σ H x y v u Q I rx ry ⟨_, _, ha.int, hb.int, c.here .int⟩
  · rename_i p q
    split at hp
    · rename_i hl
      cases hp
      rw [lineS] at hl
      refine op_add_str pins s σ H x y v u Q I rx ry ⟨_, _, ha.str, hb.str, ?_, ?_⟩
      · simpa [Str.length] using hl
      · rw [str_app]; exact c.here .str
    · cases hp
  · rename_i ts us
    split at hp
    · rename_i hl
      cases hp
      rw [lineS] at hl
      obtain ⟨p, vs, rfl, q1, r1⟩ := ha.tup hF
      obtain ⟨p2, ws, rfl, q2, r2⟩ := hb.tup hF
      have h1 := r1.length
      have h2 := r2.length
      refine op_catA pins s σ H _ _ v u Q I rx ry ⟨p, p2, vs, ws, rfl, rfl, hK ▸ q1, hK ▸ q2, by omega, fun e => ?_, fun _ e => ?_, fun _ _ n hn => c.tuple hF (r1.app r2) hn⟩
      · subst e
        cases ts with
        | nil =>
          obtain ⟨L, r, _⟩ := hb
          exact c.here (by cases r with | tup q r => exact .tup q r)
        | cons _ _ => simp at h1
      · subst e
        cases us with
        | nil =>
          obtain ⟨L, r, _⟩ := ha
          rw [List.append_nil] at c
          exact c.here (by cases r with | tup q r => exact .tup q r)
        | cons _ _ => simp at h2
    · cases hp
  · split at hp
    · rename_i hl
      cases hp
      simp only [Bool.and_eq_true, decide_eq_true_eq] at hl
      rw [lineS] at hl
      obtain ⟨p, vs, rfl, _, ⟨L1, r1, _⟩, q1⟩ := ha.lst hF
      obtain ⟨p2, ws, rfl, _, ⟨L2', r2, _⟩, q2⟩ := hb.lst hF
      obtain ⟨r1, _⟩ := r1.pure_nil hl.1.2
      obtain ⟨r2, _⟩ := r2.pure_nil hl.2
      have h1 := r1.length
      have h2 := r2.length
      cases rx; cases ry
      exact cat_lists I (.of (q1 rfl)) (.of (q2 rfl)) (by omega) fun n hn => c.list (r1.app r2) hn
    · cases hp
  · cases hp
theorem op2_sub : Op2 X G (binaryOp .Sub) .sub := by
  intro pins s σ H x y v u Q F a b t I rx ry hF ha hb hp c
  change pSub a b = some t at hp
  unfold pSub at hp
  split at hp
  · cases hp
    exact op_sub pins s σ H x y v u Q I rx ry ⟨_, _, ha.int, hb.int, c.here .int⟩
  · cases hp
theorem mulOk_ok {i j : Int} (h : mulOk i j = true) : IntMulOk i j := by
  simp only [mulOk, Bool.or_eq_true, Bool.and_eq_true, decide_eq_true_eq] at h
  rcases h with (h | h) | h
  · exact CMul.ok (.inl h)
  · exact CMul.ok (.inr h)
  · exact CMulW.ok (show i.natAbs.log2 + j.natAbs.log2 < 1000000 by omega)
theorem rep_flat {F : Hp} {ts : List T} {vs : List V} (r : Reps G F ts vs []) : ∀ k : Nat, Reps G F (List.replicate k ts).flatten (List.replicate k vs).flatten []
  | 0 => .nil
  | k + 1 => by
    simp only [List.replicate_succ, List.flatten_cons]
    exact r.app (rep_flat r k)
theorem op2_mul : Op2 X G (binaryOp .Mult) .mul := by
  intro pins s σ H x y v u Q F a b t I rx ry hF ha hb hp c
  change pMul a b = some t at hp
  unfold pMul at hp
  split at hp
  · split at hp
    · rename_i hm
      cases hp
      have e1 := ha.int
      have e2 := hb.int
      subst e1 e2
      obtain ⟨t1, rfl⟩ := rx
      obtain ⟨t2, rfl⟩ := ry
      exact mul_int ⟨.int _, H, I.tok _, ⟨_, rfl⟩, c.here .int⟩ (mulOk_ok hm)
    · cases hp
  · split at hp
    · rename_i k hm
      cases hp
      simp only [Bool.and_eq_true, decide_eq_true_eq] at hm
      obtain ⟨p, vs, rfl, _, ⟨L, r, _⟩, h3⟩ := ha.lst hF
      have r1 := (r.pure_nil hm.2).1
      have h1 := r1.length
      refine op_rep pins s σ H _ y v u Q I rx ry ⟨p, k, vs, rfl, hb.int, h3 rfl, by omega, by omega, ?_, fun n hn => c.list (rep_flat r1 _) hn⟩
      rw [sizeLine_eq]
      have : vs.length * k.toNat ≤ 1000 * 1000 := Nat.mul_le_mul (by omega) (by omega)
      omega
    · cases hp
  · cases hp
theorem op2_div : Op2 X G (binaryOp .FloorDiv) .fdiv := by
  intro pins s σ H x y v u Q F a b t I rx ry hF ha hb hp c
  change pDiv a b = some t at hp
  unfold pDiv at hp
  split at hp
  · split at hp
    · rename_i hm
      cases hp
      simp only [Bool.and_eq_true, decide_eq_true_eq] at hm
      exact op_fdivW pins s σ H x y v u Q I rx ry ⟨_, _, ha.int, hb.int, ⟨hm.1, by omega⟩, c.here .int⟩
    · cases hp
  · cases hp
theorem op2_mod : Op2 X G (binaryOp .Mod) .mod := by
  intro pins s σ H x y v u Q F a b t I rx ry hF ha hb hp c
  change pMod a b = some t at hp
  unfold pMod at hp
  split at hp
  · split at hp
    · rename_i hm
      cases hp
      simp only [decide_eq_true_eq] at hm
      exact op_mod pins s σ H x y v u Q I rx ry ⟨_, _, ha.int, hb.int, hm, c.here .int⟩
    · cases hp
  · cases hp
theorem op2_pow : Op2 X G (binaryOp .Pow) .pow := by
  intro pins s σ H x y v u Q F a b t I rx ry hF ha hb hp c
  change pPow a b = some t at hp
  unfold pPow at hp
  split at hp
  · rename_i i j
    split at hp
    · rename_i hm
      cases hp
      simp only [Bool.and_eq_true, decide_eq_true_eq] at hm
      have e1 := ha.int
      have e2 := hb.int
      subst e1 e2
      obtain ⟨t1, rfl⟩ := rx
      obtain ⟨t2, rfl⟩ := ry
      refine PyProof.Rows.pow_int hm.1.1 ?_ ⟨.int _, H, I.tok _, ⟨_, rfl⟩, c.here .int⟩
      have hb : Builtin.Int.intBits i ≤ 1001 := by
        unfold Builtin.Int.intBits
        split <;> omega
      have h1 : (Builtin.Int.intBits i : Int) ≤ 1001 := by exact_mod_cast hb
      have h2 : (0 : Int) ≤ Builtin.Int.intBits i := Int.natCast_nonneg _
      calc (Builtin.Int.intBits i : Int) * j ≤ 1001 * 1000 := Int.mul_le_mul h1 hm.1.2 hm.1.1 (by decide)
        _ ≤ 2 ^ 27 := by decide
    · cases hp
  · cases hp

/-! ### == -/
mutual
def toPD : T → PyData
  | .non => .none
  | .bl b => .bool b
  | .int i => .int i
  | .str s => .str ⟨s.toArray⟩
  | .tup ts => .tuple (toPDs ts)
  | .lst _ ts => .list (toPDs ts)
  | _ => .none
def toPDs : List T → List PyData
  | [] => []
  | t :: r => toPD t :: toPDs r
end
theorem toPDs_map : ∀ ts : List T, toPDs ts = ts.map toPD
  | [] => rfl
  | t :: r => by simp [toPDs, toPDs_map r]
theorem arr_eq (x y : List Nat) : ((⟨x.toArray⟩ : Str) == ⟨y.toArray⟩) = (x == y) := by
  rw [Bool.eq_iff_iff]
  simp
theorem data_depth : ∀ (n : Nat) (t : T), data n t = true → (toPD t).canLay0 = true ∧ (toPD t).depth ≤ n
  | 0, t, h => by simp [data] at h
  | n + 1, .non, _ => by simp [toPD, PyData.canLay0, PyData.depth]
  | n + 1, .bl _, _ => by simp [toPD, PyData.canLay0, PyData.depth]
  | n + 1, .int _, _ => by simp [toPD, PyData.canLay0, PyData.depth]
  | n + 1, .str s, h => by
    simp only [data] at h
    simp only [toPD, PyData.canLay0, PyData.depth]
    refine ⟨?_, by omega⟩
    show (s.toArray.all fun c => decide (c < 0x110000)) = true
    rw [List.all_toArray]
    exact h
  | n + 1, .tup ts, h => by
    simp only [data] at h
    have := data_depths n ts h
    simp only [toPD, PyData.canLay0, PyData.depth]
    exact ⟨this.1, by omega⟩
  | n + 1, .lst o ts, h => by
    simp only [data] at h
    have := data_depths n ts h
    simp only [toPD, PyData.canLay0, PyData.depth]
    exact ⟨this.1, by omega⟩
  | n + 1, .dct .., h => by simp [data] at h
  | n + 1, .obj .., h => by simp [data] at h
  | n + 1, .fn _, h => by simp [data] at h
  | n + 1, .cls _, h => by simp [data] at h
where
  data_depths : ∀ (n : Nat) (ts : List T), ts.all (data n) = true → PyData.canLayAll0 (toPDs ts) = true ∧ PyData.depthAll (toPDs ts) ≤ n
  | n, [], _ => by simp [toPDs, PyData.canLayAll0, PyData.depthAll]
  | n, t :: ts, h => by
    simp only [List.all_cons, Bool.and_eq_true] at h
    have h1 := data_depth n t h.1
    have h2 := data_depths n ts h.2
    simp only [toPDs, PyData.canLayAll0, PyData.depthAll, h1.1, h2.1, Bool.and_self]
    exact ⟨trivial, by omega⟩
theorem shaped_of {n : Nat} {t : T} (h : data n t = true) (hn : n ≤ 64) : SeqAt.shaped (toPD t) = true := by
  have := data_depth n t h
  unfold SeqAt.shaped
  rw [Bool.and_eq_true]
  exact ⟨this.1, decide_eq_true (by omega)⟩
mutual
theorem eqv_eqB : ∀ (n m : Nat) (a b : T), data n a = true → data m b = true → PyData.eqv (toPD a) (toPD b) = eqB a b
  | 0, _, a, _, h, _ => by simp [data] at h
  | _, 0, _, b, _, h => by simp [data] at h
  | n + 1, m + 1, a, b, ha, hb => by
    cases a <;> cases b <;> first
      | (simp [data] at ha; done)
      | (simp [data] at hb; done)
      | rfl
      | (simp only [toPD, PyData.eqv, eqB]; done)
      | (simp only [toPD, PyData.eqv, eqB, arr_eq]; done)
      | (simp only [toPD, PyData.eqv, eqB]; exact eqvs_eqBs n m _ _ (by simpa only [data] using ha) (by simpa only [data] using hb))
theorem eqvs_eqBs : ∀ (n m : Nat) (as bs : List T), as.all (data n) = true → bs.all (data m) = true → PyData.eqvAll (toPDs as) (toPDs bs) = eqBs as bs
  | _, _, [], [], _, _ => rfl
  | _, _, [], _ :: _, _, _ => rfl
  | _, _, _ :: _, [], _, _ => rfl
  | n, m, a :: as, b :: bs, ha, hb => by
    simp only [List.all_cons, Bool.and_eq_true] at ha hb
    simp only [toPDs, PyData.eqvAll, eqBs]
    rw [eqv_eqB n m a b ha.1 hb.1, eqvs_eqBs n m as bs ha.2 hb.2]
end
mutual
theorem dp_of {K : PySem.W.Frag} {F H : Hp} (hK : G.K = K) (hF : Ext F H) : ∀ (n : Nat) (t : T) (v : V) (L : List Cell), data n t = true → Rep G F t v L → (∀ p ∈ L, H p.1 = some p.2) → Dp K H v (toPD t)
  | 0, t, _, _, h, _, _ => by simp [data] at h
  | _ + 1, .non, _, _, _, r, _ => by cases r; exact .non
  | _ + 1, .bl b, _, _, _, r, _ => by cases r; exact .bl b
  | _ + 1, .int b, _, _, _, r, _ => by cases r; exact .int b
  | _ + 1, .str b, _, _, _, r, _ => by cases r; exact .str _
  | n + 1, .tup ts, _, _, h, r, hl => by
    cases r with
    | tup q r => exact .tup (hK ▸ hF.sqT q) (dps_of hK hF n ts _ _ (by simpa only [data] using h) r (by simp))
  | n + 1, .lst o ts, _, _, h, r, hl => by
    cases r with
    | lstF q r => exact .lst (hK ▸ hF.sqL q) (dps_of hK hF n ts _ _ (by simpa only [data] using h) r (by simp))
    | @lstO a vs _ L r => exact .lst (.inl (.of (hl (a, .lst vs) List.mem_cons_self))) (dps_of hK hF n ts _ _ (by simpa only [data] using h) r fun p hp => hl p (List.mem_cons_of_mem _ hp))
  | _ + 1, .dct .., _, _, h, _, _ => by simp [data] at h
  | _ + 1, .obj .., _, _, h, _, _ => by simp [data] at h
  | _ + 1, .fn _, _, _, h, _, _ => by simp [data] at h
  | _ + 1, .cls _, _, _, h, _, _ => by simp [data] at h
theorem dps_of {K : PySem.W.Frag} {F H : Hp} (hK : G.K = K) (hF : Ext F H) : ∀ (n : Nat) (ts : List T) (vs : List V) (L : List Cell), ts.all (data n) = true → Reps G F ts vs L → (∀ p ∈ L, H p.1 = some p.2) → DpAll K H vs (toPDs ts)
  | _, [], _, _, _, r, _ => by cases r; exact .nil
  | n, t :: ts, _, _, h, r, hl => by
    simp only [List.all_cons, Bool.and_eq_true] at h
    cases r with
    | cons h1 r1 => exact .cons (dp_of hK hF n t _ _ h.1 h1 fun p hp => hl p (List.mem_append_left _ hp)) (dps_of hK hF n ts _ _ h.2 r1 fun p hp => hl p (List.mem_append_right _ hp))
end
theorem Has.dp {F H : Hp} {n : Nat} {t : T} {v : V} (h : Has G F H t v) (hK : X.K = G.K) (hF : Ext F H) (hd : data n t = true) : Dp X.K H v (toPD t) :=
  let ⟨L, r, hl⟩ := h; dp_of hK.symm hF n t v L hd r hl
theorem op2_eq (hK : X.K = G.K) (hu : X.A.units + 65 < cLine) : Op2 X G (compareOp .Eq) (.cmp .eq) := by
  intro pins s σ H x y v u Q F a b t I rx ry hF ha hb hp c
  change (eqT a b).map .bl = some t at hp
  unfold eqT at hp
  split at hp
  · rename_i h
    cases hp
    rw [Bool.and_eq_true] at h
    refine op_eqD (by omega) pins s σ H x y v u Q I rx ry ⟨toPD a, toPD b, ha.dp hK hF h.1, hb.dp hK hF h.2, shaped_of h.1 (by decide), shaped_of h.2 (by decide), ?_⟩
    rw [eqv_eqB _ _ _ _ h.1 h.2]
    exact c.here .bl
  · cases hp
theorem op2_ne (hK : X.K = G.K) (hu : X.A.units + 65 < cLine) : Op2 X G (compareOp .NotEq) (.cmp .ne) := by
  intro pins s σ H x y v u Q F a b t I rx ry hF ha hb hp c
  change ((eqT a b).map (!·)).map .bl = some t at hp
  unfold eqT at hp
  split at hp
  · rename_i h
    cases hp
    rw [Bool.and_eq_true] at h
    refine op_neD (by omega) pins s σ H x y v u Q I rx ry ⟨toPD a, toPD b, ha.dp hK hF h.1, hb.dp hK hF h.2, shaped_of h.1 (by decide), shaped_of h.2 (by decide), ?_⟩
    rw [eqv_eqB _ _ _ _ h.1 h.2]
    exact c.here .bl
  · cases hp
theorem natLt_eq : ∀ x y : List Nat, natLt x y = decide (x < y)
  | [], [] => by simp [natLt]
  | [], _ :: _ => by simp [natLt]
  | _ :: _, [] => by simp [natLt]
  | a :: x, b :: y => by
    unfold natLt
    rw [natLt_eq x y]
    simp only [List.cons_lt_cons_iff]
    by_cases h1 : a < b
    · simp [h1]
    · by_cases h2 : b < a
      · have : ¬ a = b := by omega
        simp [h1, h2, this]
      · have : a = b := by omega
        simp [h1, h2, this]
theorem op2_lt : Op2 X G (compareOp .Lt) (.cmp .lt) := by
  intro pins s σ H x y v u Q F a b t I rx ry hF ha hb hp c
  change (ltT a b).map .bl = some t at hp
  unfold ltT at hp
  split at hp
  · cases hp
    exact op_lt pins s σ H x y v u Q I rx ry ⟨_, _, ha.int, hb.int, c.here .bl⟩
  · cases hp
    refine op_lt_str pins s σ H x y v u Q I rx ry ⟨_, _, ha.str, hb.str, ?_⟩
    rw [natLt_eq] at c
    exact c.here .bl
  · cases hp
theorem op2_gt : Op2 X G (compareOp .Gt) (.cmp .gt) := by
  intro pins s σ H x y v u Q F a b t I rx ry hF ha hb hp c
  change (ltT b a).map .bl = some t at hp
  unfold ltT at hp
  split at hp
  · cases hp
    exact op_gt pins s σ H x y v u Q I rx ry ⟨_, _, ha.int, hb.int, c.here .bl⟩
  · cases hp
    refine op_gt_str pins s σ H x y v u Q I rx ry ⟨_, _, ha.str, hb.str, ?_⟩
    rw [natLt_eq] at c
    exact c.here .bl
  · cases hp
theorem op2_le : Op2 X G (compareOp .LtE) (.cmp .le) := by
  intro pins s σ H x y v u Q F a b t I rx ry hF ha hb hp c
  change ((ltT b a).map (!·)).map .bl = some t at hp
  unfold ltT at hp
  split at hp
  · rename_i i j
    cases hp
    have e : (!decide (i < j)) = decide (j ≤ i) := by
      rw [Bool.eq_iff_iff]; simp
    change Cont G F H (.bl (!decide (i < j))) Q at c
    rw [e] at c
    exact op_le pins s σ H x y v u Q I rx ry ⟨_, _, ha.int, hb.int, c.here .bl⟩
  · cases hp
    refine op_le_str pins s σ H x y v u Q I rx ry ⟨_, _, ha.str, hb.str, ?_⟩
    rw [natLt_eq] at c
    exact c.here .bl
  · cases hp
theorem op2_ge : Op2 X G (compareOp .GtE) (.cmp .ge) := by
  intro pins s σ H x y v u Q F a b t I rx ry hF ha hb hp c
  change ((ltT a b).map (!·)).map .bl = some t at hp
  unfold ltT at hp
  split at hp
  · rename_i i j
    cases hp
    have e : (!decide (i < j)) = decide (j ≤ i) := by
      rw [Bool.eq_iff_iff]; simp
    change Cont G F H (.bl (!decide (i < j))) Q at c
    rw [e] at c
    exact op_ge pins s σ H x y v u Q I rx ry ⟨_, _, ha.int, hb.int, c.here .bl⟩
  · cases hp
    refine op_ge_str pins s σ H x y v u Q I rx ry ⟨_, _, ha.str, hb.str, ?_⟩
    rw [natLt_eq] at c
    exact c.here .bl
  · cases hp

/-! ### in -/
theorem any_eqv (n : Nat) (x : T) (hx : data n x = true) : ∀ ts : List T, ts.all (data n) = true → ((toPDs ts).any fun z => PyData.eqv z (toPD x)) = ts.any fun t => eqB t x
  | [], _ => rfl
  | t :: r, h => by
    simp only [List.all_cons, Bool.and_eq_true] at h
    simp only [toPDs, List.any_cons]
    rw [eqv_eqB n n t x h.1 hx, any_eqv n x hx r h.2]
theorem shapeds_of {n : Nat} {ts : List T} (h : ts.all (data n) = true) (hn : n ≤ 63) : SeqAt.shaped (.list (toPDs ts)) = true := shaped_of (n := n + 1) (t := .lst false ts) (by simpa only [data] using h) (by omega)
theorem room_in {A : Around} {d : PyData} {e : Nat} (h : SeqAt.shaped d = true) (hu : A.units + 65 < cLine) : A.units + 1 + min e d.depth < cLine := by
  have h1 := SeqAt.depth_of_shaped h
  have h2 : min e d.depth ≤ d.depth := Nat.min_le_right _ _
  omega
theorem key_eqB : ∀ {k : Key} {t : T}, (isKey t = true) → eqB (keyT k) t = true → t = keyT k
  | .inl i, .int j, _, h => by simp only [keyT, eqB, beq_iff_eq] at h; subst h; rfl
  | .inl i, .str _, _, h => by simp [keyT, eqB] at h
  | .inr x, .int _, _, h => by simp [keyT, eqB] at h
  | .inr x, .str y, _, h => by simp only [keyT, eqB, beq_iff_eq] at h; subst h; rfl
theorem keyT_inj : ∀ {k k' : Key}, keyT k = keyT k' → k = k'
  | .inl i, .inl j, h => by cases h; rfl
  | .inl _, .inr _, h => by cases h
  | .inr _, .inl _, h => by cases h
  | .inr x, .inr y, h => by
    have e : x.cps.toList = y.cps.toList := by injection h
    have e2 : x.cps = y.cps := Array.toList_inj.mp e
    cases x; cases y; cases e2; rfl
theorem keyT_self (k : Key) : eqB (keyT k) (keyT k) = true := by
  cases k <;> simp [keyT, eqB]
theorem isKey_of {t : T} (h : isKey t = true) : ∃ k, t = keyT k := by
  cases t <;> first | cases h | skip
  · exact ⟨.inl _, rfl⟩
  · rename_i s; exact ⟨.inr ⟨s.toArray⟩, by simp [keyT]⟩
theorem Has.key {F H : Hp} {k : Key} {v : V} (h : Has G F H (keyT k) v) : v = kV k := by
  cases k with
  | inl i => exact h.int
  | inr x => rw [h.str]; rfl
theorem Has.dct {F H : Hp} {o : Bool} {ks vs : List T} {v : V} (h : Has G F H (.dct o ks vs) v) (hF : Ext F H) :
    ∃ a kvs, v = .ref a ∧ H a = some (.dK kvs) ∧ ks = kvs.map (fun p => keyT p.1) ∧ Hass G F H vs (kvs.map (·.2)) := by
  obtain ⟨L, r, hl⟩ := h
  cases r with
  | @dctF a kvs _ _ q k r => exact ⟨a, kvs, rfl, hF _ _ q, k, ⟨[], r, by simp⟩⟩
  | @dctO a kvs _ _ L k r => exact ⟨a, kvs, rfl, hl (a, .dK kvs) List.mem_cons_self, k, ⟨L, r, fun p hp => hl p (List.mem_cons_of_mem _ hp)⟩⟩
theorem any_key (k : Key) : ∀ kvs : List (Key × V), ((kvs.map fun p => keyT p.1).any fun t => eqB t (keyT k)) = (valV kvs k).isSome
  | [] => rfl
  | (k', v) :: r => by
    simp only [List.map_cons, List.any_cons]
    rw [any_key k r]
    unfold valV
    by_cases h : k' = k
    · subst h
      rw [keyT_self]
      simp
    · have : eqB (keyT k') (keyT k) = false := by
        cases e : eqB (keyT k') (keyT k) with
        | false => rfl
        | true => exact absurd (keyT_inj (key_eqB (k := k') (t := keyT k) (by cases k <;> rfl) e)).symm h
      rw [this]
      simp [h]
theorem op2_in (hK : X.K = G.K) (hu : X.A.units + 65 < cLine) : Op2 X G (compareOp .In) (.cmp .isin) := by
  intro pins s σ H x y v u Q F a b t I rx ry hF ha hb hp c
  change (cmpT .isin a b).map .bl = some t at hp
  cases b with
  | lst o ts =>
    change (inT a ts).map .bl = some t at hp
    unfold inT at hp
    split at hp
    · rename_i h
      cases hp
      rw [Bool.and_eq_true] at h
      have hl : data 13 (.lst o ts) = true := by simpa only [data] using h.2
      refine op_inD hu pins s σ H x y v u Q I rx ry ⟨toPD a, toPDs ts, ha.dp hK hF h.1, hb.dp hK hF hl, shaped_of h.1 (by decide), shapeds_of h.2 (by decide), ?_⟩
      rw [any_eqv 12 a h.1 ts h.2]
      exact c.here .bl
    · cases hp
  | tup ts =>
    change (inT a ts).map .bl = some t at hp
    unfold inT at hp
    split at hp
    · rename_i h
      cases hp
      rw [Bool.and_eq_true] at h
      have hl : data 13 (.tup ts) = true := by simpa only [data] using h.2
      obtain ⟨as, r1⟩ := Dp.reads I _ x v (ha.dp hK hF h.1) rx
      obtain ⟨bs, r2⟩ := Dp.reads I (.tuple (toPDs ts)) y u (hb.dp hK hF hl) ry
      refine SeqAt.in_tuple_reads r2 r1 (SeqAt.canLay_of_shaped (shapeds_of h.2 (by decide))) (SeqAt.canLay_of_shaped (shaped_of h.1 (by decide))) (room_in (shaped_of h.1 (by decide)) hu) ⟨.bl _, H, I, rfl, ?_⟩
      rw [any_eqv 12 a h.1 ts h.2]
      exact c.here .bl
    · cases hp
  | dct o ks vs =>
    change (if isKey a then some (ks.any fun t => eqB t a) else none).map T.bl = some t at hp
    split at hp
    · rename_i h
      cases hp
      obtain ⟨k, rfl⟩ := isKey_of h
      obtain ⟨p, kvs, rfl, hH, rfl, _⟩ := hb.dct hF
      rw [any_key] at c
      have e := ha.key
      subst e
      cases ry
      have g : DGet H p (kV k) (valV kvs k) := DGet.k hH
      refine d_in (by omega) I g rx fun s' I' => ⟨.bl _, H, I', rfl, c.here .bl⟩
    · cases hp
  | _ => cases hp
theorem op2_notin (hK : X.K = G.K) (hu : X.A.units + 65 < cLine) : Op2 X G (compareOp .NotIn) (.cmp .notin) := by
  intro pins s σ H x y v u Q F a b t I rx ry hF ha hb hp c
  change (cmpT .notin a b).map .bl = some t at hp
  cases b with
  | lst o ts =>
    change ((inT a ts).map (!·)).map .bl = some t at hp
    unfold inT at hp
    split at hp
    · rename_i h
      cases hp
      rw [Bool.and_eq_true] at h
      have hl : data 13 (.lst o ts) = true := by simpa only [data] using h.2
      refine op_notInD hu pins s σ H x y v u Q I rx ry ⟨toPD a, toPDs ts, ha.dp hK hF h.1, hb.dp hK hF hl, shaped_of h.1 (by decide), shapeds_of h.2 (by decide), ?_⟩
      rw [any_eqv 12 a h.1 ts h.2]
      exact c.here .bl
    · cases hp
  | tup ts =>
    change ((inT a ts).map (!·)).map .bl = some t at hp
    unfold inT at hp
    split at hp
    · rename_i h
      cases hp
      rw [Bool.and_eq_true] at h
      have hl : data 13 (.tup ts) = true := by simpa only [data] using h.2
      obtain ⟨as, r1⟩ := Dp.reads I _ x v (ha.dp hK hF h.1) rx
      obtain ⟨bs, r2⟩ := Dp.reads I (.tuple (toPDs ts)) y u (hb.dp hK hF hl) ry
      refine SeqAt.notIn_tuple_reads r2 r1 (SeqAt.canLay_of_shaped (shapeds_of h.2 (by decide))) (SeqAt.canLay_of_shaped (shaped_of h.1 (by decide))) (room_in (shaped_of h.1 (by decide)) hu) ⟨.bl _, H, I, rfl, ?_⟩
      rw [any_eqv 12 a h.1 ts h.2]
      exact c.here .bl
    · cases hp
  | dct o ks vs =>
    change (if isKey a then some (!ks.any fun t => eqB t a) else none).map T.bl = some t at hp
    split at hp
    · rename_i h
      cases hp
      obtain ⟨k, rfl⟩ := isKey_of h
      obtain ⟨p, kvs, rfl, hH, rfl, _⟩ := hb.dct hF
      rw [any_key] at c
      have e := ha.key
      subst e
      cases ry
      have g : DGet H p (kV k) (valV kvs k) := DGet.k hH
      refine d_notIn (by omega) I g rx fun s' I' => ⟨.bl _, H, I', rfl, c.here .bl⟩
    · cases hp
  | _ => cases hp
theorem Has.isnon {F H : Hp} {t : T} {v : V} (h : Has G F H t v) : decide (v = .non) = (match t with | .non => true | _ => false) := by
  obtain ⟨L, r, _⟩ := h
  cases r <;> simp
theorem op2_is : Op2 X G (compareOp .Is) (.cmp .is) := by
  intro pins s σ H x y v u Q F a b t I rx ry hF ha hb hp c
  change (cmpT .is a b).map .bl = some t at hp
  cases b with
  | non =>
    refine op_isN pins s σ H x y v u Q I rx ry ⟨hb.non, ?_⟩
    rw [ha.isnon]
    cases a <;> (cases hp; exact c.here .bl)
  | bl k =>
    cases a <;> first | (cases hp; done) | skip
    cases hp
    refine op_isBl pins s σ H x y v u Q I rx ry ⟨_, _, ha.bl, hb.bl, ?_⟩
    rw [← Bool.beq_eq_decide_eq]
    exact c.here .bl
  | _ => cases a <;> cases hp
theorem op2_isnot : Op2 X G (compareOp .IsNot) (.cmp .isnot) := by
  intro pins s σ H x y v u Q F a b t I rx ry hF ha hb hp c
  change (cmpT .isnot a b).map .bl = some t at hp
  cases b with
  | non =>
    refine op_notN pins s σ H x y v u Q I rx ry ⟨hb.non, ?_⟩
    rw [ha.isnon]
    cases a <;> (cases hp; exact c.here .bl)
  | bl k =>
    cases a <;> first | (cases hp; done) | skip
    cases hp
    refine op_notBl pins s σ H x y v u Q I rx ry ⟨_, _, ha.bl, hb.bl, ?_⟩
    rw [← Bool.beq_eq_decide_eq]
    exact c.here .bl
  | _ => cases a <;> cases hp
/-- comparisons -/
def cop : Cmp → CmpOp
  | .eq => .Eq | .ne => .NotEq | .lt => .Lt | .le => .LtE | .gt => .Gt | .ge => .GtE | .isin => .In | .notin => .NotIn | .is => .Is | .isnot => .IsNot
theorem op2_cmp (hK : X.K = G.K) (hu : X.A.units + 65 < cLine) (c : Cmp) : Op2 X G (compareOp (cop c)) (.cmp c) := by
  cases c
  · exact op2_eq hK hu
  · exact op2_ne hK hu
  · exact op2_lt
  · exact op2_le
  · exact op2_gt
  · exact op2_ge
  · exact op2_in hK hu
  · exact op2_notin hK hu
  · exact op2_is
  · exact op2_isnot

/-! ### subscripts -/
def OpIx (X : Cx) (G : Gm) : Prop :=
  ∀ (value slice : Expr) (pins : List (Addr × Obj)) (s : Shared) (σ : L2.St) (H : Hp) (x y : V) (v u : Value) (Q : VK) (F : Hp) (a b t : T), L2.Inv X pins σ H s → L2.RelV x v → L2.RelV y u → Ext F H →
    Has G F H a x → Has G F H b y → pIdx a b = some t → Cont G F H t Q → subscripted slice false v u = operate [v, u] (getItem v u) → wpAny (model X.prog X.w) X.A (subscriptTail value slice v u) (EP X pins σ Q) X.xe s
theorem pIx_eq (n : Nat) (i : Int) : pIx n i = ixN n i := rfl
theorem atI_of {α : Type} {xs : List α} {i : Int} {j : Nat} {v : α} (h : pIx xs.length i = some j) (e : xs[j]? = some v) : atI xs i = some v := by
  unfold atI
  rw [← pIx_eq, h]
  exact e
theorem valV_ix (k : Key) : ∀ (kvs : List (Key × V)) (n j : Nat), firstIx (keyT k) (kvs.map fun p => keyT p.1) n = some j → n ≤ j ∧ (kvs.map (·.2))[j - n]? = valV kvs k
  | [], n, j, h => by simp [firstIx] at h
  | (k', v) :: r, n, j, h => by
    simp only [List.map_cons, firstIx] at h
    split at h
    · rename_i hk
      cases h
      have e : k = k' := keyT_inj (key_eqB (k := k') (by cases k <;> rfl) hk)
      subst e
      refine ⟨Nat.le_refl _, ?_⟩
      simp [valV]
    · rename_i hk
      obtain ⟨h1, h2⟩ := valV_ix k r (n + 1) j h
      refine ⟨by omega, ?_⟩
      have hne : ¬ k' = k := fun e => by subst e; exact hk (keyT_self k')
      have e1 : j - n = (j - (n + 1)) + 1 := by omega
      rw [e1, List.map_cons, List.getElem?_cons_succ, h2]
      unfold valV
      rw [List.find?_cons_of_neg (by simp [hne])]
theorem opIx (hK : X.K = G.K) (hu : X.A.units + 65 < cLine) : OpIx X G := by
  intro value slice pins s σ H x y v u Q F a b t I rx ry hF ha hb hp c hs
  unfold pIdx at hp
  split at hp
  · rename_i ts i
    obtain ⟨p, vs, rfl, q, r⟩ := ha.tup hF
    cases e : pIx ts.length i with
    | none => rw [e] at hp; cases hp
    | some j =>
      rw [e] at hp
      have hp' : ts[j]? = some t := hp
      have hpure : t.pure = true := by
        have := r.nil_all
        rw [List.all_eq_true] at this
        exact this t (List.mem_of_getElem? hp')
      obtain ⟨w, h1, h2⟩ := r.at_ hp' hpure
      exact ix_tup value slice pins s σ H _ y v u Q I rx ry ⟨p, vs, i, w, rfl, hb.int, hK ▸ q, atI_of (by rw [← r.length]; exact e) h1, c.here h2⟩ hs
  · rename_i o ts i
    obtain ⟨p, vs, rfl, q, ⟨L, r, _⟩, _⟩ := ha.lst hF
    cases e : pIx ts.length i with
    | none => rw [e] at hp; cases hp
    | some j =>
      rw [e] at hp
      have hp : ((ts[j]?).bind fun t => if t.pure then some t else none) = some t := hp
      cases e2 : ts[j]? with
      | none => rw [e2] at hp; cases hp
      | some t' =>
        rw [e2] at hp
        have hp : (if t'.pure then some t' else none) = some t := hp
        split at hp
        · rename_i hpu
          cases hp
          obtain ⟨w, h1, h2⟩ := r.at_ e2 hpu
          exact ix_list value slice pins s σ H _ y v u Q I rx ry ⟨p, vs, i, w, rfl, hb.int, hK ▸ q, atI_of (by rw [← r.length]; exact e) h1, c.here h2⟩ hs
        · cases hp
  · rename_i o ks ws
    split at hp
    · rename_i hk
      obtain ⟨k, rfl⟩ := isKey_of hk
      obtain ⟨p, kvs, rfl, hH, rfl, ⟨L, r, _⟩⟩ := ha.dct hF
      cases e : firstIx (keyT k) (kvs.map fun p => keyT p.1) 0 with
      | none => rw [e] at hp; cases hp
      | some j =>
        rw [e] at hp
        have hp : ((ws[j]?).bind fun t => if t.pure then some t else none) = some t := hp
        cases e2 : ws[j]? with
        | none => rw [e2] at hp; cases hp
        | some t' =>
          rw [e2] at hp
          have hp : (if t'.pure then some t' else none) = some t := hp
          split at hp
          · rename_i hpu
            cases hp
            obtain ⟨w, h1, h2⟩ := r.at_ e2 hpu
            obtain ⟨_, h3⟩ := valV_ix k kvs 0 j e
            rw [Nat.sub_zero, h1] at h3
            have ey := hb.key
            subst ey
            cases rx
            have g : DGet H p (kV k) (some w) := by rw [h3]; exact DGet.k hH
            exact tail_any (dict_typeIs I g) PySem.F.slot_dict_getitem.lookup (d_getItem (by omega) I g ry fun w' s' I' rw' => ⟨w, H, I', rw', c.here h2⟩) hs
          · cases hp
    · cases hp
  · rename_i s0 i
    split at hp
    · rename_i hl
      rw [lineS] at hl
      cases e : pIx s0.length i with
      | none => rw [e] at hp; cases hp
      | some j =>
        rw [e] at hp
        have hp : ((s0[j]?).map fun c => T.str [c]) = some t := hp
        cases e2 : s0[j]? with
        | none => rw [e2] at hp; cases hp
        | some ch =>
          rw [e2] at hp; cases hp
          refine ix_str value slice pins s σ H x y v u Q I rx ry ⟨_, i, ch, ha.str, hb.int, by simpa [Str.length] using hl, ?_, c.here .str⟩ hs
          exact atI_of (by simpa using e) (by simpa using e2)
    · cases hp
  · cases hp

/-! ### calls of built-ins -/
def Opn (X : Cx) (G : Gm) (f : Value) (p : Pr) : Prop :=
  ∀ (pins : List (Addr × Obj)) (s : Shared) (σ : L2.St) (H : Hp) (xs : List V) (us : List Value) (Q : VK) (F : Hp) (ts : List T) (t : T), L2.Inv X pins σ H s → Vals xs us → Ext F H →
    HasA G F H ts xs → prim p ts = some t → Cont G F H t Q → wpAny (model X.prog X.w) X.A (call f us) (EP X pins σ Q) X.xe s
theorem HasA.one {F H : Hp} {t : T} {xs : List V} (h : HasA G F H [t] xs) : ∃ x, xs = [x] ∧ Has G F H t x := by
  cases h with | cons h r => cases r; exact ⟨_, rfl, h⟩
theorem HasA.two {F H : Hp} {t t2 : T} {xs : List V} (h : HasA G F H [t, t2] xs) : ∃ x y, xs = [x, y] ∧ Has G F H t x ∧ Has G F H t2 y := by
  cases h with | cons h r => obtain ⟨y, rfl, h2⟩ := r.one; exact ⟨_, y, rfl, h, h2⟩
theorem prim_len {ts : List T} {t : T} (h : prim .len ts = some t) : ∃ a, ts = [a] ∧ pLen a = some t := by
  match ts, h with
  | [a], h => exact ⟨a, rfl, h⟩
theorem opn_len (hK : X.K = G.K) : Opn X G (.builtin "len") .len := by
  intro pins s σ H xs us Q F ts t I rv hF ha hp c
  obtain ⟨a, rfl, hq⟩ := prim_len hp
  obtain ⟨x, rfl, h1⟩ := ha.one
  unfold pLen at hq
  split at hq
  · cases hq
    obtain ⟨p, vs, rfl, q, r⟩ := h1.tup hF
    rw [r.length] at c
    exact call_len pins s σ H _ us Q I rv ⟨_, _, rfl, .inr ⟨vs, hK ▸ q, rfl⟩, c.here .int⟩
  · cases hq
    obtain ⟨p, vs, rfl, q, ⟨L, r, _⟩, _⟩ := h1.lst hF
    rw [r.length] at c
    exact call_len pins s σ H _ us Q I rv ⟨_, _, rfl, .inl ⟨vs, hK ▸ q, rfl⟩, c.here .int⟩
  · split at hq
    · rename_i s0 hl
      cases hq
      rw [lineS] at hl
      have e := h1.str
      subst e
      refine call_len pins s σ H _ us Q I rv ⟨_, s0.length, rfl, ⟨by simpa [Str.length] using hl, by simp [Str.length]⟩, c.here .int⟩
    · cases hq
  · cases hq
theorem opn_tuple (hK : X.K = G.K) : Opn X G (.type "tuple") .tuple := by
  intro pins s σ H xs us Q F ts t I rv hF ha hp c
  obtain ⟨a, rfl, hq⟩ : ∃ a, ts = [a] ∧ pTuple a = some t := by
    match ts, hp with
    | [a], h => exact ⟨a, rfl, h⟩
  obtain ⟨x, rfl, h1⟩ := ha.one
  unfold pTuple at hq
  split at hq
  · cases hq
    obtain ⟨p, vs, rfl, q, r⟩ := h1.tup hF
    refine call_tuple_of pins s σ H _ us Q I rv ⟨p, vs, rfl, .inr ⟨hK ▸ q, ?_⟩⟩
    obtain ⟨L, r', _⟩ := h1
    exact c.here (by cases r' with | tup q r => exact .tup q r)
  · split at hq
    · rename_i o ts hpu
      cases hq
      obtain ⟨p, vs, rfl, q, r⟩ := h1.lstS hF hpu
      exact call_tuple_of pins s σ H _ us Q I rv ⟨p, vs, rfl, .inl ⟨hK ▸ q, fun l hl => c.tuple hF r hl⟩⟩
    · cases hq
  · cases hq
theorem opn_list (hK : X.K = G.K) : Opn X G (.type "list") .list := by
  intro pins s σ H xs us Q F ts t I rv hF ha hp c
  obtain ⟨a, rfl, hq⟩ : ∃ a, ts = [a] ∧ pList a = some t := by
    match ts, hp with
    | [a], h => exact ⟨a, rfl, h⟩
  obtain ⟨x, rfl, h1⟩ := ha.one
  unfold pList at hq
  split at hq
  · cases hq
    obtain ⟨p, vs, rfl, q, r⟩ := h1.tup hF
    exact call_list_of pins s σ H _ us Q I rv ⟨p, vs, rfl, .inr (hK ▸ q), fun l hl => c.list r hl⟩
  · split at hq
    · rename_i o ts hpu
      cases hq
      obtain ⟨p, vs, rfl, q, r⟩ := h1.lstS hF hpu
      exact call_list_of pins s σ H _ us Q I rv ⟨p, vs, rfl, .inl (hK ▸ q), fun l hl => c.list r hl⟩
    · cases hq
  · cases hq
theorem opn_abs : Opn X G (.builtin "abs") .abs := by
  intro pins s σ H xs us Q F ts t I rv hF ha hp c
  obtain ⟨a, rfl, hq⟩ : ∃ a, ts = [a] ∧ pAbs a = some t := by
    match ts, hp with
    | [a], h => exact ⟨a, rfl, h⟩
  obtain ⟨x, rfl, h1⟩ := ha.one
  cases a <;> cases hq
  have e := h1.int
  subst e
  exact call_abs pins s σ H _ us Q I rv ⟨_, rfl, c.here .int⟩
theorem opn_int1 : Opn X G (.type "int") .int1 := by
  intro pins s σ H xs us Q F ts t I rv hF ha hp c
  obtain ⟨a, rfl, hq⟩ : ∃ a, ts = [a] ∧ pInt a = some t := by
    match ts, hp with
    | [a], h => exact ⟨a, rfl, h⟩
  obtain ⟨x, rfl, h1⟩ := ha.one
  cases a <;> cases hq
  · have e := h1.bl
    subst e
    exact call_int1 pins s σ H _ us Q I rv (.inr ⟨_, rfl, c.here .int⟩)
  · have e := h1.int
    subst e
    exact call_int1 pins s σ H _ us Q I rv (.inl ⟨_, rfl, c.here .int⟩)
theorem opn_max (hc : X.calm = true) : Opn X G (.builtin "max") .max2 := by
  intro pins s σ H xs us Q F ts t I rv hF ha hp c
  obtain ⟨a, b, rfl, hq⟩ : ∃ a b, ts = [a, b] ∧ pMax a b = some t := by
    match ts, hp with
    | [a, b], h => exact ⟨a, b, rfl, h⟩
  obtain ⟨x, y, rfl, h1, h2⟩ := ha.two
  unfold pMax at hq
  split at hq
  · cases hq
    have e := h1.int
    have e2 := h2.int
    subst e e2
    exact call_max2 hc pins s σ H _ us Q I rv ⟨_, _, rfl, c.here .int⟩
  · cases hq
theorem opn_min (hc : X.calm = true) : Opn X G (.builtin "min") .min2 := by
  intro pins s σ H xs us Q F ts t I rv hF ha hp c
  obtain ⟨a, b, rfl, hq⟩ : ∃ a b, ts = [a, b] ∧ pMin a b = some t := by
    match ts, hp with
    | [a, b], h => exact ⟨a, b, rfl, h⟩
  obtain ⟨x, y, rfl, h1, h2⟩ := ha.two
  unfold pMin at hq
  split at hq
  · cases hq
    have e := h1.int
    have e2 := h2.int
    subst e e2
    exact call_min2 hc pins s σ H _ us Q I rv ⟨_, _, rfl, c.here .int⟩
  · cases hq
theorem opn_all (hK : X.K = G.K) (hc : X.calm = true) : Opn X G (.builtin "all") .all := by
  intro pins s σ H xs us Q F ts t I rv hF ha hp c
  obtain ⟨a, rfl, hq⟩ : ∃ a, ts = [a] ∧ pAll a = some t := by
    match ts, hp with
    | [a], h => exact ⟨a, rfl, h⟩
  obtain ⟨x, rfl, h1⟩ := ha.one
  unfold pAll at hq
  split at hq
  · rename_i o ts
    cases e : bools ts with
    | none => rw [e] at hq; cases hq
    | some bs =>
      rw [e] at hq; cases hq
      have := bools_eq e
      subst this
      obtain ⟨p, vs, rfl, q, ⟨L, r, _⟩, _⟩ := h1.lst hF
      have e2 := r.bls
      subst e2
      exact cr_all hc pins s σ H _ us Q I rv ⟨p, bs, rfl, hK ▸ q, c.here .bl⟩
  · cases hq
theorem opn_sum (hK : X.K = G.K) (hc : X.calm = true) : Opn X G (.builtin "sum") .sum1 := by
  intro pins s σ H xs us Q F ts t I rv hF ha hp c
  obtain ⟨a, rfl, hq⟩ : ∃ a, ts = [a] ∧ pSum a = some t := by
    match ts, hp with
    | [a], h => exact ⟨a, rfl, h⟩
  obtain ⟨x, rfl, h1⟩ := ha.one
  unfold pSum at hq
  split at hq
  · rename_i o ts
    cases e : intsOf ts with
    | none => rw [e] at hq; cases hq
    | some bs =>
      rw [e] at hq; cases hq
      have := intsOf_eq e
      subst this
      obtain ⟨p, vs, rfl, q, ⟨L, r, _⟩, _⟩ := h1.lst hF
      have e2 := r.ints.1
      subst e2
      exact cr_sum hc pins s σ H _ us Q I rv ⟨p, bs, rfl, hK ▸ q, c.here .int⟩
  · cases hq
theorem insI_perm (x : Int) : ∀ l : List Int, (insI x l).Perm (x :: l)
  | [] => .refl _
  | y :: r => by
    unfold insI
    split
    · exact .refl _
    · exact ((insI_perm x r).cons y).trans (.swap x y r)
theorem sortI_perm : ∀ l : List Int, (sortI l).Perm l
  | [] => .refl _
  | x :: r => (insI_perm x (sortI r)).trans ((sortI_perm r).cons x)
theorem insI_sorted (x : Int) : ∀ l : List Int, l.Pairwise (· ≤ ·) → (insI x l).Pairwise (· ≤ ·)
  | [], _ => List.pairwise_singleton _ _
  | y :: r, h => by
    unfold insI
    rw [List.pairwise_cons] at h
    split
    · rename_i hx
      refine List.pairwise_cons.mpr ⟨fun z hz => ?_, List.pairwise_cons.mpr h⟩
      rcases List.mem_cons.mp hz with rfl | hz
      · exact hx
      · exact Int.le_trans hx (h.1 z hz)
    · rename_i hx
      refine List.pairwise_cons.mpr ⟨fun z hz => ?_, insI_sorted x r h.2⟩
      rcases List.mem_cons.mp ((insI_perm x r).mem_iff.mp hz) with rfl | hz
      · omega
      · exact h.1 z hz
theorem sortI_sorted : ∀ l : List Int, (sortI l).Pairwise (· ≤ ·)
  | [] => .nil
  | x :: r => insI_sorted x _ (sortI_sorted r)
theorem sorted_one {a b : List Int} (p : a.Perm b) (ha : a.Pairwise (· ≤ ·)) (hb : b.Pairwise (· ≤ ·)) : a = b :=
  List.Perm.eq_of_pairwise (fun x y _ _ h1 h2 => Int.le_antisymm h1 h2) ha hb p
theorem opn_sorted_list (hK : X.K = G.K) {pins : List (Addr × Obj)} {s : Shared} {σ : L2.St} {H F : Hp} {x : V} {us : List Value} {Q : VK} {o : Bool} {ts : List T} {t : T} (I : L2.Inv X pins σ H s) (rv : Vals [x] us) (hF : Ext F H) (ha : Has G F H (.lst o ts) x)
    (hp : pSorted (.lst o ts) = some t) (c : Cont G F H t Q) : wpAny (model X.prog X.w) X.A (call (.builtin "sorted") us) (EP X pins σ Q) X.xe s := by
  have hp : ((intsOf ts).map fun ns => T.lst true ((sortI ns).map .int)) = some t := hp
  cases e : intsOf ts with
  | none => rw [e] at hp; cases hp
  | some ns =>
    rw [e] at hp; cases hp
    have := intsOf_eq e
    subst this
    obtain ⟨p, vs, rfl, q, ⟨L, r, _⟩, _⟩ := ha.lst hF
    have e2 := r.ints.1
    subst e2
    refine cr_sortedI pins s σ H _ us Q I rv ⟨p, ns, rfl, hK ▸ q, fun ns' p' hp' hs hn => ?_⟩
    have e3 : ns' = sortI ns := sorted_one (hp'.trans (sortI_perm ns).symm) hs (sortI_sorted ns)
    rw [e3]
    exact c.list (Reps.of_ints _) hn
end
end Ev
end
section
set_option Elab.async false
set_option linter.all false
set_option maxRecDepth 100000
set_option maxHeartbeats 1000000
/-! Ev, part F: more operations. -/
namespace PyProof.Rows
open PySem PySem.Spec
section
variable {prog : Program} {w : World} {A : Around} {E : Value → Shared → Prop} {s : Shared}
/-- collecting a tuple's items into a new list -/
theorem collect_tupE {l : Addr} {vs : List Value} {Q : List Value → Shared → Prop} (hl : IsTup s.heap l vs.toArray) (hsz : vs.length ≤ sizeLine)
    (h : Q vs { s with heap := (s.heap.push (seqObj "list" #[] 0)).update s.heap.objs.size (Obj.mapSeq (· ++ vs.toArray)) }) :
    wpAny (model prog w) A (collect (.ref l)) Q E s := by
  obtain ⟨o, ho, hc, n, hd⟩ := id hl
  unfold collect
  refine wpAny_bind (wpAny_runValue (codeAny_builtin entry_proto_collect' (?_ : wpAny _ _ (do again (.builtin "list.__iadd__" ⟨[← newList [], .ref l], []⟩)) _ _ s)))
  refine wpAny_bind (wpAny_newList (wpAny_pure ⟨Code.quiet_builtin _ (by decide +kernel),
    codeAny_builtin entry_list_iadd' (?_ : wpAny _ _ (Builtin.List.listExtendWith (.ref s.heap.objs.size) (.ref l) (.ref s.heap.objs.size)) _ _ { s with heap := s.heap.push (seqObj "list" #[] 0) })⟩))
  unfold Builtin.List.listExtendWith
  have hk : (s.heap.push (seqObj "list" #[] 0)).get? l = some o := Heap.get?_push_of_some _ ho
  have hn : (s.heap.push (seqObj "list" #[] 0)).get? s.heap.objs.size = some (seqObj "list" #[] 0) := Heap.get?_push_size _ rfl
  refine wpAny_bind (wpAny_typeOf (T := "tuple") ⟨o, hk, hc⟩ ?_)
  have ht : (Value.type "tuple" == Value.type "list") = false := by rfl
  have ht2 : (Value.type "tuple" == Value.type "tuple") = true := by rfl
  rw [if_pos (by rw [ht, ht2]; simp)]
  refine wpAny_bind (listItems_at hk hd (?_))
  refine wpAny_bind (listItems_at (xs := #[]) (n := 0) hn rfl (?_))
  rw [if_neg (by simp)]
  refine wpAny_bind (listUpdate_at (xs := #[]) (n := 0) hn rfl (?_) (Nat.zero_le _) (by simpa using Nat.le_succ_of_le hsz))
  refine wpAny_pure (?_ : wpAny (model prog w) A (do
      let o ← load s.heap.objs.size
      match o.data with
      | .seq xs _ => pure xs.toList
      | _ => unsupported "internal:collect") Q E { s with heap := (s.heap.push (seqObj "list" #[] 0)).update s.heap.objs.size (Obj.mapSeq (· ++ vs.toArray)) })
  refine wpAny_bind (wpAny_load (get?_update_seq hn _) (?_ : wpAny _ _ (pure ((#[] : Array Value) ++ vs.toArray).toList) Q E _))
  rw [show ((#[] : Array Value) ++ vs.toArray).toList = vs by simp]
  exact wpAny_pure h
end
end PyProof.Rows
namespace SrtO
open PySem PySem.Spec PyProof.Rows
section
variable {prog : Program} {w : World} {A : Around} {E : Value → Shared → Prop} {s : Shared}
/-- sorted of a tuple -/
theorem sorted_tupE {l : Addr} {vs : List Value} {ltv : Value → Value → Bool} {Q : Value → Shared → Prop} (O : Swo ltv) (hl : IsTup s.heap l vs.toArray) (hz : vs.length ≤ sizeLine)
    (hS : 2 ≤ vs.length → ∀ (h₁ : Heap) (a : Addr), SortableO prog w A.in1.in1 { s with heap := h₁ } a vs ltv)
    (h : ∀ out : List Value, Srtd ltv out → Stb ltv out vs → Q (.ref (s.heap.objs.size + 1)) { s with heap := sortedAll s.heap vs out.toArray }) :
    wpAny (model prog w) A (call (.builtin "sorted") [.ref l]) Q E s := by
  refine Calls.call_function_entry kind_sorted plain_sorted entry_sorted (args_sorted1 _) (?_)
  unfold Builtin.«sorted»
  refine wpAny_bind (m := checkCount "sorted" 1 1 _) (wpAny_pure (?_))
  refine wpAny_bind (PyProof.Rows.collect_tupE hl hz (?_))
  generalize hb : ((s.heap.push (seqObj "list" #[] 0)).update s.heap.objs.size (Obj.mapSeq (· ++ vs.toArray))) = hp
  have hsz : hp.objs.size = s.heap.objs.size + 1 := by rw [← hb, Heap.size_update, size_push']
  refine wpAny_bind (wpAny_newList (?_ : wpAny _ _ _ _ _ { s with heap := hp.push (seqObj "list" vs.toArray 0) }) hz)
  have hoL : (hp.push (seqObj "list" vs.toArray 0)).get? (s.heap.objs.size + 1) = some (seqObj "list" vs.toArray 0) := by
    rw [← hsz]
    exact Heap.get?_push_size _ rfl
  rw [hsz]
  refine wpAny_bind (wpAny_holding (wpAny_call_entry slot_list_sort ⟨_, hoL, rfl⟩ entry_list_sort (list_sort_ord O hoL hz (fun h2 => hS h2 _ _)
    fun out hs hb' => ⟨_, rfl, wpAny_pure ⟨_, rfl, ?_⟩⟩) (args_list_sort _)))
  have := h out hs hb'
  unfold sortedAll at this
  rw [hb] at this
  exact this
end
end SrtO
namespace Ev
open PySem PySem.Spec PyProof.Rows L2
section
variable {X : Cx} {G : Gm}
theorem sorted_tup {pins : List (Addr × Obj)} {s : Shared} {σ : L2.St} {H : Hp} {a : Addr} {ns : List Int} {Q : VK} (I : L2.Inv X pins σ H s) (hs : SqT X.K H a (ns.map V.int))
    (q : ∀ (ns' : List Int) (p : Addr), ns'.Perm ns → ns'.Pairwise (· ≤ ·) → H p = none → Q (.ref p) (upd H p (.lst (ns'.map V.int)))) :
    wpAny (model X.prog X.w) X.A (call (.builtin "sorted") [.ref a]) (EP X pins σ Q) X.xe s := by
  obtain ⟨its, rv, hl, hz⟩ := I.tuple hs
  have hi := rv.ints
  refine SrtO.sorted_tupE SrtO.swo_int hl (by rw [← rv.length]; exact hz) (fun h2 h₁ a' => SrtO.ints_sortable hi h2) fun out h1 h2 => ?_
  obtain ⟨k1, k2, k3⟩ := SrtO.ints_out hi h1 h2
  obtain ⟨ep, he'⟩ := PyProof.Rows.sortedAll_at s.heap its out.toArray
  have hlen : ((out.map SrtO.iv).map V.int).length ≤ sizeLine := by
    simp only [List.length_map] at hz ⊢
    have := k2.length_eq
    simp only [List.length_map] at this
    omega
  refine ⟨.ref _, upd H (s.heap.objs.size + 1) (.lst ((out.map SrtO.iv).map V.int)), ?_, rfl, q _ _ k2 k3 (I.hok.fresh (Nat.le_succ _))⟩
  exact I.laid (t' := s.toks) (fun _ _ => PyProof.Rows.sortedAll_old) (Nat.le_succ _) ⟨hlen, out, ep, vals_of_ints k1, he'⟩
theorem opn_sorted (hK : X.K = G.K) : Opn X G (.builtin "sorted") .sorted := by
  intro pins s σ H xs us Q F ts t I rv hF ha hp c
  obtain ⟨a, rfl, hq⟩ : ∃ a, ts = [a] ∧ pSorted a = some t := by
    match ts, hp with
    | [a], h => exact ⟨a, rfl, h⟩
  obtain ⟨x, rfl, h1⟩ := ha.one
  cases a with
  | lst o ts => exact opn_sorted_list hK I rv hF h1 hq c
  | tup ts =>
    have hq : ((intsOf ts).map fun ns => T.lst true ((sortI ns).map .int)) = some t := hq
    cases e : intsOf ts with
    | none => rw [e] at hq; cases hq
    | some ns =>
      rw [e] at hq; cases hq
      have := intsOf_eq e
      subst this
      obtain ⟨p, vs, rfl, q, r⟩ := h1.tup hF
      have e2 := r.ints.1
      subst e2
      obtain ⟨u, rfl, ru⟩ := vals1 rv
      cases ru
      refine sorted_tup I (hK ▸ q) fun ns' p' hp' hs hn => ?_
      have e3 : ns' = sortI ns := sorted_one (hp'.trans (sortI_perm ns).symm) hs (sortI_sorted ns)
      rw [e3]
      exact c.list (Reps.of_ints _) hn
  | _ => cases hq
/-! ### slices -/
theorem sIx_eq (n d : Nat) (o : Option Int) : sIx n d o = HT.sIx n d o := by cases o <;> rfl
theorem cut_eq (xs : List V) (lo hi : Option Int) : cut xs lo hi = cutV xs lo hi := by simp only [cut, cutV, sIx_eq]
theorem Reps.cut {F : Hp} {ts : List T} {vs : List V} (r : Reps G F ts vs []) (lo hi : Option Int) : Reps G F (Ev.cut ts lo hi) (cutV vs lo hi) [] := by
  rw [← cut_eq]
  unfold Ev.cut
  rw [r.length]
  exact (r.drop _).take _
def OpSl (X : Cx) (G : Gm) : Prop :=
  ∀ (pins : List (Addr × Obj)) (s : Shared) (σ : L2.St) (H : Hp) (x : V) (v vl vu : Value) (lo hi : Option Int) (sl : Addr) (Q : VK) (F : Hp) (a t : T), L2.Inv X pins σ H s → L2.RelV x v → s.heap.IsSliceOf sl vl vu .none → IsPart vl lo → IsPart vu hi → Ext F H →
    Has G F H a x → slice a lo hi = some t → Cont G F H t Q →
    ∃ T id, typeLookup (.type T) "__getitem__" = pure (some (.builtin id)) ∧ s.TypeIs v T ∧ wpAny (model X.prog X.w) X.A (getItem v (.ref sl)) (EP X pins σ Q) X.xe s
theorem cut_whole {ts : List T} {lo hi : Option Int} (h1 : sIx ts.length 0 lo = 0) (h2 : sIx ts.length ts.length hi = ts.length) : Ev.cut ts lo hi = ts := by
  unfold Ev.cut
  rw [h1, h2]
  simp
theorem opSl (hK : X.K = G.K) : OpSl X G := by
  intro pins s σ H x v vl vu lo hi sl Q F a t I rx hs pl pu hF ha hp c
  unfold slice at hp
  split at hp
  · rename_i ts
    cases hp
    obtain ⟨p, vs, rfl, q, r⟩ := ha.tup hF
    refine sl_tupA pins s σ H _ v vl vu lo hi sl Q I rx hs pl pu ⟨p, vs, rfl, hK ▸ q, fun h => ?_, fun _ n hn => c.tuple hF (r.cut lo hi) hn⟩
    have e : Ev.cut ts lo hi = ts := by
      apply cut_whole <;> rw [sIx_eq, r.length]
      · exact h.1
      · exact h.2
    rw [e] at c
    obtain ⟨L, r', _⟩ := ha
    exact c.here (by cases r' with | tup q r => exact .tup q r)
  · rename_i o ts
    split at hp
    · rename_i hpu
      cases hp
      obtain ⟨p, vs, rfl, q, r⟩ := ha.lstS hF hpu
      exact sl_list pins s σ H _ v vl vu lo hi sl Q I rx hs pl pu ⟨p, vs, rfl, hK ▸ q, fun n hn => c.list (r.cut lo hi) hn⟩
    · cases hp
  · rename_i s0
    split at hp
    · rename_i hl
      cases hp
      rw [lineS] at hl
      refine sl_str pins s σ H x v vl vu lo hi sl Q I rx hs pl pu ⟨_, ha.str, by simpa [Str.length] using hl, ?_⟩
      have e : cutS (⟨s0.toArray⟩ : Str) lo hi = ⟨(Ev.cut s0 lo hi).toArray⟩ := by
        simp only [cutS, Ev.cut, sIx_eq, Str.length, List.size_toArray]
      rw [e]
      exact c.here .str
    · cases hp
  · cases hp
/-! ### list.index, isinstance -/
theorem firstIx_data (n : Nat) (x : T) (hx : data n x = true) : ∀ (ts : List T) (k j : Nat), ts.all (data n) = true → firstIx x ts k = some j →
    k ≤ j ∧ ∃ z, (toPDs ts)[j - k]? = some z ∧ PyData.eqv z (toPD x) = true ∧ ∀ (m : Nat) (z' : PyData), m < j - k → (toPDs ts)[m]? = some z' → PyData.eqv z' (toPD x) = false
  | [], k, j, _, h => by simp [firstIx] at h
  | t :: r, k, j, hd, h => by
    simp only [List.all_cons, Bool.and_eq_true] at hd
    simp only [firstIx] at h
    split at h
    · rename_i hk
      cases h
      refine ⟨Nat.le_refl _, toPD t, by simp [toPDs], by rw [eqv_eqB n n t x hd.1 hx]; exact hk, fun m z' hm => by omega⟩
    · rename_i hk
      obtain ⟨h1, z, h2, h3, h4⟩ := firstIx_data n x hx r (k + 1) j hd.2 h
      have e : j - k = (j - (k + 1)) + 1 := by omega
      refine ⟨by omega, z, by rw [e]; simpa [toPDs] using h2, h3, fun m z' hm hz => ?_⟩
      cases m with
      | zero =>
        simp only [toPDs, List.getElem?_cons_zero, Option.some.injEq] at hz
        subst hz
        rw [eqv_eqB n n t x hd.1 hx]
        simpa using hk
      | succ m => exact h4 m z' (by omega) (by simpa [toPDs] using hz)
def Opm (X : Cx) (G : Gm) (id : String) (p : Pr) : Prop :=
  ∀ (pins : List (Addr × Obj)) (s : Shared) (σ : L2.St) (H : Hp) (x : V) (xs : List V) (v : Value) (us : List Value) (Q : VK) (F : Hp) (a : T) (ts : List T) (t : T), L2.Inv X pins σ H s → L2.RelV x v → Vals xs us → Ext F H →
    Has G F H a x → HasA G F H ts xs → prim p (a :: ts) = some t → Cont G F H t Q → wpAny (model X.prog X.w) X.A (call (.builtin id) (v :: us)) (EP X pins σ Q) X.xe s
theorem opm_index (hK : X.K = G.K) (hu : X.A.units + 65 < cLine) : Opm X G "list.index" .lindex := by
  intro pins s σ H x xs v us Q F a ts t I rx rv hF ha hs hp c
  obtain ⟨b, rfl, hq⟩ : ∃ b, ts = [b] ∧ pIndex a b = some t := by
    match ts, hp with
    | [b], h => exact ⟨b, rfl, h⟩
  obtain ⟨y, rfl, hb⟩ := hs.one
  unfold pIndex at hq
  split at hq
  · rename_i o ts
    split at hq
    · rename_i hd
      rw [Bool.and_eq_true] at hd
      cases e : firstIx b ts 0 with
      | none => rw [e] at hq; cases hq
      | some j =>
        rw [e] at hq; cases hq
        have hl : data 13 (.lst o ts) = true := by simpa only [data] using hd.2
        obtain ⟨_, z, h1, h2, h3⟩ := firstIx_data 12 b hd.1 ts 0 j hd.2 e
        obtain ⟨p, vs, rfl, q, _⟩ := ha.lst hF
        exact mt_indexD hu pins s σ H _ _ v us Q I rx rv ⟨p, y, toPD b, toPDs ts, j, z, rfl, rfl, ha.dp hK hF hl, hb.dp hK hF hd.1, shapeds_of hd.2 (by decide), shaped_of hd.1 (by decide), h1, h2, h3, c.here .int⟩
    · cases hq
  · cases hq
theorem opn_repr : Opn X G (.builtin "repr") .repr := by
  intro pins s σ H xs us Q F ts t I rv hF ha hp c
  obtain ⟨a, rfl, hq⟩ : ∃ a, ts = [a] ∧ pRepr a = some t := by
    match ts, hp with
    | [a], h => exact ⟨a, rfl, h⟩
  obtain ⟨x, rfl, hx⟩ := ha.one
  obtain ⟨u, rfl, ru⟩ := Vals.one rv
  cases a <;> first | (cases hq; done) | skip
  rename_i b
  cases hq
  cases hx.bl
  cases ru
  refine PySem.P.repr_of_bool ⟨.str (if b then "True" else "False"), H, I.tok _, ⟨_, rfl⟩, ?_⟩
  have r : Rep G F (.str (if b then [84, 114, 117, 101] else [70, 97, 108, 115, 101])) (.str ⟨(if b then [84, 114, 117, 101] else [70, 97, 108, 115, 101] : List Nat).toArray⟩) [] := .str
  have e : (⟨(if b then [84, 114, 117, 101] else [70, 97, 108, 115, 101] : List Nat).toArray⟩ : Str) = (if b then "True" else "False" : Str) := by
    cases b <;> decide +kernel
  rw [e] at r
  exact c.here r
/-- the built-in types by number -/
def tyName : Nat → Option String
  | 0 => some "int" | 1 => some "bool" | 2 => some "str" | 3 => some "tuple" | 4 => some "list" | 5 => some "dict" | _ => none
/-- isinstance for the built-in types, a row for each -/
def kitRow (n : String) (b0 b1 b2 b3 b4 b5 : Bool) : Prop := kitB n "int" = some b0 ∧ kitB n "bool" = some b1 ∧ kitB n "str" = some b2 ∧ kitB n "tuple" = some b3 ∧ kitB n "list" = some b4 ∧ kitB n "dict" = some b5
theorem kit_non : kitRow "NoneType" false false false false false false := by unfold kitRow; decide +kernel
theorem kit_bool : kitRow "bool" true true false false false false := by unfold kitRow; decide +kernel
theorem kit_int : kitRow "int" true false false false false false := by unfold kitRow; decide +kernel
theorem kit_str : kitRow "str" false false true false false false := by unfold kitRow; decide +kernel
theorem kit_tuple : kitRow "tuple" false false false true false false := by unfold kitRow; decide +kernel
theorem kit_list : kitRow "list" false false false false true false := by unfold kitRow; decide +kernel
theorem kit_dict : kitRow "dict" false false false false false true := by unfold kitRow; decide +kernel
theorem kitRow.at_ {n : String} {b0 b1 b2 b3 b4 b5 : Bool} {t : T} (h : kitRow n b0 b1 b2 b3 b4 b5) (e : isTy 0 t = b0 ∧ isTy 1 t = b1 ∧ isTy 2 t = b2 ∧ isTy 3 t = b3 ∧ isTy 4 t = b4 ∧ isTy 5 t = b5) (k : Nat) (m : String) (hk : tyName k = some m) :
    kitB n m = some (isTy k t) := by
  obtain ⟨h0, h1, h2, h3, h4, h5⟩ := h
  obtain ⟨e0, e1, e2, e3, e4, e5⟩ := e
  match k, hk with
  | 0, hk => cases hk; rw [e0]; exact h0
  | 1, hk => cases hk; rw [e1]; exact h1
  | 2, hk => cases hk; rw [e2]; exact h2
  | 3, hk => cases hk; rw [e3]; exact h3
  | 4, hk => cases hk; rw [e4]; exact h4
  | 5, hk => cases hk; rw [e5]; exact h5
  | n + 6, hk => cases hk
theorem Has.tyX {F H : Hp} {K : PySem.W.Frag} (hK : G.K = K) (hF : Ext F H) {t : T} {v : V} (h : Has G F H t v) (hd : isData t = true) :
    ∃ n, TyX K H v (.type n) ∧ (∀ k m, tyName k = some m → kitB n m = some (isTy k t)) := by
  cases t with
  | non =>
    have e := h.non
    subst e
    exact ⟨_, .base .non, kit_non.at_ ⟨rfl, rfl, rfl, rfl, rfl, rfl⟩⟩
  | bl b =>
    have e := h.bl
    subst e
    exact ⟨_, .base (.bl b), kit_bool.at_ ⟨rfl, rfl, rfl, rfl, rfl, rfl⟩⟩
  | int i =>
    have e := h.int
    subst e
    exact ⟨_, .base (.int i), kit_int.at_ ⟨rfl, rfl, rfl, rfl, rfl, rfl⟩⟩
  | str s =>
    have e := h.str
    subst e
    exact ⟨_, .base (.str _), kit_str.at_ ⟨rfl, rfl, rfl, rfl, rfl, rfl⟩⟩
  | tup ts =>
    obtain ⟨a, vs, rfl, q, _⟩ := h.tup hF
    refine ⟨"tuple", ?_, kit_tuple.at_ ⟨rfl, rfl, rfl, rfl, rfl, rfl⟩⟩
    rw [hK] at q
    rcases q with (q | ⟨o, q⟩) | ⟨o, its, n, q1, q2, _⟩
    · exact .base (.tup q)
    · exact .fTuple q
    · exact .kTuple q1 q2
  | lst o ts =>
    obtain ⟨a, vs, rfl, q, _⟩ := h.lst hF
    refine ⟨"list", ?_, kit_list.at_ ⟨rfl, rfl, rfl, rfl, rfl, rfl⟩⟩
    rcases q with (q | ⟨ob, q⟩) | ⟨ob, its, n, q1, q2, _⟩
    · exact .base (.lst q)
    · exact .base (.frz q)
    · exact .kList (by rw [← hK]; exact q1) q2
  | dct o ks vs =>
    obtain ⟨a, kvs, rfl, q, _⟩ := h.dct hF
    exact ⟨"dict", .base (.dK q), kit_dict.at_ ⟨rfl, rfl, rfl, rfl, rfl, rfl⟩⟩
  | _ => cases hd
end
end Ev
end
section
set_option Elab.async false
set_option linter.all false
set_option maxRecDepth 100000
set_option maxHeartbeats 1000000
/-! Ev, part G: where one stands; calls of the program's defs; the parts of an expression. -/
namespace Ev
open PySem PySem.Spec PyProof.Rows L2

/-- the program's names -/
structure Nm where
  fn : Str → Option Nat
  con : Str → Option T
  blt : Str → Bool
/-- where one stands in a def -/
structure Sx where
  N : List Str
  sc : Scope
  st : Str → Bool

/-- what a def does, by values -/
def spF (G : Gm) (cl : List T → CR) : Sp := fun vs H Q E => ∃ (ts : List T) (F : Hp) (La Lf : List Cell), Reps G F ts vs La ∧ At F (La ++ Lf) H ∧ match cl ts with
  | .ok t as => ∀ v F' H' La' L, Ext F F' → Reps G F' as vs La' → Rep G F' t v L → At F' (L ++ (La' ++ Lf)) H' → Q v H'
  | .ex x as => ∀ cls d F' H' La', Ext F F' → Reps G F' as vs La' → XRep G F' x cls d → At F' (La' ++ Lf) H' → E cls d H'
  | .no => False
structure CalleeOk (X : Cx) (G : Gm) (fs : Fns) (k : Nat) (f : Nat) : Prop where
  ok : ∃ fd ps, FnOk X.prog X.w X.K X.mg X.base (L2.CX X.prog X.w) k (G.fa f) fd ps (spF G (fs.call f)) ∧ Binds X.K fd ps []
  kp : PySem.W.keepIn X.K (.ref (G.fa f)) = true
/-- X stands there -/
structure XOk (G : Gm) (nm : Nm) (fs : Fns) (k : Nat) (S : Sx) (W : WX) (X : Cx) : Prop where
  hK : X.K = G.K
  hN : X.N = S.N
  nd : S.N.Nodup
  sc : X.env.scope = S.sc
  calm : X.calm = true
  room : Room k X.A
  tk : Takes X W
  st : ∀ x, S.st x = true → Loc X.env.scope x ∧ (X.fn x = true ∨ X.env.scope.names.lookup x = some .local)
  fnm : ∀ x f, nm.fn x = some f → X.mg x = some (.ref (G.fa f)) ∧ CalleeOk X G fs k f
  con : ∀ x t, nm.con x = some t → ∃ u v, X.mg x = some u ∧ L2.RelV v u ∧ Rep G (fun _ => none) t v []
  blt : ∀ x, nm.blt x = true → X.mg x = none
theorem XOk.hu {G : Gm} {nm : Nm} {fs : Fns} {k : Nat} {S : Sx} {W : WX} {X : Cx} (o : XOk G nm fs k S W X) : X.A.units + 65 < cLine := by
  have := o.room.un
  omega

/-! ### names -/
def visB (sc : Scope) (x : Str) : Bool := match sc.names.lookup x with
  | some .local => true | some .cell => true | some .free => true | _ => false
def glB (sc : Scope) (x : Str) : Bool := match sc.names.lookup x with
  | some .globalImplicit => true | _ => false
def nameOk (x : Str) : Bool := !(x == ("__debug__" : Str)) && !(x == ("__classdict__" : Str)) && !(x == ("__name__" : Str))
def starB : Expr → Bool
  | .Starred .. => true
  | _ => false
theorem vis_of {sc : Scope} {x : Str} (h : visB sc x = true) : Vis sc x := by
  unfold visB at h
  unfold Vis
  split at h <;> first | (rename_i e; rw [e]; simp; done) | cases h
theorem gl_of {X : Cx} {x : Str} (h : glB X.env.scope x = true) : Gl X x := by
  unfold glB at h
  unfold Gl PySem.Env.kindOf
  split at h <;> first | (rename_i e; exact e) | cases h
theorem nameOk_of {x : Str} (h : nameOk x = true) : (x == ("__debug__" : Str)) = false ∧ (x == ("__classdict__" : Str)) = false ∧ x ≠ "__name__" := by
  unfold nameOk at h
  simp only [Bool.and_eq_true, Bool.not_eq_true'] at h
  exact ⟨h.1.1, h.1.2, fun e => by rw [e] at h; simp at h⟩
theorem starEach_cons {e : Expr} {es : List Expr} {env : PySem.Env} (h : starB e = false) : starEach (e :: es) env = (false, eval e env) :: starEach es env := by
  cases e <;> first | rfl | cases h
theorem noStar {pos : Pos} {env : PySem.Env} : ∀ {es : List Expr}, (es.all fun e => !starB e) = true → (backTo pos (starEach es env)).any (·.1) = false
  | [], _ => rfl
  | e :: es, h => by
    simp only [List.all_cons, Bool.and_eq_true, Bool.not_eq_true'] at h
    rw [starEach_cons h.1]
    exact noStar h.2

section
variable {G : Gm} {nm : Nm} {fs : Fns} {k : Nat} {S : Sx} {W : WX} {X : Cx} {κ : Pins}

/-- a name's value -/
theorem pe_slot (o : XOk G nm fs k S W X) {i : Nat} {x : Str} {pos : Pos} (hi : S.N[i]? = some x) (hv : visB S.sc x = true) (hn : nameOk x = true) : PE X (.Name x pos) (tVar i) :=
  pe_var (by rw [o.hN]; exact hi) (by rw [o.sc]; exact vis_of hv) (nameOk_of hn).1 (nameOk_of hn).2.1
theorem snd_var {i : Nat} {ast : Expr} (h : PE X ast (tVar i)) : PE X ast (tE G fs W κ (.var i)) := by
  refine ⟨fun pins s σ H Q I hq => h.run pins s σ H Q I ?_⟩
  obtain ⟨env, F, Lf, sat, r⟩ := hq
  unfold evE at r
  cases e : (env[i]?).join with
  | none => rw [e] at r; exact r.elim
  | some t =>
    rw [e] at r
    obtain ⟨v, L1, h1, h2, h3⟩ := sat.get (join_some e)
    refine ⟨v, h1, ?_⟩
    by_cases hp : t.pure = true
    · have r : Ok1 G κ σ F Lf Q t env := by
        simp only [hp, if_true] at r
        exact r
      cases h2.pure_nil hp
      exact r v F H [] (Ext.refl F) h2 sat
    · have r : Ok1 G κ σ F Lf Q t.fz (env.set i (some t.fz)) := by
        simp only [hp] at r
        exact r
      obtain ⟨F', e1, h4, h5⟩ := h3.freeze h2
      refine r v F' H [] e1 h4 ?_
      have h6 := Sat.back (L1 := []) h5 h1 h4
      rwa [List.set_set] at h6
theorem snd_mv {i : Nat} {ast : Expr} (h : PE X ast (tVar i)) : PE X ast (tE G fs W κ (.mv i)) := by
  refine ⟨fun pins s σ H Q I hq => h.run pins s σ H Q I ?_⟩
  obtain ⟨env, F, Lf, sat, r⟩ := hq
  unfold evE at r
  cases e : (env[i]?).join with
  | none => rw [e] at r; exact r.elim
  | some t =>
    rw [e] at r
    obtain ⟨v, L1, h1, h2, h3⟩ := sat.get (join_some e)
    exact ⟨v, h1, r v F H L1 (Ext.refl F) h2 h3⟩
/-- a value that is written -/
theorem snd_con {e : E} {t : T} {v : V} {ast : Expr} (he : ∀ env, evE fs e env = .ok t env) (hr : ∀ F, Rep G F t v []) (h : PE X ast (tC v)) : PE X ast (tE G fs W κ e) := by
  refine ⟨fun pins s σ H Q I hq => h.run pins s σ H Q I ?_⟩
  obtain ⟨env, F, Lf, sat, r⟩ := hq
  rw [he] at r
  exact r v F H [] (Ext.refl F) (hr F) sat
/-- an operand -/
theorem snd_O {e : E} {ast : Expr} (h : PE X ast (tE G fs W κ e)) (hv : ∀ i, e = .var i → PE X ast (tVar i)) : PE X ast (tO G fs W κ e) := by
  by_cases hx : ∃ i, e = .var i
  · obtain ⟨i, rfl⟩ := hx
    refine ⟨fun pins s σ H Q I hq => (hv i rfl).run pins s σ H Q I ?_⟩
    obtain ⟨env, F, Lf, sat, r⟩ := hq
    unfold evO1 at r
    simp only at r
    cases e : (env[i]?).join with
    | none => rw [e] at r; exact r.elim
    | some t =>
      rw [e] at r
      obtain ⟨v, L1, h1, _, _⟩ := sat.get (join_some e)
      exact ⟨v, h1, r v F H [] (Ext.refl F) ⟨h1, rfl⟩ sat⟩
  · refine ⟨fun pins s σ H Q I hq => h.run pins s σ H Q I ?_⟩
    obtain ⟨env, F, Lf, sat, r⟩ := hq
    have e1 : evO1 fs e env = (evE fs e env).bind fun t env => .ok (.val t) env := by
      cases e <;> first | rfl | exact absurd ⟨_, rfl⟩ hx
    rw [e1] at r
    exact ⟨env, F, Lf, sat, r.bind fun t env' _ r' v F' H' L e2 r2 s2 => r' v F' H' L e2 r2 s2⟩
theorem snd_Os_nil : PA X [] (tOs G fs W κ .nil) := by
  refine ⟨fun pos pins s σ H Q I hq => pa_nil.run pos pins s σ H Q I ?_⟩
  obtain ⟨env, F, Lf, sat, r⟩ := hq
  exact r [] F H [] (Ext.refl F) .nil sat
theorem snd_Os_cons {e : E} {r : Es} {a : Expr} {as : List Expr} (h : PE X a (tO G fs W κ e)) (hr : PA X as (tOs G fs W κ r)) (hs : starB a = false) : PA X (a :: as) (tOs G fs W κ (.cons e r)) := by
  refine ⟨fun pos pins s σ H Q I hq => (pa_cons h hr (starEach_cons hs)).run pos pins s σ H Q I ?_⟩
  obtain ⟨env, F, Lf, sat, r⟩ := hq
  rw [evO_cons] at r
  refine ⟨env, F, Lf, sat, r.bind fun o1 env1 _ r1 v F1 H1 L1 e1 o1r s1 => ?_⟩
  refine ⟨env1, F1, L1 ++ Lf, s1, Rw.bind (r1.go e1 fun _ _ q => q) fun os env2 _ r2 vs F2 H2 L2' e2 osr s2 => ?_⟩
  have r2 : Okos G κ σ F Lf Q (o1 :: os) env2 := r2
  refine r2 (v :: vs) F2 H2 (L1 ++ L2') (e1.trans e2) (.cons (o1r.mono e2) osr) (s2.perm ?_)
  rw [← List.append_assoc]
  exact List.perm_append_comm.append_right Lf
/-- values, a list of them -/
theorem snd_L_nil : PA X [] (tL G fs W κ .nil) := by
  refine ⟨fun pos pins s σ H Q I hq => pa_nil.run pos pins s σ H Q I ?_⟩
  obtain ⟨env, F, Lf, sat, r⟩ := hq
  exact r [] F H [] (Ext.refl F) .nil sat
theorem snd_L_cons {e : E} {r : Es} {a : Expr} {as : List Expr} (h : PE X a (tE G fs W κ e)) (hr : PA X as (tL G fs W κ r)) (hs : starB a = false) : PA X (a :: as) (tL G fs W κ (.cons e r)) := by
  refine ⟨fun pos pins s σ H Q I hq => (pa_cons h hr (starEach_cons hs)).run pos pins s σ H Q I ?_⟩
  obtain ⟨env, F, Lf, sat, r⟩ := hq
  unfold evL at r
  refine ⟨env, F, Lf, sat, r.bind fun t1 env1 _ r1 v F1 H1 L1 e1 o1r s1 => ?_⟩
  refine ⟨env1, F1, L1 ++ Lf, s1, Rw.bind (r1.go e1 fun _ _ q => q) fun ts env2 _ r2 vs F2 H2 L2' e2 osr s2 => ?_⟩
  have r2 : Okl G κ σ F Lf Q (t1 :: ts) env2 := r2
  refine r2 (v :: vs) F2 H2 (L1 ++ L2') (e1.trans e2) (.cons (o1r.mono e2) osr) (s2.perm ?_)
  rw [← List.append_assoc]
  exact List.perm_append_comm.append_right Lf
theorem snd_L_star {e : E} {r : Es} {a : Expr} {as : List Expr} {p : Pos} (hK : X.K = G.K) (h : PE X a (tE G fs W κ e)) (hr : PA X as (tL G fs W κ r)) : PA X (.Starred a p :: as) (tL G fs W κ (.star e r)) := by
  refine ⟨fun pos pins s σ H Q I hq => (StX.pa_star h hr rfl).run pos pins s σ H Q I ?_⟩
  obtain ⟨env, F, Lf, sat, r⟩ := hq
  unfold evL at r
  refine ⟨env, F, Lf, sat, r.bind fun t1 env1 _ r1 v F1 H1 L1 e1 o1r s1 => ?_⟩
  cases ht : items t1 with
  | none => rw [ht] at r1; exact r1.elim
  | some xs =>
    rw [ht] at r1
    by_cases hp : xs.all T.pure = true
    · simp only [hp, if_true] at r1
      obtain ⟨a', vs, ev, hq, hx⟩ : ∃ a' vs, v = .ref a' ∧ (SqT X.K H1 a' vs ∨ SqL X.K H1 a' vs) ∧ Reps G F1 xs vs [] := by
        have hv := s1.has_val o1r
        cases t1 <;> first | cases ht | skip
        · obtain ⟨a', vs, e, q, r⟩ := hv.tup s1.ext
          exact ⟨a', vs, e, .inl (hK ▸ q), r⟩
        · obtain ⟨a', vs, e, q, r⟩ := hv.lstS s1.ext hp
          exact ⟨a', vs, e, .inr (hK ▸ q), r⟩
      refine ⟨a', vs, ev, hq, env1, F1, L1 ++ Lf, s1, Rw.bind (r1.go e1 fun _ _ q => q) fun ts env2 _ r2 ws F2 H2 L2' e2 osr s2 => ?_⟩
      have r2 : Okl G κ σ F Lf Q (xs ++ ts) env2 := r2
      have h3 : Reps G F2 (xs ++ ts) (vs ++ ws) ([] ++ L2') := (hx.mono e2).app osr
      refine r2 (vs ++ ws) F2 H2 L2' (e1.trans e2) h3 (s2.perm ?_ |>.drop (L := L1))
      rw [← List.append_assoc, ← List.append_assoc]
      exact List.perm_append_comm.append_right Lf
    · simp only [hp] at r1
      exact r1.elim
end
end Ev
end
section
set_option Elab.async false
set_option linter.all false
set_option maxRecDepth 100000
set_option maxHeartbeats 1000000
/-! Ev, part H: expressions, one form after the other. -/
namespace Ev
open PySem PySem.Spec PyProof.Rows L2
section
variable {G : Gm} {nm : Nm} {fs : Fns} {k : Nat} {S : Sx} {W : WX} {X : Cx} {κ : Pins} {pos : Pos}

theorem perm_swap {A B C : List Cell} : (A ++ (B ++ C)).Perm (B ++ (A ++ C)) := by
  rw [← List.append_assoc, ← List.append_assoc]; exact List.perm_append_comm.append_right C
theorem Ok1.cont {σ : L2.St} {F F1 : Hp} {Lf L : List Cell} {H1 : Hp} {Q : VK} {t : T} {env : Env} (h : Ok1 G κ σ F Lf Q t env) (e : Ext F F1) (s : Sat G κ σ env F1 (L ++ Lf) H1) : Cont G F1 H1 t Q :=
  fun v F' H' L' r rep => h v F' H' L' (e.trans r.1) rep (((s.res r).perm perm_swap).drop)
/-- the operands of one, two, three places -/
theorem ops1 {p : Pr} {ea : E} {σ : L2.St} {H : Hp} {Q : VK} (hq : tE G fs W κ (.pr p (.cons ea .nil)) σ H Q) :
    tO G fs W κ ea σ H fun x H1 => ∃ (t1 t : T) (F : Hp), Ext F H1 ∧ Has G F H1 t1 x ∧ prim p [t1] = some t ∧ Cont G F H1 t Q := by
  obtain ⟨env, F, Lf, sat, r⟩ := hq
  unfold evE at r
  rw [evO_cons, Out.bind_assoc] at r
  refine ⟨env, F, Lf, sat, r.bind fun o1 env1 _ r1 x F1 H1 L1 e1 o1r s1 => ?_⟩
  simp only [evO, Out.bind_ok] at r1
  cases ho : opds env1 [o1] with
  | none => rw [ho] at r1; exact r1.elim
  | some ts =>
    rw [ho] at r1
    obtain ⟨t, ht, r2⟩ := r1.opt
    have hs := Sat.has_all (os := [o1]) (L := L1 ++ []) (.cons o1r .nil) (Lf := Lf) (by rw [List.append_nil]; exact s1) ho
    cases hs with
    | cons h1 h2 =>
      cases h2
      exact ⟨_, t, F1, s1.ext, h1, ht, r2.cont e1 s1⟩
theorem ops2 {p : Pr} {ea eb : E} {σ : L2.St} {H : Hp} {Q : VK} (hq : tE G fs W κ (.pr p (.cons ea (.cons eb .nil))) σ H Q) :
    tO G fs W κ ea σ H fun x H1 => tO G fs W κ eb σ H1 fun y H2 => ∃ (t1 t2 t : T) (F : Hp), Ext F H2 ∧ Has G F H2 t1 x ∧ Has G F H2 t2 y ∧ prim p [t1, t2] = some t ∧ Cont G F H2 t Q := by
  obtain ⟨env, F, Lf, sat, r⟩ := hq
  unfold evE at r
  rw [evO_cons, Out.bind_assoc] at r
  refine ⟨env, F, Lf, sat, r.bind fun o1 env1 _ r1 x F1 H1 L1 e1 o1r s1 => ?_⟩
  rw [evO_cons, Out.bind_assoc, Out.bind_assoc] at r1
  refine ⟨env1, F1, L1 ++ Lf, s1, Rw.bind (r1.go e1 fun _ _ q => q) fun o2 env2 _ r2 y F2 H2 L2' e2 o2r s2 => ?_⟩
  simp only [evO, Out.bind_ok] at r2
  cases ho : opds env2 [o1, o2] with
  | none => rw [ho] at r2; exact r2.elim
  | some ts =>
    rw [ho] at r2
    obtain ⟨t, ht, r3⟩ := r2.opt
    have s3 : Sat G κ σ env2 F2 ((L1 ++ L2') ++ Lf) H2 := s2.perm (by rw [List.append_assoc]; exact perm_swap)
    have hs := Sat.has_all (os := [o1, o2]) (L := L1 ++ (L2' ++ [])) (.cons (o1r.mono e2) (.cons o2r .nil)) (Lf := Lf) (by rw [List.append_nil]; exact s3) ho
    cases hs with
    | cons h1 h2 => cases h2 with
      | cons h2 h3 =>
        cases h3
        exact ⟨_, _, t, F2, s2.ext, h1, h2, ht, r3.cont (e1.trans e2) s3⟩
theorem opsA {p : Pr} {es : Es} {σ : L2.St} {H : Hp} {Q : VK} (hq : tE G fs W κ (.pr p es) σ H Q) :
    tOs G fs W κ es σ H fun xs H1 => ∃ (ts : List T) (t : T) (F : Hp), Ext F H1 ∧ HasA G F H1 ts xs ∧ prim p ts = some t ∧ Cont G F H1 t Q := by
  obtain ⟨env, F, Lf, sat, r⟩ := hq
  unfold evE at r
  refine ⟨env, F, Lf, sat, r.bind fun os env1 _ r1 vs F1 H1 L1 e1 osr s1 => ?_⟩
  cases ho : opds env1 os with
  | none => rw [ho] at r1; exact r1.elim
  | some ts =>
    rw [ho] at r1
    obtain ⟨t, ht, r2⟩ := r1.opt
    exact ⟨ts, t, F1, s1.ext, Sat.has_all osr s1 ho, ht, r2.cont e1 s1⟩

theorem snd_bin {op : Operator} {p : Pr} {ea eb : E} {a b : Expr} (ho : Op2 X G (binaryOp op) p) (ha : PE X a (tO G fs W κ ea)) (hb : PE X b (tO G fs W κ eb)) : PE X (.BinOp a op b pos) (tE G fs W κ (.pr p (.cons ea (.cons eb .nil)))) := by
  refine ⟨fun pins s σ H Q I hq => ?_⟩
  exact wpAny_BinOp (binT ha hb I (ops2 hq) fun v u s2 x y H2 I2 rx ry ⟨t1, t2, t, F, hF, h1, h2, ht, c⟩ => ho pins s2 σ H2 x y v u Q F t1 t2 t I2 rx ry hF h1 h2 ht c)
theorem snd_cmp {c : Cmp} {ea eb : E} {a b : Expr} (hK : X.K = G.K) (hu : X.A.units + 65 < cLine) (ha : PE X a (tO G fs W κ ea)) (hb : PE X b (tO G fs W κ eb)) (hm : behindInMarks (cop c) b = false) :
    PE X (.Compare a [cop c] [b] pos) (tE G fs W κ (.pr (.cmp c) (.cons ea (.cons eb .nil)))) := by
  refine ⟨fun pins s σ H Q I hq => ?_⟩
  exact wpAny_Compare1 (binT ha hb I (ops2 hq) fun v u s2 x y H2 I2 rx ry ⟨t1, t2, t, F, hF, h1, h2, ht, ct⟩ => op2_cmp hK hu c pins s2 σ H2 x y v u Q F t1 t2 t I2 rx ry hF h1 h2 ht ct) hm
/-- a test by the value -/
theorem tT_tE {e : E} {σ : L2.St} {H : Hp} {Q : Bool → Hp → Prop} (hq : tT G fs W κ e σ H Q) : tE G fs W κ e σ H fun x H1 => ∃ c, x = .bl c ∧ Q c H1 := by
  obtain ⟨env, F, Lf, sat, r⟩ := hq
  refine ⟨env, F, Lf, sat, r.bind fun t env1 _ r1 v F1 H1 L1 e1 rep s1 => ?_⟩
  obtain ⟨b, rfl, r2⟩ := r1.asBool
  cases rep
  exact ⟨b, rfl, r2 F1 H1 e1 s1⟩
theorem sndT_cmp {c : Cmp} {ea eb : E} {a b : Expr} (hK : X.K = G.K) (hu : X.A.units + 65 < cLine) (ha : PE X a (tO G fs W κ ea)) (hb : PE X b (tO G fs W κ eb)) (hm : behindInMarks (cop c) b = false) :
    PT X (.Compare a [cop c] [b] pos) (tT G fs W κ (.pr (.cmp c) (.cons ea (.cons eb .nil)))) := by
  refine ⟨fun pins s σ H Q I hq => ?_⟩
  refine wpAny_isTrue_Compare1 (binT ha hb I (ops2 (tT_tE hq)) fun v u s2 x y H2 I2 rx ry ⟨t1, t2, t, F, hF, h1, h2, ht, ct⟩ => ?_) hm
  refine thn (op2_cmp hK hu c pins s2 σ H2 x y v u _ F t1 t2 t I2 rx ry hF h1 h2 ht ct) fun w s3 ⟨z, H3, I3, r3, b, e, q⟩ => ?_
  subst e
  cases r3
  exact wpAny_truthy_bool ⟨H3, I3, q⟩
/-- what is no comparison, and, or, not, if-else -/
def plainT : Expr → Bool
  | .UnaryOp .Not _ _ => false
  | .BoolOp .. => false
  | .IfExp .. => false
  | .Compare .. => false
  | _ => true
theorem isTrue_of {e : Expr} {env : PySem.Env} (h : plainT e = true) (whole : Sem Value) : isTrue e env whole = (do let v ← whole; standAt e.pos; holding [v] (truthy v)) := by
  cases e <;> first | rfl | (cases h; done) | skip
  rename_i op _ _
  cases op <;> first | rfl | (cases h; done)
theorem sndT {e : E} {a : Expr} (h : PE X a (tE G fs W κ e)) (hp : plainT a = true) : PT X a (tT G fs W κ e) :=
  ⟨fun pins s σ H Q I hq => (pt_val h (isTrue_of hp)).run pins s σ H Q I (tT_tE hq)⟩

theorem snd_neg {ea : E} {a : Expr} (ha : PE X a (tO G fs W κ ea)) : PE X (.UnaryOp .USub a pos) (tE G fs W κ (.pr .neg (.cons ea .nil))) := by
  refine ⟨fun pins s σ H Q I hq => (pe_un un_neg ha).run pins s σ H Q I ?_⟩
  obtain ⟨env, F, Lf, sat, r⟩ := ops1 hq
  refine ⟨env, F, Lf, sat, r.imp fun o env1 h v F' H' L e1 orep s1 => ?_⟩
  obtain ⟨t1, t, F1, hF, h1, ht, c⟩ := h v F' H' L e1 orep s1
  cases t1 <;> first | (cases ht; done) | skip
  cases ht
  exact ⟨_, h1.int, c.here .int⟩
def sliceB : Expr → Bool
  | .Slice .. => true
  | _ => false
theorem plainIx_of {b : Expr} (h : sliceB b = false) (o i : Value) : subscripted b false o i = operate [o, i] (getItem o i) := by
  cases b <;> first | rfl | cases h
theorem snd_idx {ea eb : E} {a b : Expr} (hK : X.K = G.K) (hu : X.A.units + 65 < cLine) (ha : PE X a (tO G fs W κ ea)) (hb : PE X b (tO G fs W κ eb)) (hs : sliceB b = false) : PE X (.Subscript a b pos) (tE G fs W κ (.pr .idx (.cons ea (.cons eb .nil)))) := by
  refine ⟨fun pins s σ H Q I hq => ?_⟩
  exact Subscript_ (binT ha hb I (ops2 hq) fun v u s2 x y H2 I2 rx ry ⟨t1, t2, t, F, hF, h1, h2, ht, c⟩ => opIx hK hu a b pins s2 σ H2 x y v u Q F t1 t2 t I2 rx ry hF h1 h2 ht c (plainIx_of hs _ _))
/-- a call of a built-in -/
theorem snd_fn {id : String} {p : Pr} {x : Str} {e : E} {es : Es} {a : Expr} {as : List Expr} {px : Pos} (o : XOk G nm fs k S W X) (hx : glB S.sc x = true) (hn : nameOk x = true) (hb : nm.blt x = true) (hv : bootBuiltins x = some (.builtin id)) (ho : Opn X G (.builtin id) p)
    (ha : PA X (a :: as) (tOs G fs W κ es)) (h1 : starB a = false) (h2 : (as.all fun e => !starB e) = true) : PE X (.Call (.Name x px) (a :: as) [] pos) (tE G fs W κ (.pr p es)) := by
  refine ⟨fun pins s σ H Q I hq => ?_⟩
  have hn' := nameOk_of hn
  refine wpAny_Call_Name_kw (ld_blt I (gl_of (by rw [o.sc]; exact hx)) (o.blt x hb) hv ?_ hn'.2.2 hn'.1)
  refine PyProof.Rows.callWith_builtin1 (thn (ha.run pos pins s σ H _ I (opsA hq)) fun us s1 ⟨vs, H1, I1, r1, q1⟩ => ?_) (starEach_cons h1) (noStar h2)
  obtain ⟨ts, t, F, hF, hh, ht, c⟩ := q1
  exact ho pins s1 σ H1 vs us Q F ts t I1 r1 hF hh ht c
theorem snd_ty {id : String} {p : Pr} {x : Str} {es : Es} {a : Expr} {as : List Expr} {px : Pos} (o : XOk G nm fs k S W X) (hx : glB S.sc x = true) (hn : nameOk x = true) (hb : nm.blt x = true) (hv : bootBuiltins x = some (.type id)) (ho : Opn X G (.type id) p)
    (ha : PA X (a :: as) (tOs G fs W κ es)) (h1 : starB a = false) (h2 : (as.all fun e => !starB e) = true) : PE X (.Call (.Name x px) (a :: as) [] pos) (tE G fs W κ (.pr p es)) := by
  refine ⟨fun pins s σ H Q I hq => ?_⟩
  have hn' := nameOk_of hn
  refine wpAny_Call_Name_kw (ld_blt I (gl_of (by rw [o.sc]; exact hx)) (o.blt x hb) hv ?_ hn'.2.2 hn'.1)
  refine PyProof.Rows.callWith_type1 (thn (ha.run pos pins s σ H _ I (opsA hq)) fun us s1 ⟨vs, H1, I1, r1, q1⟩ => ?_) (starEach_cons h1) (noStar h2)
  obtain ⟨ts, t, F, hF, hh, ht, c⟩ := q1
  exact ho pins s1 σ H1 vs us Q F ts t I1 r1 hF hh ht c
/-- isinstance(a, T) -/
theorem snd_isT {j : Nat} {m : String} {x y : Str} {ea : E} {a : Expr} {px py : Pos} (o : XOk G nm fs k S W X) (hx : glB S.sc "isinstance" = true) (hb : nm.blt "isinstance" = true) (hj : tyName j = some m)
    (hy : glB S.sc y = true) (hny : nameOk y = true) (hby : nm.blt y = true) (hvy : bootBuiltins y = some (.type m)) (ha : PE X a (tO G fs W κ ea)) (h1 : starB a = false) :
    PE X (.Call (.Name "isinstance" px) [a, .Name y py] [] pos) (tE G fs W κ (.pr (.isT j) (.cons ea .nil))) := by
  have hn := nameOk_of hny
  have hT : PE X (.Name y py) (tC (.ty m)) := pe_bltn (gl_of (by rw [o.sc]; exact hy)) (o.blt y hby) hvy rfl hn.2.2 hn.1
  refine ⟨fun pins s σ H Q I hq => (pe_callB call_isi (gl_of (by rw [o.sc]; exact hx)) (o.blt _ hb) (by decide +kernel) (pa_cons ha (pa_cons hT pa_nil rfl) (starEach_cons h1)) (by decide) (by decide) (starEach_cons h1) rfl).run pins s σ H Q I ?_⟩
  obtain ⟨env, F, Lf, sat, r⟩ := ops1 hq
  refine ⟨env, F, Lf, sat, r.imp fun op env1 h v F' H' L e1 orep s1 => ?_⟩
  obtain ⟨t1, t, F1, hF, hh, ht, c⟩ := h v F' H' L e1 orep s1
  have ht : (if isData t1 then some (T.bl (isTy j t1)) else none) = some t := ht
  split at ht
  · rename_i hd
    cases ht
    obtain ⟨n, ty, hk⟩ := Has.tyX o.hK.symm hF hh hd
    refine ⟨v, .ty m, .type n, .type m, isTy j t1, rfl, .ty m, ty, kit_ty (hk j m hj), ?_⟩
    exact c.here .bl
  · cases ht
theorem snd_and {ea eb : E} {a b : Expr} {rest : List Expr} (ha : PE X a (tE G fs W κ ea)) (hb : PE X (.BoolOp .And (b :: rest) pos) (tE G fs W κ eb)) : PE X (.BoolOp .And (a :: b :: rest) pos) (tE G fs W κ (.and ea eb)) := by
  refine ⟨fun pins s σ H Q I hq => (pe_and ha hb).run pins s σ H Q I ?_⟩
  obtain ⟨env, F, Lf, sat, r⟩ := hq
  unfold evE at r
  refine ⟨env, F, Lf, sat, r.bind fun t env1 _ r1 v F1 H1 L1 e1 rep s1 => ?_⟩
  have r1' := r1
  cases t <;> first | exact r1.elim | skip
  rename_i b0 _
  simp only [asBool, Out.bind_ok] at r1
  cases rep
  refine ⟨b0, rfl, ?_⟩
  cases b0 with
  | true => exact ⟨env1, F1, Lf, s1, r1.ext e1 fun t env2 q v F' H' L e2 r s => q v F' H' L (e1.trans e2) r s⟩
  | false => exact r1 (.bl false) F1 H1 [] e1 .bl s1
theorem snd_or {ea eb : E} {a b : Expr} {rest : List Expr} (ha : PE X a (tE G fs W κ ea)) (hb : PE X (.BoolOp .Or (b :: rest) pos) (tE G fs W κ eb)) : PE X (.BoolOp .Or (a :: b :: rest) pos) (tE G fs W κ (.or ea eb)) := by
  refine ⟨fun pins s σ H Q I hq => (pe_or ha hb).run pins s σ H Q I ?_⟩
  obtain ⟨env, F, Lf, sat, r⟩ := hq
  unfold evE at r
  refine ⟨env, F, Lf, sat, r.bind fun t env1 _ r1 v F1 H1 L1 e1 rep s1 => ?_⟩
  cases t <;> first | exact r1.elim | skip
  rename_i b0 _
  simp only [asBool, Out.bind_ok] at r1
  cases rep
  refine ⟨b0, rfl, ?_⟩
  cases b0 with
  | false => exact ⟨env1, F1, Lf, s1, r1.ext e1 fun t env2 q v F' H' L e2 r s => q v F' H' L (e1.trans e2) r s⟩
  | true => exact r1 (.bl true) F1 H1 [] e1 .bl s1
/-- a test within and, or -/
theorem sndT_and {ea eb : E} {a b : Expr} {rest : List Expr} (ha : PT X a (tT G fs W κ ea)) (hb : PW X (.BoolOp .And (b :: rest) pos) (tT G fs W κ eb)) : PW X (.BoolOp .And (a :: b :: rest) pos) (tT G fs W κ (.and ea eb)) := by
  refine ⟨fun wh pins s σ H Q I hq => (pw_and ha hb).run wh pins s σ H Q I ?_⟩
  obtain ⟨env, F, Lf, sat, r⟩ := hq
  unfold evE at r
  rw [Out.bind_assoc] at r
  refine ⟨env, F, Lf, sat, ?_⟩
  have e0 : ((evE fs ea env).bind fun x env => ((asBool x env).bind fun k env => if k = true then evE fs eb env else .ok (.bl false) env).bind asBool) =
      ((evE fs ea env).bind asBool).bind fun k env => if k = true then (evE fs eb env).bind asBool else .ok false env := by
    rw [Out.bind_assoc]
    congr 1
    funext x env
    rw [Out.bind_assoc]
    congr 1
    funext k env
    cases k <;> rfl
  rw [e0] at r
  refine r.bind fun b0 env1 _ r1 F1 H1 e1 s1 => ?_
  cases b0 with
  | true => exact ⟨env1, F1, Lf, s1, r1.ext e1 fun t env2 q F' H' e2 s => q F' H' (e1.trans e2) s⟩
  | false => exact r1 F1 H1 e1 s1
theorem sndT_or {ea eb : E} {a b : Expr} {rest : List Expr} (ha : PT X a (tT G fs W κ ea)) (hb : PW X (.BoolOp .Or (b :: rest) pos) (tT G fs W κ eb)) : PW X (.BoolOp .Or (a :: b :: rest) pos) (tT G fs W κ (.or ea eb)) := by
  refine ⟨fun wh pins s σ H Q I hq => (pw_or ha hb).run wh pins s σ H Q I ?_⟩
  obtain ⟨env, F, Lf, sat, r⟩ := hq
  unfold evE at r
  rw [Out.bind_assoc] at r
  refine ⟨env, F, Lf, sat, ?_⟩
  have e0 : ((evE fs ea env).bind fun x env => ((asBool x env).bind fun k env => if k = true then .ok (.bl true) env else evE fs eb env).bind asBool) =
      ((evE fs ea env).bind asBool).bind fun k env => if k = true then .ok true env else (evE fs eb env).bind asBool := by
    rw [Out.bind_assoc]
    congr 1
    funext x env
    rw [Out.bind_assoc]
    congr 1
    funext k env
    cases k <;> rfl
  rw [e0] at r
  refine r.bind fun b0 env1 _ r1 F1 H1 e1 s1 => ?_
  cases b0 with
  | false => exact ⟨env1, F1, Lf, s1, r1.ext e1 fun t env2 q F' H' e2 s => q F' H' (e1.trans e2) s⟩
  | true => exact r1 F1 H1 e1 s1
theorem bindNot (o : Out T) : ((o.bind fun x env => (asBool x env).bind fun k env => Out.ok (T.bl (!k)) env).bind asBool) = (o.bind asBool).bind fun k env => .ok (!k) env := by
  rw [Out.bind_assoc, Out.bind_assoc]
  congr 1
  funext x env
  rw [Out.bind_assoc]
  congr 1
theorem sndT_not {ea : E} {a : Expr} (ha : PT X a (tT G fs W κ ea)) : PT X (.UnaryOp .Not a pos) (tT G fs W κ (.not ea)) := by
  refine ⟨fun pins s σ H Q I hq => (pt_not ha).run pins s σ H Q I ?_⟩
  obtain ⟨env, F, Lf, sat, r⟩ := hq
  unfold evE at r
  rw [bindNot] at r
  exact ⟨env, F, Lf, sat, r.bind fun b0 env1 _ r1 F1 H1 e1 s1 => r1 F1 H1 e1 s1⟩
theorem snd_not {ea : E} {a : Expr} (ha : PE X a (tE G fs W κ ea)) : PE X (.UnaryOp .Not a pos) (tE G fs W κ (.not ea)) := by
  refine ⟨fun pins s σ H Q I hq => (pe_not ha).run pins s σ H Q I ?_⟩
  obtain ⟨env, F, Lf, sat, r⟩ := hq
  unfold evE at r
  refine ⟨env, F, Lf, sat, r.bind fun t env1 _ r1 v F1 H1 L1 e1 rep s1 => ?_⟩
  cases t <;> first | exact r1.elim | skip
  rename_i b0 _
  cases rep
  exact ⟨b0, rfl, r1 (.bl (!b0)) F1 H1 [] e1 .bl s1⟩
theorem snd_ite {ec ea eb : E} {c a b : Expr} (hc : PT X c (tT G fs W κ ec)) (ha : PE X a (tE G fs W κ ea)) (hb : PE X b (tE G fs W κ eb)) : PE X (.IfExp c a b pos) (tE G fs W κ (.ite ec ea eb)) := by
  refine ⟨fun pins s σ H Q I hq => (pe_ifExp hc ha hb).run pins s σ H Q I ?_⟩
  obtain ⟨env, F, Lf, sat, r⟩ := hq
  unfold evE at r
  have e0 : ((evE fs ec env).bind fun x env => (asBool x env).bind fun k env => if k = true then evE fs ea env else evE fs eb env) = ((evE fs ec env).bind asBool).bind fun k env => if k = true then evE fs ea env else evE fs eb env := by
    rw [Out.bind_assoc]
  rw [e0] at r
  refine ⟨env, F, Lf, sat, r.bind fun b0 env1 _ r1 F1 H1 e1 s1 => ?_⟩
  cases b0 with
  | true => exact ⟨env1, F1, Lf, s1, r1.ext e1 fun t env2 q v F' H' L e2 r s => q v F' H' L (e1.trans e2) r s⟩
  | false => exact ⟨env1, F1, Lf, s1, r1.ext e1 fun t env2 q v F' H' L e2 r s => q v F' H' L (e1.trans e2) r s⟩
/-- displays -/
theorem snd_tup {es : Es} {as : List Expr} {j : Nat} (ha : PA X as (tL G fs W κ es)) : PE X (.Tuple as j pos) (tE G fs W κ (.tup es)) := by
  refine ⟨fun pins s σ H Q I hq => (pe_tup ha).run pins s σ H Q I ?_⟩
  obtain ⟨env, F, Lf, sat, r⟩ := hq
  unfold evE at r
  refine ⟨env, F, Lf, sat, r.bind fun ts env1 _ r1 vs F1 H1 L1 e1 rep s1 => ?_⟩
  by_cases hp : (ts.all T.pure && decide (ts.length ≤ line)) = true
  · rw [if_pos hp] at r1
    simp only [Bool.and_eq_true, decide_eq_true_eq] at hp
    obtain ⟨rp, rfl⟩ := rep.pure_nil hp.1
    have hl := rp.length
    rw [lineS] at hp
    refine ⟨by omega, fun p hn => ?_⟩
    have c : Cont G F1 H1 (.tup ts) Q := Ok1.cont (L := []) r1 e1 s1
    exact c.tuple s1.ext rp hn
  · rw [if_neg hp] at r1; exact r1.elim
theorem snd_lst {es : Es} {as : List Expr} (ha : PA X as (tL G fs W κ es)) : PE X (.List as pos) (tE G fs W κ (.lst es)) := by
  refine ⟨fun pins s σ H Q I hq => (pe_lst ha).run pins s σ H Q I ?_⟩
  obtain ⟨env, F, Lf, sat, r⟩ := hq
  unfold evE at r
  refine ⟨env, F, Lf, sat, r.bind fun ts env1 _ r1 vs F1 H1 L1 e1 rep s1 => ?_⟩
  by_cases hp : decide (ts.length ≤ line) = true
  · rw [if_pos hp] at r1
    simp only [decide_eq_true_eq] at hp
    have hl := rep.length
    rw [lineS] at hp
    refine ⟨by omega, fun p hn => ?_⟩
    have r1 : Ok1 G κ σ F Lf Q (.lst true ts) env1 := r1
    exact r1 (.ref p) F1 (upd H1 p (.lst vs)) ((p, .lst vs) :: L1) e1 (.lstO rep) (s1.res (Res.new hn))
  · rw [if_neg hp] at r1; exact r1.elim
theorem snd_dct0 : PE X (.Dict [] [] pos) (tE G fs W κ .dct0) := by
  refine ⟨fun pins s σ H Q I hq => pe_dnewK.run pins s σ H Q I fun p hn => ?_⟩
  obtain ⟨env, F, Lf, sat, r⟩ := hq
  have r : Ok1 G κ σ F Lf Q (.dct true [] []) env := r
  exact r (.ref p) F (upd H p (.dK [])) [(p, .dK [])] (Ext.refl F) (.dctO rfl .nil) (sat.res (Res.new hn))
end
end Ev
end
section
set_option Elab.async false
set_option linter.all false
set_option maxRecDepth 100000
set_option maxHeartbeats 1000000
/-! Ev, part I: calls of the program's defs, slices, chains, pops. -/
namespace Ev
open PySem PySem.Spec PyProof.Rows L2
section
variable {G : Gm} {nm : Nm} {fs : Fns} {k : Nat} {S : Sx} {W : WX} {X : Cx} {κ : Pins} {pos : Pos} {σ : L2.St} {F : Hp} {Lf L : List Cell} {H : Hp}

theorem Reps.cons' {t : T} {v : V} {ts : List T} {vs : List V} {L1 L2' : List Cell} (h : Rep G F t v L1) (r : Reps G F ts vs L2') : Reps G F (t :: ts) (v :: vs) (L1 ++ L2') := .cons h r
/-- the arguments are taken out -/
theorem lend_sat {os : List Opd} {vs : List V} (r : OReps G F σ os vs L) : ∀ {ks : List Bool} {env env1 : Env} {F1 : Hp} {Lf : List Cell} {ts : List T}, Ext F F1 → lend ks os env = some (ts, env1) → Sat G κ σ env F1 (L ++ Lf) H →
    ∃ F2 La, Ext F1 F2 ∧ Reps G F2 ts vs La ∧ Sat G κ σ env1 F2 (La ++ Lf) H := by
  induction r with
  | nil =>
    intro ks env env1 F1 Lf ts e0 e s
    simp only [lend] at e
    cases e
    exact ⟨F1, [], Ext.refl F1, .nil, s⟩
  | @cons o v L1 os vs L2' h _ ih =>
    intro ks env env1 F1 Lf ts e0 e s
    rw [List.append_assoc] at s
    cases o with
    | val t =>
      have h' : Rep G F1 t v L1 := Rep.mono e0 h
      simp only [lend] at e
      cases el : lend ks.tail os env with
      | none => rw [el] at e; cases e
      | some p =>
        obtain ⟨ts', env'⟩ := p
        rw [el] at e
        by_cases hk : ks.headD false = true
        · simp only [hk, if_true, Option.map_some, Option.some.injEq, Prod.mk.injEq] at e
          obtain ⟨rfl, rfl⟩ := e
          obtain ⟨F2, La, e2, r2, s2⟩ := ih e0 el (s.perm perm_swap)
          exact ⟨F2, L1 ++ La, e2, .cons (h'.mono e2) r2, s2.perm (by rw [List.append_assoc]; exact perm_swap)⟩
        · simp only [hk, Option.map_some, Option.some.injEq, Prod.mk.injEq] at e
          obtain ⟨e3, rfl⟩ := e
          have e3 : t.fz :: ts' = ts := e3
          subst e3
          obtain ⟨F2, e2, h2, s2⟩ := s.freeze h'
          obtain ⟨F3, La, e3, r3, s3⟩ := ih (e0.trans e2) el s2
          exact ⟨F3, La, e2.trans e3, .cons (L1 := []) (h2.mono e3) r3, s3⟩
    | slot i =>
      obtain ⟨hv, rfl⟩ := h
      simp only [lend] at e
      cases ei : (env[i]?).join with
      | none => rw [ei] at e; cases e
      | some t =>
        rw [ei] at e
        obtain ⟨v', M1, h1, h2, h3⟩ := s.get (join_some ei)
        rw [hv] at h1; cases h1
        by_cases hp : t.pure = true
        · simp only [hp, if_true] at e
          cases h2.pure_nil hp
          cases el : lend ks.tail os env with
          | none => rw [el] at e; cases e
          | some p =>
            obtain ⟨ts', env'⟩ := p
            rw [el] at e
            simp only [Option.map_some, Option.some.injEq, Prod.mk.injEq] at e
            obtain ⟨rfl, rfl⟩ := e
            obtain ⟨F2, La, e2, r2, s2⟩ := ih e0 el s
            exact ⟨F2, La, e2, .cons (L1 := []) (h2.mono e2) r2, s2⟩
        · by_cases hk : ks.headD false = true
          · simp only [hp, hk, if_true] at e
            cases el : lend ks.tail os (env.set i none) with
            | none => rw [el] at e; cases e
            | some p =>
              obtain ⟨ts', env'⟩ := p
              rw [el] at e
              have e : some (t :: ts', env') = some (ts, env1) := e
              simp only [Option.some.injEq, Prod.mk.injEq] at e
              obtain ⟨rfl, rfl⟩ := e
              obtain ⟨F2, La, e2, r2, s2⟩ := ih e0 el (h3.perm (by simp only [List.nil_append]; exact perm_swap))
              exact ⟨F2, M1 ++ La, e2, .cons (h2.mono e2) r2, s2.perm (by rw [List.append_assoc]; exact perm_swap)⟩
          · simp only [hp, hk] at e
            cases el : lend ks.tail os (env.set i (some t.fz)) with
            | none => rw [el] at e; cases e
            | some p =>
              obtain ⟨ts', env'⟩ := p
              rw [el] at e
              have e : some (t.fz :: ts', env') = some (ts, env1) := e
              simp only [Option.some.injEq, Prod.mk.injEq] at e
              obtain ⟨rfl, rfl⟩ := e
              obtain ⟨F2, e2, h4, h5⟩ := h3.freeze h2
              have h6 := Sat.back (L1 := []) h5 hv h4
              rw [List.set_set] at h6
              obtain ⟨F3, La, e3, r3, s3⟩ := ih (e0.trans e2) el h6
              exact ⟨F3, La, e2.trans e3, .cons (L1 := []) (h4.mono e3) r3, s3⟩
/-- and given back -/
theorem give_sat {os : List Opd} {vs : List V} (r : OReps G F σ os vs L) : ∀ {ks : List Bool} {env0 env env2 : Env} {F1 : Hp} {Lf La : List Cell} {as : List T}, giveBack ks os as env0 env = some env2 → Reps G F1 as vs La → Sat G κ σ env F1 (La ++ Lf) H →
    Sat G κ σ env2 F1 Lf H := by
  induction r with
  | nil =>
    intro ks env0 env env2 F1 Lf La as e ra s
    cases ra
    simp only [giveBack] at e
    cases e
    exact s
  | @cons o v L1 os vs L2' h _ ih =>
    intro ks env0 env env2 F1 Lf La as e ra s
    cases ra with
    | @cons t _ M1 ts _ M2 h1 r1 =>
      rw [List.append_assoc] at s
      cases o with
      | val _ =>
        simp only [giveBack] at e
        exact ih e r1 s.drop
      | slot i =>
        obtain ⟨hv, rfl⟩ := h
        simp only [giveBack] at e
        cases ei : (env0[i]?).join with
        | none => rw [ei] at e; cases e
        | some t0 =>
          rw [ei] at e
          by_cases hp : (t0.pure || !ks.headD false) = true
          · simp only [hp, if_true] at e
            exact ih e r1 s.drop
          · simp only [hp] at e
            exact ih e r1 (s.back hv h1)
/-- what a call hands on -/
theorem call_post {f : Nat} {os : List Opd} {vs : List V} {env : Env} {Q : VK} {F0 : Hp} (e0 : Ext F0 F) (r : OReps G F σ os vs L) (s : Sat G κ σ env F (L ++ Lf) H) (h : Rw G W κ σ F0 Lf (callO fs f os env) (Ok1 G κ σ F0 Lf Q)) :
    spF G (fs.call f) vs H Q (fun cls d H' => W cls d σ H') := by
  unfold callO at h
  cases el : lend (fs.keep f) os env with
  | none => rw [el] at h; exact h.elim
  | some p =>
    obtain ⟨ts, env1⟩ := p
    rw [el] at h
    have h : Rw G W κ σ F0 Lf (match fs.call f ts with
      | .no => .no
      | .ok t as => match giveBack (fs.keep f) os as env env1 with
        | none => .no
        | some env2 => .ok t env2
      | .ex x as => match giveBack (fs.keep f) os as env env1 with
        | none => .no
        | some env2 => .ex x env2) (Ok1 G κ σ F0 Lf Q) := h
    obtain ⟨F2, La, e2, r2, ⟨⟨Le, re, a2⟩, kp⟩⟩ := lend_sat r (Ext.refl F) el s
    refine ⟨ts, F2, La, Le ++ Lf, r2, a2.perm perm_swap, ?_⟩
    cases ec : fs.call f ts with
    | no => rw [ec] at h; exact h.elim
    | ok t as =>
      rw [ec] at h
      cases eg : giveBack (fs.keep f) os as env env1 with
      | none => simp only [eg] at h; exact h.elim
      | some env2 =>
        simp only [eg] at h
        intro v F' H' La' L' e3 ra rt a3
        have s3 : Sat G κ σ env1 F' (La' ++ (L' ++ Lf)) H' := by
          refine ⟨⟨Le, re.mono e3, a3.perm ?_⟩, kp⟩
          -- L' ++ (La' ++ (Le ++ Lf)) ~ Le ++ (La' ++ (L' ++ Lf))
          refine (List.Perm.append_left L' perm_swap).trans ?_
          refine perm_swap.trans ?_
          exact List.Perm.append_left Le perm_swap
        exact h v F' H' L' (e0.trans (e2.trans e3)) rt (give_sat r eg ra s3)
    | ex x as =>
      rw [ec] at h
      cases eg : giveBack (fs.keep f) os as env env1 with
      | none => simp only [eg] at h; exact h.elim
      | some env2 =>
        simp only [eg] at h
        intro cls d F' H' La' e3 ra xr a3
        have s3 : Sat G κ σ env1 F' (La' ++ Lf) H' := ⟨⟨Le, re.mono e3, a3.perm perm_swap⟩, kp⟩
        exact h cls d F' H' (e0.trans (e2.trans e3)) xr (give_sat r eg ra s3)
/-- f(..), a def of the program -/
theorem snd_call {f : Nat} {x : Str} {es : Es} {a : Expr} {as : List Expr} {px : Pos} (o : XOk G nm fs k S W X) (hx : glB S.sc x = true) (hn : nameOk x = true) (hf : nm.fn x = some f)
    (ha : PA X (a :: as) (tOs G fs W κ es)) (h1 : starB a = false) (h2 : (as.all fun e => !starB e) = true) : PE X (.Call (.Name x px) (a :: as) [] pos) (tE G fs W κ (.call f es)) := by
  obtain ⟨hm, ⟨fd, ps, Fk, hb⟩, hkp⟩ := o.fnm x f hf
  refine ⟨fun pins s σ H Q I hq => ?_⟩
  obtain ⟨env, F, Lf, sat, r⟩ := hq
  unfold evE at r
  refine wpAny_Call_Name_kw (ld_glob I (gl_of (by rw [o.sc]; exact hx)) hm ?_ (nameOk_of hn).1)
  refine PySem.W.callWith_K (h₀ := X.base) I.ok.mod.kin hkp (thn (ha.run pos pins s σ H (fun vs H1 => spF G (fs.call f) vs H1 Q (fun cls d H' => W cls d σ H')) I ⟨env, F, Lf, sat, r.bind fun os env1 _ r1 vs F1 H1 L1 e1 osr s1 => call_post e1 osr s1 r1⟩)
    fun us s1 ⟨vs, H1, I1, rv, q⟩ => ⟨I1.kIn, run_fnS (E := WE W) Fk o.room hb (passAt o.tk σ) I1 rv q⟩) (starEach_cons h1) (noStar h2)
theorem snd_call0 {f : Nat} {x : Str} {px : Pos} (o : XOk G nm fs k S W X) (hx : glB S.sc x = true) (hn : nameOk x = true) (hf : nm.fn x = some f) : PE X (.Call (.Name x px) [] [] pos) (tE G fs W κ (.call f .nil)) := by
  obtain ⟨hm, ⟨fd, ps, Fk, hb⟩, hkp⟩ := o.fnm x f hf
  refine ⟨fun pins s σ H Q I hq => ?_⟩
  obtain ⟨env, F, Lf, sat, r⟩ := hq
  unfold evE at r
  simp only [evO, Out.bind_ok] at r
  refine wpAny_Call_Name_kw (ld_glob I (gl_of (by rw [o.sc]; exact hx)) hm ?_ (nameOk_of hn).1)
  exact PySem.W.callWith_K0 I.kIn hkp (run_fnS (us := []) (vs := []) (E := WE W) Fk o.room hb (passAt o.tk σ) I .nil (call_post (Ext.refl F) (L := []) .nil sat r))
/-! ### slices -/
def rSl (G : Gm) : V → Option Int → Option Int → Hp → VK → Prop := fun x lo hi H Q => ∃ (F : Hp) (a t : T), Ext F H ∧ Has G F H a x ∧ slice a lo hi = some t ∧ Cont G F H t Q
theorem slR (hK : X.K = G.K) : SlR X (rSl G) := fun pins s σ H x v vl vu lo hi sl Q I rx hs pl pu ⟨F, a, t, hF, ha, ht, c⟩ => opSl hK pins s σ H x v vl vu lo hi sl Q F a t I rx hs pl pu hF ha ht c
/-- a part of a slice -/
def tI (G : Gm) (fs : Fns) (W : WX) (κ : Pins) (es : Es) : TO := fun σ H Q => ∃ env F Lf, Sat G κ σ env F Lf H ∧ Rw G W κ σ F Lf (evI fs es env) (fun i env' => ∀ F' H', Ext F F' → Sat G κ σ env' F' Lf H' → Q i H')
theorem snd_I_nil : PO X none (tI G fs W κ .nil) := by
  refine ⟨fun pins s σ H Q I hq => po_none.run pins s σ H Q I ?_⟩
  obtain ⟨env, F, Lf, sat, r⟩ := hq
  exact r F H (Ext.refl F) sat
theorem snd_I_one {e : E} {a : Expr} (h : PE X a (tE G fs W κ e)) : PO X (some a) (tI G fs W κ (.cons e .nil)) := by
  refine ⟨fun pins s σ H Q I hq => (po_some h).run pins s σ H Q I ?_⟩
  obtain ⟨env, F, Lf, sat, r⟩ := hq
  unfold evI at r
  refine ⟨env, F, Lf, sat, r.bind fun t env1 _ r1 v F1 H1 L1 e1 rep s1 => ?_⟩
  cases t <;> first | exact r1.elim | skip
  cases rep
  exact ⟨_, rfl, r1 F1 H1 e1 s1⟩
theorem snd_slc {ea : E} {elo ehi : Es} {a : Expr} {lo hi : Option Expr} {p2 : Pos} (hK : X.K = G.K) (ha : PE X a (tO G fs W κ ea)) (hl : PO X lo (tI G fs W κ elo)) (hh : PO X hi (tI G fs W κ ehi)) :
    PE X (.Subscript a (.Slice lo hi none p2) pos) (tE G fs W κ (.slc (.cons ea .nil) elo ehi)) := by
  refine ⟨fun pins s σ H Q I hq => (pe_slice (slR hK) ha hl hh).run pins s σ H Q I ?_⟩
  obtain ⟨env, F, Lf, sat, r⟩ := hq
  unfold evE at r
  rw [evO_cons, Out.bind_assoc] at r
  refine ⟨env, F, Lf, sat, r.bind fun o1 env1 _ r1 x F1 H1 L1 e1 o1r s1 => ?_⟩
  simp only [evO, Out.bind_ok] at r1
  refine ⟨env1, F1, L1 ++ Lf, s1, Rw.bind (r1.go e1 fun _ _ q => q) fun l env2 _ r2 F2 H2 e2 s2 => ?_⟩
  refine ⟨env2, F2, L1 ++ Lf, s2, Rw.bind (r2.ext e2 fun _ _ q => q) fun h env3 _ r3 F3 H3 e3 s3 => ?_⟩
  cases ho : opds env3 [o1] with
  | none => rw [ho] at r3; exact r3.elim
  | some ts =>
    rw [ho] at r3
    have hs := Sat.has_all (os := [o1]) (L := L1 ++ []) (.cons ((o1r.mono e2).mono e3) .nil) (Lf := Lf) (by rw [List.append_nil]; exact s3) ho
    cases hs with
    | @cons t _ _ _ h1 h2 =>
      cases h2
      have r3 : Rw G W κ σ F2 (L1 ++ Lf) (ofOpt (slice t l h) env3) (Ok1 G κ σ F Lf Q) := r3
      obtain ⟨t', ht, r4⟩ := r3.opt
      exact ⟨F3, t, t', s3.ext, h1, ht, r4.cont (e1.trans (e2.trans e3)) s3⟩
/-! ### list(range(..)) -/
theorem upto_ints : ∀ (n : Nat) (a : Int), upto a n = ((List.range n).map fun i : Nat => a + (i : Int)).map T.int
  | 0, _ => rfl
  | n + 1, a => by
    rw [List.range_succ_eq_map]
    simp only [upto, upto_ints n (a + 1), List.map_cons, List.map_map]
    congr 1
    · simp
    · apply List.map_congr_left
      intro i _
      simp only [Function.comp]
      congr 1
      push_cast
      omega
theorem reps_upto (a b : Int) : Reps G F (upto a (b - a).toNat) (rgV a b) [] := by
  rw [upto_ints]
  have := Reps.of_ints (G := G) (F := F) ((List.range (b - a).toNat).map fun i : Nat => a + (i : Int))
  rwa [List.map_map (g := V.int)] at this
theorem snd_rg1 {ea : E} {a : Expr} {p p2 pos2 : Pos} (o : XOk G nm fs k S W X) (hx : glB S.sc "list" = true) (hb : nm.blt "list" = true) (hx2 : glB S.sc "range" = true) (hb2 : nm.blt "range" = true) (ha : PE X a (tO G fs W κ ea)) (hs : starB a = false) :
    PE X (.Call (.Name "list" p) [.Call (.Name "range" p2) [a] [] pos2] [] pos) (tE G fs W κ (.pr .rg1 (.cons ea .nil))) := by
  refine ⟨fun pins s σ H Q I hq => (pe_listRg o.calm (gl_of (by rw [o.sc]; exact hx)) (o.blt _ hb) (prg_1 (gl_of (by rw [o.sc]; exact hx2)) (o.blt _ hb2) ha (starEach_cons hs)) (starEach_cons rfl)).run pins s σ H Q I ?_⟩
  obtain ⟨env, F, Lf, sat, r⟩ := ops1 hq
  refine ⟨env, F, Lf, sat, r.imp fun op env1 h v F' H' L e1 orep s1 => ?_⟩
  obtain ⟨t1, t, F1, hF, hh, ht, c⟩ := h v F' H' L e1 orep s1
  have ht : pRg1 t1 = some t := ht
  cases t1 <;> first | (cases ht; done) | skip
  rename_i n _
  have ht : (if small n && decide (n ≤ 16777216) then some (T.lst true (upto 0 n.toNat)) else none) = some t := ht
  split at ht
  · rename_i hn
    cases ht
    simp only [Bool.and_eq_true, decide_eq_true_eq, small] at hn
    refine ⟨n, hh.int, ⟨by omega, by omega, by omega, by omega, by omega⟩, fun q hq => ?_⟩
    have e : (n - 0).toNat = n.toNat := by omega
    have h3 := reps_upto (G := G) (F := F1) 0 n
    rw [e] at h3
    exact c.list h3 hq
  · cases ht
theorem snd_rg2 {ea eb : E} {a b : Expr} {p p2 pos2 : Pos} (o : XOk G nm fs k S W X) (hx : glB S.sc "list" = true) (hb : nm.blt "list" = true) (hx2 : glB S.sc "range" = true) (hb2 : nm.blt "range" = true) (ha : PE X a (tO G fs W κ ea)) (hb' : PE X b (tO G fs W κ eb)) (hs : starB a = false) (hs2 : starB b = false) :
    PE X (.Call (.Name "list" p) [.Call (.Name "range" p2) [a, b] [] pos2] [] pos) (tE G fs W κ (.pr .rg2 (.cons ea (.cons eb .nil)))) := by
  refine ⟨fun pins s σ H Q I hq => (pe_listRg o.calm (gl_of (by rw [o.sc]; exact hx)) (o.blt _ hb) (prg_2 (gl_of (by rw [o.sc]; exact hx2)) (o.blt _ hb2) ha hb' (starEach_cons hs) (starEach_cons hs2) (noStar (by simp [hs2]))) (starEach_cons rfl)).run pins s σ H Q I ?_⟩
  obtain ⟨env, F, Lf, sat, r⟩ := ops2 hq
  refine ⟨env, F, Lf, sat, r.imp fun op env1 h v F' H' L e1 orep s1 => ?_⟩
  obtain ⟨env2, F2, Lf2, sat2, r2⟩ := h v F' H' L e1 orep s1
  refine ⟨env2, F2, Lf2, sat2, r2.imp fun op2 env3 h2 w F3 H3 L3 e3 orep2 s3 => ?_⟩
  obtain ⟨t1, t2, t, F1, hF, hh, hh2, ht, c⟩ := h2 w F3 H3 L3 e3 orep2 s3
  have ht : pRg2 t1 t2 = some t := ht
  unfold pRg2 at ht
  split at ht
  · rename_i i j _
    split at ht
    · rename_i hn
      cases ht
      simp only [Bool.and_eq_true, decide_eq_true_eq, small] at hn
      exact ⟨i, j, hh.int, hh2.int, ⟨by omega, by omega, by omega, by omega, by omega⟩, fun q hq => c.list (reps_upto i j) hq⟩
    · cases ht
  · cases ht
/-! ### chains -/
theorem opCmp (hK : X.K = G.K) (hu : X.A.units + 65 < cLine) (c : Cmp) : OpR X (compareOp (cop c)) (fun x y H Q => ∃ (F : Hp) (a b t : T), Ext F H ∧ Has G F H a x ∧ Has G F H b y ∧ prim (.cmp c) [a, b] = some t ∧ Cont G F H t Q) :=
  fun pins s σ H x y v u Q I rx ry ⟨F, a, b, t, hF, ha, hb, hr, q⟩ => op2_cmp hK hu c pins s σ H x y v u Q F a b t I rx ry hF ha hb hr q
theorem chain_read {c d : Cmp} {ea eb ec : E} {σ : L2.St} {H : Hp} {Q : VK} (hq : tE G fs W κ (.chain c d ea eb ec) σ H Q) :
    tChain (fun x y H Q => ∃ (F : Hp) (a b t : T), Ext F H ∧ Has G F H a x ∧ Has G F H b y ∧ prim (.cmp c) [a, b] = some t ∧ Cont G F H t Q)
      (fun x y H Q => ∃ (F : Hp) (a b t : T), Ext F H ∧ Has G F H a x ∧ Has G F H b y ∧ prim (.cmp d) [a, b] = some t ∧ Cont G F H t Q) (tE G fs W κ ea) (tE G fs W κ eb) (tE G fs W κ ec) σ H Q := by
  obtain ⟨env, F, Lf, sat, r⟩ := hq
  unfold evE at r
  refine ⟨env, F, Lf, sat, r.bind fun t1 env1 _ r1 x F1 H1 L1 e1 rep1 s1 => ?_⟩
  refine ⟨env1, F1, L1 ++ Lf, s1, Rw.bind (r1.go e1 fun _ _ q => q) fun t2 env2 _ r2 y F2 H2 L2' e2 rep2 s2 => ?_⟩
  have hx : Has G F2 H2 t1 x := s2.drop.has_val (rep1.mono e2)
  have hy : Has G F2 H2 t2 y := s2.has_val rep2
  cases hc : cmpT c t1 t2 with
  | none => rw [hc] at r2; exact r2.elim
  | some b =>
    rw [hc] at r2
    refine ⟨F2, t1, t2, .bl b, s2.ext, hx, hy, by show (cmpT c t1 t2).map T.bl = _; rw [hc]; rfl, fun v F3 H3 L3 res rep3 => ?_⟩
    cases rep3
    have s3 : Sat G κ σ env2 F3 (L2' ++ (L1 ++ Lf)) H3 := s2.res res
    refine ⟨b, rfl, ?_⟩
    cases b with
    | false =>
      have r2 : Ok1 G κ σ F Lf Q (.bl false) env2 := r2
      exact r2 (.bl false) F3 H3 [] (e1.trans (e2.trans res.1)) .bl s3.drop.drop
    | true =>
      have r2 : Rw G W κ σ F1 (L1 ++ Lf) ((evE fs ec env2).bind fun z env => ofOpt ((cmpT d t2 z).map .bl) env) (Ok1 G κ σ F Lf Q) := r2
      refine ⟨env2, F3, L2' ++ (L1 ++ Lf), s3, Rw.bind (r2.go (e2.trans res.1) fun _ _ q => q) fun t3 env3 _ r3 z F4 H4 L4 e4 rep4 s4 => ?_⟩
      have hy4 : Has G F4 H4 t2 y := s4.drop.has_val ((rep2.mono res.1).mono e4)
      have hz4 : Has G F4 H4 t3 z := s4.has_val rep4
      obtain ⟨t, ht, r5⟩ := r3.opt
      refine ⟨F4, t2, t3, t, s4.ext, hy4, hz4, ht, ?_⟩
      have s5 : Sat G κ σ env3 F4 ((L4 ++ (L2' ++ L1)) ++ Lf) H4 := by simpa only [List.append_assoc] using s4
      exact r5.cont (e1.trans (e2.trans (res.1.trans e4))) s5
theorem snd_chain {c d : Cmp} {ea eb ec : E} {a b e : Expr} (hK : X.K = G.K) (hu : X.A.units + 65 < cLine) (ha : PE X a (tE G fs W κ ea)) (hb : PE X b (tE G fs W κ eb)) (he : PE X e (tE G fs W κ ec)) (hm : lastMarks [cop c, cop d] [b, e] = false) :
    PE X (.Compare a [cop c, cop d] [b, e] pos) (tE G fs W κ (.chain c d ea eb ec)) :=
  ⟨fun pins s σ H Q I hq => (pe_chain (opCmp hK hu c) (opCmp hK hu d) ha hb he hm).run pins s σ H Q I (chain_read hq)⟩
theorem sndT_chain {c d : Cmp} {ea eb ec : E} {a b e : Expr} (hK : X.K = G.K) (hu : X.A.units + 65 < cLine) (ha : PE X a (tE G fs W κ ea)) (hb : PE X b (tE G fs W κ eb)) (he : PE X e (tE G fs W κ ec)) (hm : lastMarks [cop c, cop d] [b, e] = false) :
    PT X (.Compare a [cop c, cop d] [b, e] pos) (tT G fs W κ (.chain c d ea eb ec)) :=
  ⟨fun pins s σ H Q I hq => (pt_chain (opCmp hK hu c) (opCmp hK hu d) ha hb he hm).run pins s σ H Q I (chain_read (tT_tE hq))⟩
/-! ### pops -/
theorem reps_erase : ∀ {ts : List T} {vs : List V} {L : List Cell} {j : Nat} {t : T}, Reps G F ts vs L → ts[j]? = some t → ∃ v L1 L2, vs[j]? = some v ∧ Rep G F t v L1 ∧ Reps G F (ts.eraseIdx j) (vs.eraseIdx j) L2 ∧ L.Perm (L1 ++ L2)
  | _, _, _, _, _, .nil, h => by simp at h
  | _, _, _, 0, t, @Reps.cons _ _ t0 v L1 ts vs L2' h r, e => by
    simp at e; subst e
    exact ⟨v, L1, L2', rfl, h, r, .refl _⟩
  | _, _, _, j + 1, t, @Reps.cons _ _ t0 v0 L0 ts vs L3 h r, e => by
    obtain ⟨v, L1, L2', h1, h2, h3, h4⟩ := reps_erase (j := j) r (by simpa using e)
    exact ⟨v, L1, L0 ++ L2', by simpa using h1, h2, .cons h h3, perm_mid h4⟩
end
end Ev
end
section
set_option Elab.async false
set_option linter.all false
set_option maxRecDepth 100000
set_option maxHeartbeats 1000000
/-! Ev, part J: pops, index, comprehensions' walks. -/
namespace Ev
open PySem PySem.Spec PyProof.Rows L2
section
variable {G : Gm} {nm : Nm} {fs : Fns} {k : Nat} {S : Sx} {W : WX} {X : Cx} {κ : Pins} {pos : Pos} {σ : L2.St} {F : Hp} {Lf L : List Cell} {H : Hp} {env : Env}

def plainBase : Expr → Bool
  | .Call (.Name _ _) [] [] _ => false
  | _ => true
theorem base_of {o : Expr} {n : Str} {env : PySem.Env} (h : plainBase o = true) (whole : Sem Value) : attributeBase o n env whole = whole := by
  cases o <;> first | rfl | skip
  rename_i f as ks p
  cases f <;> first | rfl | skip
  cases as <;> first | rfl | skip
  cases ks <;> first | rfl | cases h
theorem few1 {e : Expr} {env : PySem.Env} {cpos : Pos} (h : starB e = false) : ((backTo cpos (starEach [e] env)).all (fun x => !x.1) && (backToKw cpos (keywordEach [] env)).all (fun x => x.1.isSome)
      && decide ([e].length + ([] : List Keyword).length + (if ([] : List Keyword).isEmpty then 0 else 1) < 30)) = true := by
  rw [starEach_cons h]
  rfl
theorem Sat.own {i : Nat} {ts : List T} (s : Sat G κ σ env F Lf H) (e : env[i]? = some (some (.lst true ts))) :
    ∃ a vs L1, σ[i]? = some (some (.ref a)) ∧ H a = some (.lst vs) ∧ Reps G F ts vs L1 ∧ Sat G κ σ (env.set i none) F ((a, .lst vs) :: (L1 ++ Lf)) H := by
  obtain ⟨v, L1, h1, h2, h3⟩ := s.get e
  cases h2 with
  | @lstO a vs _ L1 r => exact ⟨a, vs, L1, h1, h3.at_.at_ (a, .lst vs) List.mem_cons_self, r, h3⟩
theorem Sat.wr {a : Addr} {o o' : HO} (s : Sat G κ σ env F ((a, o) :: Lf) H) : Sat G κ σ env F ((a, o') :: Lf) (upd H a o') := by
  obtain ⟨⟨Le, r, at_⟩, kp⟩ := s
  refine ⟨⟨Le, r, ?_⟩, kp⟩
  have p : (Le ++ (a, o) :: Lf).Perm ((a, o) :: (Le ++ Lf)) := List.perm_middle
  have p' : (Le ++ (a, o') :: Lf).Perm ((a, o') :: (Le ++ Lf)) := List.perm_middle
  exact (at_.perm p).set.perm p'.symm
theorem drop_last (xs : List V) : xs.dropLast = xs.eraseIdx (xs.length - 1) := by
  rw [List.dropLast_eq_take, List.eraseIdx_eq_take_drop_succ]
  cases xs with
  | nil => rfl
  | cons x r => simp
theorem drop_lastT (xs : List T) : xs.dropLast = xs.eraseIdx (xs.length - 1) := by
  rw [List.dropLast_eq_take, List.eraseIdx_eq_take_drop_succ]
  cases xs with
  | nil => rfl
  | cons x r => simp
/-- an item is taken out -/
theorem take_out {i j : Nat} {ts : List T} {t : T} {a : Addr} {vs : List V} {L1 : List Cell} (s : Sat G κ σ (env.set i none) F ((a, .lst vs) :: (L1 ++ Lf)) H) (hi : σ[i]? = some (some (.ref a))) (r : Reps G F ts vs L1) (ht : ts[j]? = some t) :
    ∃ v L2, vs[j]? = some v ∧ Rep G F t v L2 ∧ Sat G κ σ (env.set i (some (.lst true (ts.eraseIdx j)))) F (L2 ++ Lf) (upd H a (.lst (vs.eraseIdx j))) := by
  obtain ⟨v, L2, L3, h1, h2, h3, h4⟩ := reps_erase r ht
  refine ⟨v, L2, h1, h2, ?_⟩
  have s2 : Sat G κ σ (env.set i none) F ((a, .lst (vs.eraseIdx j)) :: (L1 ++ Lf)) (upd H a (.lst (vs.eraseIdx j))) := s.wr
  have s3 : Sat G κ σ (env.set i none) F (((a, .lst (vs.eraseIdx j)) :: L3) ++ (L2 ++ Lf)) (upd H a (.lst (vs.eraseIdx j))) := by
    refine s2.perm ?_
    simp only [List.cons_append]
    refine List.Perm.cons _ ?_
    refine (h4.append_right Lf).trans ?_
    rw [List.append_assoc]
    exact perm_swap
  have s4 := Sat.back s3 hi (.lstO h3)
  rwa [List.set_set] at s4
theorem snd_pop {i : Nat} {a : Expr} {apos : Pos} (ha : PE X a (tVar i)) (hb : plainBase a = true) (hl : (apos.endLine == pos.line) = true) : PE X (.Call (.Attribute a "pop" apos) [] [] pos) (tE G fs W κ (.pop i)) := by
  refine ⟨fun pins s σ H Q I hq => (pe_bm0 PySem.F.plainAttrs_list PySem.F.slot_list_pop PySem.F.type_list_pop mt_pop ha (base_of hb _) hl).run pins s σ H Q I ?_⟩
  obtain ⟨env, F, Lf, sat, r⟩ := hq
  unfold evE at r
  cases e : (env[i]?).join with
  | none => rw [e] at r; exact r.elim
  | some t =>
    rw [e] at r
    cases t <;> first | exact r.elim | skip
    rename_i o ts
    cases o <;> first | exact r.elim | skip
    obtain ⟨p, vs, L1, h1, h2, h3, h4⟩ := sat.own (join_some e)
    refine ⟨.ref p, h1, .inl ⟨rfl, vs, .of h2⟩, ?_⟩
    cases et : ts[ts.length - 1]? with
    | none => simp only [et] at r; exact r.elim
    | some t =>
      simp only [et] at r
      obtain ⟨v, L2, h5, h6, h7⟩ := take_out h4 h1 h3 et
      rw [h3.length] at h5
      have r : Ok1 G κ σ F Lf Q t (env.set i (some (.lst true ts.dropLast))) := r
      refine ⟨p, vs, v, rfl, rfl, h2, h5, ?_⟩
      rw [drop_lastT] at r
      rw [drop_last]
      rw [h3.length] at h7 r
      exact r v F _ L2 (Ext.refl F) h6 h7
theorem snd_popAt (hK : X.K = G.K) {i : Nat} {ei : E} {a b : Expr} {apos : Pos} (ha : PE X a (tVar i)) (hb : plainBase a = true) (hl : (apos.endLine == pos.line) = true) (he : PE X b (tE G fs W κ ei)) (hs : starB b = false) :
    PE X (.Call (.Attribute a "pop" apos) [b] [] pos) (tE G fs W κ (.popAt i ei)) := by
  refine ⟨fun pins s σ H Q I hq => (pe_bm PySem.F.plainAttrs_list PySem.F.slot_list_pop PySem.F.type_list_pop mt_popAt ha (pa_cons he pa_nil (starEach_cons hs)) (base_of hb _) (few1 hs) hl (starEach_cons hs) rfl).run pins s σ H Q I ?_⟩
  obtain ⟨env, F, Lf, sat, r⟩ := hq
  unfold evE at r
  cases e : (env[i]?).join with
  | none => rw [e] at r; exact r.elim
  | some t0 =>
    rw [e] at r
    have r : Rw G W κ σ F Lf (if isLst t0 = true then (evE fs ei env).bind fun j env => match j, (env[i]?).join with
      | .int j, some (.lst true ts) => if small j = true then match pIx ts.length j with
        | some j => match ts[j]? with
          | some t => Out.ok t (env.set i (some (.lst true (ts.eraseIdx j))))
          | none => .no
        | none => .no
        else .no
      | _, _ => .no
      else .no) (Ok1 G κ σ F Lf Q) := r
    by_cases h0 : isLst t0 = true
    · rw [if_pos h0] at r
      obtain ⟨w, L0, g1, g2, _⟩ := sat.get (join_some e)
      have gh := sat.has_slot (join_some e) g1
      cases t0 <;> first | cases h0 | skip
      obtain ⟨p, vs0, rfl, q0, _, _⟩ := gh.lst sat.ext
      refine ⟨.ref p, g1, .inl ⟨rfl, vs0, hK ▸ q0⟩, env, F, Lf, sat, r.bind fun j env1 hj r1 v F1 H1 L1 e1 rep s1 => ?_⟩
      clear hj
      cases j <;> first | exact r1.elim | skip
      rename_i j
      cases rep
      cases e2 : (env1[i]?).join with
      | none => simp only [e2] at r1; exact r1.elim
      | some t1 =>
        simp only [e2] at r1
        cases t1 <;> first | exact r1.elim | skip
        rename_i o1 ts
        cases o1 <;> first | exact r1.elim | skip
        have r1 : Rw G W κ σ F Lf (if small j = true then match pIx ts.length j with
          | some j => match ts[j]? with
            | some t => Out.ok t (env1.set i (some (.lst true (ts.eraseIdx j))))
            | none => .no
          | none => .no
          else .no) (Ok1 G κ σ F Lf Q) := r1
        obtain ⟨p', vs, M1, h1, h2, h3, h4⟩ := s1.own (join_some e2)
        rw [g1] at h1; cases h1
        have hsm : small j = true := by
          cases e : small j with
          | true => rfl
          | false => rw [e] at r1; exact r1.elim
        rw [if_pos hsm] at r1
        simp only [small, Bool.and_eq_true, decide_eq_true_eq] at hsm
        cases ej : pIx ts.length j with
        | none => simp only [ej] at r1; exact r1.elim
        | some j' =>
          simp only [ej] at r1
          cases et : ts[j']? with
          | none => simp only [et] at r1; exact r1.elim
          | some t =>
            simp only [et] at r1
            obtain ⟨u, L2, h5, h6, h7⟩ := take_out h4 g1 h3 et
            have r1 : Ok1 G κ σ F Lf Q t (env1.set i (some (.lst true (ts.eraseIdx j')))) := r1
            rw [h3.length, pIx_eq] at ej
            obtain ⟨b1, b2, b3, b4⟩ := ixN_seq ej
            exact ⟨p, vs, j, j', u, rfl, rfl, h2, by omega, by omega, b1, h5, r1 u F1 _ L2 e1 h6 h7⟩
    · rw [if_neg h0] at r; exact r.elim
end
end Ev
end
section
set_option Elab.async false
set_option linter.all false
set_option maxRecDepth 100000
set_option maxHeartbeats 1000000
/-! Ev, part K: targets, iterators, list comprehensions. -/
namespace Ev
open PySem PySem.Spec PyProof.Rows L2
section
variable {G : Gm} {nm : Nm} {fs : Fns} {k : Nat} {S : Sx} {W : WX} {X : Cx} {κ : Pins} {pos : Pos} {σ : L2.St} {F : Hp} {Lf L : List Cell} {H : Hp} {env : Env}

/-! ### targets -/
theorem wipe_at {vs : List Nat} {i j : Nat} : (wipe σ vs)[j]? = if j ∈ vs then (if j < σ.length then some none else none) else σ[j]? := by
  induction vs with
  | nil => simp [wipe]
  | cons v vs ih =>
    unfold wipe
    by_cases h : v = j
    · subst h
      rw [if_pos List.mem_cons_self]
      rw [List.getElem?_set]
      simp [wipe_length]
    · rw [List.getElem?_set_ne h, ih]
      have : (j ∈ v :: vs) = (j ∈ vs) := by
        simp only [List.mem_cons, eq_iff_iff]
        exact ⟨fun q => q.elim (fun e => absurd e.symm h) id, .inr⟩
      simp only [this]
theorem wipe_set {vs : List Nat} {i : Nat} {x : Option V} (h : i ∈ vs) : wipe (σ.set i x) vs = wipe σ vs := by
  refine List.ext_getElem? fun j => ?_
  rw [wipe_at (i := i), wipe_at (i := i), List.length_set]
  by_cases q : j ∈ vs
  · rw [if_pos q, if_pos q]
  · rw [if_neg q, if_neg q, List.getElem?_set_ne (fun e => q (by rw [← e]; exact h))]
theorem wipe_wipe {vs : List Nat} : wipe (wipe σ vs) vs = wipe σ vs := by
  refine List.ext_getElem? fun j => ?_
  rw [wipe_at (i := 0), wipe_at (i := 0), wipe_length]
  by_cases q : j ∈ vs
  · rw [if_pos q, if_pos q]
  · rw [if_neg q, if_neg q]
mutual
def Tg.ix : Tg → List Nat
  | .name i => [i]
  | .tup gs => Tg.ixs gs
def Tg.ixs : List Tg → List Nat
  | [] => []
  | g :: gs => g.ix ++ Tg.ixs gs
end
/-- what a target is given: a value that nobody owns -/
def gT (G : Gm) (κ : Pins) (tg : Tg) : TG := fun v σ H Q => ∃ env F Lf t env2, Sat G κ σ env F Lf H ∧ Rep G F t v [] ∧ bindT tg t env = some env2 ∧ ∀ σ2, Sat G κ σ2 env2 F Lf H → (∀ vs : List Nat, (∀ i ∈ tg.ix, i ∈ vs) → wipe σ2 vs = wipe σ vs) → Q σ2 H
def gTs (G : Gm) (κ : Pins) (gs : List Tg) : TGs := fun ws σ H Q => ∃ env F Lf ts env2, Sat G κ σ env F Lf H ∧ Reps G F ts ws [] ∧ bindTs gs ts env = some env2 ∧ ∀ σ2, Sat G κ σ2 env2 F Lf H → (∀ vs : List Nat, (∀ i ∈ Tg.ixs gs, i ∈ vs) → wipe σ2 vs = wipe σ vs) → Q σ2 H
mutual
def chkT (S : Sx) (ks : List Nat) : Tg → Expr → Bool
  | .name i, .Name x _ => decide (S.N[i]? = some x) && S.st x && !ks.contains i
  | .tup gs, .Tuple es _ _ => chkTs S ks gs es
  | _, _ => false
def chkTs (S : Sx) (ks : List Nat) : List Tg → List Expr → Bool
  | [], [] => true
  | g :: gs, e :: es => chkT S ks g e && chkTs S ks gs es
  | _, _ => false
end
theorem chkT_star {ks : List Nat} {g : Tg} {e : Expr} (h : chkT S ks g e = true) : starB e = false := by
  cases g <;> cases e <;> first | rfl | (unfold chkT at h; cases h; done)
theorem assignEach_cons {e : Expr} {es : List Expr} {env : PySem.Env} (h : starB e = false) : assignEach (e :: es) env = (false, assign e env) :: assignEach es env := by
  cases e <;> first | rfl | cases h
theorem chkTs_each {ks : List Nat} {env : PySem.Env} : ∀ {gs : List Tg} {es : List Expr}, chkTs S ks gs es = true → (assignEach es env).length = gs.length ∧ (assignEach es env).findIdx? (·.1) = none
  | [], [], _ => ⟨rfl, rfl⟩
  | [], _ :: _, h => by unfold chkTs at h; cases h
  | _ :: _, [], h => by unfold chkTs at h; cases h
  | g :: gs, e :: es, h => by
    unfold chkTs at h
    simp only [Bool.and_eq_true] at h
    obtain ⟨h1, h2⟩ := chkTs_each (env := env) h.2
    rw [assignEach_cons (chkT_star h.1)]
    refine ⟨by simp [h1], ?_⟩
    rw [List.findIdx?_cons, h2]
    rfl
/-- a slot is given a value that nobody owns -/
theorem Sat.storeF {i : Nat} {t : T} {v : V} (s : Sat G κ σ env F Lf H) (hk : ∀ p ∈ κ, p.1 ≠ i) (r : Rep G F t v []) : Sat G κ (σ.set i (some v)) (env.set i (some t)) F Lf H := by
  by_cases hi : i < env.length
  · exact Sat.store (L1 := []) s hi hk r
  · have h2 := s.len
    rw [List.set_eq_of_length_le (by omega), List.set_eq_of_length_le (by omega)]
    exact s
theorem Sat.storeL {i : Nat} {t : T} {v : V} {L1 : List Cell} (s : Sat G κ σ env F (L1 ++ Lf) H) (hk : ∀ p ∈ κ, p.1 ≠ i) (r : Rep G F t v L1) : Sat G κ (σ.set i (some v)) (env.set i (some t)) F Lf H := by
  by_cases hi : i < env.length
  · exact Sat.store s hi hk r
  · have h2 := s.len
    rw [List.set_eq_of_length_le (by omega), List.set_eq_of_length_le (by omega)]
    exact s.drop
theorem bindTs_len : ∀ {gs : List Tg} {ts : List T} {env env2 : Env}, bindTs gs ts env = some env2 → ts.length = gs.length
  | [], [], _, _, _ => rfl
  | [], _ :: _, _, _, h => by cases h
  | _ :: _, [], _, _, h => by cases h
  | g :: gs, t :: ts, env, env2, h => by
    unfold bindTs at h
    cases e1 : bindT g t env with
    | none => rw [e1] at h; cases h
    | some env1 =>
      rw [e1] at h
      simp [bindTs_len h]
/-- the parameters that are kept -/
def Keeps (κ : Pins) (ks : List Nat) : Prop := ∀ p ∈ κ, p.1 ∈ ks
theorem Keeps.ne {ks : List Nat} {i : Nat} (h : Keeps κ ks) (hi : ks.contains i = false) : ∀ p ∈ κ, p.1 ≠ i := fun p hp e => by
  have := h p hp
  rw [e] at this
  rw [List.contains_iff_mem.mpr this] at hi
  cases hi
mutual
theorem snd_tg (o : XOk G nm fs k S W X) {ks : List Nat} (hk : Keeps κ ks) : ∀ {g : Tg} {e : Expr}, chkT S ks g e = true → PG X e (gT G κ g)
  | .name i, e, h => by
    cases e <;> first | (unfold chkT at h; cases h; done) | skip
    rename_i x p
    unfold chkT at h
    simp only [Bool.and_eq_true, decide_eq_true_eq, Bool.not_eq_true'] at h
    obtain ⟨⟨h1, h2⟩, h3⟩ := h
    obtain ⟨q1, q2⟩ := o.st x h2
    refine ⟨fun pins s σ H v u Q I r hq => (pg_name (by rw [o.hN]; exact o.nd) (by rw [o.hN]; exact h1) q1 q2).run pins s σ H v u Q I r ?_⟩
    obtain ⟨env, F, Lf, t, env2, sat, rep, e, hQ⟩ := hq
    unfold bindT at e
    cases e
    exact hQ _ (sat.storeF (hk.ne h3) rep) fun vs hv => wipe_set (hv i (by unfold Tg.ix; exact List.mem_singleton.mpr rfl))
  | .tup gs, e, h => by
    cases e <;> first | (unfold chkT at h; cases h; done) | skip
    rename_i es j p
    unfold chkT at h
    obtain ⟨a1, a2⟩ := chkTs_each (env := X.env) h
    have ih := snd_tgs o hk h
    refine ⟨fun pins s σ H v u Q I r hq => ?_⟩
    obtain ⟨env, F, Lf, t, env2, sat, rep, e, hQ⟩ := hq
    have e' := e
    unfold bindT at e
    cases t <;> first | (cases e; done) | skip
    · rename_i ts
      cases rep with
      | @tup a vs _ q rr =>
        have q' : SqT X.K H a vs := by rw [o.hK]; exact sat.ext.sqT q
        refine (pg_tup o.calm ih a1 a2).run pins s σ H _ u Q I r ⟨a, vs, rfl, q', ?_, env, F, Lf, ts, env2, sat, rr, e, fun σ2 s2 w => hQ σ2 s2 fun vs hv => w vs fun i hi => hv i (by unfold Tg.ix; exact hi)⟩
        rw [← rr.length]
        exact bindTs_len e
    · rename_i b ts
      cases b <;> first | (cases e; done) | skip
      cases rep with
      | @lstF a vs _ q rr =>
        have q' : SqL X.K H a vs := by rw [o.hK]; exact sat.ext.sqL q
        refine (pg_unl o.calm ih a1 a2).run pins s σ H _ u Q I r ⟨a, vs, rfl, q', ?_, env, F, Lf, ts, env2, sat, rr, e, fun σ2 s2 w => hQ σ2 s2 fun vs hv => w vs fun i hi => hv i (by unfold Tg.ix; exact hi)⟩
        rw [← rr.length]
        exact bindTs_len e
theorem snd_tgs (o : XOk G nm fs k S W X) {ks : List Nat} (hk : Keeps κ ks) : ∀ {gs : List Tg} {es : List Expr}, chkTs S ks gs es = true → PGs X es (gTs G κ gs)
  | [], [], _ => by
    refine ⟨fun pins s σ H vs us Q I r hq => pgs_nil.run pins s σ H vs us Q I r ?_⟩
    obtain ⟨env, F, Lf, ts, env2, sat, rep, e, hQ⟩ := hq
    cases ts with
    | nil => cases rep; cases e; exact ⟨rfl, hQ σ sat fun _ _ => rfl⟩
    | cons t ts => cases e
  | [], _ :: _, h => by unfold chkTs at h; cases h
  | _ :: _, [], h => by unfold chkTs at h; cases h
  | g :: gs, e :: es, h => by
    unfold chkTs at h
    simp only [Bool.and_eq_true] at h
    have ih1 := snd_tg o hk h.1
    have ih2 := snd_tgs o hk h.2
    refine ⟨fun pins s σ H vs us Q I r hq => (pgs_cons ih1 ih2 (by rw [assignEach_cons (chkT_star h.1)]; rfl)).run pins s σ H vs us Q I r ?_⟩
    obtain ⟨env, F, Lf, ts, env2, sat, rep, e, hQ⟩ := hq
    cases ts with
    | nil => cases e
    | cons t ts =>
      obtain ⟨v, ws, rfl, r1, r2⟩ := rep.nil_cons
      unfold bindTs at e
      cases e1 : bindT g t env with
      | none => rw [e1] at e; cases e
      | some env1 =>
        rw [e1] at e
        refine ⟨v, ws, rfl, env, F, Lf, t, env1, sat, r1, e1, fun σ1 s1 w1 => ⟨env1, F, Lf, ts, env2, s1, r2, e, fun σ2 s2 w2 => hQ σ2 s2 fun vs hv => ?_⟩⟩
        unfold Tg.ixs at hv
        rw [w2 vs fun i hi => hv i (List.mem_append_right _ hi), w1 vs fun i hi => hv i (List.mem_append_left _ hi)]
end
end
end Ev
end
section
set_option Elab.async false
set_option linter.all false
set_option maxRecDepth 100000
set_option maxHeartbeats 2000000
/-! Ev, part La: enumerate of a tuple. -/
namespace Ev
open PySem PySem.Spec PyProof.Rows L2
theorem meets_enum1 {v : Value} {o : Obj} {H : Heap → Prop} (B : Begins v o H) :
    Meets (Builtin.«enumerate.__new__» ⟨[.type "enumerate", v], []⟩) (fun _ R s => H s.heap ∧
      R (.ok (.ret (.ref (s.heap.push o).objs.size))) { s with heap := (s.heap.push o).push { cls := .type "enumerate", data := .fields #[.none, .bool false, .ref s.heap.objs.size, rawInt 0, .none, .none] } }) := by
  refine .of_wp fun prog w A R s h => ?_
  obtain ⟨hp, g, d, tk, os⟩ := s
  obtain ⟨h1, h⟩ := h
  have hsub := sub_enumerate
  have q1 : ∀ {A' : Around} {E Q : Value → Shared → Prop}, Q (.ref hp.objs.size) ⟨hp.push o, g, d, tk, os⟩ → wpAny (model prog w) A' (pyIter v) Q E ⟨hp, g, d, tk, os⟩ := fun q => B.iter prog w _ _ ⟨hp, g, d, tk, os⟩ _ h1 q
  wp_walk using q1
  refine wpAny_stack_any fun st => wpAny_pure ?_
  split
  · rename_i c _ _ _ _ _
    cases (c == Value.type "enumerate") <;> (wp_walk using q1; exact ⟨_, rfl, h⟩)
  · (wp_walk using q1; exact ⟨_, rfl, h⟩)
section
variable {prog : Program} {w : World} {A : Around} {E : Value → Shared → Prop} {s : Shared}
theorem call_enum1 {v : Value} {o : Obj} {H : Heap → Prop} {Q : Value → Shared → Prop} (B : Begins v o H) (h1 : H s.heap)
    (h : ∀ h', IsEnum h' (s.heap.objs.size + 1) s.heap.objs.size 0 .none → h'.get? s.heap.objs.size = some o → (∀ b o, s.heap.get? b = some o → h'.get? b = some o) → Q (.ref (s.heap.objs.size + 1)) { s with heap := h' }) :
    wpAny (model prog w) A (call (.type "enumerate") [v]) Q E s := by
  refine callType_new F.called_enumerate (by decide) (F.typeCall_enumerate_1 _) (F.newCall_enumerate_1 _) (fun obj => F.args_object_init_2 obj _) F.entry_enumerate_new (meets_enum1 B) ⟨h1, ?_⟩
  have hz : (s.heap.push o).objs.size = s.heap.objs.size + 1 := Heap.size_push ..
  show _ ∧ _
  rw [hz]
  have he : IsEnum ((s.heap.push o).push { cls := .type "enumerate", data := .fields #[.none, .bool false, .ref s.heap.objs.size, rawInt 0, .none, .none] }) (s.heap.objs.size + 1) s.heap.objs.size 0 .none := by
    have q := Heap.get?_push_size (s.heap.push o) (o := { cls := .type "enumerate", data := .fields #[.none, .bool false, .ref s.heap.objs.size, rawInt 0, .none, .none] }) rfl
    rw [hz] at q
    exact q
  exact ⟨⟨_, he, rfl⟩, h _ he (Heap.get?_push_of_some _ (Heap.get?_push_size _ B.free)) fun b o x => Heap.get?_push_of_some _ (Heap.get?_push_of_some _ x)⟩
end
theorem enum_endT {prog : Program} {w : World} {A : Around} {E : Value → Shared → Prop} {s : Shared} {e it a : Addr} {items : Array Value} {j : Nat} {i : Int} {old : Value} {Q : Option Value → Shared → Prop} (hh : A.in1.handled = none) (he : IsEnum s.heap e it i old) (hit : s.heap.IsTupleIter it a j)
    (ht : s.heap.IsTuple a items) (hx : items[j]? = none) (hQ : ∀ h', Heap.ExtBut it s.heap h' → Q none { s with heap := h' }) : wpAny (model prog w) A (pyNext (.ref e)) Q E s := by
  have ty : s.TypeIs (.ref e) "enumerate" := ⟨_, he, rfl⟩
  unfold pyNext
  apply wpAny_bind
  apply wpAny_attempt
  apply wpAny_callSpecial?_slot (name := Str.ofString "__next__") ty F.slot_enumerate_next
  apply wpAny_call_entry F.slot_enumerate_next ty F.entry_enumerate_next ?_ (F.args_enumerate_next_1 _)
  show wpAny _ _ (field (.ref e) 2 >>= fun v => _) _ _ _
  apply wpAny_bind (wpAny_field he rfl (x := .ref it) rfl ?_)
  apply wpAny_bind (wpAny_nextOf_tuple_end hh hit ht hx ?_)
  rintro h' x he' ⟨o, ho, hc⟩
  exact wpAny_bind (wpAny_isInstance (T := "StopIteration") (b := true) ⟨o, ho, hc⟩ isSubtype_stop (wpAny_pure (hQ _ he')))
/-- the tuple at a, each item in a new pair with its place -/
def ItEt (K : PySem.W.Frag) (a : Addr) : It where
  go := fun i H => ∃ (xs : List V) (x : V), SqT K H a xs ∧ xs[i]? = some x
  yld := fun i H v H' => ∃ T x, v = .ref T ∧ H T = none ∧ H' = upd H T (.tup [.int (i : Nat), x]) ∧ ∀ xs, SqT K H a xs → xs[i]? = some x
  stop := fun i H => ∃ xs : List V, SqT K H a xs ∧ xs.length ≤ i
theorem apart_ {h : Heap} {a it : Addr} {i : Nat} {its : Array Value} (p : h.IsTuple a its) (q : h.IsTupleIter it a i) : a ≠ it := by
  rintro rfl
  obtain ⟨o, e, c, _⟩ := p
  obtain ⟨o', e', c', _⟩ := q
  rw [e] at e'
  cases e'
  rw [c] at c'
  simp at c'
theorem turn_enumT {P : Program} {w : World} {K : PySem.W.Frag} {elts : List Expr} {kk : Nat} {tpos : Pos} (a e it : Addr) :
    Turn P w K (.Tuple elts kk tpos) (ItEt K a) [e, it] e (fun i h => (∃ old, IsEnum h e it ((i : Nat) : Int) old) ∧ h.IsTupleIter it a i ∧ e ≠ it) := by
  have two : ∀ {b : Addr}, b ∈ [e, it] → b = e ∨ b = it := fun hb => by simpa using hb
  constructor
  · simp
  · rintro i h ⟨⟨old, he⟩, ⟨o, ho, hc, hd⟩, _⟩ b hb
    rcases two hb with rfl | rfl
    · exact ⟨_, he, fun v q => nomatch q⟩
    · refine ⟨o, ho, fun v q => ?_⟩
      rw [hd] at q
      cases q
  · rintro i h h' ⟨⟨old, he⟩, hi, hne⟩ k
    exact ⟨⟨old, k e (by simp) _ he⟩, hi.at fun o q => k it (by simp) o q, hne⟩
  · rintro X rfl rfl rfl hc i pins s σ H E I hf ⟨⟨old, he⟩, hit, hne⟩ ⟨xs, x, hq, hx⟩
    obtain ⟨its, rv, p, hz⟩ := I.tuple hq
    obtain ⟨u, hu, ru⟩ := rv.get hx
    have p : s.heap.IsTuple a its.toArray := p
    have hel : e < s.heap.objs.size := Heap.lt_size he
    have hil : it < s.heap.objs.size := by obtain ⟨_, q, _⟩ := hit; exact Heap.lt_size q
    have ha : a ≠ it := apart_ p hit
    have hae : e ≠ a := by
      rintro rfl
      obtain ⟨o, q1, q2, _⟩ := p
      have he' : s.heap.get? e = some _ := he
      rw [q1] at he'
      cases he'
      simp at q2
    have D := Draws.tuple (prog := X.prog) (w := X.w) (A := X.A.in1) (I.ok.hd hc) it a ha its.toArray
    have hi : i < its.toArray.size := by
      have := (List.getElem?_eq_some_iff.mp hu).1
      simpa using this
    refine wpAny_pyNext_enum_itemD D he ⟨hit, p⟩ hi hne (by simp [hne, hae]) fun u' h' tk hP ho hst hT hsz hk => ?_
    have eu : u' = u := by
      rw [List.getElem?_toArray] at hP
      rw [hP] at hu
      cases hu
      rfl
    subst eu
    refine ⟨_, rfl, wpAny_letOwnedTupleGo_enum (s := { s with heap := h', toks := tk + 1 }) ho fun h'' he' sb => ?_⟩
    have hT2 := (sb.2 _ (Nat.ne_of_gt hel)).trans hT
    have new : ObjOk X.prog X.w (upd H s.heap.objs.size (.tup [.int (i : Nat), x])) h'' s.heap.objs.size (.tup [.int (i : Nat), x]) :=
      ⟨by show 2 ≤ sizeLine; decide, [.int i tk, u'], .cons ⟨_, rfl⟩ (.cons ru .nil), ⟨_, hT2, rfl, _, rfl⟩⟩
    have I1 : Inv X pins σ (upd H s.heap.objs.size (.tup [.int (i : Nat), x])) { s with heap := h'', toks := tk + 1 } :=
      I.turnedNew (ch := [e, it]) (fun b ob hb q => (sb.2 b (fun z => hb (by rw [z]; simp))).trans (hk b ob (fun z => hb (by rw [z]; simp)) (fun z => hb (by rw [z]; simp)) q)) hf (Nat.le_refl _) new
    refine ⟨.ref s.heap.objs.size, _, I1, rfl, ⟨_, x, rfl, I.hok.fresh (Nat.le_refl _), rfl, fun ys hy => ?_⟩, ⟨⟨u', ?_⟩, hst.1.at fun o q => (sb.2 it (Ne.symm hne)).trans q, hne⟩, fun b hb => ?_⟩
    · rw [I.tuple_inj hy hq]
      exact hx
    · have e1 : ((i + 1 : Nat) : Int) = (i : Int) + 1 := by omega
      rw [e1]
      exact he'
    · have hb' : b < s.heap.objs.size := by
        rcases two hb with rfl | rfl
        · exact hel
        · exact hil
      rw [upd_ne (Nat.ne_of_lt hb')]
      exact (hf b hb).1
  · rintro X rfl rfl rfl hc i pins s σ H E I hf ⟨⟨old, he⟩, hit, hne⟩ ⟨xs, hq, hx⟩
    obtain ⟨its, rv, p, hz⟩ := I.tuple hq
    obtain ⟨f0, f1, f2, f3, f4, f5⟩ := hf it (by simp)
    have hl := rv.length
    exact enum_endT (I.ok.hd hc) he hit (show s.heap.IsTuple a its.toArray from p) (by simp; omega) fun h' eb => ⟨rfl, I.turned (t' := s.toks) (fun b o hb q => eb b o hb q) f0 f1 f3 f4 f5⟩
  · intro A i s Q E st h
    obtain ⟨⟨_, he⟩, _⟩ := st
    exact wpAny_pyIter_enum he h
/-- of a list or of a tuple -/
def iEnumA (K : PySem.W.Frag) (ta : TA) : TI := fun σ H R => ta σ H fun vs H1 => ∃ a xs, vs = [.ref a] ∧ ((SqL K H1 a xs ∧ R (Ite K a) H1) ∨ (SqT K H1 a xs ∧ R (ItEt K a) H1))
theorem pi_enumA {X : Cx} {e : Expr} {ta : TA} {p pos tpos : Pos} {elts : List Expr} {kk : Nat} (hg : Gl X "enumerate") (hm : X.mg "enumerate" = none) (ha : PA X [e] ta) (hs : starEach [e] X.env = [(false, eval e X.env)]) :
    PI X (.Tuple elts kk tpos) (.Call (.Name "enumerate" p) [e] [] pos) (iEnumA X.K ta) := by
  constructor
  intro pins s σ H R I h
  apply Call_ (ld_blt I hg hm boot_enumerate (PyProof.Rows.callWith_type1 (thn (ha.run pos pins s σ H _ I h) ?_) hs rfl))
  rintro us s1 ⟨vs, H1, I1, r1, a, xs, rfl, q1⟩
  cases r1 with
  | cons r rr =>
    cases rr
    cases r
    have fp : ∀ b ∈ [s1.heap.objs.size + 1, s1.heap.objs.size], FpOk X pins H1 b := fun b hb => by
      have hle : s1.heap.objs.size ≤ b := by
        have e' : b = s1.heap.objs.size + 1 ∨ b = s1.heap.objs.size := by simpa using hb
        omega
      exact I1.fpOk hle (I1.hok.fresh hle)
    rcases q1 with ⟨hq, q⟩ | ⟨hq, q⟩
    · obtain ⟨its, rv, p', hz⟩ := I1.list hq
      refine call_enumerate_list p'.isList fun h' he hit hsz hk => wpAny_pyIter_enum he ?_
      exact ⟨s1.heap.objs.size + 1, [s1.heap.objs.size + 1, s1.heap.objs.size], _, _, H1, rfl, I1.kept (t' := s1.toks) hk, turn_enum a _ _, ⟨⟨.none, he⟩, hit, Nat.succ_ne_self _⟩, fp, q⟩
    · obtain ⟨its, rv, p', hz⟩ := I1.tuple hq
      refine call_enum1 (begins_tuple a its.toArray) (show s1.heap.IsTuple a its.toArray from p') fun h' he hit hk => wpAny_pyIter_enum he ?_
      exact ⟨s1.heap.objs.size + 1, [s1.heap.objs.size + 1, s1.heap.objs.size], _, _, H1, rfl, I1.kept (t' := s1.toks) hk, turn_enumT a _ _, ⟨⟨.none, he⟩, ⟨_, hit, rfl, rfl⟩, Nat.succ_ne_self _⟩, fp, q⟩
theorem walk_enumT {K : PySem.W.Frag} {a : Addr} {xs : List V} : Walk (ItEt K a) xs.length (fun H => SqT K H a xs) (YPair (fun i => some (.int (i : Nat))) (fun i => xs[i]?)) := by
  constructor
  · exact fun i _ hi q => ⟨xs, xs[i], q, by simp [hi]⟩
  · exact fun _ q => ⟨xs, q, Nat.le_refl _⟩
  · rintro i H v H' _ q ⟨T0, x, h1, h2, h3, h4⟩
    exact ⟨T0, .int (i : Nat), x, h1, h2, h3, rfl, h4 xs q⟩
end Ev
end
section
set_option Elab.async false
set_option linter.all false
set_option maxRecDepth 100000
set_option maxHeartbeats 1000000
/-! Ev, part L: what a loop walks over. -/
namespace Ev
open PySem PySem.Spec PyProof.Rows L2
/-- the i-th item comes, with new facts perhaps -/
def YT (G : Gm) (F : Hp) (its : List T) : Nat → Hp → V → Hp → Prop := fun i H x H' => ∃ t, its[i]? = some t ∧ ∀ F1, Ext F F1 → Ext F1 H → ∃ F2, Res F1 H F2 H' [] ∧ Rep G F2 t x []
def ItOk (G : Gm) (F : Hp) (J : It) (its : List T) : Prop := Walk J its.length (fun H => Ext F H) (YT G F its)
/-- an iterator over what the arguments are -/
def tIt (G : Gm) (fs : Fns) (W : WX) (κ : Pins) (k : Ik) (es : Es) : TI := fun σ H R => ∃ env F Lf, Sat G κ σ env F Lf H ∧ Rw G W κ σ F Lf (evL fs es env) fun ts env' => ∃ its, iterT k (T.fzs ts) = some its ∧
  ∀ J F' H', Ext F F' → ItOk G F' J its → Sat G κ σ env' F' Lf H' → R J H'
section
variable {G : Gm} {nm : Nm} {fs : Fns} {k : Nat} {S : Sx} {W : WX} {X : Cx} {κ : Pins} {pos : Pos} {σ : L2.St} {F : Hp} {Lf L : List Cell} {H : Hp} {env : Env}
theorem Sat.freezes {ts : List T} {vs : List V} {L1 : List Cell} (h : Sat G κ σ env F (L1 ++ Lf) H) (r : Reps G F ts vs L1) : ∃ F', Ext F F' ∧ Reps G F' (T.fzs ts) vs [] ∧ Sat G κ σ env F' Lf H := by
  obtain ⟨⟨Le, q, a⟩, k⟩ := h
  obtain ⟨F', e, r', a'⟩ := r.fz (a.perm perm_swap)
  exact ⟨F', e, r', ⟨⟨Le, q.mono e, a'⟩, k⟩⟩
theorem itA {ik : Ik} {es : Es} {R : It → Hp → Prop} {Q : List V → Hp → Prop} (hq : tIt G fs W κ ik es σ H R)
    (h : ∀ vs H1 ts its F1, iterT ik (T.fzs ts) = some its → Reps G F1 (T.fzs ts) vs [] → Ext F1 H1 → (∀ J, ItOk G F1 J its → R J H1) → Q vs H1) : tL G fs W κ es σ H Q := by
  obtain ⟨env, F, Lf, sat, r⟩ := hq
  refine ⟨env, F, Lf, sat, r.imp fun ts env1 r1 vs F1 H1 L1 e1 rep s1 => ?_⟩
  obtain ⟨its, hi, r1⟩ := r1
  obtain ⟨F2, e2, r2, s2⟩ := s1.freezes rep
  exact h vs H1 ts its F2 hi r2 s2.ext fun J hJ => r1 J F2 H1 (e1.trans e2) hJ s2
theorem fzs_one {ts : List T} {t : T} (h : T.fzs ts = [t]) : ∃ u, ts = [u] ∧ u.fz = t := by
  cases ts with
  | nil => cases h
  | cons u r =>
    cases r with
    | nil => cases h; exact ⟨u, rfl, rfl⟩
    | cons a b => cases h
theorem upto_len : ∀ (n : Nat) (a : Int), (upto a n).length = n
  | 0, _ => rfl
  | n + 1, a => by show (upto (a + 1) n).length + 1 = n + 1; rw [upto_len n]
theorem upto_at : ∀ (n : Nat) (a : Int) (i : Nat), i < n → (upto a n)[i]? = some (.int (a + i))
  | 0, _, _, h => by omega
  | n + 1, a, 0, _ => by show some (T.int a) = _; simp
  | n + 1, a, i + 1, h => by
    show (upto (a + 1) n)[i]? = _
    rw [upto_at n (a + 1) i (by omega)]
    congr 2
    omega
theorem downto_len : ∀ (n : Nat) (a : Int), (downto a n).length = n
  | 0, _ => rfl
  | n + 1, a => by show (downto (a - 1) n).length + 1 = n + 1; rw [downto_len n]
theorem downto_at : ∀ (n : Nat) (a : Int) (i : Nat), i < n → (downto a n)[i]? = some (.int (a + i * (-1)))
  | 0, _, _, h => by omega
  | n + 1, a, 0, _ => by show some (T.int a) = _; simp
  | n + 1, a, i + 1, h => by
    show (downto (a - 1) n)[i]? = _
    rw [downto_at n (a - 1) i (by omega)]
    congr 2
    omega
theorem itok_range {lo : Int} {n : Nat} : ItOk G F (Itr lo n) (upto lo n) := by
  have w := walk_range (lo := lo) (n := n)
  unfold ItOk
  rw [upto_len]
  refine w.mono (fun _ _ => trivial) fun i H x H' hi _ y => ?_
  obtain ⟨e1, e2⟩ := y
  subst e1 e2
  exact ⟨_, upto_at n lo i hi, fun F1 _ _ => ⟨F1, Res.refl, .int⟩⟩
theorem itok_down {lo : Int} {n : Nat} : ItOk G F (Itc lo (-1) n) (downto lo n) := by
  have w := walk_rangeC (lo := lo) (c := -1) (n := n)
  unfold ItOk
  rw [downto_len]
  refine w.mono (fun _ _ => trivial) fun i H x H' hi _ y => ?_
  obtain ⟨e1, e2⟩ := y
  subst e1 e2
  exact ⟨_, downto_at n lo i hi, fun F1 _ _ => ⟨F1, Res.refl, .int⟩⟩
theorem reps_ix : ∀ {ts : List T} {vs : List V} {j : Nat} {v : V}, Reps G F ts vs [] → vs[j]? = some v → ∃ t, ts[j]? = some t ∧ Rep G F t v []
  | ts, vs, j, v, r, h => by
    have hl := r.length
    have hj : j < vs.length := (List.getElem?_eq_some_iff.mp h).1
    have e : ts[j]? = some (ts[j]'(by omega)) := List.getElem?_eq_getElem (by omega)
    have hp := r.nil_all
    rw [List.all_eq_true] at hp
    obtain ⟨u, h1, h2⟩ := r.at_ e (hp _ (List.getElem_mem _))
    rw [h] at h1; cases h1
    exact ⟨_, e, h2⟩
theorem itok_list {K : PySem.W.Frag} {a : Addr} {vs : List V} {ts : List T} (q : SqL K F a vs) (r : Reps G F ts vs []) : ItOk G F (Itl K a) ts := by
  have w := walk_list (K := K) (a := a) (xs := vs)
  unfold ItOk
  rw [r.length]
  refine w.mono (fun H e => Ext.sqL e q) fun i H x H' hi _ y => ?_
  obtain ⟨e1, e2⟩ := y
  subst e1
  obtain ⟨t, h1, h2⟩ := reps_ix r e2
  exact ⟨t, h1, fun F1 e _ => ⟨F1, Res.refl, h2.mono e⟩⟩
theorem itok_tup {K : PySem.W.Frag} {a : Addr} {vs : List V} {ts : List T} (q : SqT K F a vs) (r : Reps G F ts vs []) : ItOk G F (Itt K a) ts := by
  have w := walk_tup (K := K) (a := a) (xs := vs)
  unfold ItOk
  rw [r.length]
  refine w.mono (fun H e => Ext.sqT e q) fun i H x H' hi _ y => ?_
  obtain ⟨e1, e2⟩ := y
  subst e1
  obtain ⟨t, h1, h2⟩ := reps_ix r e2
  exact ⟨t, h1, fun F1 e _ => ⟨F1, Res.refl, h2.mono e⟩⟩
theorem res_pair {F1 : Hp} {H : Hp} {T0 : Addr} {x y : V} {t u : T} (hT : H T0 = none) (e : Ext F1 H) (r1 : Rep G F1 t x []) (r2 : Rep G F1 u y []) :
    ∃ F2, Res F1 H F2 (upd H T0 (.tup [x, y])) [] ∧ Rep G F2 (.tup [t, u]) (.ref T0) [] := by
  have q := Res.newF (o := .tup [x, y]) e hT
  exact ⟨_, q, .tup (.of upd_same) (.cons (L1 := []) (L2 := []) (r1.mono q.1) (.cons (L1 := []) (L2 := []) (r2.mono q.1) .nil))⟩
theorem enum_len : ∀ (ts : List T) (n : Nat), (iterT.enumT n ts).length = ts.length
  | [], _ => rfl
  | t :: ts, n => by show (iterT.enumT (n + 1) ts).length + 1 = _; rw [enum_len ts]; rfl
theorem enum_at : ∀ (ts : List T) (n i : Nat) (t : T), ts[i]? = some t → (iterT.enumT n ts)[i]? = some (.tup [.int ((n + i : Nat) : Int), t])
  | [], _, _, _, h => by simp at h
  | t :: ts, n, 0, u, h => by simp at h; subst h; show some (T.tup [.int n, t]) = _; simp
  | t :: ts, n, i + 1, u, h => by
    show (iterT.enumT (n + 1) ts)[i]? = _
    rw [enum_at ts (n + 1) i u (by simpa using h)]
    congr 5
    omega
theorem itok_enum {K : PySem.W.Frag} {a : Addr} {vs : List V} {ts : List T} (q : SqL K F a vs) (r : Reps G F ts vs []) : ItOk G F (Ite K a) (iterT.enumT 0 ts) := by
  have w := walk_enum (K := K) (a := a) (xs := vs)
  unfold ItOk
  rw [enum_len, r.length]
  refine w.mono (fun H e => Ext.sqL e q) fun i H x H' hi _ y => ?_
  obtain ⟨T0, u, v, rfl, hT, rfl, e1, e2⟩ := y
  cases e1
  obtain ⟨t, h1, h2⟩ := reps_ix r e2
  refine ⟨_, enum_at ts 0 i t h1, fun F1 e eh => ?_⟩
  rw [Nat.zero_add]
  exact res_pair hT eh .int (h2.mono e)
theorem itok_enumT {K : PySem.W.Frag} {a : Addr} {vs : List V} {ts : List T} (q : SqT K F a vs) (r : Reps G F ts vs []) : ItOk G F (ItEt K a) (iterT.enumT 0 ts) := by
  have w := walk_enumT (K := K) (a := a) (xs := vs)
  unfold ItOk
  rw [enum_len, r.length]
  refine w.mono (fun H e => Ext.sqT e q) fun i H x H' hi _ y => ?_
  obtain ⟨T0, u, v, rfl, hT, rfl, e1, e2⟩ := y
  cases e1
  obtain ⟨t, h1, h2⟩ := reps_ix r e2
  refine ⟨_, enum_at ts 0 i t h1, fun F1 e eh => ?_⟩
  rw [Nat.zero_add]
  exact res_pair hT eh .int (h2.mono e)
theorem zip_len : ∀ (xs ys : List T), (iterT.zipT xs ys).length = min xs.length ys.length
  | [], ys => by unfold iterT.zipT; simp
  | x :: xs, [] => by unfold iterT.zipT; simp
  | x :: xs, y :: ys => by show (iterT.zipT xs ys).length + 1 = _; rw [zip_len xs ys]; simp only [List.length_cons]; omega
theorem zip_at : ∀ (xs ys : List T) (i : Nat) (t u : T), xs[i]? = some t → ys[i]? = some u → (iterT.zipT xs ys)[i]? = some (.tup [t, u])
  | [], ys, _, _, _, h, _ => by simp at h
  | x :: xs, [], _, _, _, _, h => by simp at h
  | x :: xs, y :: ys, 0, t, u, h1, h2 => by simp at h1 h2; subst h1 h2; rfl
  | x :: xs, y :: ys, i + 1, t, u, h1, h2 => by
    show (iterT.zipT xs ys)[i]? = _
    exact zip_at xs ys i t u (by simpa using h1) (by simpa using h2)
theorem itok_zip {K : PySem.W.Frag} {a b : Addr} {vs ws : List V} {ts us : List T} (q : SqL K F a vs) (r : Reps G F ts vs []) (q' : SqL K F b ws) (r' : Reps G F us ws []) : ItOk G F (Itz K a b) (iterT.zipT ts us) := by
  have w := walk_zip (K := K) (a := a) (b := b) (xs := vs) (ys := ws) rfl
  unfold ItOk
  rw [zip_len, r.length, r'.length]
  refine w.mono (fun H e => ⟨Ext.sqL e q, Ext.sqL e q'⟩) fun i H x H' hi _ y => ?_
  obtain ⟨T0, u, v, rfl, hT, rfl, e1, e2⟩ := y
  obtain ⟨t, h1, h2⟩ := reps_ix r e1
  obtain ⟨t', h3, h4⟩ := reps_ix r' e2
  exact ⟨_, zip_at ts us i t t' h1 h3, fun F1 e eh => res_pair hT eh (h2.mono e) (h4.mono e)⟩
theorem walk_zipT {K : PySem.W.Frag} {a b : Addr} {xs ys : List V} : Walk (RZ.ItzT K a b) (min xs.length ys.length) (fun H => SqT K H a xs ∧ SqT K H b ys) (YPair (fun i => xs[i]?) (fun i => ys[i]?)) := by
  constructor
  · intro i H hi q
    have h1 : i < xs.length := by omega
    have h2 : i < ys.length := by omega
    exact ⟨xs, ys, _, _, q.1, q.2, List.getElem?_eq_getElem h1, List.getElem?_eq_getElem h2⟩
  · exact fun H q => ⟨xs, ys, q.1, q.2, by omega⟩
  · intro i H v H' _ q ⟨T0, x, z, h1, h2, h3, h4, h5⟩
    exact ⟨T0, x, z, h1, h2, h3, h4 _ q.1, h5 _ q.2⟩
theorem itok_zipT {K : PySem.W.Frag} {a b : Addr} {vs ws : List V} {ts us : List T} (q : SqT K F a vs) (r : Reps G F ts vs []) (q' : SqT K F b ws) (r' : Reps G F us ws []) : ItOk G F (RZ.ItzT K a b) (iterT.zipT ts us) := by
  have w := walk_zipT (K := K) (a := a) (b := b) (xs := vs) (ys := ws)
  unfold ItOk
  rw [zip_len, r.length, r'.length]
  refine w.mono (fun H e => ⟨Ext.sqT e q, Ext.sqT e q'⟩) fun i H x H' hi _ y => ?_
  obtain ⟨T0, u, v, rfl, hT, rfl, e1, e2⟩ := y
  obtain ⟨t, h1, h2⟩ := reps_ix r e1
  obtain ⟨t', h3, h4⟩ := reps_ix r' e2
  exact ⟨_, zip_at ts us i t t' h1 h3, fun F1 e eh => res_pair hT eh (h2.mono e) (h4.mono e)⟩

/-- a list or a tuple -/
theorem pi_seq {tg l : Expr} {tl : TE} (hl : PE X l tl) : PI X tg l (fun σ H R => tl σ H fun x H1 => ∃ a, x = .ref a ∧ (((∃ xs, SqL X.K H1 a xs) ∧ R (Itl X.K a) H1) ∨ ((∃ xs, SqT X.K H1 a xs) ∧ R (Itt X.K a) H1))) := by
  constructor
  intro pins s σ H R I h
  apply thn (hl.run pins s σ H _ I h)
  intro v s1 ⟨x, H1, I1, r1, a, e, c⟩
  subst e
  cases r1
  have fp : ∀ b ∈ [s1.heap.objs.size], FpOk X pins H1 b := fun b hb => by
    cases List.mem_singleton.mp hb
    exact I1.fpOk (Nat.le_refl _) (I1.hok.fresh (Nat.le_refl _))
  rcases c with ⟨⟨xs, hq⟩, q⟩ | ⟨⟨xs, hq⟩, q⟩
  · obtain ⟨its, rv, p, hz⟩ := I1.list hq
    exact wpAny_pyIter_list p.isList ⟨s1.heap.objs.size, [s1.heap.objs.size], _, _, H1, rfl, I1.kept (t' := s1.toks) fun b o e => Heap.get?_push_of_some _ e, turn_list a _, ⟨_, Heap.get?_push_size _ rfl, rfl, rfl⟩, fp, q⟩
  · obtain ⟨its, rv, p, hz⟩ := I1.tuple hq
    exact wpAny_pyIter_tuple (show s1.heap.IsTuple a its.toArray from p) ⟨s1.heap.objs.size, [s1.heap.objs.size], _, _, H1, rfl, I1.kept (t' := s1.toks) fun b o e => Heap.get?_push_of_some _ e, turn_tuple a _, ⟨_, Heap.get?_push_size _ rfl, rfl, rfl⟩, fp, q⟩
theorem snd_seq {tg l : Expr} {e : E} (hK : X.K = G.K) (hl : PE X l (tE G fs W κ e)) : PI X tg l (tIt G fs W κ .seq (.cons e .nil)) := by
  refine ⟨fun pins s σ H R I hq => (pi_seq hl).run pins s σ H R I ?_⟩
  have h := itA (Q := fun vs H1 => ∃ x, vs = [x] ∧ ∃ a, x = .ref a ∧ (((∃ xs, SqL X.K H1 a xs) ∧ R (Itl X.K a) H1) ∨ ((∃ xs, SqT X.K H1 a xs) ∧ R (Itt X.K a) H1))) hq fun vs H1 ts its F1 hi r hF hR => ?_
  · obtain ⟨env, F, Lf, sat, r⟩ := h
    unfold evL at r
    refine ⟨env, F, Lf, sat, r.bind fun t env1 _ r1 v F1 H1 L1 e1 rep s1 => ?_⟩
    simp only [evL, Out.bind_ok] at r1
    have r1 : Okl G κ σ F Lf _ [t] env1 := r1
    obtain ⟨x, hx, q⟩ := r1 [v] F1 H1 (L1 ++ []) e1 (.cons rep .nil) (by rw [List.append_nil]; exact s1)
    cases hx
    exact q
  · generalize hz : T.fzs ts = zs at hi r
    cases zs with
    | nil => cases hi
    | cons z zs =>
      cases zs with
      | cons => cases z <;> first | (cases hi; done) | (rename_i b _; cases b <;> cases hi)
      | nil =>
        obtain ⟨v, ws, rfl, r1, r2⟩ := r.nil_cons
        cases r2
        refine ⟨v, rfl, ?_⟩
        cases z <;> first | (cases hi; done) | skip
        · cases hi
          cases r1 with
          | @tup a vs _ q rr =>
            refine ⟨a, rfl, .inr ⟨⟨vs, ?_⟩, hR _ (itok_tup (hK ▸ q) rr)⟩⟩
            rw [hK]; exact hF.sqT q
        · rename_i b us
          cases b <;> first | (cases hi; done) | skip
          cases hi
          cases r1 with
          | @lstF a vs _ q rr => exact ⟨a, rfl, .inl ⟨⟨vs, by rw [hK]; exact hF.sqL q⟩, hR _ (itok_list (hK ▸ q) rr)⟩⟩
theorem smallP {i : Int} (h : small i = true) : -(2 ^ 62) ≤ i ∧ i < 2 ^ 62 := by
  simp only [small, Bool.and_eq_true, decide_eq_true_eq] at h
  omega
theorem reps_int {n : Int} {v : V} (r : Rep G F (.int n) v L) : v = .int n := by cases r; rfl
theorem snd_rng1 {tg a : Expr} {es : Es} {p : Pos} (hg : Gl X "range") (hm : X.mg "range" = none) (ha : PA X [a] (tL G fs W κ es)) (hs : starB a = false) : PI X tg (.Call (.Name "range" p) [a] [] pos) (tIt G fs W κ .rg1 es) := by
  refine ⟨fun pins s σ H R I hq => (pi_range1 hg hm ha (starEach_cons hs)).run pins s σ H R I (itA hq fun vs H1 ts its F1 hi r hF hR => ?_)⟩
  generalize hz : T.fzs ts = zs at hi r
  unfold iterT at hi
  split at hi <;> first | (cases hi; done) | skip
  all_goals first | contradiction | skip
  split at hi <;> first | (cases hi; done) | skip
  rename_i hsm
  cases hi
  obtain ⟨v, ws, rfl, r1, r2⟩ := r.nil_cons
  cases r2
  cases reps_int r1
  obtain ⟨q1, q2⟩ := smallP hsm
  exact ⟨_, rfl, q1, q2, hR _ itok_range⟩
theorem snd_rng2 {tg a b : Expr} {es : Es} {p : Pos} (hg : Gl X "range") (hm : X.mg "range" = none) (ha : PA X [a, b] (tL G fs W κ es)) (hs : starB a = false) (hs2 : starB b = false) : PI X tg (.Call (.Name "range" p) [a, b] [] pos) (tIt G fs W κ .rg2 es) := by
  refine ⟨fun pins s σ H R I hq => (pi_range2 hg hm ha (by rw [starEach_cons hs, starEach_cons hs2]; rfl) (starEach_cons hs2)).run pins s σ H R I (itA hq fun vs H1 ts its F1 hi r hF hR => ?_)⟩
  generalize hz : T.fzs ts = zs at hi r
  unfold iterT at hi
  split at hi <;> first | (cases hi; done) | skip
  all_goals first | contradiction | skip
  split at hi <;> first | (cases hi; done) | skip
  rename_i hsm
  cases hi
  obtain ⟨v, ws, rfl, r1, r2⟩ := r.nil_cons
  obtain ⟨v2, ws2, rfl, r3, r4⟩ := r2.nil_cons
  cases r4
  cases reps_int r1
  cases reps_int r3
  simp only [Bool.and_eq_true] at hsm
  obtain ⟨q1, q2⟩ := smallP hsm.1
  obtain ⟨q3, q4⟩ := smallP hsm.2
  exact ⟨_, _, rfl, ⟨q1, q2, q3, q4⟩, hR _ itok_range⟩
theorem snd_rng3 {tg a b c : Expr} {es : Es} {p : Pos} (hg : Gl X "range") (hm : X.mg "range" = none) (ha : PA X [a, b, c] (tL G fs W κ es)) (hs : starB a = false) (hs2 : ([b, c].all fun e => !starB e) = true) : PI X tg (.Call (.Name "range" p) [a, b, c] [] pos) (tIt G fs W κ .rg3 es) := by
  refine ⟨fun pins s σ H R I hq => (pi_range3 hg hm ha (starEach_cons hs) (noStar hs2)).run pins s σ H R I (itA hq fun vs H1 ts its F1 hi r hF hR => ?_)⟩
  generalize hz : T.fzs ts = zs at hi r
  unfold iterT at hi
  split at hi <;> first | (cases hi; done) | skip
  all_goals first | contradiction | skip
  split at hi <;> first | (cases hi; done) | skip
  rename_i hsm
  cases hi
  obtain ⟨v, ws, rfl, r1, r2⟩ := r.nil_cons
  obtain ⟨v2, ws2, rfl, r3, r4⟩ := r2.nil_cons
  obtain ⟨v3, ws3, rfl, r5, r6⟩ := r4.nil_cons
  cases r6
  cases reps_int r1
  cases reps_int r3
  cases reps_int r5
  simp only [Bool.and_eq_true, beq_iff_eq] at hsm
  obtain ⟨q1, q2⟩ := smallP hsm.1.1
  obtain ⟨q3, q4⟩ := smallP hsm.1.2
  cases hsm.2
  exact ⟨_, _, _, _, rfl, RgC.neg q1 q2 q3 q4, hR _ itok_down⟩
theorem snd_enum {e : Expr} {es : Es} {p tpos : Pos} {elts : List Expr} {kk : Nat} (hK : X.K = G.K) (hg : Gl X "enumerate") (hm : X.mg "enumerate" = none) (ha : PA X [e] (tL G fs W κ es)) (hs : starB e = false) :
    PI X (.Tuple elts kk tpos) (.Call (.Name "enumerate" p) [e] [] pos) (tIt G fs W κ .enum es) := by
  refine ⟨fun pins s σ H R I hq => (pi_enumA hg hm ha (starEach_cons hs)).run pins s σ H R I (itA hq fun vs H1 ts its F1 hi r hF hR => ?_)⟩
  generalize hz : T.fzs ts = zs at hi r
  unfold iterT at hi
  split at hi <;> first | (cases hi; done) | skip
  all_goals first | contradiction | skip
  · cases hi
    obtain ⟨v, ws, rfl, r1, r2⟩ := r.nil_cons
    cases r2
    cases r1 with
    | @lstF a vs _ q rr => exact ⟨a, vs, rfl, .inl ⟨by rw [hK]; exact hF.sqL q, hR _ (itok_enum (hK ▸ q) rr)⟩⟩
  · cases hi
    obtain ⟨v, ws, rfl, r1, r2⟩ := r.nil_cons
    cases r2
    cases r1 with
    | @tup a vs _ q rr => exact ⟨a, vs, rfl, .inr ⟨by rw [hK]; exact hF.sqT q, hR _ (itok_enumT (hK ▸ q) rr)⟩⟩
theorem snd_zip {e e2 : Expr} {es : Es} {p tpos : Pos} {elts : List Expr} {kk : Nat} (hK : X.K = G.K) (hg : Gl X "zip") (hm : X.mg "zip" = none) (ha : PA X [e, e2] (tL G fs W κ es)) (hs : starB e = false) (hs2 : ([e2].all fun e => !starB e) = true) :
    PI X (.Tuple elts kk tpos) (.Call (.Name "zip" p) [e, e2] [] pos) (tIt G fs W κ .zip es) := by
  refine ⟨fun pins s σ H R I hq => (RZ.pi_zipA hg hm ha (starEach_cons hs) (noStar hs2)).run pins s σ H R I (itA hq fun vs H1 ts its F1 hi r hF hR => ?_)⟩
  generalize hz : T.fzs ts = zs at hi r
  unfold iterT at hi
  split at hi <;> first | (cases hi; done) | skip
  all_goals first | contradiction | skip
  · cases hi
    obtain ⟨v, ws, rfl, r1, r2⟩ := r.nil_cons
    obtain ⟨v2, ws2, rfl, r3, r4⟩ := r2.nil_cons
    cases r4
    cases r1 with
    | @lstF a vs _ q rr =>
      cases r3 with
      | @lstF b us _ q' rr' => exact ⟨a, b, vs, us, rfl, .inl ⟨by rw [hK]; exact hF.sqL q, by rw [hK]; exact hF.sqL q', hR _ (itok_zip (hK ▸ q) rr (hK ▸ q') rr')⟩⟩
  · cases hi
    obtain ⟨v, ws, rfl, r1, r2⟩ := r.nil_cons
    obtain ⟨v2, ws2, rfl, r3, r4⟩ := r2.nil_cons
    cases r4
    cases r1 with
    | @tup a vs _ q rr =>
      cases r3 with
      | @tup b us _ q' rr' => exact ⟨a, b, vs, us, rfl, .inr ⟨by rw [hK]; exact hF.sqT q, by rw [hK]; exact hF.sqT q', hR _ (itok_zipT (hK ▸ q) rr (hK ▸ q') rr')⟩⟩
end
end Ev
end
section
set_option Elab.async false
set_option linter.all false
set_option maxRecDepth 100000
set_option maxHeartbeats 1000000
/-! Ev, part M: list comprehensions. -/
namespace Ev
open PySem PySem.Spec PyProof.Rows L2
/-- a clause's tests -/
def tCn (G : Gm) (fs : Fns) (W : WX) (κ : Pins) (es : Es) : TT := fun σ H Q => ∃ env F Lf, Sat G κ σ env F Lf H ∧ Rw G W κ σ F Lf (evC fs es env) (Okb G κ σ F Lf Q)
abbrev WF : WX := fun _ _ _ _ => False
/-- where one stands in a comprehension's block -/
def blkS (S : Sx) (scope : Scope) : Sx where
  N := S.N
  sc := relS scope S.sc
  st := fun x => match (relS scope S.sc).names.lookup x with
    | some .local => true
    | some .cell => scope.names.lookup x == some .cell
    | _ => false
section
variable {G : Gm} {nm : Nm} {fs : Fns} {k : Nat} {S : Sx} {W : WX} {X : Cx} {κ : Pins} {pos : Pos} {σ : L2.St} {F : Hp} {Lf L : List Cell} {H : Hp} {env : Env}
theorem XOk.blk (o : XOk G nm fs k S W X) (scope : Scope) (s : Shared) (H : Hp) (C : Addr) (cl : List (Str × Addr)) (fp : List Addr) : XOk G nm fs k (blkS S scope) WF (X.blk s H scope (compEnvC scope cl C X.env) fp) where
  hK := o.hK
  hN := o.hN
  nd := o.nd
  sc := by
    show relS scope X.env.scope = relS scope S.sc
    rw [o.sc]
  calm := o.calm
  room := o.room
  tk := fun u s' ⟨a, B, sI, pins, σ, H, cls, d, e, I, nb, up, sky, na, os, ag, w⟩ => w
  st := fun x h => by
    have e : (compEnvC scope cl C X.env).scope = relS scope S.sc := by
      show relS scope X.env.scope = relS scope S.sc
      rw [o.sc]
    show L2.Loc (compEnvC scope cl C X.env).scope x ∧ ((scope.names.lookup x == some .cell) = true ∨ (compEnvC scope cl C X.env).scope.names.lookup x = some .local)
    rw [e]
    have h : (match (relS scope S.sc).names.lookup x with
      | some .local => true
      | some .cell => scope.names.lookup x == some .cell
      | _ => false) = true := h
    unfold L2.Loc
    split at h
    · rename_i e; exact ⟨.inl e, .inr e⟩
    · rename_i e; exact ⟨.inr e, .inl h⟩
    · cases h
  fnm := fun x f h => ⟨(o.fnm x f h).1, (o.fnm x f h).2.ok, (o.fnm x f h).2.kp⟩
  con := fun x t h => o.con x t h
  blt := fun x h => o.blt x h
theorem snd_Cn_nil : PTs X [] (tCn G fs W κ .nil) := by
  refine ⟨fun pins s σ H Q I hq => pts_nil.run pins s σ H Q I ?_⟩
  obtain ⟨env, F, Lf, sat, r⟩ := hq
  have r : Okb G κ σ F Lf Q true env := r
  exact r F H (Ext.refl F) sat
theorem snd_Cn_one {c : Expr} {e : E} (h : PT X c (tT G fs W κ e)) : PTs X [c] (tCn G fs W κ (.cons e .nil)) := by
  refine ⟨fun pins s σ H Q I hq => (pts_one h).run pins s σ H Q I ?_⟩
  obtain ⟨env, F, Lf, sat, r⟩ := hq
  exact ⟨env, F, Lf, sat, r⟩
/-! ### the block's slots -/
theorem ERep.congr : ∀ {env : Env} {σ σ' : L2.St} {L : List Cell}, ERep G F env σ L → σ.length = σ'.length → (∀ (i : Nat) (v : V), σ[i]? = some (some v) → σ'[i]? = some (some v)) → ERep G F env σ' L
  | _, _, σ', _, .nil, hl, _ => by
    cases σ' with
    | nil => exact .nil
    | cons => cases hl
  | _, _, σ', _, .no q, hl, h => by
    cases σ' with
    | nil => cases hl
    | cons x σ' => exact .no (q.congr (by simpa using hl) fun i v e => by simpa using h (i + 1) v (by simpa using e))
  | _, _, σ', _, .yes r q, hl, h => by
    cases σ' with
    | nil => cases hl
    | cons x σ' =>
      have h0 := h 0 _ rfl
      simp at h0
      subst h0
      exact .yes r (q.congr (by simpa using hl) fun i v e => by simpa using h (i + 1) v (by simpa using e))
theorem Sat.wipe {own : List Nat} (s : Sat G κ σ env F Lf H) : Sat G [] (wipe σ own) (wipeE env own) F Lf H := by
  induction own with
  | nil => exact ⟨s.1, fun p hp => nomatch hp⟩
  | cons v vs ih =>
    obtain ⟨⟨Le, q, a⟩, _⟩ := ih
    obtain ⟨M1, M2, p, _, q2, _⟩ := q.put (i := v)
    refine ⟨⟨M2, q2, ?_⟩, fun p hp => nomatch hp⟩
    have p4 : (Le ++ Lf).Perm (M1 ++ (M2 ++ Lf)) := by
      refine (p.append_right _).trans ?_
      rw [List.append_assoc]
    exact (a.perm p4).drop
theorem Sat.unwipe {own : List Nat} {env1 e' : Env} {F1 : Hp} {L1 : List Cell} {H1 : Hp} (s0 : Sat G κ σ env1 F1 L1 H1) (e : Ext F1 F) (s : Sat G [] (L2.wipe σ own) (wipeE e' own) F Lf H) : Sat G κ σ (unwipe env1 (wipeE e' own) own) F Lf H := by
  have s1 : Sat G κ σ (wipeE e' own) F Lf H := by
    obtain ⟨⟨Le, q, a⟩, _⟩ := s
    exact ⟨⟨Le, q.congr (wipe_length σ own) fun i v h => (wipe_some h).1, a⟩, s0.2⟩
  generalize wipeE e' own = e2 at s1
  clear s
  induction own with
  | nil => exact s1
  | cons v vs ih =>
    show Sat G κ σ (match (env1[v]?).join with
      | some t => if t.pure then (Ev.unwipe env1 e2 vs).set v (some t) else Ev.unwipe env1 e2 vs
      | none => Ev.unwipe env1 e2 vs) F Lf H
    cases ej : (env1[v]?).join with
    | none => exact ih
    | some t =>
      simp only
      by_cases hp : t.pure = true
      · rw [if_pos hp]
        obtain ⟨x, M, h1, h2, _⟩ := s0.get (join_some ej)
        cases h2.pure_nil hp
        exact Sat.back (L1 := []) ih h1 (h2.mono e)
      · rw [if_neg hp]; exact ih
theorem lineS' : line = sizeLine := by decide
/-- a list comprehension's reading -/
theorem lc_read {vs : List Nat} {e : E} {tg : Tg} {ik : Ik} {es cond : Es} {Q : VK} (htg : ∀ i ∈ tg.ix, i ∈ vs) (hq : tE G fs W κ (.lc e tg vs ik es cond) σ H Q) :
    tLc (tIt G fs W κ ik es) (gT G [] tg) (tCn G fs WF [] cond) (tE G fs WF [] e) vs σ H Q := by
  obtain ⟨env, F, Lf, sat, r⟩ := hq
  unfold evE at r
  refine ⟨env, F, Lf, sat, r.bind fun ts env1 _ r1 => ?_⟩
  cases hit : iterT ik (T.fzs ts) with
  | none => rw [hit] at r1; exact r1.elim
  | some its =>
    rw [hit] at r1
    refine ⟨its, rfl, fun J F1 H1 e1 w s1 D hD => ?_⟩
    simp only at r1
    by_cases hln : decide (its.length ≤ line) = true
    case neg => rw [if_neg hln] at r1; exact r1.elim
    rw [if_pos hln] at r1
    simp only [decide_eq_true_eq, lineS'] at hln
    generalize hf : (fun (t : T) (env : Env) => match bindT tg t (wipeE env vs) with
      | none => Out.no
      | some env => ((evC fs cond env).bind fun k env => if k = true then (evE fs e env).bind fun y env => Out.ok (some y) env else Out.ok none env).noex) = f at r1
    have g0 : Rw G W κ σ F Lf ((lcGo f (its.drop 0) [] (wipeE env1 vs)).bind fun ys env' => .ok (.lst true ys) (unwipe env1 (wipeE env' vs) vs)) (Ok1 G κ σ F Lf Q) := r1
    clear r1
    refine lc_it w (fun i H2 => ∃ (acc : List T) (envi : Env) (F2 : Hp) (ws : List V) (La : List Cell), Ext F1 F2 ∧ Reps G F2 acc.reverse ws La ∧ acc.length ≤ i ∧ Sat G [] (L2.wipe σ vs) (wipeE envi vs) F2 ((D, .lst ws) :: (La ++ Lf)) H2 ∧
      Rw G W κ σ F Lf ((lcGo f (its.drop i) acc envi).bind fun ys env' => .ok (.lst true ys) (unwipe env1 (wipeE env' vs) vs)) (Ok1 G κ σ F Lf Q)) ?_ ?_ ?_ ?_
    · refine ⟨[], wipeE env1 vs, F1, [], [], Ext.refl F1, .nil, Nat.le_refl _, ?_, g0⟩
      have s2 := (s1.wipe (own := vs)).wipe (own := vs)
      rw [wipe_wipe] at s2
      exact s2.res (Res.new hD)
    · rintro i H2 _ ⟨acc, envi, F2, ws, La, e2, _, _, s2, _⟩
      exact fun a u h => s2.ext a u (e2 a u h)
    · rintro i x H2 H3 hin ⟨acc, envi, F2, ws, La, e2, rp, hacc, s2, g⟩ ⟨t, ht1, hy⟩
      obtain ⟨F3, rs, rx⟩ := hy F2 e2 s2.ext
      have s3 : Sat G [] (L2.wipe σ vs) (wipeE envi vs) F3 ((D, .lst ws) :: (La ++ Lf)) H3 := s2.res rs
      have ed : its.drop i = t :: its.drop (i + 1) := by
        rw [List.drop_eq_getElem_cons hin]
        congr 1
        rw [List.getElem?_eq_getElem hin] at ht1
        cases ht1; rfl
      rw [ed] at g
      unfold lcGo at g
      rw [Out.bind_assoc] at g
      have fe : f t envi = match bindT tg t (wipeE envi vs) with
        | none => Out.no
        | some env => ((evC fs cond env).bind fun k env => if k = true then (evE fs e env).bind fun y env => Out.ok (some y) env else Out.ok none env).noex := by rw [← hf]
      rw [fe] at g
      cases hb : bindT tg t (wipeE envi vs) with
      | none => rw [hb] at g; exact g.elim
      | some env2 =>
        rw [hb] at g
        simp only at g
        refine ⟨wipeE envi vs, F3, _, t, env2, s3, rx, hb, fun σ2 s4 hw => ?_⟩
        have hw := hw vs htg
        rw [wipe_wipe] at hw
        refine ⟨hw, env2, F3, _, s4, ?_⟩
        cases hc : evC fs cond env2 with
        | no => rw [hc] at g; exact g.elim
        | ex x env3 => rw [hc] at g; exact g.elim
        | ok b env3 =>
          rw [hc] at g
          simp only [Out.bind_ok] at g
          intro F4 H4 e4 s5
          cases b with
          | false =>
            simp only [Bool.false_eq_true, if_false] at g ⊢
            have s6 := s5.wipe (own := vs)
            rw [hw] at s6
            refine ⟨acc, env3, F4, ws, La, e2.trans (rs.1.trans e4), rp.mono (rs.1.trans e4), by omega, s6, g⟩
          | true =>
            simp only [if_true] at g ⊢
            refine ⟨env3, F4, _, s5, ?_⟩
            cases hev : evE fs e env3 with
            | no => rw [hev] at g; exact g.elim
            | ex x env4 => rw [hev] at g; exact g.elim
            | ok y env4 =>
              rw [hev] at g
              intro v F5 H5 L5 e5 ry s6
              have s7 : Sat G [] σ2 env4 F5 ((D, .lst ws) :: ((La ++ L5) ++ Lf)) H5 := by
                refine s6.perm ?_
                have p := perm_swap (A := L5) (B := [(D, HO.lst ws)]) (C := La ++ Lf)
                refine p.trans ?_
                refine List.Perm.cons _ ?_
                rw [← List.append_assoc]
                exact List.perm_append_comm.append_right Lf
              have hl := rp.length
              rw [List.length_reverse] at hl
              refine ⟨ws, s7.at_.at_ (D, .lst ws) List.mem_cons_self, by omega, y :: acc, env4, F5, ws ++ [v], La ++ L5, e2.trans (rs.1.trans (e4.trans e5)), ?_, by simp only [List.length_cons]; omega, ?_, g⟩
              · rw [List.reverse_cons]
                have q := (rp.mono (rs.1.trans (e4.trans e5))).app (.cons ry .nil)
                rw [List.append_nil] at q
                exact q
              · have s8 := (s7.wr (o' := .lst (ws ++ [v]))).wipe (own := vs)
                rw [hw] at s8
                exact s8
    · rintro H2 ⟨acc, envi, F2, ws, La, e2, rp, _, s2, g⟩
      rw [List.drop_length] at g
      have g : Ok1 G κ σ F Lf Q (.lst true acc.reverse) (unwipe env1 (wipeE envi vs) vs) := g
      exact g (.ref D) F2 H2 ((D, .lst ws) :: La) (e1.trans e2) (.lstO rp) (s1.unwipe e2 s2)
/-- its parts are sound -/
structure LcOk (X : Cx) (G : Gm) (fs : Fns) (W : WX) (κ : Pins) (elt tgA iter : Expr) (ifs : List Expr) (scope : Scope) (own : List (Str × Nat)) (e : E) (tg : Tg) (ik : Ik) (es cond : Es) : Prop where
  it : PI X tgA iter (tIt G fs W κ ik es)
  blk : BlkOk X.N X.env.scope scope own
  ix : ∀ i ∈ tg.ix, i ∈ own.map (·.2)
  tgt : ∀ (s : Shared) (H : Hp) (C : Addr) (cl : List (Str × Addr)) (fp : List Addr), PG (X.blk s H scope (compEnvC scope cl C X.env) fp) tgA (gT G [] tg)
  tst : ∀ (s : Shared) (H : Hp) (C : Addr) (cl : List (Str × Addr)) (fp : List Addr), PTs (X.blk s H scope (compEnvC scope cl C X.env) fp) ifs (tCn G fs WF [] cond)
  elt : ∀ (s : Shared) (H : Hp) (C : Addr) (cl : List (Str × Addr)) (fp : List Addr), PE (X.blk s H scope (compEnvC scope cl C X.env) fp) elt (tE G fs WF [] e)
  fold : ∀ x, foldedSetIterable iter X.env x = pure x
theorem snd_lc (o : XOk G nm fs k S W X) {elt tgA iter : Expr} {ifs : List Expr} {scope : Scope} {own : List (Str × Nat)} {e : E} {tg : Tg} {ik : Ik} {es cond : Es} (c : LcOk X G fs W κ elt tgA iter ifs scope own e tg ik es cond) :
    PE X (.ListComp elt [⟨tgA, iter, ifs, 0⟩] scope pos) (tE G fs W κ (.lc e tg (own.map (·.2)) ik es cond)) :=
  ⟨fun pins s σ H Q I hq => (pe_lc o.calm (by rw [o.hN]; exact o.nd) c.it c.blk c.tgt c.tst c.elt c.fold).run pins s σ H Q I (lc_read c.ix hq)⟩
end
end Ev
end
section
set_option Elab.async false
set_option linter.all false
set_option maxRecDepth 100000
set_option maxHeartbeats 1000000
/-! Ev, part N: statements. -/
namespace Ev
open PySem PySem.Spec PyProof.Rows L2
/-- what is wanted behind a statement -/
def FlOk (G : Gm) (W : WX) (κ : Pins) (F : Hp) (Lf : List Cell) (D : Ends) (r : Fl) : Prop := match r with
  | .nx env => ∀ σ F' H', Ext F F' → Sat G κ σ env F' Lf H' → D.nx σ H'
  | .bk env => ∀ σ F' H', Ext F F' → Sat G κ σ env F' Lf H' → D.bk σ H'
  | .ct env => ∀ σ F' H', Ext F F' → Sat G κ σ env F' Lf H' → D.ct σ H'
  | .rt t env => ∀ v σ F' H' L, Ext F F' → Rep G F' t v L → Sat G κ σ env F' (L ++ Lf) H' → D.rt v H'
  | .ex x env => ∀ cls d σ F' H', Ext F F' → XRep G F' x cls d → Sat G κ σ env F' Lf H' → W cls d σ H'
  | .no => False
section
variable (G : Gm) (fs : Fns) (w : Nat) (W : WX) (κ : Pins)
def tS (s : S) : TS := fun D σ H => ∃ env F Lf, Sat G κ σ env F Lf H ∧ FlOk G W κ F Lf D (evS fs w s env)
def tSs (s : Ss) : TS := fun D σ H => ∃ env F Lf, Sat G κ σ env F Lf H ∧ FlOk G W κ F Lf D (evSs fs w s env)
end
section
variable {G : Gm} {nm : Nm} {fs : Fns} {k w : Nat} {S : Sx} {W : WX} {X : Cx} {κ : Pins} {pos : Pos} {σ : L2.St} {F F1 : Hp} {Lf L : List Cell} {H : Hp} {env : Env} {D : Ends}
theorem FlOk.go {r : Fl} (h : FlOk G W κ F Lf D r) (e : Ext F F1) : FlOk G W κ F1 (L ++ Lf) D r := by
  cases r with
  | nx env => exact fun σ F' H' e' s => h σ F' H' (e.trans e') s.drop
  | bk env => exact fun σ F' H' e' s => h σ F' H' (e.trans e') s.drop
  | ct env => exact fun σ F' H' e' s => h σ F' H' (e.trans e') s.drop
  | rt t env => exact fun v σ F' H' L' e' r s => h v σ F' H' L' (e.trans e') r ((s.perm perm_swap).drop)
  | ex x env => exact fun c d σ F' H' e' r s => h c d σ F' H' (e.trans e') r s.drop
  | no => exact h
theorem FlOk.ext {r : Fl} (h : FlOk G W κ F Lf D r) (e : Ext F F1) : FlOk G W κ F1 Lf D r := h.go (L := []) e
/-- an expression ahead -/
theorem FlOk.fl {α : Type} {o : Out α} {f : α → Env → Fl} {K : α → Env → Prop} (h : FlOk G W κ F Lf D (o.fl f)) (k : ∀ a env', o = .ok a env' → FlOk G W κ F Lf D (f a env') → K a env') : Rw G W κ σ F Lf o K := by
  cases o with
  | ok a env' => exact k a env' rfl h
  | ex x env' => exact fun cls d F' H' e r s => h cls d σ F' H' e r s
  | no => exact h
theorem snd_snil : PSs X [] (tSs G fs w W κ .nil) := by
  refine ⟨fun pins s σ H D I hq => pss_nil.run pins s σ H D I ?_⟩
  obtain ⟨env, F, Lf, sat, r⟩ := hq
  have r : FlOk G W κ F Lf D (.nx env) := r
  exact r σ F H (Ext.refl F) sat
theorem snd_scons {a : Stmt} {r : List Stmt} {sa : Ev.S} {sr : Ss} (ha : PS X a (tS G fs w W κ sa)) (hr : PSs X r (tSs G fs w W κ sr)) : PSs X (a :: r) (tSs G fs w W κ (.cons sa sr)) := by
  refine ⟨fun pins s σ H D I hq => (pss_cons ha hr).run pins s σ H D I ?_⟩
  obtain ⟨env, F, Lf, sat, r⟩ := hq
  unfold evSs at r
  refine ⟨env, F, Lf, sat, ?_⟩
  cases e : evS fs w sa env with
  | nx env1 =>
    rw [e] at r
    exact fun σ' F' H' e' s => ⟨env1, F', Lf, s, r.ext e'⟩
  | bk env1 => rw [e] at r; exact r
  | ct env1 => rw [e] at r; exact r
  | rt t env1 => rw [e] at r; exact r
  | ex x env1 => rw [e] at r; exact r
  | no => rw [e] at r; exact r
theorem snd_pass : PS X (.Pass pos) (tS G fs w W κ .pass) := by
  refine ⟨fun pins s σ H D I hq => ps_pass.run pins s σ H D I ?_⟩
  obtain ⟨env, F, Lf, sat, r⟩ := hq
  have r : FlOk G W κ F Lf D (.nx env) := r
  exact r σ F H (Ext.refl F) sat
theorem snd_doc {x j pos'} : PS X (.Expr (.Constant (.str x) j pos) pos') (tS G fs w W κ .pass) := by
  refine ⟨fun pins s σ H D I hq => ps_doc.run pins s σ H D I ?_⟩
  obtain ⟨env, F, Lf, sat, r⟩ := hq
  have r : FlOk G W κ F Lf D (.nx env) := r
  exact r σ F H (Ext.refl F) sat
theorem snd_brk : PS X (.Break pos) (tS G fs w W κ .brk) := by
  refine ⟨fun pins s σ H D I hq => ps_break.run pins s σ H D I ?_⟩
  obtain ⟨env, F, Lf, sat, r⟩ := hq
  have r : FlOk G W κ F Lf D (.bk env) := r
  exact r σ F H (Ext.refl F) sat
theorem snd_cnt : PS X (.Continue pos) (tS G fs w W κ .cnt) := by
  refine ⟨fun pins s σ H D I hq => ps_continue.run pins s σ H D I ?_⟩
  obtain ⟨env, F, Lf, sat, r⟩ := hq
  have r : FlOk G W κ F Lf D (.ct env) := r
  exact r σ F H (Ext.refl F) sat
theorem snd_never {st : Stmt} : PS X st (tS G fs w W κ .never) := by
  refine ⟨fun pins s σ H D I hq => ps_never.run pins s σ H D I ?_⟩
  obtain ⟨env, F, Lf, sat, r⟩ := hq
  exact r
theorem sndE_never {e : Expr} : PE X e (tE G fs W κ .never) := by
  refine ⟨fun pins s σ H Q I hq => ?_⟩
  obtain ⟨env, F, Lf, sat, r⟩ := hq
  exact r.elim
theorem snd_ret {a : Expr} {e : E} (ha : PE X a (tE G fs W κ e)) : PS X (.Return (some a) pos) (tS G fs w W κ (.ret e)) := by
  refine ⟨fun pins s σ H D I hq => (ps_ret ha).run pins s σ H D I ?_⟩
  obtain ⟨env, F, Lf, sat, r⟩ := hq
  unfold evS at r
  exact ⟨env, F, Lf, sat, r.fl fun t env1 _ r1 v F' H' L e rep s => r1 v σ F' H' L e rep s⟩
theorem snd_retN : PS X (.Return none pos) (tS G fs w W κ .retN) := by
  refine ⟨fun pins s σ H D I hq => ps_retN.run pins s σ H D I ?_⟩
  obtain ⟨env, F, Lf, sat, r⟩ := hq
  have r : FlOk G W κ F Lf D (.rt .non env) := r
  exact r .non σ F H [] (Ext.refl F) .non sat
theorem snd_expr {a : Expr} {e : E} (ha : PE X a (tE G fs W κ e)) (hs : swapsWith a none pos.line X.env = pure false) : PS X (.Expr a pos) (tS G fs w W κ (.ex e)) := by
  refine ⟨fun pins s σ H D I hq => (ps_expr ha hs).run pins s σ H D I ?_⟩
  obtain ⟨env, F, Lf, sat, r⟩ := hq
  unfold evS at r
  exact ⟨env, F, Lf, sat, r.fl fun t env1 _ r1 v F' H' L e rep s => r1 σ F' H' e s.drop⟩
theorem snd_if {c : Expr} {a b : List Stmt} {ec : E} {sa sb : Ss} (hc : PT X c (tT G fs W κ ec)) (ha : PSs X a (tSs G fs w W κ sa)) (hb : PSs X b (tSs G fs w W κ sb)) : PS X (.If c a b pos) (tS G fs w W κ (.ite ec sa sb)) := by
  refine ⟨fun pins s σ H D I hq => (ps_if hc ha hb).run pins s σ H D I ?_⟩
  obtain ⟨env, F, Lf, sat, r⟩ := hq
  unfold evS at r
  have e0 : ((evE fs ec env).fl fun x env => (asBool x env).fl fun k env => if k then evSs fs w sa env else evSs fs w sb env) = ((evE fs ec env).bind asBool).fl fun k env => if k then evSs fs w sa env else evSs fs w sb env := by
    cases evE fs ec env <;> rfl
  rw [e0] at r
  refine ⟨env, F, Lf, sat, r.fl fun b0 env1 _ r1 F' H' e s => ?_⟩
  cases b0 with
  | true => exact ⟨env1, F', Lf, s, r1.ext e⟩
  | false => exact ⟨env1, F', Lf, s, r1.ext e⟩
theorem FlOk.nxw {nx : L2.St → Hp → Prop} {ct : L2.St → Hp → Prop} {bk : L2.St → Hp → Prop} {r : Fl} (h : FlOk G W κ F Lf ⟨nx, D.rt, bk, ct⟩ r) : FlOk G W κ F Lf { D with nx := nx, ct := ct, bk := bk } r := h
/-- one turn of a loop -/
theorem turn_ok {r : Fl} {g : Env → Fl} {N : L2.St → Hp → Prop} (h : FlOk G W κ F Lf D (match r with
    | .nx env => g env
    | .ct env => g env
    | .bk env => .nx env
    | q => q)) (hN : ∀ env σ F' H', Ext F F' → Sat G κ σ env F' Lf H' → FlOk G W κ F Lf D (g env) → N σ H') : FlOk G W κ F Lf { D with nx := N, ct := N, bk := D.nx } r := by
  cases r with
  | nx env => exact fun σ F' H' e s => hN env σ F' H' e s h
  | ct env => exact fun σ F' H' e s => hN env σ F' H' e s h
  | bk env => exact h
  | rt t env => exact h
  | ex x env => exact h
  | no => exact h
theorem snd_while {c : Expr} {b : List Stmt} {ec : E} {sb : Ss} (hp : PassesOwn (model X.prog X.w) X.A X.env X.xe) (hc : PT X c (tT G fs W κ ec)) (hb : PSs X b (tSs G fs w W κ sb)) : PS X (.While c b [] pos) (tS G fs w W κ (.whl ec sb)) := by
  refine ⟨fun pins s σ H D I hq => (ps_while hp hc hb).run pins s σ H D I ?_⟩
  obtain ⟨env, F, Lf, sat, r⟩ := hq
  unfold evS at r
  refine ⟨fun m σ1 H1 => ∃ env1 F1, Sat G κ σ1 env1 F1 Lf H1 ∧ FlOk G W κ F1 Lf D (whileL (fun env => (evE fs ec env).bind asBool) (evSs fs w sb) m env1), ⟨w, env, F, sat, r⟩, ?_⟩
  rintro m σ1 H1 ⟨env1, F1, s1, r1⟩
  cases m with
  | zero => exact r1.elim
  | succ m =>
    unfold whileL at r1
    refine ⟨env1, F1, Lf, s1, r1.fl fun b0 env2 _ r2 F2 H2 e2 s2 => ?_⟩
    cases b0 with
    | false => exact r2 σ1 F2 H2 e2 s2
    | true =>
      simp only [if_true] at r2 ⊢
      refine ⟨fun σ' H' => ∃ env1 F1, Sat G κ σ' env1 F1 Lf H' ∧ FlOk G W κ F1 Lf D (whileL (fun env => (evE fs ec env).bind asBool) (evSs fs w sb) m env1), fun σ' H' n => ⟨m, Nat.lt_succ_self m, n⟩, env2, F2, Lf, s2, ?_⟩
      refine turn_ok (g := whileL (fun env => (evE fs ec env).bind asBool) (evSs fs w sb) m) ?_ fun env3 σ' F3 H3 e3 s3 g => ⟨env3, F3, s3, g.ext e3⟩
      refine FlOk.ext ?_ e2
      cases h : evSs fs w sb env2 <;> (rw [h] at r2; exact r2)
theorem snd_for {tgA iter : Expr} {b : List Stmt} {tg : Tg} {ik : Ik} {es : Es} {sb : Ss} (o : XOk G nm fs k S W X) (hp : PassesOwn (model X.prog X.w) X.A X.env X.xe) (hi : PI X tgA iter (tIt G fs W κ ik es)) (hg : PG X tgA (gT G κ tg)) (hb : PSs X b (tSs G fs w W κ sb)) (hs : ∀ x, foldedSetIterable iter X.env x = pure x) :
    PS X (.For tgA iter b [] pos) (tS G fs w W κ (.for_ tg ik es sb)) := by
  refine ⟨fun pins s σ H D I hq => (ps_for hp o.calm hi hg hb hs).run pins s σ H D I ?_⟩
  obtain ⟨env, F, Lf, sat, r⟩ := hq
  unfold evS at r
  refine ⟨env, F, Lf, sat, r.fl fun ts env1 _ r1 => ?_⟩
  cases hit : iterT ik (T.fzs ts) with
  | none => rw [hit] at r1; exact r1.elim
  | some its =>
    rw [hit] at r1
    refine ⟨its, rfl, fun J F1 H1 e1 wk s1 => ?_⟩
    simp only at r1
    generalize hf : (fun (t : T) (env : Env) => match bindT tg t env with
      | none => Fl.no
      | some env => evSs fs w sb env) = f at r1
    have r1 : FlOk G W κ F1 Lf D (forL f (its.drop 0) env1) := r1.ext e1
    refine for_it wk (fun i σ2 H2 => ∃ envi F2, Ext F1 F2 ∧ Sat G κ σ2 envi F2 Lf H2 ∧ FlOk G W κ F2 Lf D (forL f (its.drop i) envi)) ⟨env1, F1, Ext.refl F1, s1, r1⟩ ?_ ?_ ?_
    · rintro i σ2 H2 _ ⟨envi, F2, e2, s2, _⟩
      exact fun a u h => s2.ext a u (e2 a u h)
    · rintro i x σ2 H2 H3 hin ⟨envi, F2, e2, s2, g⟩ ⟨t, ht1, hy⟩
      obtain ⟨F3, rs, rx⟩ := hy F2 e2 s2.ext
      have s3 : Sat G κ σ2 envi F3 Lf H3 := s2.res rs
      have ed : its.drop i = t :: its.drop (i + 1) := by
        rw [List.drop_eq_getElem_cons hin]
        congr 1
        rw [List.getElem?_eq_getElem hin] at ht1
        cases ht1; rfl
      rw [ed] at g
      unfold forL at g
      have fe : f t envi = match bindT tg t envi with
        | none => Fl.no
        | some env => evSs fs w sb env := by rw [← hf]
      rw [fe] at g
      cases hb : bindT tg t envi with
      | none => rw [hb] at g; exact g.elim
      | some env2 =>
        rw [hb] at g
        simp only at g
        refine ⟨envi, F3, Lf, t, env2, s3, rx, hb, fun σ4 s4 _ => ⟨env2, F3, Lf, s4, ?_⟩⟩
        refine turn_ok (g := forL f (its.drop (i + 1))) ?_ fun env3 σ' F4 H4 e4 s4 g => ⟨env3, F4, e2.trans (rs.1.trans e4), s4, g.ext e4⟩
        refine FlOk.ext ?_ rs.1
        cases h : evSs fs w sb env2 <;> (rw [h] at g; exact g)
    · rintro σ2 H2 ⟨envi, F2, e2, s2, g⟩
      rw [List.drop_length] at g
      exact g σ2 F2 H2 (Ext.refl F2) s2
end
end Ev
end
section
set_option Elab.async false
set_option linter.all false
set_option maxRecDepth 100000
set_option maxHeartbeats 1000000
/-! Ev, part O: assignments. -/
namespace Ev
open PySem PySem.Spec PyProof.Rows L2
section
variable {G : Gm} {nm : Nm} {fs : Fns} {k w : Nat} {S : Sx} {W : WX} {X : Cx} {κ : Pins} {pos : Pos} {σ : L2.St} {F F1 : Hp} {Lf L : List Cell} {H : Hp} {env : Env} {D : Ends}
/-- name = value -/
theorem snd_asg (o : XOk G nm fs k S W X) {ks : List Nat} (hk : Keeps κ ks) {i : Nat} {x : Str} {px : Pos} {a : Expr} {e : E} (hi : S.N[i]? = some x) (hst : S.st x = true) (hks : ks.contains i = false) (ha : PE X a (tE G fs W κ e))
    (hs : swapsWith a (some (.Name x px)) pos.line X.env = pure false) : PS X (.Assign [.Name x px] a pos) (tS G fs w W κ (.asg i e)) := by
  obtain ⟨q1, q2⟩ := o.st x hst
  refine ⟨fun pins s σ H D I hq => (ps_set (by rw [o.hN]; exact o.nd) (by rw [o.hN]; exact hi) q1 ha hs q2).run pins s σ H D I ?_⟩
  obtain ⟨env, F, Lf, sat, r⟩ := hq
  unfold evS at r
  exact ⟨env, F, Lf, sat, r.fl fun t env1 _ r1 v F' H' L e rep s => r1 _ F' H' e (s.storeL (hk.ne hks) rep)⟩
theorem snd_asgLc (o : XOk G nm fs k S W X) {ks : List Nat} (hk : Keeps κ ks) {i : Nat} {x : Str} {px lpos : Pos} {elt tgA iter : Expr} {ifs : List Expr} {scope : Scope} {own : List (Str × Nat)} {e : E} {tg : Tg} {ik : Ik} {es cond : Es}
    (hi : S.N[i]? = some x) (hl : S.sc.names.lookup x = some .local) (hks : ks.contains i = false) (c : LcOk X G fs W κ elt tgA iter ifs scope own e tg ik es cond)
    (hs : swapsWith (.ListComp elt [⟨tgA, iter, ifs, 0⟩] scope lpos) (some (.Name x px)) pos.line X.env = pure true) :
    PS X (.Assign [.Name x px] (.ListComp elt [⟨tgA, iter, ifs, 0⟩] scope lpos) pos) (tS G fs w W κ (.asg i (.lc e tg (own.map (·.2)) ik es cond))) := by
  refine ⟨fun pins s σ H D I hq => (ps_setLc o.calm (by rw [o.hN]; exact o.nd) (by rw [o.hN]; exact hi) (by rw [o.sc]; exact hl) hs c.it c.blk c.tgt c.tst c.elt c.fold).run pins s σ H D I (lc_read c.ix ?_)⟩
  obtain ⟨env, F, Lf, sat, r⟩ := hq
  unfold evS at r
  exact ⟨env, F, Lf, sat, r.fl fun t env1 _ r1 v F' H' L e rep s => r1 _ F' H' e (s.storeL (hk.ne hks) rep)⟩
/-- targets = value -/
theorem snd_unp {tgA a : Expr} {tg : Tg} {e : E} (ha : PE X a (tE G fs W κ e)) (hg : PG X tgA (gT G κ tg)) (hs : swapsWithSole [tgA] a pos.line X.env = pure false) (hw : swappedStores [tgA] a X.env = pure none) (hst : starB tgA = false) :
    PS X (.Assign [tgA] a pos) (tS G fs w W κ (.unp tg e)) := by
  refine ⟨fun pins s σ H D I hq => (ps_asg ha hg hs hw (by rw [assignEach_cons hst]; rfl)).run pins s σ H D I ?_⟩
  obtain ⟨env, F, Lf, sat, r⟩ := hq
  unfold evS at r
  refine ⟨env, F, Lf, sat, r.fl fun t env1 _ r1 v F' H' L e rep s => ?_⟩
  obtain ⟨F2, e2, rep2, s2⟩ := s.freeze rep
  cases hb : bindT tg t.fz env1 with
  | none => rw [hb] at r1; exact r1.elim
  | some env2 =>
    rw [hb] at r1
    exact ⟨env1, F2, Lf, t.fz, env2, s2, rep2, hb, fun σ2 s3 _ => r1 σ2 F2 H' (e.trans e2) s3⟩
/-! ### a, b = x, y -/
def setσ : List Nat → List V → L2.St → L2.St
  | i :: is, v :: vs, σ => setσ is vs (σ.set i (some v))
  | _, _, σ => σ
theorem Sat.setAll {ks : List Nat} (hk : Keeps κ ks) : ∀ {is : List Nat} {ts : List T} {vs : List V} {L : List Cell} {σ : L2.St} {env env2 : Env}, (is.all fun i => !ks.contains i) = true → Sat G κ σ env F (L ++ Lf) H → Reps G F ts vs L → setAll is ts env = some env2 →
    vs.length = is.length ∧ Sat G κ (setσ is vs σ) env2 F Lf H := by
  intro is
  induction is with
  | nil =>
    intro ts vs L σ env env2 h s r e
    cases r with
    | nil => cases e; exact ⟨rfl, s⟩
    | cons _ _ => cases e
  | cons i is ih =>
    intro ts vs L σ env env2 h s r e
    cases r with
    | nil => cases e
    | @cons t v L1 ts vs L2' r rr =>
      simp only [List.all_cons, Bool.and_eq_true, Bool.not_eq_true'] at h
      rw [List.append_assoc] at s
      have s1 := s.storeL (hk.ne h.1) r
      obtain ⟨h1, h2⟩ := ih h.2 s1 rr e
      exact ⟨by simp [h1], h2⟩
theorem par_read {ks : List Nat} (hk : Keeps κ ks) {is : List Nat} {es : Es} (h : (is.all fun i => !ks.contains i) = true) (hq : tS G fs w W κ (.par is es) D σ H) :
    tL G fs W κ es σ H fun vs H1 => vs.length = is.length ∧ D.nx (setσ is vs σ) H1 ∧ ∀ p, H1 p = none → D.nx (setσ is vs σ) (upd H1 p (.tup vs)) := by
  obtain ⟨env, F, Lf, sat, r⟩ := hq
  unfold evS at r
  refine ⟨env, F, Lf, sat, r.fl fun ts env1 _ r1 vs F' H' L e rep s => ?_⟩
  cases hb : setAll is ts env1 with
  | none => rw [hb] at r1; exact r1.elim
  | some env2 =>
    rw [hb] at r1
    obtain ⟨h1, h2⟩ := Sat.setAll hk h s rep hb
    refine ⟨h1, r1 _ F' H' e h2, fun p hp => ?_⟩
    have s3 : Sat G κ (setσ is vs σ) env2 F' ([(p, HO.tup vs)] ++ Lf) (upd H' p (.tup vs)) := h2.res (Res.new hp)
    exact r1 _ F' _ e s3.drop
def gNames (is : List Nat) : TGs := fun vs σ H Q => vs.length = is.length ∧ Q (setσ is vs σ) H
/-- plain names, each to its slot -/
def namesB (S : Sx) : List Nat → List Expr → Bool
  | [], [] => true
  | i :: is, .Name x _ :: es => decide (S.N[i]? = some x) && S.st x && namesB S is es
  | _, _ => false
theorem pgs_names (o : XOk G nm fs k S W X) : ∀ {is : List Nat} {es : List Expr}, namesB S is es = true → PGs X es (gNames is) ∧ (assignEach es X.env).length = is.length ∧ (assignEach es X.env).findIdx? (·.1) = none
  | [], [], _ => by
    refine ⟨⟨fun pins s σ H vs us Q I r hq => pgs_nil.run pins s σ H vs us Q I r ?_⟩, rfl, rfl⟩
    obtain ⟨h1, h2⟩ := hq
    cases vs with
    | nil => exact ⟨rfl, h2⟩
    | cons => cases h1
  | [], _ :: _, h => by unfold namesB at h; cases h
  | i :: is, [], h => by unfold namesB at h; cases h
  | i :: is, e :: es, h => by
    cases e <;> first | (unfold namesB at h; cases h; done) | skip
    rename_i x p
    unfold namesB at h
    simp only [Bool.and_eq_true, decide_eq_true_eq] at h
    obtain ⟨⟨h1, h2⟩, h3⟩ := h
    obtain ⟨ih, l1, l2⟩ := pgs_names o h3
    obtain ⟨q1, q2⟩ := o.st x h2
    rw [assignEach_cons rfl]
    refine ⟨⟨fun pins s σ H vs us Q I r hq => (pgs_cons (pg_name (by rw [o.hN]; exact o.nd) (by rw [o.hN]; exact h1) q1 q2) ih).run pins s σ H vs us Q I r ?_⟩, by simp [l1], ?_⟩
    · obtain ⟨h4, h5⟩ := hq
      cases vs with
      | nil => cases h4
      | cons v vs => exact ⟨v, vs, rfl, by simpa using h4, h5⟩
    · rw [List.findIdx?_cons, l2]
      rfl
/-- by way of the tuple -/
theorem snd_parT (o : XOk G nm fs k S W X) {ks : List Nat} (hk : Keeps κ ks) {is : List Nat} {tgs as : List Expr} {es : Es} {j j2 : Nat} {p1 p2 : Pos} (h : (is.all fun i => !ks.contains i) = true) (hn : namesB S is tgs = true) (ha : PA X as (tL G fs W κ es))
    (hs : swapsWithSole [.Tuple tgs j p1] (.Tuple as j2 p2) pos.line X.env = pure false) (hw : swappedStores [.Tuple tgs j p1] (.Tuple as j2 p2) X.env = pure none) (hlen : is.length ≤ 1000) :
    PS X (.Assign [.Tuple tgs j p1] (.Tuple as j2 p2) pos) (tS G fs w W κ (.par is es)) := by
  obtain ⟨a1, a2, a3⟩ := pgs_names o hn
  refine ⟨fun pins s σ H D I hq => (ps_asg (pe_tup ha) (pg_tup o.calm a1 a2 a3) hs hw rfl).run pins s σ H D I ?_⟩
  obtain ⟨env, F, Lf, sat, r⟩ := par_read hk h hq
  refine ⟨env, F, Lf, sat, r.imp fun ts env1 h vs F' H' L e rep s => ?_⟩
  obtain ⟨h1, h2, h3⟩ := h vs F' H' L e rep s
  refine ⟨?_, fun p hp => ⟨p, vs, rfl, .inl (.of upd_same), h1, h1, h3 p hp⟩⟩
  rw [h1]
  have : (1000 : Nat) ≤ sizeLine := by decide
  omega
theorem snd_par2 (o : XOk G nm fs k S W X) {ks : List Nat} (hk : Keeps κ ks) {i j : Nat} {x y : Str} {a b : Expr} {es : Es} {px py pt : Pos} {kt k2 pt2} (h : ([i, j].all fun i => !ks.contains i) = true) (hi : S.N[i]? = some x) (hj : S.N[j]? = some y) (hij : i ≠ j)
    (hx : S.sc.names.lookup x = some .local) (hy : S.sc.names.lookup y = some .local) (ha : PA X [a, b] (tL G fs W κ es))
    (hw : swappedStores [.Tuple [.Name x px, .Name y py] kt pt] (.Tuple [a, b] k2 pt2) X.env = pure (some [x, y])) :
    PS X (.Assign [.Tuple [.Name x px, .Name y py] kt pt] (.Tuple [a, b] k2 pt2) pos) (tS G fs w W κ (.par [i, j] es)) := by
  refine ⟨fun pins s σ H D I hq => (ps_par o.calm (by rw [o.hN]; exact o.nd) (by rw [o.hN]; exact hi) (by rw [o.hN]; exact hj) hij (by rw [o.sc]; exact hx) (by rw [o.sc]; exact hy) ha hw).run pins s σ H D I ?_⟩
  obtain ⟨env, F, Lf, sat, r⟩ := par_read hk h hq
  refine ⟨env, F, Lf, sat, r.imp fun ts env1 h vs F' H' L e rep s => ?_⟩
  obtain ⟨h1, h2, h3⟩ := h vs F' H' L e rep s
  match vs, h1 with
  | [u, v], _ => exact ⟨u, v, rfl, h2⟩
theorem snd_par3 (o : XOk G nm fs k S W X) {ks : List Nat} (hk : Keeps κ ks) {i j l : Nat} {x y z : Str} {a b c : Expr} {es : Es} {px py pz pt : Pos} {kt k2 pt2} (h : ([i, j, l].all fun i => !ks.contains i) = true) (hi : S.N[i]? = some x) (hj : S.N[j]? = some y) (hl : S.N[l]? = some z)
    (hij : i ≠ j) (hil : i ≠ l) (hjl : j ≠ l) (hx : S.sc.names.lookup x = some .local) (hy : S.sc.names.lookup y = some .local) (hz : S.sc.names.lookup z = some .local) (ha : PA X [a, b, c] (tL G fs W κ es))
    (hw : swappedStores [.Tuple [.Name x px, .Name y py, .Name z pz] kt pt] (.Tuple [a, b, c] k2 pt2) X.env = pure (some [x, y, z])) :
    PS X (.Assign [.Tuple [.Name x px, .Name y py, .Name z pz] kt pt] (.Tuple [a, b, c] k2 pt2) pos) (tS G fs w W κ (.par [i, j, l] es)) := by
  refine ⟨fun pins s σ H D I hq => (ps_par3 o.calm (by rw [o.hN]; exact o.nd) (by rw [o.hN]; exact hi) (by rw [o.hN]; exact hj) (by rw [o.hN]; exact hl) hij hil hjl (by rw [o.sc]; exact hx) (by rw [o.sc]; exact hy) (by rw [o.sc]; exact hz) ha hw).run pins s σ H D I ?_⟩
  obtain ⟨env, F, Lf, sat, r⟩ := par_read hk h hq
  refine ⟨env, F, Lf, sat, r.imp fun ts env1 h vs F' H' L e rep s => ?_⟩
  obtain ⟨h1, h2, h3⟩ := h vs F' H' L e rep s
  match vs, h1 with
  | [u, v, w], _ => exact ⟨u, v, w, rfl, h2⟩
/-! ### x[i] = value -/
theorem reps_set : ∀ {ts : List T} {vs : List V} {L : List Cell} {j : Nat}, Reps G F ts vs L → j < ts.length → ∃ L0 L1, L.Perm (L0 ++ L1) ∧ ∀ {t : T} {v : V} {Lv : List Cell}, Rep G F t v Lv → ∃ L', Reps G F (ts.set j t) (vs.set j v) L' ∧ L'.Perm (Lv ++ L1)
  | _, _, _, _, .nil, h => by simp at h
  | _, _, _, 0, @Reps.cons _ _ t0 v0 L0 ts vs L1 h r, _ => ⟨L0, L1, .refl _, fun {t v Lv} rv => ⟨Lv ++ L1, .cons rv r, .refl _⟩⟩
  | _, _, _, j + 1, @Reps.cons _ _ t0 v0 L0 ts vs L1 h r, hj => by
    obtain ⟨M0, M1, p, f⟩ := reps_set (j := j) r (by simpa using hj)
    refine ⟨M0, L0 ++ M1, perm_mid p, fun {t v Lv} rv => ?_⟩
    obtain ⟨L', r', p'⟩ := f rv
    exact ⟨L0 ++ L', .cons h r', perm_mid p'⟩
theorem firstIx_none (k : Key) : ∀ (kvs : List (Key × V)) (n : Nat), firstIx (keyT k) (kvs.map fun p => keyT p.1) n = none → ∀ p ∈ kvs, p.1 ≠ k
  | [], _, _, p, hp => by cases hp
  | q :: r, n, h, p, hp => by
    simp only [List.map_cons, firstIx] at h
    split at h
    · cases h
    · rename_i hk
      rcases List.mem_cons.mp hp with rfl | hp
      · exact fun e => hk (by rw [e]; exact keyT_self k)
      · exact firstIx_none k r (n + 1) h p hp
theorem putK_none {kvs : List (Key × V)} {k : Key} {v : V} (h : ∀ p ∈ kvs, p.1 ≠ k) : putK kvs k v = kvs ++ [(k, v)] := by
  unfold putK
  rw [if_neg]
  intro e
  obtain ⟨p, hp, e⟩ := List.any_eq_true.mp e
  exact h p hp (of_decide_eq_true e)
theorem map_none {kvs : List (Key × V)} {k : Key} {v : V} (h : ∀ p ∈ kvs, p.1 ≠ k) : (kvs.map fun kv => if kv.1 = k then (kv.1, v) else kv) = kvs := by
  induction kvs with
  | nil => rfl
  | cons p r ih =>
    rw [List.map_cons, if_neg (h p List.mem_cons_self), ih fun q hq => h q (List.mem_cons_of_mem _ hq)]
theorem putK_at (k : Key) (v : V) : ∀ (kvs : List (Key × V)) (n j : Nat), firstIx (keyT k) (kvs.map fun p => keyT p.1) n = some j → (∀ p ∈ kvs.drop (j - n + 1), p.1 ≠ k) →
    n ≤ j ∧ j - n < kvs.length ∧ (kvs.any fun kv => decide (kv.1 = k)) = true ∧ (kvs.map fun kv => if kv.1 = k then (kv.1, v) else kv).map (·.1) = kvs.map (·.1) ∧ (kvs.map fun kv => if kv.1 = k then (kv.1, v) else kv).map (·.2) = (kvs.map (·.2)).set (j - n) v
  | [], n, j, h, _ => by simp [firstIx] at h
  | (k', v') :: r, n, j, h, hd => by
    simp only [List.map_cons, firstIx] at h
    split at h
    · rename_i hk
      cases h
      have e : k = k' := keyT_inj (key_eqB (k := k') (by cases k <;> rfl) hk)
      subst e
      rw [Nat.sub_self] at hd ⊢
      have hd : ∀ p ∈ r, p.1 ≠ k := by simpa using hd
      refine ⟨Nat.le_refl _, by simp, by simp, ?_, ?_⟩ <;> rw [List.map_cons, map_none hd] <;> simp
    · rename_i hk
      have hne : ¬ k' = k := fun e => by subst e; exact hk (keyT_self k')
      obtain ⟨h0, _⟩ := valV_ix k r (n + 1) j h
      have e1 : j - n = (j - (n + 1)) + 1 := by omega
      rw [e1] at hd ⊢
      obtain ⟨_, h2, h3, h4, h5⟩ := putK_at k v r (n + 1) j h (by simpa using hd)
      refine ⟨by omega, by simpa using h2, by simp [h3], ?_, ?_⟩
      · rw [List.map_cons, if_neg hne, List.map_cons, h4]; rfl
      · rw [List.map_cons, if_neg hne, List.map_cons, h5]; rfl
/-- a list's item, a dict's entry -/
def rSetE : V → V → V → Hp → (Hp → Prop) → Prop := fun o i v H Q => rSetL o i v H Q ∨ rSetD o i v H Q
theorem set_e (hu : X.A.units + 65 < cLine) : PSet X rSetE := by
  intro pins s σ H o i v ov iv u Q I ro ri rv h
  rcases h with h | h
  · exact set_list pins s σ H o i v ov iv u Q I ro ri rv h
  · exact set_dict (by omega) pins s σ H o i v ov iv u Q I ro ri rv h
theorem Sat.ownD {i : Nat} {ks ts : List T} (s : Sat G κ σ env F Lf H) (e : env[i]? = some (some (.dct true ks ts))) :
    ∃ a kvs L1, σ[i]? = some (some (.ref a)) ∧ H a = some (.dK kvs) ∧ ks = kvs.map (fun p => keyT p.1) ∧ Reps G F ts (kvs.map (·.2)) L1 ∧ Sat G κ σ (env.set i none) F ((a, .dK kvs) :: (L1 ++ Lf)) H := by
  obtain ⟨v, L1, h1, h2, h3⟩ := s.get e
  cases h2 with
  | @dctO a kvs _ _ L1 k r => exact ⟨a, kvs, L1, h1, h3.at_.at_ (a, .dK kvs) List.mem_cons_self, k, r, h3⟩
/-- an entry is put -/
theorem set_sat {x : Nat} {i t : T} {env2 : Env} {iv v : V} {Lv : List Cell} (s : Sat G κ σ env F (Lv ++ Lf) H) (ri : Rep G F i iv []) (rv : Rep G F t v Lv) (e : setIxT env x i t = some env2) {Q : Hp → Prop} (hQ : ∀ H', Sat G κ σ env2 F Lf H' → Q H') :
    ∃ a, σ[x]? = some (some (.ref a)) ∧ rSetE (.ref a) iv v H Q := by
  unfold setIxT at e
  split at e
  · rename_i ts i hx
    split at e
    · rename_i hsm
      cases ej : pIx ts.length i with
      | none => rw [ej] at e; cases e
      | some j =>
        rw [ej] at e
        cases e
        obtain ⟨a, vs, L1, h1, h2, h3, h4⟩ := s.own (join_some hx)
        cases ri
        have hl := h3.length
        rw [pIx_eq] at ej
        obtain ⟨b1, _, _, _⟩ := ixN_seq ej
        obtain ⟨L0, M1, p, f⟩ := reps_set (j := j) h3 (by omega)
        obtain ⟨L', r', p'⟩ := f rv
        refine ⟨a, h1, .inl ⟨a, vs, i, j, rfl, rfl, h2, by rw [← hl]; exact ej, hQ _ ?_⟩⟩
        have s2 := h4.wr (o' := .lst (vs.set j v))
        have s3 : Sat G κ σ (env.set x none) F (((a, .lst (vs.set j v)) :: L') ++ Lf) (upd H a (.lst (vs.set j v))) := by
          have p1 : ((a, HO.lst (vs.set j v)) :: (L1 ++ (Lv ++ Lf))).Perm (L0 ++ (((a, HO.lst (vs.set j v)) :: L') ++ Lf)) := by
            have q1 : (L1 ++ (Lv ++ Lf)).Perm (L0 ++ (L' ++ Lf)) := by
              refine (p.append_right _).trans ?_
              rw [List.append_assoc]
              refine List.Perm.append_left L0 ?_
              refine perm_swap.trans ?_
              rw [← List.append_assoc]
              exact (p'.symm).append_right Lf
            exact (List.Perm.cons _ q1).trans List.perm_middle.symm
          exact (s2.perm p1).drop
        have s4 := Sat.back s3 h1 (.lstO r')
        rwa [List.set_set] at s4
    · cases e
  · rename_i ks vs0 hx
    split at e
    · rename_i hc
      simp only [Bool.and_eq_true, decide_eq_true_eq] at hc
      obtain ⟨a, kvs, L1, h1, h2, rfl, h3, h4⟩ := s.ownD (join_some hx)
      obtain ⟨k, rfl⟩ := isKey_of hc.1
      have ek : iv = kV k := Has.key (F := F) (H := H) ⟨[], ri, by simp⟩
      subst ek
      have hlk : kvs.length < sizeLine := by
        have := hc.2
        rw [List.length_map, lineS'] at this
        exact this
      unfold keyIx at e
      cases ef : firstIx (keyT k) (kvs.map fun p => keyT p.1) 0 with
      | none =>
        rw [ef] at e
        cases e
        refine ⟨a, h1, .inr ⟨a, _, rfl, DPut.k h2 hlk, hQ _ ?_⟩⟩
        rw [putK_none (firstIx_none k kvs 0 ef)]
        have s2 := h4.wr (o' := .dK (kvs ++ [(k, v)]))
        have s3 : Sat G κ σ (env.set x none) F (((a, .dK (kvs ++ [(k, v)])) :: (L1 ++ (Lv ++ []))) ++ Lf) (upd H a (.dK (kvs ++ [(k, v)]))) := by
          rw [List.append_nil, List.cons_append, List.append_assoc]
          exact s2
        have s4 := Sat.back s3 h1 (.dctO (ks := kvs.map (fun p => keyT p.1) ++ [keyT k]) (by simp) (by rw [List.map_append]; exact h3.app (.cons rv .nil)))
        rwa [List.set_set] at s4
      | some j =>
        rw [ef] at e
        simp only at e
        split at e
        · rename_i hn
          cases e
          rw [Option.isNone_iff_eq_none, ← List.map_drop] at hn
          have hd := firstIx_none k _ 0 hn
          obtain ⟨_, q2, q3, q4, q5⟩ := putK_at k v kvs 0 j ef (by rw [Nat.sub_zero]; exact hd)
          rw [Nat.sub_zero] at q2 q5
          refine ⟨a, h1, .inr ⟨a, _, rfl, DPut.k h2 hlk, hQ _ ?_⟩⟩
          have ep : putK kvs k v = kvs.map fun kv => if kv.1 = k then (kv.1, v) else kv := by
            unfold putK
            rw [if_pos q3]
          have hl := h3.length
          rw [List.length_map] at hl
          obtain ⟨L0, M1, p, f⟩ := reps_set (j := j) h3 (by omega)
          obtain ⟨L', r', p'⟩ := f rv
          have s2 := h4.wr (o' := .dK (putK kvs k v))
          have s3 : Sat G κ σ (env.set x none) F (((a, .dK (putK kvs k v)) :: L') ++ Lf) (upd H a (.dK (putK kvs k v))) := by
            have p1 : ((a, HO.dK (putK kvs k v)) :: (L1 ++ (Lv ++ Lf))).Perm (L0 ++ (((a, HO.dK (putK kvs k v)) :: L') ++ Lf)) := by
              have q1 : (L1 ++ (Lv ++ Lf)).Perm (L0 ++ (L' ++ Lf)) := by
                refine (p.append_right _).trans ?_
                rw [List.append_assoc]
                refine List.Perm.append_left L0 ?_
                refine perm_swap.trans ?_
                rw [← List.append_assoc]
                exact (p'.symm).append_right Lf
              exact (List.Perm.cons _ q1).trans List.perm_middle.symm
            exact (s2.perm p1).drop
          have s4 := Sat.back s3 h1 (.dctO (ks := kvs.map fun p => keyT p.1) (ts := vs0.set j t) ?_ ?_)
          · rwa [List.set_set] at s4
          · rw [ep]
            have := congrArg (List.map keyT) q4
            simp only [List.map_map] at this ⊢
            exact this.symm
          · rw [ep, q5]; exact r'
        · cases e
    · cases e
  · cases e
end
end Ev
end
section
set_option Elab.async false
set_option linter.all false
set_option maxRecDepth 100000
set_option maxHeartbeats 1000000
/-! Ev, part P: stores into lists and dicts, append, extend. -/
namespace Ev
open PySem PySem.Spec PyProof.Rows L2
section
variable {G : Gm} {nm : Nm} {fs : Fns} {k w : Nat} {S : Sx} {W : WX} {X : Cx} {κ : Pins} {pos : Pos} {σ : L2.St} {F F1 : Hp} {Lf L : List Cell} {H : Hp} {env : Env} {D : Ends}
theorem set_read {x : Nat} {ix : E} {t : T} {v : V} {Lv : List Cell} {g : Env → Fl} (s : Sat G κ σ env F (Lv ++ Lf) H) (rv : Rep G F t v Lv) (h : FlOk G W κ F Lf D (setIxS (evE fs ix) env x t g)) :
    gSub (tVar x) (tE G fs W κ ix) rSetE v σ H fun σ' H' => σ' = σ ∧ ∃ env' F', Ext F F' ∧ Sat G κ σ env' F' Lf H' ∧ FlOk G W κ F' Lf D (g env') := by
  unfold setIxS at h
  cases ex : (env[x]?).join with
  | none => rw [ex] at h; exact h.elim
  | some t0 =>
    rw [ex] at h
    obtain ⟨o, _, h1, _, _⟩ := s.get (join_some ex)
    refine ⟨o, h1, env, F, Lv ++ Lf, s, ?_⟩
    refine Rw.go (L := Lv) (K := Ok1 G κ σ F (Lv ++ Lf) _) (FlOk.fl h fun i env1 _ r1 iv F' H' Li e ri s1 => ?_) (Ext.refl F) fun _ _ q => q
    cases eq : setIxT env1 x i t with
    | none => rw [eq] at r1; exact r1.elim
    | some env2 =>
      rw [eq] at r1
      have hp : Li = [] := by
        have : i.pure = true := by
          unfold setIxT at eq
          split at eq
          · rfl
          · split at eq
            · rename_i hc
              simp only [Bool.and_eq_true] at hc
              obtain ⟨kk, rfl⟩ := isKey_of hc.1
              cases kk <;> rfl
            · cases eq
          · cases eq
        exact ri.pure_nil this
      subst hp
      obtain ⟨a, h2, h3⟩ := set_sat (Lv := Lv) (Lf := Lf) (Q := fun H4 => σ = σ ∧ ∃ env' F', Ext F F' ∧ Sat G κ σ env' F' Lf H4 ∧ FlOk G W κ F' Lf D (g env')) s1 ri (rv.mono e) eq fun H4 s4 => ⟨rfl, env2, F', e, s4, r1.ext e⟩
      rw [h1] at h2
      cases h2
      exact h3
theorem subAssign {o i : Expr} {env : PySem.Env} (h : sliceB i = false) : ∀ v, assign (.Subscript o i pos) env v = (do let ov ← holding [v] (eval o env); let iv ← holding [v, ov] (eval i env); standAt pos; holding [v, ov, iv] (setItem ov iv v); release [v, ov, iv] []) := by
  intro v
  cases i <;> first | rfl | cases h
/-- x[i] = value -/
theorem snd_setix (hu : X.A.units + 65 < cLine) {x : Nat} {a b c : Expr} {ix e : E} {spos : Pos} (hx : PE X a (tVar x)) (hi : PE X b (tE G fs W κ ix)) (hc : PE X c (tE G fs W κ e)) (hs : sliceB b = false)
    (hsw : swapsWithSole [.Subscript a b spos] c pos.line X.env = pure false) (hw : swappedStores [.Subscript a b spos] c X.env = pure none) : PS X (.Assign [.Subscript a b spos] c pos) (tS G fs w W κ (.setix x ix e)) := by
  refine ⟨fun pins s σ H D I hq => (ps_asg hc (pg_sub hx hi (set_e hu) (subAssign hs)) hsw hw rfl).run pins s σ H D I ?_⟩
  obtain ⟨env, F, Lf, sat, r⟩ := hq
  unfold evS at r
  refine ⟨env, F, Lf, sat, r.fl fun t env1 _ r1 v F' H' L e rep s => ?_⟩
  obtain ⟨o, h1, h2⟩ := set_read s rep (r1.ext e)
  refine ⟨o, h1, ?_⟩
  obtain ⟨env2, F2, Lf2, s2, r2⟩ := h2
  refine ⟨env2, F2, Lf2, s2, r2.imp fun i env3 q iv F3 H3 L3 e3 ri s3 => ?_⟩
  have z := q iv F3 H3 L3 e3 ri s3
  rcases z with ⟨p, xs, k, j, a1, a2, a3, a4, _, env', F4, _, s4, r4⟩ | ⟨p, H4, a1, a2, _, env', F4, _, s4, r4⟩
  · exact .inl ⟨p, xs, k, j, a1, a2, a3, a4, r4 σ F4 _ (Ext.refl F4) s4⟩
  · exact .inr ⟨p, H4, a1, a2, r4 σ F4 _ (Ext.refl F4) s4⟩
theorem rSetE.imp {o i v : V} {Q Q' : Hp → Prop} (h : rSetE o i v H Q) (f : ∀ H', Q H' → Q' H') : rSetE o i v H Q' := by
  rcases h with ⟨p, xs, k, j, a1, a2, a3, a4, q⟩ | ⟨p, H4, a1, a2, q⟩
  · exact .inl ⟨p, xs, k, j, a1, a2, a3, a4, f _ q⟩
  · exact .inr ⟨p, H4, a1, a2, f _ q⟩
theorem gSub.imp {x : Nat} {ix : E} {v : V} {Q Q' : L2.St → Hp → Prop} (h : gSub (tVar x) (tE G fs W κ ix) rSetE v σ H Q) (f : ∀ H', Q σ H' → Q' σ H') : gSub (tVar x) (tE G fs W κ ix) rSetE v σ H Q' := by
  obtain ⟨o, h1, env2, F2, Lf2, s2, r2⟩ := h
  exact ⟨o, h1, env2, F2, Lf2, s2, r2.imp fun i env3 q iv F3 H3 L3 e3 ri s3 => (q iv F3 H3 L3 e3 ri s3).imp f⟩
/-- x1[i1], x2[i2] = e1, e2 -/
theorem snd_swap (o : XOk G nm fs k S W X) {x1 x2 : Nat} {a1 b1 a2 b2 c1 c2 : Expr} {i1 i2 e1 e2 : E} {sp1 sp2 tp vp : Pos} {j1 j2 : Nat} (hx1 : PE X a1 (tVar x1)) (hi1 : PE X b1 (tE G fs W κ i1)) (hx2 : PE X a2 (tVar x2)) (hi2 : PE X b2 (tE G fs W κ i2))
    (hc1 : PE X c1 (tE G fs W κ e1)) (hc2 : PE X c2 (tE G fs W κ e2)) (hs1 : sliceB b1 = false) (hs2 : sliceB b2 = false) (hc3 : starB c1 = false) (hc4 : starB c2 = false)
    (hsw : swapsWithSole [.Tuple [.Subscript a1 b1 sp1, .Subscript a2 b2 sp2] j1 tp] (.Tuple [c1, c2] j2 vp) pos.line X.env = pure false) (hw : swappedStores [.Tuple [.Subscript a1 b1 sp1, .Subscript a2 b2 sp2] j1 tp] (.Tuple [c1, c2] j2 vp) X.env = pure none) :
    PS X (.Assign [.Tuple [.Subscript a1 b1 sp1, .Subscript a2 b2 sp2] j1 tp] (.Tuple [c1, c2] j2 vp) pos) (tS G fs w W κ (.swap x1 i1 x2 i2 e1 e2)) := by
  have hu := o.hu
  refine ⟨fun pins s σ H D I hq => (ps_asg (pe_tup (pa_cons hc1 (pa_cons hc2 pa_nil (starEach_cons hc4)) (starEach_cons hc3))) (pg_tup o.calm (pgs_cons (pg_sub hx1 hi1 (set_e hu) (subAssign hs1)) (pgs_cons (pg_sub hx2 hi2 (set_e hu) (subAssign hs2)) pgs_nil)) rfl rfl) hsw hw rfl).run pins s σ H D I ?_⟩
  obtain ⟨env, F, Lf, sat, r⟩ := hq
  unfold evS at r
  refine ⟨env, F, Lf, sat, r.fl fun ta env1 _ r1 va F1 H1 L1 ex1 rep1 s1 => ?_⟩
  refine ⟨env1, F1, L1 ++ Lf, s1, Rw.go (K := Ok1 G κ σ F1 (L1 ++ Lf) _) (FlOk.fl (r1.ext ex1) fun tb env2 _ r2 vb F2 H2 L2' ex2 rep2 s2 => ?_) (Ext.refl F1) fun _ _ q => q⟩
  by_cases hp : (ta.pure && tb.pure) = true
  case neg => rw [if_neg hp] at r2; exact r2.elim
  rw [if_pos hp] at r2
  simp only [Bool.and_eq_true] at hp
  cases rep1.pure_nil hp.1
  cases rep2.pure_nil hp.2
  have s2 : Sat G κ σ env2 F2 Lf H2 := s2
  refine ⟨by show 2 ≤ sizeLine; decide, fun p hpn => ⟨p, [va, vb], rfl, .inl (.of upd_same), rfl, va, [vb], rfl, ?_⟩⟩
  have q := Res.newF (o := .tup [va, vb]) s2.ext hpn
  have s3 : Sat G κ σ env2 (upd F2 p (.tup [va, vb])) Lf (upd H2 p (.tup [va, vb])) := s2.res q
  have r3 := (r2.ext (ex2.trans q.1))
  refine gSub.imp (set_read (Lv := []) s3 (rep1.mono (ex2.trans q.1)) r3) ?_
  rintro H4 ⟨_, env4, F4, ex4, s4, r4⟩
  refine ⟨vb, [], rfl, ?_⟩
  refine gSub.imp (set_read (Lv := []) s4 (rep2.mono (q.1.trans ex4)) r4) ?_
  rintro H5 ⟨_, env5, F5, _, s5, r5⟩
  exact ⟨rfl, r5 σ F5 H5 (Ext.refl F5) s5⟩
theorem app_sat {i : Nat} {ts us : List T} {a : Addr} {vs ws : List V} {L1 L2' : List Cell} (s : Sat G κ σ (env.set i none) F ((a, .lst vs) :: (L1 ++ (L2' ++ Lf))) H) (h1 : σ[i]? = some (some (.ref a))) (r1 : Reps G F ts vs L1) (r2 : Reps G F us ws L2') :
    Sat G κ σ (env.set i (some (.lst true (ts ++ us)))) F Lf (upd H a (.lst (vs ++ ws))) := by
  have s2 := s.wr (o' := .lst (vs ++ ws))
  have s3 : Sat G κ σ (env.set i none) F (((a, .lst (vs ++ ws)) :: (L1 ++ L2')) ++ Lf) (upd H a (.lst (vs ++ ws))) := by
    rw [List.cons_append, List.append_assoc]
    exact s2
  have s4 := Sat.back s3 h1 (.lstO (r1.app r2))
  rwa [List.set_set] at s4
/-- x.append(value) -/
theorem snd_app (hK : X.K = G.K) {i : Nat} {e : E} {a b : Expr} {apos cpos : Pos} (ha : PE X a (tVar i)) (hb : plainBase a = true) (hl : (apos.endLine == cpos.line) = true) (he : PE X b (tE G fs W κ e)) (hs : starB b = false) :
    PS X (.Expr (.Call (.Attribute a "append" apos) [b] [] cpos) pos) (tS G fs w W κ (.app i e)) := by
  refine ⟨fun pins s σ H D I hq => (ps_expr (pe_bm PySem.F.plainAttrs_list PySem.F.slot_list_append PySem.F.type_list_append mt_append ha (pa_cons he pa_nil (starEach_cons hs)) (base_of hb _) (few1 hs) hl (starEach_cons hs) rfl) rfl).run pins s σ H D I ?_⟩
  obtain ⟨env, F, Lf, sat, r⟩ := hq
  unfold evS at r
  cases e0 : (env[i]?).join with
  | none => rw [e0] at r; exact r.elim
  | some t0 =>
    rw [e0] at r
    have r : FlOk G W κ F Lf D (if isLst t0 = true then (evE fs e env).fl fun t env => match (env[i]?).join with
      | some (.lst true ts) => if decide (ts.length < line) = true then Fl.nx (env.set i (some (.lst true (ts ++ [t])))) else .no
      | _ => .no
      else .no) := r
    by_cases h0 : isLst t0 = true
    case neg => rw [if_neg h0] at r; exact r.elim
    rw [if_pos h0] at r
    obtain ⟨w, L0, g1, g2, _⟩ := sat.get (join_some e0)
    have gh := sat.has_slot (join_some e0) g1
    cases t0 <;> first | cases h0 | skip
    obtain ⟨p, vs0, rfl, q0, _, _⟩ := gh.lst sat.ext
    refine ⟨.ref p, g1, .inl ⟨rfl, vs0, hK ▸ q0⟩, env, F, Lf, sat, FlOk.fl r fun j env1 hj r1 v F1 H1 L1 e1 rep s1 => ?_⟩
    clear hj
    cases e2 : (env1[i]?).join with
    | none => simp only [e2] at r1; exact r1.elim
    | some t1 =>
      simp only [e2] at r1
      cases t1 <;> first | exact r1.elim | skip
      rename_i o1 ts
      cases o1 <;> first | exact r1.elim | skip
      have r1 : FlOk G W κ F Lf D (if decide (ts.length < line) = true then Fl.nx (env1.set i (some (.lst true (ts ++ [j])))) else .no) := r1
      by_cases hln : decide (ts.length < line) = true
      case neg => rw [if_neg hln] at r1; exact r1.elim
      rw [if_pos hln] at r1
      simp only [decide_eq_true_eq, lineS'] at hln
      obtain ⟨p', vs, M1, h1, h2, h3, h4⟩ := s1.own (join_some e2)
      rw [g1] at h1; cases h1
      have hl := h3.length
      refine ⟨p, vs, v, rfl, rfl, h2, by omega, r1 _ F1 _ e1 ?_⟩
      exact app_sat (L2' := L1) h4 g1 h3 (by have := Reps.cons (G := G) rep (.nil); rwa [List.append_nil] at this)
/-- x.extend(a new list) -/
theorem snd_ext (hK : X.K = G.K) {i : Nat} {e : E} {a b : Expr} {apos cpos : Pos} (ha : PE X a (tVar i)) (hb : plainBase a = true) (hl : (apos.endLine == cpos.line) = true) (he : PE X b (tE G fs W κ e)) (hs : starB b = false) :
    PS X (.Expr (.Call (.Attribute a "extend" apos) [b] [] cpos) pos) (tS G fs w W κ (.ext i e)) := by
  refine ⟨fun pins s σ H D I hq => (ps_expr (pe_bm PySem.F.plainAttrs_list PySem.F.slot_list_extend PySem.F.type_list_extend mt_extend ha (pa_cons he pa_nil (starEach_cons hs)) (base_of hb _) (few1 hs) hl (starEach_cons hs) rfl) rfl).run pins s σ H D I ?_⟩
  obtain ⟨env, F, Lf, sat, r⟩ := hq
  unfold evS at r
  cases e0 : (env[i]?).join with
  | none => rw [e0] at r; exact r.elim
  | some t0 =>
    rw [e0] at r
    have r : FlOk G W κ F Lf D (if isLst t0 = true then (evE fs e env).fl fun t env => match (env[i]?).join, t with
      | some (.lst true ts), .lst true us => if (decide (ts.length + us.length ≤ line) && us.all T.pure) = true then Fl.nx (env.set i (some (.lst true (ts ++ us)))) else .no
      | _, _ => .no
      else .no) := r
    by_cases h0 : isLst t0 = true
    case neg => rw [if_neg h0] at r; exact r.elim
    rw [if_pos h0] at r
    obtain ⟨w, L0, g1, g2, _⟩ := sat.get (join_some e0)
    have gh := sat.has_slot (join_some e0) g1
    cases t0 <;> first | cases h0 | skip
    obtain ⟨p, vs0, rfl, q0, _, _⟩ := gh.lst sat.ext
    refine ⟨.ref p, g1, .inl ⟨rfl, vs0, hK ▸ q0⟩, env, F, Lf, sat, FlOk.fl r fun j env1 hj r1 v F1 H1 L1 e1 rep s1 => ?_⟩
    clear hj
    cases e2 : (env1[i]?).join with
    | none => simp only [e2] at r1; exact r1.elim
    | some t1 =>
      simp only [e2] at r1
      cases t1 <;> first | exact r1.elim | skip
      rename_i o1 ts
      cases o1 <;> first | exact r1.elim | skip
      cases j <;> first | exact r1.elim | skip
      rename_i o2 us
      cases o2 <;> first | exact r1.elim | skip
      have r1 : FlOk G W κ F Lf D (if (decide (ts.length + us.length ≤ line) && us.all T.pure) = true then Fl.nx (env1.set i (some (.lst true (ts ++ us)))) else .no) := r1
      by_cases hln : (decide (ts.length + us.length ≤ line) && us.all T.pure) = true
      case neg => rw [if_neg hln] at r1; exact r1.elim
      rw [if_pos hln] at r1
      simp only [Bool.and_eq_true, decide_eq_true_eq, lineS'] at hln
      cases rep with
      | @lstO b zs _ M r2 =>
        obtain ⟨r3, rfl⟩ := r2.pure_nil hln.2
        have hb := s1.at_.at_ (b, .lst zs) List.mem_cons_self
        obtain ⟨p', vs, M1, h1, h2, h3, h4⟩ := s1.own (join_some e2)
        rw [g1] at h1; cases h1
        have hl := h3.length
        have hl2 := r3.length
        refine ⟨p, b, vs, zs, rfl, rfl, h2, hb, by omega, r1 _ F1 _ e1 ?_⟩
        refine app_sat (L2' := []) (Lf := Lf) ?_ g1 h3 r3
        have p1 : ((p, HO.lst vs) :: (M1 ++ ([(b, HO.lst zs)] ++ Lf))).Perm ([(b, HO.lst zs)] ++ ((p, HO.lst vs) :: (M1 ++ Lf))) := by
          refine (List.Perm.cons _ (perm_swap (A := M1) (B := [(b, HO.lst zs)]) (C := Lf))).trans ?_
          exact perm_swap (A := [(p, HO.lst vs)]) (B := [(b, HO.lst zs)]) (C := M1 ++ Lf)
        exact (h4.perm p1).drop
end
end Ev
end
section
set_option Elab.async false
set_option linter.all false
set_option maxRecDepth 100000
set_option maxHeartbeats 1000000
/-! Ev, part Q: which expression of the program an expression of the small language stands for. -/
namespace Ev
open PySem PySem.Spec PyProof.Rows L2
section
variable {G : Gm} {nm : Nm} {fs : Fns} {k w : Nat} {S : Sx} {W : WX} {X : Cx} {κ : Pins} {pos : Pos} {σ : L2.St} {F F1 : Hp} {Lf L : List Cell} {H : Hp} {env : Env} {D : Ends}
/-- a list's index -/
theorem snd_index (o : XOk G nm fs k S W X) {ea : E} {es : Es} {a b : Expr} {apos cpos : Pos} (ha : PE X a (tO G fs W κ ea)) (hb : plainBase a = true) (hl : (apos.endLine == cpos.line) = true) (he : PA X [b] (tOs G fs W κ es)) (hs : starB b = false) :
    PE X (.Call (.Attribute a "index" apos) [b] [] cpos) (tE G fs W κ (.bm .lindex (.cons ea .nil) es)) := by
  have hm : MtR X "list.index" (fun x xs H Q => ∃ (F : Hp) (a : T) (ts : List T) (t : T), Ext F H ∧ Has G F H a x ∧ HasA G F H ts xs ∧ prim .lindex (a :: ts) = some t ∧ Cont G F H t Q) :=
    fun pins s σ H x xs v us Q I rx rv ⟨F, a, ts, t, hF, h1, h2, h3, c⟩ => opm_index o.hK o.hu pins s σ H x xs v us Q F a ts t I rx rv hF h1 h2 h3 c
  refine ⟨fun pins s σ H Q I hq => (pe_bm PySem.F.plainAttrs_list PySem.F.slot_list_index PySem.F.type_list_index hm ha he (base_of hb _) (few1 hs) hl (starEach_cons hs) rfl).run pins s σ H Q I ?_⟩
  obtain ⟨env, F, Lf, sat, r⟩ := hq
  unfold evE at r
  rw [evO_cons, Out.bind_assoc] at r
  refine ⟨env, F, Lf, sat, r.bind fun o1 env1 _ r1 x F1 H1 L1 e1 o1r s1 => ?_⟩
  simp only [evO, Out.bind_ok] at r1
  cases ho : opds env1 [o1] with
  | none => rw [ho] at r1; exact r1.elim
  | some ts =>
    rw [ho] at r1
    have hh := Sat.has_all (os := [o1]) (L := L1 ++ []) (.cons o1r .nil) (Lf := Lf) (by rw [List.append_nil]; exact s1) ho
    cases hh with
    | @cons t _ _ _ h1 h2 =>
      cases h2
      have r1 : Rw G W κ σ F Lf (if rcvOk .lindex t = true then (evO fs es env1).bind fun os2 env => match opds env ([o1] ++ os2) with
        | some ts => ofOpt (prim .lindex ts) env
        | none => .no
        else .no) (Ok1 G κ σ F Lf Q) := r1
      by_cases hr : rcvOk .lindex t = true
      case neg => rw [if_neg hr] at r1; exact r1.elim
      rw [if_pos hr] at r1
      cases t <;> first | (cases hr; done) | skip
      obtain ⟨p, vs, rfl, q, _, _⟩ := h1.lst s1.ext
      refine ⟨.inl ⟨rfl, vs, o.hK ▸ q⟩, env1, F1, L1 ++ Lf, s1, Rw.bind (r1.go e1 fun _ _ q => q) fun os2 env2 _ r2 xs F2 H2 L2' e2 osr s2 => ?_⟩
      cases ho2 : opds env2 ([o1] ++ os2) with
      | none => rw [ho2] at r2; exact r2.elim
      | some ts =>
        rw [ho2] at r2
        obtain ⟨t, ht, r3⟩ := r2.opt
        have s3 : Sat G κ σ env2 F2 ((L1 ++ L2') ++ Lf) H2 := s2.perm (by rw [List.append_assoc]; exact perm_swap)
        have hh := Sat.has_all (os := o1 :: os2) (L := L1 ++ L2') (.cons (o1r.mono e2) osr) (Lf := Lf) s3 ho2
        cases hh with
        | cons g1 g2 => exact ⟨F2, _, _, t, s2.ext, g1, g2, ht, Ok1.cont (L := L1 ++ L2') r3 (e1.trans e2) s3⟩

/-! ### shapes -/
def opr : Pr → Option Operator
  | .add => some .Add | .sub => some .Sub | .mul => some .Mult | .fdiv => some .FloorDiv | .mod => some .Mod | .pow => some .Pow | _ => none
def cmpOf : Pr → Option Cmp
  | .cmp c => some c
  | _ => none
/-- a built-in called by name: the name, a function or a type -/
def bltOf : Pr → Option (Str × Bool)
  | .len => some ("len", false) | .tuple => some ("tuple", true) | .list => some ("list", true) | .sorted => some ("sorted", false) | .abs => some ("abs", false) | .int1 => some ("int", true)
  | .max2 => some ("max", false) | .min2 => some ("min", false) | .all => some ("all", false) | .sum1 => some ("sum", false) | .repr => some ("repr", false) | _ => none
def tyStr : Nat → Option Str
  | 0 => some "int" | 1 => some "bool" | 2 => some "str" | 3 => some "tuple" | 4 => some "list" | 5 => some "dict" | _ => none
def gB (S : Sx) (nm : Nm) (x : Str) : Bool := glB S.sc x && nm.blt x
/-- the operands -/
def shape (S : Sx) (nm : Nm) (p : Pr) : Expr → Option (List Expr)
  | .BinOp a op b _ => if opr p = some op then some [a, b] else none
  | .UnaryOp op a _ => if op = .USub ∧ p = .neg then some [a] else none
  | .Compare a ops bs _ => match cmpOf p, ops, bs with
    | some c, [op], [b] => if op = cop c ∧ behindInMarks (cop c) b = false then some [a, b] else none
    | _, _, _ => none
  | .Subscript a b _ => if p = .idx ∧ sliceB b = false then some [a, b] else none
  | .Call (.Name x _) as [] _ => match p, as with
    | .isT j, [a, .Name y _] => if x = "isinstance" ∧ gB S nm "isinstance" = true ∧ gB S nm y = true ∧ tyStr j = some y then some [a] else none
    | .rg1, [.Call (.Name y _) [a] [] _] => if x = "list" ∧ y = "range" ∧ gB S nm "list" = true ∧ gB S nm "range" = true then some [a] else none
    | .rg2, [.Call (.Name y _) [a, b] [] _] => if x = "list" ∧ y = "range" ∧ gB S nm "list" = true ∧ gB S nm "range" = true then some [a, b] else none
    | p, a :: as => match bltOf p with
      | some (z, _) => if x = z ∧ gB S nm z = true then some (a :: as) else none
      | none => none
    | _, _ => none
  | _ => none
inductive OsOk (X : Cx) (G : Gm) (fs : Fns) (W : WX) (κ : Pins) : Es → List Expr → Prop
  | nil : OsOk X G fs W κ .nil []
  | cons {e a r as} : PE X a (tO G fs W κ e) → starB a = false → OsOk X G fs W κ r as → OsOk X G fs W κ (.cons e r) (a :: as)
theorem OsOk.pa {es : Es} {as : List Expr} (h : OsOk X G fs W κ es as) : PA X as (tOs G fs W κ es) ∧ (as.all fun e => !starB e) = true := by
  induction h with
  | nil => exact ⟨snd_Os_nil, rfl⟩
  | cons h hs _ ih => exact ⟨snd_Os_cons h ih.1 hs, by simp [hs, ih.2]⟩
theorem gB_of {x : Str} (h : gB S nm x = true) : glB S.sc x = true ∧ nm.blt x = true := by
  unfold gB at h
  simpa using h
theorem op2_of (o : XOk G nm fs k S W X) {p : Pr} {op : Operator} (h : opr p = some op) : Op2 X G (binaryOp op) p := by
  cases p <;> first | (cases h; done) | skip
  · cases h; exact op2_add o.hK
  · cases h; exact op2_sub
  · cases h; exact op2_mul
  · cases h; exact op2_div
  · cases h; exact op2_mod
  · cases h; exact op2_pow
theorem blt_of (o : XOk G nm fs k S W X) {p : Pr} {z : Str} {b : Bool} (h : bltOf p = some (z, b)) : nameOk z = true ∧ ∃ id, bootBuiltins z = some (if b then .type id else .builtin id) ∧ Opn X G (if b then .type id else .builtin id) p := by
  cases p <;> first | (cases h; done) | skip
  · cases h; exact ⟨by decide, "len", by decide +kernel, opn_len o.hK⟩
  · cases h; exact ⟨by decide, "tuple", by decide +kernel, opn_tuple o.hK⟩
  · cases h; exact ⟨by decide, "list", by decide +kernel, opn_list o.hK⟩
  · cases h; exact ⟨by decide, "sorted", by decide +kernel, opn_sorted o.hK⟩
  · cases h; exact ⟨by decide, "abs", by decide +kernel, opn_abs⟩
  · cases h; exact ⟨by decide, "int", by decide +kernel, opn_int1⟩
  · cases h; exact ⟨by decide, "max", by decide +kernel, opn_max o.calm⟩
  · cases h; exact ⟨by decide, "min", by decide +kernel, opn_min o.calm⟩
  · cases h; exact ⟨by decide, "all", by decide +kernel, opn_all o.hK o.calm⟩
  · cases h; exact ⟨by decide, "sum", by decide +kernel, opn_sum o.hK o.calm⟩
  · cases h; exact ⟨by decide, "repr", by decide +kernel, opn_repr⟩
theorem both {a : Expr} {e : E} (h : PE X a (tE G fs W κ e)) (hp : plainT a = true) : PE X a (tE G fs W κ e) ∧ PT X a (tT G fs W κ e) := ⟨h, sndT h hp⟩
theorem ty_of {j : Nat} {y : Str} (h : tyStr j = some y) : nameOk y = true ∧ ∃ m, tyName j = some m ∧ bootBuiltins y = some (.type m) := by
  match j, h with
  | 0, h => cases h; exact ⟨by decide, _, rfl, by decide +kernel⟩
  | 1, h => cases h; exact ⟨by decide, _, rfl, by decide +kernel⟩
  | 2, h => cases h; exact ⟨by decide, _, rfl, by decide +kernel⟩
  | 3, h => cases h; exact ⟨by decide, _, rfl, by decide +kernel⟩
  | 4, h => cases h; exact ⟨by decide, _, rfl, by decide +kernel⟩
  | 5, h => cases h; exact ⟨by decide, _, rfl, by decide +kernel⟩
  | n + 6, h => cases h
theorem shape_call (o : XOk G nm fs k S W X) {p : Pr} {x : Str} {px : Pos} {as bs : List Expr} {es : Es} {z : Str} {b : Bool} (hb : bltOf p = some (z, b)) {a : Expr} (h : (if x = z ∧ gB S nm z = true then some (a :: as) else none) = some bs) (hs : OsOk X G fs W κ es bs) :
    PE X (.Call (.Name x px) (a :: as) [] pos) (tE G fs W κ (.pr p es)) := by
  split at h
  · rename_i hc
    obtain ⟨rfl, hg⟩ := hc
    cases h
    obtain ⟨q1, id, q2, q3⟩ := blt_of o hb
    obtain ⟨g1, g2⟩ := gB_of hg
    obtain ⟨pa, ps⟩ := hs.pa
    simp only [List.all_cons, Bool.and_eq_true, Bool.not_eq_true'] at ps
    cases b with
    | true => exact snd_ty (id := id) o g1 q1 g2 q2 q3 pa ps.1 ps.2
    | false => exact snd_fn (id := id) (e := .non) o g1 q1 g2 q2 q3 pa ps.1 ps.2
  · cases h
theorem shape_ok (o : XOk G nm fs k S W X) {p : Pr} {ast : Expr} {as : List Expr} {es : Es} (h : shape S nm p ast = some as) (hs : OsOk X G fs W κ es as) : PE X ast (tE G fs W κ (.pr p es)) ∧ PT X ast (tT G fs W κ (.pr p es)) := by
  unfold shape at h
  split at h
  · split at h
    · rename_i hc
      cases h
      cases hs with
      | cons ha sa hs => cases hs with
        | cons hb sb hs =>
          cases hs
          exact both (snd_bin (op2_of o hc) ha hb) rfl
    · cases h
  · split at h
    · rename_i hc
      obtain ⟨rfl, rfl⟩ := hc
      cases h
      cases hs with
      | cons ha sa hs =>
        cases hs
        exact both (snd_neg ha) rfl
    · cases h
  · split at h
    · rename_i hc
      split at h
      · rename_i hd
        obtain ⟨rfl, hm⟩ := hd
        cases h
        cases p <;> first | (cases hc; done) | skip
        cases hc
        cases hs with
        | cons ha sa hs => cases hs with
          | cons hb sb hs =>
            cases hs
            exact ⟨snd_cmp o.hK o.hu ha hb hm, sndT_cmp o.hK o.hu ha hb hm⟩
      · cases h
    · cases h
  · split at h
    · rename_i hc
      obtain ⟨rfl, hm⟩ := hc
      cases h
      cases hs with
      | cons ha sa hs => cases hs with
        | cons hb sb hs =>
          cases hs
          exact both (snd_idx o.hK o.hu ha hb hm) rfl
    · cases h
  · refine (fun h => both h rfl) ?_
    split at h
    · split at h
      · rename_i hc
        obtain ⟨rfl, g1, g2, g3⟩ := hc
        cases h
        obtain ⟨g1, g4⟩ := gB_of g1
        obtain ⟨g2, g5⟩ := gB_of g2
        obtain ⟨g6, m, g7, g8⟩ := ty_of g3
        cases hs with
        | cons ha sa hs =>
          cases hs
          exact snd_isT (x := "isinstance") o g1 g4 g7 g2 g6 g5 g8 ha sa
      · cases h
    · split at h
      · rename_i hc
        obtain ⟨rfl, rfl, g1, g2⟩ := hc
        cases h
        obtain ⟨g1, g4⟩ := gB_of g1
        obtain ⟨g2, g5⟩ := gB_of g2
        cases hs with
        | cons ha sa hs =>
          cases hs
          exact snd_rg1 o g1 g4 g2 g5 ha sa
      · cases h
    · split at h
      · rename_i hc
        obtain ⟨rfl, rfl, g1, g2⟩ := hc
        cases h
        obtain ⟨g1, g4⟩ := gB_of g1
        obtain ⟨g2, g5⟩ := gB_of g2
        cases hs with
        | cons ha sa hs => cases hs with
          | cons hb sb hs =>
            cases hs
            exact snd_rg2 o g1 g4 g2 g5 ha hb sa sb
      · cases h
    · split at h
      · rename_i hb
        exact shape_call o hb h hs
      · cases h
    · cases h
  · cases h
end
end Ev
end
section
set_option Elab.async false
set_option linter.all false
set_option maxRecDepth 100000
set_option maxHeartbeats 1000000
/-! Ev, part R: the check of expressions against the program's. -/
namespace Ev
open PySem PySem.Spec PyProof.Rows L2
/-- the value, if a computation is one -/
def semV {α : Type} : Sem α → Option α
  | .pure a => some a
  | _ => none
theorem semV_eq {α : Type} {m : Sem α} {a : α} (h : semV m = some a) : m = pure a := by
  cases m <;> first | (cases h; done) | skip
  cases h; rfl
/-- what a slice's part is -/
def foldB : Expr → Bool
  | .Set .. => false
  | _ => true
theorem fold_of {e : Expr} (h : foldB e = true) (env : PySem.Env) (x : Value) : foldedSetIterable e env x = pure x := by
  cases e <;> first | rfl | cases h
def strB (s : List Nat) (x : Str) : Bool := decide ((⟨s.toArray⟩ : Str) = x)
/-- a constant of the module, by value -/
def conB : T → T → Bool
  | .non, .non => true
  | .bl a, .bl b => a == b
  | .int a, .int b => a == b
  | .str a, .str b => a == b
  | _, _ => false
theorem conB_eq {a b : T} (h : conB a b = true) : a = b := by
  cases a <;> cases b <;> first | (cases h; done) | rfl | (simp [conB] at h; subst h; rfl)
def slotB (S : Sx) (i : Nat) : Expr → Bool
  | .Name x _ => decide (S.N[i]? = some x) && visB S.sc x && nameOk x
  | _ => false
/-- a loop's iterator: its operands -/
def itShape (S : Sx) (nm : Nm) (ik : Ik) (tgA iter : Expr) : Option (List Expr) := match ik with
  | .rg1 => match iter with
    | .Call (.Name y _) [a] [] _ => if y = "range" ∧ gB S nm "range" = true ∧ starB a = false then some [a] else none
    | _ => none
  | .rg2 => match iter with
    | .Call (.Name y _) [a, b] [] _ => if y = "range" ∧ gB S nm "range" = true ∧ starB a = false ∧ starB b = false then some [a, b] else none
    | _ => none
  | .rg3 => match iter with
    | .Call (.Name y _) [a, b, c] [] _ => if y = "range" ∧ gB S nm "range" = true ∧ starB a = false ∧ starB b = false ∧ starB c = false then some [a, b, c] else none
    | _ => none
  | .enum => match tgA, iter with
    | .Tuple _ _ _, .Call (.Name y _) [a] [] _ => if y = "enumerate" ∧ gB S nm "enumerate" = true ∧ starB a = false then some [a] else none
    | _, _ => none
  | .zip => match tgA, iter with
    | .Tuple _ _ _, .Call (.Name y _) [a, b] [] _ => if y = "zip" ∧ gB S nm "zip" = true ∧ starB a = false ∧ starB b = false then some [a, b] else none
    | _, _ => none
  | .seq => if starB iter = false then some [iter] else none
mutual
def chkE (S : Sx) (nm : Nm) : E → Expr → Bool
  | .var i, a => slotB S i a
  | .mv i, a => slotB S i a
  | .non, a => match a with
    | .Constant .none _ _ => true
    | _ => false
  | .bl b, a => match a with
    | .Constant (.bool c) _ _ => b == c
    | _ => false
  | .int i, a => match a with
    | .Constant (.int j) _ _ => i == j
    | _ => false
  | .str s, a => match a with
    | .Constant (.str x) _ _ => strB s x
    | _ => false
  | .glb t _, a => match a with
    | .Name x _ => glB S.sc x && nameOk x && (match nm.con x with
      | some u => conB u t
      | none => false)
    | _ => false
  | .pr p es, a => match shape S nm p a with
    | some as => chkO S nm es as
    | none => false
  | .bm p r es, a => match p, a with
    | .lindex, .Call (.Attribute b n apos) [c] [] cpos => n == ("index" : Str) && chkO S nm r [b] && chkO S nm es [c] && plainBase b && (apos.endLine == cpos.line)
    | _, _ => false
  | .slc r lo hi, a => match a with
    | .Subscript b (.Slice l h none _) _ => chkO S nm r [b] && chkI S nm lo l && chkI S nm hi h
    | _ => false
  | .chain c d x y z, a => match a with
    | .Compare a [op1, op2] [b, e] _ => op1 == cop c && op2 == cop d && chkE S nm x a && chkE S nm y b && chkE S nm z e && !(lastMarks [cop c, cop d] [b, e])
    | _ => false
  | .and x y, a => match a with
    | .BoolOp .And [b, c] _ => chkE S nm x b && chkE S nm y c
    | .BoolOp .And (b :: c :: d :: r) pos => chkE S nm x b && chkE S nm y (.BoolOp .And (c :: d :: r) pos)
    | _ => false
  | .or x y, a => match a with
    | .BoolOp .Or [b, c] _ => chkE S nm x b && chkE S nm y c
    | .BoolOp .Or (b :: c :: d :: r) pos => chkE S nm x b && chkE S nm y (.BoolOp .Or (c :: d :: r) pos)
    | _ => false
  | .not x, a => match a with
    | .UnaryOp .Not b _ => chkE S nm x b
    | _ => false
  | .ite c x y, a => match a with
    | .IfExp d b e _ => chkE S nm c d && chkE S nm x b && chkE S nm y e
    | _ => false
  | .tup es, a => match a with
    | .Tuple as _ _ => chkL S nm es as
    | _ => false
  | .lst es, a => match a with
    | .List as _ => chkL S nm es as
    | _ => false
  | .dct0, a => match a with
    | .Dict [] [] _ => true
    | _ => false
  | .call f es, a => match a with
    | .Call (.Name x _) as [] _ => glB S.sc x && nameOk x && decide (nm.fn x = some f) && chkO S nm es as
    | _ => false
  | .lc e tg own ik es cond, a => match a with
    | .ListComp elt [⟨tgA, iter, ifs, 0⟩] scope _ =>
      let ow := (own.filterMap fun i => (S.N[i]?).map fun x => (x, i))
      decide (ow.map (·.2) = own) && blkC S.N S.sc scope ow && (tg.ix.all fun i => own.contains i) && foldB iter && chkT (blkS S scope) [] tg tgA && (match itShape S nm ik tgA iter with
        | some as => chkL S nm es as
        | none => false) && chkC (blkS S scope) nm cond ifs && chkE (blkS S scope) nm e elt
    | _ => false
  | .popAt i e, a => match a with
    | .Call (.Attribute b n apos) [c] [] cpos => n == ("pop" : Str) && slotB S i b && chkE S nm e c && plainBase b && (apos.endLine == cpos.line) && !starB c
    | _ => false
  | .pop i, a => match a with
    | .Call (.Attribute b n apos) [] [] cpos => n == ("pop" : Str) && slotB S i b && plainBase b && (apos.endLine == cpos.line)
    | _ => false
  | .never, _ => true
/-- operands -/
def chkO (S : Sx) (nm : Nm) : Es → List Expr → Bool
  | .nil, as => match as with
    | [] => true
    | _ => false
  | .cons e r, as => match as with
    | a :: as => chkE S nm e a && !starB a && chkO S nm r as
    | _ => false
  | .star _ _, _ => false
/-- values -/
def chkL (S : Sx) (nm : Nm) : Es → List Expr → Bool
  | .nil, as => match as with
    | [] => true
    | _ => false
  | .cons e r, as => match as with
    | a :: as => chkE S nm e a && !starB a && chkL S nm r as
    | _ => false
  | .star e r, as => match as with
    | .Starred a _ :: as => chkE S nm e a && chkL S nm r as
    | _ => false
/-- a slice's part -/
def chkI (S : Sx) (nm : Nm) : Es → Option Expr → Bool
  | .nil, a => match a with
    | none => true
    | _ => false
  | .cons e r, a => match r, a with
    | .nil, some a => chkE S nm e a
    | _, _ => false
  | _, _ => false
/-- a clause's test -/
def chkC (S : Sx) (nm : Nm) : Es → List Expr → Bool
  | .nil, as => match as with
    | [] => true
    | _ => false
  | .cons e r, as => match r, as with
    | .nil, [a] => chkE S nm e a
    | _, _ => false
  | _, _ => false
end
end Ev
end
section
set_option Elab.async false
set_option linter.all false
set_option maxRecDepth 100000
set_option maxHeartbeats 1000000
/-! Ev, part S: checked expressions are sound. -/
namespace Ev
open PySem PySem.Spec PyProof.Rows L2
def boolB : Expr → Bool
  | .BoolOp .. => true
  | _ => false
structure EOk (X : Cx) (G : Gm) (fs : Fns) (W : WX) (κ : Pins) (e : E) (a : Expr) : Prop where
  pe : PE X a (tE G fs W κ e)
  pt : PT X a (tT G fs W κ e)
  pw : boolB a = true → PW X a (tT G fs W κ e)
section
variable {G : Gm} {nm : Nm} {fs : Fns} {k w : Nat} {S : Sx} {W : WX} {X : Cx} {κ : Pins} {pos : Pos}
theorem EOk.of {e : E} {a : Expr} (h : PE X a (tE G fs W κ e)) (hp : plainT a = true) (hb : boolB a = false) : EOk X G fs W κ e a := ⟨h, sndT h hp, fun z => by rw [hb] at z; cases z⟩
theorem EOk.of2 {e : E} {a : Expr} (h : PE X a (tE G fs W κ e)) (ht : PT X a (tT G fs W κ e)) (hb : boolB a = false) : EOk X G fs W κ e a := ⟨h, ht, fun z => by rw [hb] at z; cases z⟩
theorem slot_of (o : XOk G nm fs k S W X) {i : Nat} {a : Expr} (h : slotB S i a = true) : PE X a (tVar i) ∧ plainT a = true ∧ boolB a = false ∧ starB a = false := by
  cases a <;> first | (cases h; done) | skip
  simp only [slotB, Bool.and_eq_true, decide_eq_true_eq] at h
  exact ⟨pe_slot o h.1.1 h.1.2 h.2, rfl, rfl, rfl⟩
inductive LsOk (X : Cx) (G : Gm) (fs : Fns) (W : WX) (κ : Pins) : Es → List Expr → Prop
  | nil : LsOk X G fs W κ .nil []
  | cons {e a r as} : PE X a (tE G fs W κ e) → starB a = false → LsOk X G fs W κ r as → LsOk X G fs W κ (.cons e r) (a :: as)
  | star {e a r as p} : PE X a (tE G fs W κ e) → LsOk X G fs W κ r as → LsOk X G fs W κ (.star e r) (.Starred a p :: as)
theorem LsOk.pa (hK : X.K = G.K) {es : Es} {as : List Expr} (h : LsOk X G fs W κ es as) : PA X as (tL G fs W κ es) := by
  induction h with
  | nil => exact snd_L_nil
  | cons h hs _ ih => exact snd_L_cons h ih hs
  | star h _ ih => exact snd_L_star hK h ih
theorem shape_bool {p : Pr} {a : Expr} {as : List Expr} (h : shape S nm p a = some as) : boolB a = false := by
  cases a <;> first | rfl | (cases h; done)
theorem itShape_ok (o : XOk G nm fs k S W X) {ik : Ik} {tgA iter : Expr} {as : List Expr} {es : Es} (h : itShape S nm ik tgA iter = some as) (hs : LsOk X G fs W κ es as) : PI X tgA iter (tIt G fs W κ ik es) := by
  have gl : ∀ {x : Str}, gB S nm x = true → Gl X x ∧ X.mg x = none := fun h => ⟨gl_of (by rw [o.sc]; exact (gB_of h).1), o.blt _ (gB_of h).2⟩
  unfold itShape at h
  split at h
  · split at h
    · split at h
      · rename_i hc
        obtain ⟨rfl, g, h1⟩ := hc
        cases h
        exact snd_rng1 (gl g).1 (gl g).2 (hs.pa o.hK) h1
      · cases h
    · cases h
  · split at h
    · split at h
      · rename_i hc
        obtain ⟨rfl, g, h1, h2⟩ := hc
        cases h
        exact snd_rng2 (gl g).1 (gl g).2 (hs.pa o.hK) h1 h2
      · cases h
    · cases h
  · split at h
    · split at h
      · rename_i hc
        obtain ⟨rfl, g, h1, h2, h3⟩ := hc
        cases h
        exact snd_rng3 (gl g).1 (gl g).2 (hs.pa o.hK) h1 (by simp [h2, h3])
      · cases h
    · cases h
  · split at h
    · split at h
      · rename_i hc
        obtain ⟨rfl, g, h1⟩ := hc
        cases h
        exact snd_enum o.hK (gl g).1 (gl g).2 (hs.pa o.hK) h1
      · cases h
    · cases h
  · split at h
    · split at h
      · rename_i hc
        obtain ⟨rfl, g, h1, h2⟩ := hc
        cases h
        exact snd_zip o.hK (gl g).1 (gl g).2 (hs.pa o.hK) h1 (by simp [h2])
      · cases h
    · cases h
  · split at h
    · rename_i hc
      cases h
      cases hs with
      | cons h1 h2 h3 =>
        cases h3
        exact snd_seq o.hK h1
      | star h1 h2 => cases hc
    · cases h
theorem lcOk_of (o : XOk G nm fs k S W X) {elt tgA iter : Expr} {ifs : List Expr} {scope : Scope} {ow : List (Str × Nat)} {e : E} {tg : Tg} {ik : Ik} {es cond : Es} (hb : blkC S.N S.sc scope ow = true) (hx : (tg.ix.all fun i => (ow.map (·.2)).contains i) = true) (hf : foldB iter = true)
    (ht : chkT (blkS S scope) [] tg tgA = true) (hi : PI X tgA iter (tIt G fs W κ ik es)) (hc : ∀ {X' : Cx}, XOk G nm fs k (blkS S scope) WF X' → PTs X' ifs (tCn G fs WF [] cond)) (he : ∀ {X' : Cx}, XOk G nm fs k (blkS S scope) WF X' → PE X' elt (tE G fs WF [] e)) :
    LcOk X G fs W κ elt tgA iter ifs scope ow e tg ik es cond where
  it := hi
  blk := by
    have := blkOk_by hb
    rw [o.hN, o.sc]
    exact this
  ix := fun i hi => by
    have := List.all_eq_true.mp hx i hi
    exact List.contains_iff_mem.mp this
  tgt := fun s H C cl fp => snd_tg (κ := []) (o.blk scope s H C cl fp) (ks := []) (fun p hp => by cases hp) ht
  tst := fun s H C cl fp => hc (o.blk scope s H C cl fp)
  elt := fun s H C cl fp => he (o.blk scope s H C cl fp)
  fold := fun x => fold_of hf _ x
theorem sndT_ite {ec ea eb : E} {c a b : Expr} (hc : PT X c (tT G fs W κ ec)) (ha : PT X a (tT G fs W κ ea)) (hb : PT X b (tT G fs W κ eb)) : PT X (.IfExp c a b pos) (tT G fs W κ (.ite ec ea eb)) := by
  refine ⟨fun pins s σ H Q I hq => ?_⟩
  show wpAny _ _ (do if ← isTrue c X.env (eval c X.env) then isTrue a X.env (eval a X.env) else isTrue b X.env (eval b X.env)) _ _ _
  obtain ⟨env, F, Lf, sat, r⟩ := hq
  unfold evE at r
  have e0 : (((evE fs ec env).bind fun x env => (asBool x env).bind fun k env => if k = true then evE fs ea env else evE fs eb env).bind asBool) = ((evE fs ec env).bind asBool).bind fun k env => if k = true then (evE fs ea env).bind asBool else (evE fs eb env).bind asBool := by
    cases evE fs ec env with
    | ok x env =>
      simp only [Out.bind_ok]
      cases asBool x env with
      | ok k env => cases k <;> rfl
      | ex => rfl
      | no => rfl
    | ex => rfl
    | no => rfl
  rw [e0] at r
  refine wpAny_bind (thn (hc.run pins s σ H (fun b0 H1 => if b0 = true then tT G fs W κ ea σ H1 Q else tT G fs W κ eb σ H1 Q) I ⟨env, F, Lf, sat, r.bind fun b0 env1 _ r1 F1 H1 e1 s1 => ?_⟩) fun d s1 ⟨H1, I1, q1⟩ => ?_)
  · cases b0 with
    | true => exact ⟨env1, F1, Lf, s1, r1.ext e1 fun t env2 q F' H' e2 s => q F' H' (e1.trans e2) s⟩
    | false => exact ⟨env1, F1, Lf, s1, r1.ext e1 fun t env2 q F' H' e2 s => q F' H' (e1.trans e2) s⟩
  · cases d with
    | true => exact ha.run pins s1 σ H1 Q I1 q1
    | false => exact hb.run pins s1 σ H1 Q I1 q1
theorem own_of {own : List Nat} {ow : List (Str × Nat)} {tg : Tg} (h1 : ow.map (·.2) = own) (h2 : (tg.ix.all fun i => own.contains i) = true) : (tg.ix.all fun i => (ow.map (·.2)).contains i) = true := by rw [h1]; exact h2
end
section
variable {G : Gm} {nm : Nm} {fs : Fns} {k : Nat}
mutual
theorem sndE : ∀ (e : E) {S : Sx} {W : WX} {X : Cx} {κ : Pins} (_ : XOk G nm fs k S W X) {a : Expr}, chkE S nm e a = true → EOk X G fs W κ e a
  | .var i, S, W, X, κ, o, a, h => by
    simp only [chkE] at h
    obtain ⟨h1, h2, h3, _⟩ := slot_of o h
    exact .of (snd_var h1) h2 h3
  | .mv i, S, W, X, κ, o, a, h => by
    simp only [chkE] at h
    obtain ⟨h1, h2, h3, _⟩ := slot_of o h
    exact .of (snd_mv h1) h2 h3
  | .non, S, W, X, κ, o, a, h => by
    simp only [chkE] at h
    split at h
    · exact .of (snd_con (fun _ => rfl) (fun _ => .non) pe_non) rfl rfl
    · cases h
  | .bl b, S, W, X, κ, o, a, h => by
    simp only [chkE] at h
    split at h
    · cases of_decide_eq_true (p := b = _) (by simpa using h)
      exact .of (snd_con (fun _ => rfl) (fun _ => .bl) pe_bl) rfl rfl
    · cases h
  | .int b, S, W, X, κ, o, a, h => by
    simp only [chkE] at h
    split at h
    · cases of_decide_eq_true (p := b = _) (by simpa using h)
      exact .of (snd_con (fun _ => rfl) (fun _ => .int) pe_int) rfl rfl
    · cases h
  | .str b, S, W, X, κ, o, a, h => by
    simp only [chkE] at h
    split at h
    · simp only [strB, decide_eq_true_eq] at h
      subst h
      exact .of (snd_con (fun _ => rfl) (fun _ => .str) pe_str) rfl rfl
    · cases h
  | .glb t g, S, W, X, κ, o, a, h => by
    simp only [chkE] at h
    split at h
    · rename_i x p
      simp only [Bool.and_eq_true] at h
      obtain ⟨⟨h1, h2⟩, h3⟩ := h
      cases hc : nm.con x with
      | none => rw [hc] at h3; cases h3
      | some u =>
        rw [hc] at h3
        cases conB_eq h3
        obtain ⟨w, v, q1, q2, q3⟩ := o.con x t hc
        refine .of (snd_con (fun _ => rfl) (fun F => q3.mono (fun _ _ z => by cases z)) (pe_glob (gl_of (by rw [o.sc]; exact h1)) q1 q2 (nameOk_of h2).1)) rfl rfl
    · cases h
  | .pr p es, S, W, X, κ, o, a, h => by
    simp only [chkE] at h
    cases hs : shape S nm p a with
    | none => rw [hs] at h; cases h
    | some as =>
      rw [hs] at h
      obtain ⟨h1, h2⟩ := shape_ok (κ := κ) o hs (sndO es o h)
      exact .of2 h1 h2 (shape_bool hs)
  | .bm p r es, S, W, X, κ, o, a, h => by
    simp only [chkE] at h
    split at h
    · rename_i b n apos c cpos
      simp only [Bool.and_eq_true, beq_iff_eq] at h
      obtain ⟨⟨⟨⟨rfl, h1⟩, h2⟩, h3⟩, h4⟩ := h
      have q1 := sndO (κ := κ) r o h1
      have q2 := sndO (κ := κ) es o h2
      cases q1 with
      | cons a1 a2 a3 =>
        cases a3
        have z := q2.pa
        have zs := z.2
        simp only [List.all_cons, Bool.and_eq_true, Bool.not_eq_true'] at zs
        exact .of (snd_index o a1 h3 (by simpa using h4) z.1 zs.1) rfl rfl
    · cases h
  | .slc r lo hi, S, W, X, κ, o, a, h => by
    simp only [chkE] at h
    split at h
    · simp only [Bool.and_eq_true] at h
      have q1 := sndO (κ := κ) r o h.1.1
      cases q1 with
      | cons a1 a2 a3 =>
        cases a3
        exact .of (snd_slc o.hK a1 (sndI lo o h.1.2) (sndI hi o h.2)) rfl rfl
    · cases h
  | .chain c d x y z, S, W, X, κ, o, a, h => by
    simp only [chkE] at h
    split at h
    · simp only [Bool.and_eq_true, beq_iff_eq, Bool.not_eq_true'] at h
      obtain ⟨⟨⟨⟨⟨rfl, rfl⟩, h1⟩, h2⟩, h3⟩, h4⟩ := h
      exact .of2 (snd_chain o.hK o.hu (sndE x o h1).pe (sndE y o h2).pe (sndE z o h3).pe h4) (sndT_chain o.hK o.hu (sndE x o h1).pe (sndE y o h2).pe (sndE z o h3).pe h4) rfl
    · cases h
  | .and x y, S, W, X, κ, o, a, h => by
    simp only [chkE] at h
    split at h
    · simp only [Bool.and_eq_true] at h
      have q1 := sndE (κ := κ) x o h.1
      have q2 := sndE (κ := κ) y o h.2
      exact ⟨snd_and q1.pe (pe_one q2.pe), (sndT_and q1.pt (pw_and1 q2.pt)).pt, fun _ => sndT_and q1.pt (pw_and1 q2.pt)⟩
    · simp only [Bool.and_eq_true] at h
      have q1 := sndE (κ := κ) x o h.1
      have q2 := sndE (κ := κ) y o h.2
      exact ⟨snd_and q1.pe q2.pe, (sndT_and q1.pt (q2.pw rfl)).pt, fun _ => sndT_and q1.pt (q2.pw rfl)⟩
    · cases h
  | .or x y, S, W, X, κ, o, a, h => by
    simp only [chkE] at h
    split at h
    · simp only [Bool.and_eq_true] at h
      have q1 := sndE (κ := κ) x o h.1
      have q2 := sndE (κ := κ) y o h.2
      exact ⟨snd_or q1.pe (pe_one q2.pe), (sndT_or q1.pt (pw_or1 q2.pt)).pt, fun _ => sndT_or q1.pt (pw_or1 q2.pt)⟩
    · simp only [Bool.and_eq_true] at h
      have q1 := sndE (κ := κ) x o h.1
      have q2 := sndE (κ := κ) y o h.2
      exact ⟨snd_or q1.pe q2.pe, (sndT_or q1.pt (q2.pw rfl)).pt, fun _ => sndT_or q1.pt (q2.pw rfl)⟩
    · cases h
  | .not x, S, W, X, κ, o, a, h => by
    simp only [chkE] at h
    split at h
    · have q1 := sndE (κ := κ) x o h
      exact .of2 (snd_not q1.pe) (sndT_not q1.pt) rfl
    · cases h
  | .ite c x y, S, W, X, κ, o, a, h => by
    simp only [chkE] at h
    split at h
    · simp only [Bool.and_eq_true] at h
      have q1 := sndE (κ := κ) c o h.1.1
      have q2 := sndE (κ := κ) x o h.1.2
      have q3 := sndE (κ := κ) y o h.2
      exact .of2 (snd_ite q1.pt q2.pe q3.pe) (sndT_ite q1.pt q2.pt q3.pt) rfl
    · cases h
  | .tup es, S, W, X, κ, o, a, h => by
    simp only [chkE] at h
    split at h
    · exact .of (snd_tup ((sndL es o h).pa o.hK)) rfl rfl
    · cases h
  | .lst es, S, W, X, κ, o, a, h => by
    simp only [chkE] at h
    split at h
    · exact .of (snd_lst ((sndL es o h).pa o.hK)) rfl rfl
    · cases h
  | .dct0, S, W, X, κ, o, a, h => by
    simp only [chkE] at h
    split at h
    · exact .of snd_dct0 rfl rfl
    · cases h
  | .call f es, S, W, X, κ, o, a, h => by
    simp only [chkE] at h
    split at h
    · simp only [Bool.and_eq_true, decide_eq_true_eq] at h
      obtain ⟨⟨⟨h1, h2⟩, h3⟩, h4⟩ := h
      have q := sndO (κ := κ) es o h4
      cases q with
      | nil => exact .of (snd_call0 o h1 h2 h3) rfl rfl
      | cons a1 a2 a3 =>
        have z := (OsOk.cons a1 a2 a3).pa
        have zs := z.2
        simp only [List.all_cons, Bool.and_eq_true, Bool.not_eq_true'] at zs
        exact .of (snd_call o h1 h2 h3 z.1 zs.1 zs.2) rfl rfl
    · cases h
  | .lc e tg own ik es cond, S, W, X, κ, o, a, h => by
    simp only [chkE] at h
    split at h
    · generalize (own.filterMap fun i => (S.N[i]?).map fun x => (x, i)) = ow at h
      simp only [Bool.and_eq_true, decide_eq_true_eq] at h
      obtain ⟨⟨⟨⟨⟨⟨⟨h1, h2⟩, h3⟩, h4⟩, h5⟩, h6⟩, h7⟩, h8⟩ := h
      split at h6
      · rename_i hs
        have c := lcOk_of (W := W) (κ := κ) o h2 (own_of h1 h3) h4 h5 (itShape_ok o hs (sndL es o h6)) (fun o' => sndC cond o' h7) (fun o' => (sndE e o' h8).pe)
        refine .of ?_ rfl rfl
        rw [← h1]
        exact snd_lc o c
      · cases h6
    · cases h
  | .popAt i e, S, W, X, κ, o, a, h => by
    simp only [chkE] at h
    split at h
    · simp only [Bool.and_eq_true, beq_iff_eq, Bool.not_eq_true'] at h
      obtain ⟨⟨⟨⟨⟨rfl, h1⟩, h2⟩, h3⟩, h4⟩, h5⟩ := h
      exact .of (snd_popAt o.hK (slot_of o h1).1 h3 (by simpa using h4) (sndE e o h2).pe h5) rfl rfl
    · cases h
  | .pop i, S, W, X, κ, o, a, h => by
    simp only [chkE] at h
    split at h
    · simp only [Bool.and_eq_true, beq_iff_eq, Bool.not_eq_true'] at h
      obtain ⟨⟨⟨rfl, h1⟩, h2⟩, h3⟩ := h
      exact .of (snd_pop (slot_of o h1).1 h2 (by simpa using h3)) rfl rfl
    · cases h
  | .never, S, W, X, κ, o, a, h => by
    refine ⟨sndE_never, ⟨fun pins s σ H Q I hq => ?_⟩, fun _ => ⟨fun wh pins s σ H Q I hq => ?_⟩⟩
    · obtain ⟨env, F, Lf, sat, r⟩ := hq; exact r.elim
    · obtain ⟨env, F, Lf, sat, r⟩ := hq; exact r.elim
theorem sndO : ∀ (es : Es) {S : Sx} {W : WX} {X : Cx} {κ : Pins} (_ : XOk G nm fs k S W X) {as : List Expr}, chkO S nm es as = true → OsOk X G fs W κ es as
  | .nil, S, W, X, κ, o, as, h => by
    simp only [chkO] at h
    split at h
    · exact .nil
    · cases h
  | .cons e r, S, W, X, κ, o, as, h => by
    simp only [chkO] at h
    split at h
    · simp only [Bool.and_eq_true, Bool.not_eq_true'] at h
      refine .cons (snd_O (sndE e o h.1.1).pe fun i hi => ?_) h.1.2 (sndO r o h.2)
      subst hi
      have h1 := h.1.1
      simp only [chkE] at h1
      exact (slot_of o h1).1
    · cases h
  | .star e r, S, W, X, κ, o, as, h => by simp only [chkO] at h; cases h
theorem sndL : ∀ (es : Es) {S : Sx} {W : WX} {X : Cx} {κ : Pins} (_ : XOk G nm fs k S W X) {as : List Expr}, chkL S nm es as = true → LsOk X G fs W κ es as
  | .nil, S, W, X, κ, o, as, h => by
    simp only [chkL] at h
    split at h
    · exact .nil
    · cases h
  | .cons e r, S, W, X, κ, o, as, h => by
    simp only [chkL] at h
    split at h
    · simp only [Bool.and_eq_true, Bool.not_eq_true'] at h
      exact .cons (sndE e o h.1.1).pe h.1.2 (sndL r o h.2)
    · cases h
  | .star e r, S, W, X, κ, o, as, h => by
    simp only [chkL] at h
    split at h
    · simp only [Bool.and_eq_true] at h
      exact .star (sndE e o h.1).pe (sndL r o h.2)
    · cases h
theorem sndI : ∀ (es : Es) {S : Sx} {W : WX} {X : Cx} {κ : Pins} (_ : XOk G nm fs k S W X) {a : Option Expr}, chkI S nm es a = true → PO X a (tI G fs W κ es)
  | .nil, S, W, X, κ, o, a, h => by
    simp only [chkI] at h
    split at h
    · exact snd_I_nil
    · cases h
  | .cons e r, S, W, X, κ, o, a, h => by
    simp only [chkI] at h
    split at h
    · exact snd_I_one (sndE e o h).pe
    · cases h
  | .star e r, S, W, X, κ, o, a, h => by simp only [chkI] at h; cases h
theorem sndC : ∀ (es : Es) {S : Sx} {W : WX} {X : Cx} {κ : Pins} (_ : XOk G nm fs k S W X) {as : List Expr}, chkC S nm es as = true → PTs X as (tCn G fs W κ es)
  | .nil, S, W, X, κ, o, as, h => by
    simp only [chkC] at h
    split at h
    · exact snd_Cn_nil
    · cases h
  | .cons e r, S, W, X, κ, o, as, h => by
    simp only [chkC] at h
    split at h
    · exact snd_Cn_one (sndE e o h).pt
    · cases h
  | .star e r, S, W, X, κ, o, as, h => by simp only [chkC] at h; cases h
end
end
end Ev
end
section
set_option Elab.async false
set_option linter.all false
set_option maxRecDepth 100000
set_option maxHeartbeats 1000000
/-! Ev, part T: the check of statements, and its soundness. -/
namespace Ev
open PySem PySem.Spec PyProof.Rows L2
def envOf (sc : Scope) : PySem.Env := { scope := sc, locals := 0, globals := 0, cells := [] }
theorem swaps_env {env : PySem.Env} {sc : Scope} (h : env.scope = sc) (v : Expr) (t : Option Expr) (l : Nat) : swapsWith v t l env = swapsWith v t l (envOf sc) := by
  subst h
  rfl
theorem stores_env {env : PySem.Env} {sc : Scope} (h : env.scope = sc) (ts : List Expr) (v : Expr) : swappedStores ts v env = swappedStores ts v (envOf sc) := by
  subst h
  rfl
def swB (sc : Scope) (v : Expr) (t : Option Expr) (l : Nat) (b : Bool) : Bool := match semV (swapsWith v t l (envOf sc)) with
  | some c => c == b
  | none => false
theorem sw_of {env : PySem.Env} {sc : Scope} (h : env.scope = sc) {v : Expr} {t : Option Expr} {l : Nat} {b : Bool} (q : swB sc v t l b = true) : swapsWith v t l env = pure b := by
  unfold swB at q
  rw [swaps_env h]
  split at q
  · rename_i c e
    rw [semV_eq e]
    cases of_decide_eq_true (p := c = b) (by simpa using q)
    rfl
  · cases q
def stB (sc : Scope) (ts : List Expr) (v : Expr) (o : Option (List Str)) : Bool := match semV (swappedStores ts v (envOf sc)) with
  | some c => decide (c = o)
  | none => false
theorem st_of {env : PySem.Env} {sc : Scope} (h : env.scope = sc) {ts : List Expr} {v : Expr} {o : Option (List Str)} (q : stB sc ts v o = true) : swappedStores ts v env = pure o := by
  unfold stB at q
  rw [stores_env h]
  split at q
  · rename_i c e
    rw [semV_eq e]
    cases of_decide_eq_true q
    rfl
  · cases q
def localB (sc : Scope) (x : Str) : Bool := decide (sc.names.lookup x = some .local)
/-- a name = a comprehension, swapped -/
def lcB : E → Expr → Bool
  | .lc .., .ListComp _ [⟨_, _, _, 0⟩] _ _ => true
  | _, _ => false
mutual
def chkS (S : Sx) (nm : Nm) (ks : List Nat) : Ev.S → Stmt → Bool
  | .asg i e, st => match st with
    | .Assign [.Name x px] a pos => decide (S.N[i]? = some x) && !ks.contains i && chkE S nm e a && ((S.st x && swB S.sc a (some (.Name x px)) pos.line false) || (lcB e a && localB S.sc x && swB S.sc a (some (.Name x px)) pos.line true))
    | _ => false
  | .unp tg e, st => match st with
    | .Assign [t] a pos => chkT S ks tg t && chkE S nm e a && swB S.sc a (some t) pos.line false && stB S.sc [t] a none
    | _ => false
  | .par is es, st => match st with
    | .Assign [.Tuple tgs j p1] (.Tuple as j2 p2) pos => (is.all fun i => !ks.contains i) && chkL S nm es as &&
      ((namesB S is tgs && stB S.sc [.Tuple tgs j p1] (.Tuple as j2 p2) none && decide (is.length ≤ 1000)) || (match is, tgs, as with
        | [i, j'], [.Name x _, .Name y _], [_, _] => decide (S.N[i]? = some x) && decide (S.N[j']? = some y) && decide (i ≠ j') && localB S.sc x && localB S.sc y && stB S.sc [.Tuple tgs j p1] (.Tuple as j2 p2) (some [x, y])
        | [i, j', l], [.Name x _, .Name y _, .Name z _], [_, _, _] => decide (S.N[i]? = some x) && decide (S.N[j']? = some y) && decide (S.N[l]? = some z) && decide (i ≠ j') && decide (i ≠ l) && decide (j' ≠ l) && localB S.sc x && localB S.sc y && localB S.sc z && stB S.sc [.Tuple tgs j p1] (.Tuple as j2 p2) (some [x, y, z])
        | _, _, _ => false))
    | _ => false
  | .swap x1 i1 x2 i2 e1 e2, st => match st with
    | .Assign [.Tuple [.Subscript a1 b1 sp1, .Subscript a2 b2 sp2] j1 tp] (.Tuple [c1, c2] j2 vp) pos => slotB S x1 a1 && slotB S x2 a2 && chkE S nm i1 b1 && chkE S nm i2 b2 && chkE S nm e1 c1 && chkE S nm e2 c2 && !sliceB b1 && !sliceB b2 && !starB c1 && !starB c2 &&
        stB S.sc [.Tuple [.Subscript a1 b1 sp1, .Subscript a2 b2 sp2] j1 tp] (.Tuple [c1, c2] j2 vp) none
    | _ => false
  | .setix x ix e, st => match st with
    | .Assign [.Subscript b c sp] a pos => slotB S x b && chkE S nm ix c && chkE S nm e a && !sliceB c && swB S.sc a (some (.Subscript b c sp)) pos.line false && stB S.sc [.Subscript b c sp] a none
    | _ => false
  | .aug _ _ _, _ => false
  | .ex e, st => match st with
    | .Expr a pos => chkE S nm e a && swB S.sc a none pos.line false
    | _ => false
  | .app i e, st => match st with
    | .Expr (.Call (.Attribute a n apos) [b] [] cpos) pos => n == ("append" : Str) && slotB S i a && plainBase a && (apos.endLine == cpos.line) && chkE S nm e b && !starB b
    | _ => false
  | .ext i e, st => match st with
    | .Expr (.Call (.Attribute a n apos) [b] [] cpos) pos => n == ("extend" : Str) && slotB S i a && plainBase a && (apos.endLine == cpos.line) && chkE S nm e b && !starB b
    | _ => false
  | .ret e, st => match st with
    | .Return (some a) _ => chkE S nm e a
    | _ => false
  | .retN, st => match st with
    | .Return none _ => true
    | _ => false
  | .ite c x y, st => match st with
    | .If d a b _ => chkE S nm c d && chkSs S nm ks x a && chkSs S nm ks y b
    | _ => false
  | .whl c x, st => match st with
    | .While d a [] _ => chkE S nm c d && chkSs S nm ks x a
    | _ => false
  | .for_ tg ik es x, st => match st with
    | .For tgA iter a [] _ => chkT S ks tg tgA && foldB iter && (match itShape S nm ik tgA iter with
        | some as => chkL S nm es as
        | none => false) && chkSs S nm ks x a
    | _ => false
  | .pass, st => match st with
    | .Pass _ => true
    | .Expr (.Constant (.str _) _ _) _ => true
    | _ => false
  | .brk, st => match st with
    | .Break _ => true
    | _ => false
  | .cnt, st => match st with
    | .Continue _ => true
    | _ => false
  | .raise _ _, _ => false
  | .never, _ => true
def chkSs (S : Sx) (nm : Nm) (ks : List Nat) : Ss → List Stmt → Bool
  | .nil, l => match l with
    | [] => true
    | _ => false
  | .cons s r, l => match l with
    | a :: l => chkS S nm ks s a && chkSs S nm ks r l
    | _ => false
end
section
variable {G : Gm} {nm : Nm} {fs : Fns} {k w : Nat} {S : Sx} {W : WX} {X : Cx} {κ : Pins} {pos : Pos}
theorem lc_of (o : XOk G nm fs k S W X) {e : E} {tg : Tg} {own : List Nat} {ik : Ik} {es cond : Es} {elt tgA iter : Expr} {ifs : List Expr} {scope : Scope} (h : chkE S nm (.lc e tg own ik es cond) (.ListComp elt [⟨tgA, iter, ifs, 0⟩] scope pos) = true) :
    ∃ ow, ow.map (·.2) = own ∧ LcOk X G fs W κ elt tgA iter ifs scope ow e tg ik es cond := by
  simp only [chkE] at h
  generalize (own.filterMap fun i => (S.N[i]?).map fun x => (x, i)) = ow at h
  simp only [Bool.and_eq_true, decide_eq_true_eq] at h
  obtain ⟨⟨⟨⟨⟨⟨⟨h1, h2⟩, h3⟩, h4⟩, h5⟩, h6⟩, h7⟩, h8⟩ := h
  split at h6
  · rename_i hs
    exact ⟨ow, h1, lcOk_of o h2 (own_of h1 h3) h4 h5 (itShape_ok o hs (sndL es o h6)) (fun o' => sndC cond o' h7) (fun o' => (sndE e o' h8).pe)⟩
  · cases h6
theorem snd_asgC (o : XOk G nm fs k S W X) {ks : List Nat} (hk : Keeps κ ks) {i : Nat} {x : Str} {px : Pos} {a : Expr} {e : E} (hi : S.N[i]? = some x) (hks : ks.contains i = false) (hl : lcB e a = true) (hloc : localB S.sc x = true) (hsw : swB S.sc a (some (.Name x px)) pos.line true = true) (h : chkE S nm e a = true) :
    PS X (.Assign [.Name x px] a pos) (tS G fs w W κ (.asg i e)) := by
  unfold lcB at hl
  split at hl
  · obtain ⟨ow, rfl, c⟩ := lc_of (W := W) (κ := κ) o h
    exact snd_asgLc o hk hi (of_decide_eq_true hloc) hks c (sw_of o.sc hsw)
  · cases hl
theorem chkT_s {ks : List Nat} {tg : Tg} {t : Expr} (h : chkT S ks tg t = true) : starB t = false := chkT_star h
mutual
theorem sndS (o : XOk G nm fs k S W X) (hp : PassesOwn (model X.prog X.w) X.A X.env X.xe) {ks : List Nat} (hk : Keeps κ ks) : ∀ (s : Ev.S) {st : Stmt}, chkS S nm ks s st = true → PS X st (tS G fs w W κ s)
  | .asg i e, st, h => by
    simp only [chkS] at h
    split at h
    · simp only [Bool.and_eq_true, Bool.or_eq_true, decide_eq_true_eq, Bool.not_eq_true'] at h
      obtain ⟨⟨⟨h1, h2⟩, h3⟩, h4⟩ := h
      rcases h4 with h4 | h4
      · exact snd_asg o hk h1 h4.1 h2 (sndE e o h3).pe (sw_of o.sc h4.2)
      · exact snd_asgC o hk h1 h2 h4.1.1 h4.1.2 h4.2 h3
    · cases h
  | .unp tg e, st, h => by
    simp only [chkS] at h
    split at h
    · simp only [Bool.and_eq_true] at h
      obtain ⟨⟨⟨h1, h2⟩, h3⟩, h4⟩ := h
      exact snd_unp (sndE e o h2).pe (snd_tg o hk h1) (sw_of o.sc h3) (st_of o.sc h4) (chkT_s h1)
    · cases h
  | .par is es, st, h => by
    simp only [chkS] at h
    split at h
    · simp only [Bool.and_eq_true, Bool.or_eq_true] at h
      obtain ⟨⟨h1, h2⟩, h3⟩ := h
      have pa := (sndL (κ := κ) es o h2).pa o.hK
      rcases h3 with h3 | h3
      · simp only [decide_eq_true_eq] at h3
        exact snd_parT o hk h1 h3.1.1 pa rfl (st_of o.sc h3.1.2) h3.2
      · split at h3
        · simp only [Bool.and_eq_true, decide_eq_true_eq] at h3
          obtain ⟨⟨⟨⟨⟨q1, q2⟩, q3⟩, q4⟩, q5⟩, q6⟩ := h3
          exact snd_par2 o hk h1 q1 q2 q3 (of_decide_eq_true q4) (of_decide_eq_true q5) pa (st_of o.sc q6)
        · simp only [Bool.and_eq_true, decide_eq_true_eq] at h3
          obtain ⟨⟨⟨⟨⟨⟨⟨⟨⟨q1, q2⟩, q3⟩, q4⟩, q5⟩, q6⟩, q7⟩, q8⟩, q9⟩, q10⟩ := h3
          exact snd_par3 o hk h1 q1 q2 q3 q4 q5 q6 (of_decide_eq_true q7) (of_decide_eq_true q8) (of_decide_eq_true q9) pa (st_of o.sc q10)
        · cases h3
    · cases h
  | .swap x1 i1 x2 i2 e1 e2, st, h => by
    simp only [chkS] at h
    split at h
    · simp only [Bool.and_eq_true, Bool.not_eq_true'] at h
      obtain ⟨⟨⟨⟨⟨⟨⟨⟨⟨⟨h1, h2⟩, h3⟩, h4⟩, h5⟩, h6⟩, h7⟩, h8⟩, h9⟩, h10⟩, h11⟩ := h
      exact snd_swap o (slot_of o h1).1 (sndE i1 o h3).pe (slot_of o h2).1 (sndE i2 o h4).pe (sndE e1 o h5).pe (sndE e2 o h6).pe h7 h8 h9 h10 rfl (st_of o.sc h11)
    · cases h
  | .setix x ix e, st, h => by
    simp only [chkS] at h
    split at h
    · simp only [Bool.and_eq_true, Bool.not_eq_true'] at h
      obtain ⟨⟨⟨⟨⟨h1, h2⟩, h3⟩, h4⟩, h5⟩, h6⟩ := h
      exact snd_setix o.hu (slot_of o h1).1 (sndE ix o h2).pe (sndE e o h3).pe h4 (sw_of o.sc h5) (st_of o.sc h6)
    · cases h
  | .aug _ _ _, st, h => by simp only [chkS] at h; cases h
  | .ex e, st, h => by
    simp only [chkS] at h
    split at h
    · simp only [Bool.and_eq_true] at h
      exact snd_expr (sndE e o h.1).pe (sw_of o.sc h.2)
    · cases h
  | .app i e, st, h => by
    simp only [chkS] at h
    split at h
    · simp only [Bool.and_eq_true, beq_iff_eq, Bool.not_eq_true'] at h
      obtain ⟨⟨⟨⟨⟨rfl, h1⟩, h2⟩, h3⟩, h4⟩, h5⟩ := h
      exact snd_app o.hK (slot_of o h1).1 h2 (by simpa using h3) (sndE e o h4).pe h5
    · cases h
  | .ext i e, st, h => by
    simp only [chkS] at h
    split at h
    · simp only [Bool.and_eq_true, beq_iff_eq, Bool.not_eq_true'] at h
      obtain ⟨⟨⟨⟨⟨rfl, h1⟩, h2⟩, h3⟩, h4⟩, h5⟩ := h
      exact snd_ext o.hK (slot_of o h1).1 h2 (by simpa using h3) (sndE e o h4).pe h5
    · cases h
  | .ret e, st, h => by
    simp only [chkS] at h
    split at h
    · exact snd_ret (sndE e o h).pe
    · cases h
  | .retN, st, h => by
    simp only [chkS] at h
    split at h
    · exact snd_retN
    · cases h
  | .ite c x y, st, h => by
    simp only [chkS] at h
    split at h
    · simp only [Bool.and_eq_true] at h
      exact snd_if (sndE c o h.1.1).pt (sndSs o hp hk x h.1.2) (sndSs o hp hk y h.2)
    · cases h
  | .whl c x, st, h => by
    simp only [chkS] at h
    split at h
    · simp only [Bool.and_eq_true] at h
      exact snd_while hp (sndE c o h.1).pt (sndSs o hp hk x h.2)
    · cases h
  | .for_ tg ik es x, st, h => by
    simp only [chkS] at h
    split at h
    · simp only [Bool.and_eq_true] at h
      obtain ⟨⟨⟨h1, h2⟩, h3⟩, h4⟩ := h
      split at h3
      · rename_i hs
        exact snd_for o hp (itShape_ok o hs (sndL es o h3)) (snd_tg o hk h1) (sndSs o hp hk x h4) (fold_of h2 _)
      · cases h3
    · cases h
  | .pass, st, h => by
    simp only [chkS] at h
    split at h
    · exact snd_pass
    · exact snd_doc
    · cases h
  | .brk, st, h => by
    simp only [chkS] at h
    split at h
    · exact snd_brk
    · cases h
  | .cnt, st, h => by
    simp only [chkS] at h
    split at h
    · exact snd_cnt
    · cases h
  | .raise _ _, st, h => by simp only [chkS] at h; cases h
  | .never, st, h => snd_never
theorem sndSs (o : XOk G nm fs k S W X) (hp : PassesOwn (model X.prog X.w) X.A X.env X.xe) {ks : List Nat} (hk : Keeps κ ks) : ∀ (s : Ss) {l : List Stmt}, chkSs S nm ks s l = true → PSs X l (tSs G fs w W κ s)
  | .nil, l, h => by
    simp only [chkSs] at h
    split at h
    · exact snd_snil
    · cases h
  | .cons s r, l, h => by
    simp only [chkSs] at h
    split at h
    · simp only [Bool.and_eq_true] at h
      exact snd_scons (sndS o hp hk s h.1) (sndSs o hp hk r h.2)
    · cases h
end
end
end Ev
end
section
set_option Elab.async false
set_option linter.all false
set_option maxRecDepth 100000
set_option maxHeartbeats 1000000
/-! Ev, part U: defs and programs. -/
namespace Ev
open PySem PySem.Spec PyProof.Rows L2
/-- the kept parameters' slots -/
def keptIx (keep : List Bool) : List Nat := (List.range keep.length).filter fun i => keep.getD i false
def pinsOf (keep : List Bool) (vs : List V) : Pins := (keptIx keep).filterMap fun i => (vs[i]?).map fun v => (i, v)
theorem pins_keeps {keep : List Bool} {vs : List V} : Keeps (pinsOf keep vs) (keptIx keep) := fun p hp => by
  obtain ⟨i, hi, e⟩ := List.mem_filterMap.mp hp
  cases ev : vs[i]? with
  | none => rw [ev] at e; cases e
  | some v => rw [ev] at e; cases e; exact hi
theorem pins_mem {keep : List Bool} {vs : List V} {i : Nat} {v : V} (hk : keep[i]? = some true) (hv : vs[i]? = some v) : (i, v) ∈ pinsOf keep vs := by
  refine List.mem_filterMap.mpr ⟨i, ?_, by rw [hv]; rfl⟩
  refine List.mem_filter.mpr ⟨List.mem_range.mpr (List.getElem?_eq_some_iff.mp hk).1, ?_⟩
  rw [List.getD_eq_getElem?_getD, hk]
  rfl
section
variable {G : Gm} {F F' : Hp} {κ : Pins}
theorem ERep.none_ {m : Nat} : ERep G F (List.replicate m none) (List.replicate m none) [] := by
  induction m with
  | zero => exact .nil
  | succ m ih => exact .no ih
theorem ERep.start {ts : List T} {vs : List V} {L : List Cell} {m : Nat} (r : Reps G F ts vs L) : ERep G F (ts.map some ++ List.replicate m none) (vs.map some ++ List.replicate m none) L := by
  induction ts generalizing vs L with
  | nil => cases r; exact .none_
  | cons t ts ih =>
    cases r with
    | cons h r => exact .yes h (ih r)
/-- the arguments behind a body -/
theorem args_out : ∀ {ts as : List T} {vs : List V} {La Le : List Cell} {env : Env} {σ : L2.St} {ks : List Bool}, Reps G F ts vs La → Ext F F' → ERep G F' env σ Le → argsOut ks ts env = some as → (∀ (i : Nat) (v : V), ks[i]? = some true → vs[i]? = some v → σ[i]? = some (some v)) →
    ∃ La' Lr, Le.Perm (La' ++ Lr) ∧ Reps G F' as vs La' := by
  intro ts
  induction ts with
  | nil =>
    intro as vs La Le env σ ks r e q h _
    cases r
    unfold argsOut at h
    cases h
    exact ⟨[], Le, .refl _, .nil⟩
  | cons t ts ih =>
    intro as vs La Le env σ ks r e q h hσ
    cases r with
    | @cons _ v L1 _ vs L2' hr rr =>
      unfold argsOut at h
      cases hrest : argsOut ks.tail ts env.tail with
      | none => rw [hrest] at h; cases h
      | some rs =>
        rw [hrest] at h
        have h : (if ks.headD false = true then (env.headD none).map fun u => u :: rs else if t.pure = true then some (t :: rs) else none) = some as := h
        have tl : ∀ (i : Nat) (v' : V), ks.tail[i]? = some true → vs[i]? = some v' → σ.tail[i]? = some (some v') := fun i v' h1 h2 => by
          have := hσ (i + 1) v' (by cases ks with | nil => cases h1 | cons => simpa using h1) (by simpa using h2)
          cases σ with
          | nil => cases this
          | cons => simpa using this
        by_cases hk : ks.headD false = true
        · rw [if_pos hk] at h
          have h0 := hσ 0 v (by cases ks with | nil => cases hk | cons b ks => simp at hk; simp [hk]) rfl
          cases q with
          | nil => cases h0
          | no q => cases h
          | @yes u w M1 es σ' M2 qu q =>
            cases h
            simp at h0
            subst h0
            obtain ⟨La', Lr, p, r'⟩ := ih rr e q hrest tl
            refine ⟨M1 ++ La', Lr, ?_, .cons qu r'⟩
            rw [List.append_assoc]
            exact p.append_left M1
        · rw [if_neg hk] at h
          split at h
          · rename_i hpu
            cases h
            cases hr.pure_nil hpu
            cases q with
            | nil =>
              obtain ⟨La', Lr, p, r'⟩ := ih rr e .nil hrest tl
              exact ⟨La', Lr, p, .cons (L1 := []) (hr.mono e) r'⟩
            | no q =>
              obtain ⟨La', Lr, p, r'⟩ := ih rr e q hrest tl
              exact ⟨La', Lr, p, .cons (L1 := []) (hr.mono e) r'⟩
            | @yes u w M1 es σ' M2 qu q =>
              obtain ⟨La', Lr, p, r'⟩ := ih rr e q hrest tl
              refine ⟨La', M1 ++ Lr, ?_, .cons (L1 := []) (hr.mono e) r'⟩
              refine (p.append_left M1).trans ?_
              rw [← List.append_assoc, ← List.append_assoc]
              exact List.perm_append_comm.append_right Lr
          · cases h
end

/-! ### a program -/
/-- where one stands in a def -/
def defS (st : Stmt) (N : List Str) : Sx where
  N := N
  sc := defScope st
  st := fun x => match (defScope st).names.lookup x with
    | some .local => true
    | some .cell => true
    | _ => false
/-- a def of the program and its small form -/
structure DfOk (K : PySem.W.Frag) (nm : Nm) (G : Gm) (f : Nat) (d : Df) (x : Str) (st : Stmt) (N ps : List Str) (fd : FuncData) : Prop where
  fn : Fun K x x st (G.fa f) fd
  bd : Binds K fd ps []
  sc : FnScope N ps (defScope st)
  np : d.np = ps.length
  ns : d.ns = N.length
  kl : d.keep.length ≤ d.np
  body : chkSs (defS st N) nm (keptIx d.keep) d.body (defBody st) = true
structure PgOk (K : PySem.W.Frag) (mg : Str → Option Value) (nm : Nm) (G : Gm) (P : Prog) : Prop where
  hK : K = G.K
  df : ∀ f d, P f = some d → ∃ x st N ps fd, DfOk K nm G f d x st N ps fd
  fnm : ∀ x f, nm.fn x = some f → mg x = some (.ref (G.fa f)) ∧ (P f).isSome = true
  con : ∀ x t, nm.con x = some t → ∃ u v, mg x = some u ∧ L2.RelV v u ∧ Rep G (fun _ => none) t v []
  blt : ∀ x, nm.blt x = true → mg x = none
abbrev keepOf (P : Prog) : Nat → List Bool := fun g => (P g).elim [] (·.keep)
section
variable {Pg : Program} {w : World} {K : PySem.W.Frag} {mg : Str → Option Value} {base : Heap} {G : Gm} {nm : Nm} {P : Prog}
/-- every def keeps its promise -/
theorem df_ok (pk : PgOk K mg nm G P) (n : Nat) : ∀ (k f : Nat) (d : Df) (x : Str) (st : Stmt) (N ps : List Str) (fd : FuncData), P f = some d → DfOk K nm G f d x st N ps fd → FnOk Pg w K mg base (L2.CX Pg w) k (G.fa f) fd ps (spF G (callK P n k f)) := by
  intro k
  induction k with
  | zero =>
    intro f d x st N ps fd hd D
    refine ⟨fun vs H Q E h => ?_, fun A outer s H args us vs Q E hr he hb' hv h => ?_⟩
    · obtain ⟨_, _, _, _, _, _, h⟩ := h; exact h.elim
    · obtain ⟨_, _, _, _, _, _, h⟩ := h; exact h.elim
  | succ k ih =>
    intro f d x st N ps fd hd D
    refine D.fn.okX D.sc ?_ ?_
    · intro vs H Q E h
      obtain ⟨ts, F, La, Lf, r, _, h⟩ := h
      unfold callK at h
      rw [hd] at h
      simp only [runD] at h
      by_cases hl : ts.length = d.np
      · exact r.length.symm.trans (hl.trans D.np)
      · rw [if_neg hl] at h; exact h.elim
    · intro cdv A outer s H vs Q E hr h
      obtain ⟨ts, F, La, Lf, r, a, h⟩ := h
      unfold callK at h
      rw [hd] at h
      simp only [runD] at h
      by_cases hl : ts.length = d.np
      case neg => rw [if_neg hl] at h; exact h.elim
      rw [if_pos hl] at h
      generalize hX : cxOf (L2.CX Pg w) Pg w K mg base N x (defScope st) (G.fa f) cdv A outer s H E = X
      have o : XOk G nm ⟨keepOf P, callK P n k⟩ k (defS st N) (fun cls d _ H => E cls d H) X := by
        subst hX
        exact {
          hK := pk.hK
          hN := rfl
          nd := D.sc.nd
          sc := rfl
          calm := rfl
          room := hr
          tk := takes_of rfl rfl rfl rfl
          st := fun y hy => by
            refine ⟨?_, .inl rfl⟩
            have hy : (match (defScope st).names.lookup y with
              | some .local => true
              | some .cell => true
              | _ => false) = true := hy
            show L2.Loc (defScope st) y
            unfold L2.Loc
            split at hy
            · rename_i e; exact .inl e
            · rename_i e; exact .inr e
            · cases hy
          fnm := fun y g hg => by
            obtain ⟨h1, h2⟩ := pk.fnm y g hg
            obtain ⟨d', hd'⟩ := Option.isSome_iff_exists.mp h2
            obtain ⟨x', st', N', ps', fd', D'⟩ := pk.df g d' hd'
            exact ⟨h1, ⟨fd', ps', ih g d' x' st' N' ps' fd' hd' D', D'.bd⟩, D'.fn.kp⟩
          con := pk.con
          blt := pk.blt }
      have hp : PassesOwn (model X.prog X.w) X.A X.env X.xe := by
        subst hX
        exact passes_of rfl
      have hk := pins_keeps (keep := d.keep) (vs := vs)
      refine ⟨_, sndSs (w := n) o hp hk d.body D.body, ts.map some ++ List.replicate (d.ns - d.np) none, F, Lf, ?_, ?_⟩
      · refine ⟨⟨La, ?_, a⟩, fun p hp => ?_⟩
        · unfold L2.start
          have e : d.ns - d.np = N.length - vs.length := by rw [D.ns, ← hl, r.length]
          rw [e]
          exact ERep.start r
        · obtain ⟨i, hi, e⟩ := List.mem_filterMap.mp hp
          cases ev : vs[i]? with
          | none => rw [ev] at e; cases e
          | some v =>
            rw [ev] at e; cases e
            unfold L2.start
            rw [List.getElem?_append_left (by rw [List.length_map]; exact (List.getElem?_eq_some_iff.mp ev).1), List.getElem?_map, ev]
            rfl
      · have out : ∀ {env : Env} {σ : L2.St} {F' : Hp} {L : List Cell} {H' : Hp} {as : List T}, Ext F F' → Sat G (pinsOf d.keep vs) σ env F' (L ++ Lf) H' → argsOut d.keep ts env = some as → ∃ La', Reps G F' as vs La' ∧ At F' (L ++ (La' ++ Lf)) H' := by
          intro env σ F' L H' as e sat ha
          obtain ⟨⟨Le, q, a'⟩, kp⟩ := sat
          obtain ⟨La', Lr, p, r'⟩ := args_out r e q ha fun i v h1 h2 => kp (i, v) (pins_mem h1 h2)
          refine ⟨La', r', ?_⟩
          have p1 : (Le ++ (L ++ Lf)).Perm (Lr ++ (L ++ (La' ++ Lf))) := by
            refine (p.append_right _).trans ?_
            refine (List.perm_append_comm.append_right _).trans ?_
            rw [List.append_assoc]
            exact perm_swap.append_left Lr
          exact (a'.perm p1).drop
        generalize evSs ⟨keepOf P, callK P n k⟩ n d.body (ts.map some ++ List.replicate (d.ns - d.np) none) = res at h ⊢
        cases res with
        | nx env =>
          simp only at h
          intro σ F' H' e sat
          cases ha : argsOut d.keep ts env with
          | none => rw [ha] at h; exact h.elim
          | some as =>
            rw [ha] at h
            obtain ⟨La', r', a'⟩ := out (L := []) e sat ha
            exact h .non F' H' La' [] e r' .non a'
        | rt t env =>
          simp only at h
          intro v σ F' H' L e rep sat
          cases ha : argsOut d.keep ts env with
          | none => rw [ha] at h; exact h.elim
          | some as =>
            rw [ha] at h
            obtain ⟨La', r', a'⟩ := out e sat ha
            exact h v F' H' La' L e r' rep a'
        | ex x env =>
          simp only at h
          intro cls dd σ F' H' e xr sat
          cases ha : argsOut d.keep ts env with
          | none => rw [ha] at h; exact h.elim
          | some as =>
            rw [ha] at h
            obtain ⟨La', r', a'⟩ := out (L := []) e sat ha
            exact h cls dd F' H' La' e r' xr a'
        | bk env => exact h.elim
        | ct env => exact h.elim
        | no => exact h.elim
end
end Ev
end
section
set_option Elab.async false
set_option linter.all false
set_option maxRecDepth 100000
set_option maxHeartbeats 1000000
/-! Ev, part V: the law. -/
namespace Ev
open PySem PySem.Spec PyProof.Rows L2
/-- the script, as a value -/
abbrev scr (ns : List Int) : T := .lst false (ns.map .int)
/-- the law gives True for every script -/
def LawOk (P : Prog) (w k f : Nat) : Prop := ∀ ns : List Int, ns.length ≤ 63 → ∃ as, callK P w k f [scr ns] = .ok (.bl true) as
def spLaw (K : PySem.W.Frag) : Sp := fun vs H Q _ => ∃ (a : Addr) (ns : List Int), vs = [.ref a] ∧ SqL K H a (ns.map V.int) ∧ ns.length ≤ 63 ∧ ∀ H' : Hp, Q (.bl true) H'
theorem law_sp {G : Gm} {P : Prog} {n k f : Nat} (h : LawOk P n k f) (vs : List V) (H : Hp) (Q : VK) (E : XK) (q : spLaw G.K vs H Q E) : spF G (callK P n k f) vs H Q E := by
  obtain ⟨a, ns, rfl, hS, hl, q⟩ := q
  obtain ⟨as, e⟩ := h ns hl
  refine ⟨[scr ns], H, [], [], .cons (L1 := []) (.lstF hS (Reps.of_ints ns)) .nil, ⟨List.nodup_nil, fun p hp => (nomatch hp), fun p hp => (nomatch hp), Ext.refl H⟩, ?_⟩
  rw [e]
  intro v F' H' La' L _ _ r _
  cases r
  exact q H'
theorem cx_no {P : Program} {w : World} {H : Hp} {s : Shared} {e : Value} {s' : Shared} (z : L2.CX P w [] H s (fun _ _ _ => False) e s') : False := by
  obtain ⟨_, _, _, _, _, _, _, _, _, _, _, _, z⟩ := z
  exact z
theorem walk {l : PySem.W.OpenLaw} {q : Program} {loose : List Str} {XP : (Str → Option Value) → Heap → Prop} {YP : World → Heap → Prop} {d : DefRec} {K : Params → PySem.W.Frag} {k : Nat} (hn : l.most = some 63) (hdf : d.params.defaults = []) (hr : Room k callerA)
    (hY : ∀ (w : World) (h : Heap), YP w h → (K w.params).In h)
    (F : ∀ (w : World) (mg : Str → Option Value) (fa : Addr) (h : Heap), (K w.params).In h → h.Ns mainGlobals mg → mg d.name = some (.ref fa) →
      ∃ fd : FuncData, (∀ (s : Shared) (u : Value), BindsTo s fd ⟨[u], []⟩ [("script", u)]) ∧ ∀ base : Heap, (K w.params).In base → base.Ns mainGlobals mg → FnOk l.prog w (K w.params) mg base (L2.CX l.prog w) k fa fd ["script"] (spLaw (K w.params))) :
    PySem.W.WalkO q loose XP YP l.row.toRowW d [] (fun f vs => PySem.call f vs) :=
  L2.walk_of (n := 63) (k := k) (x := "script") (CX := fun w => L2.CX l.prog w) (sp := fun w => spLaw (K w.params)) hn (by decide) hdf hr hY F (fun _ _ a ns hl _ hS => ⟨a, ns, rfl, hS, hl, fun _ => rfl⟩) fun _ _ _ _ _ z => cx_no z
/-- what the law's def promises -/
theorem law_fn {Pg : Program} {w : World} {K : PySem.W.Frag} {mg : Str → Option Value} {base : Heap} {G : Gm} {nm : Nm} {P : Prog} {n k f : Nat} {d : Df} {x : Str} {st : Stmt} {N : List Str} {fd : FuncData} (pk : PgOk K mg nm G P) (hd : P f = some d) (D : DfOk K nm G f d x st N ["script"] fd) (h : LawOk P n k f) :
    FnOk Pg w K mg base (L2.CX Pg w) k (G.fa f) fd ["script"] (spLaw K) := by
  have hK := pk.hK
  subst hK
  exact (df_ok pk n k f d x st N ["script"] fd hd D).imp (law_sp h)
/-! ### tables -/
theorem all_nil {α : Type} {p : α → Prop} : ∀ q ∈ ([] : List α), p q := fun q hq => (nomatch hq)
theorem all_cons {α : Type} {p : α → Prop} {a : α} {r : List α} (h : p a) (hr : ∀ q ∈ r, p q) : ∀ q ∈ a :: r, p q := fun q hq => (List.mem_cons.mp hq).elim (fun e => e ▸ h) (hr q)
theorem look_all {β : Type} {p : Str × β → Prop} {tbl : List (Str × β)} (h : ∀ q ∈ tbl, p q) {x : Str} {b : β} (e : tbl.lookup x = some b) : p (x, b) := h _ (PySem.mem_of_lookup e)
def nmOf (fn : List (Str × Nat)) (con : List (Str × T)) (blt : List Str) : Nm where
  fn := fun x => fn.lookup x
  con := fun x => con.lookup x
  blt := fun x => blt.contains x
theorem pg_mk {K : PySem.W.Frag} {mg : Str → Option Value} {h : Heap} {G : Gm} {P : Prog} {fn : List (Str × Nat)} {con : List (Str × T)} {blt : List Str} (hK : K = G.K)
    (df : ∀ f d, P f = some d → ∃ x st N ps fd, DfOk K (nmOf fn con blt) G f d x st N ps fd) (hfn : ∀ q ∈ fn, mg q.1 = some (.ref (G.fa q.2)) ∧ (P q.2).isSome = true)
    (hcon : ∀ q ∈ con, ∃ u v, mg q.1 = some u ∧ L2.RelV v u ∧ Rep G (fun _ => none) q.2 v []) (hblt : ∀ x ∈ blt, mg x = none) : PgOk K mg (nmOf fn con blt) G P where
  hK := hK
  df := df
  fnm := fun x f e => look_all (p := fun q => mg q.1 = some (.ref (G.fa q.2)) ∧ (P q.2).isSome = true) hfn e
  con := fun x t e => look_all (p := fun q => ∃ u v, mg q.1 = some u ∧ L2.RelV v u ∧ Rep G (fun _ => none) q.2 v []) hcon e
  blt := fun x e => hblt x (List.contains_iff_mem.mp e)
theorem df_mk {K : PySem.W.Frag} {nm : Nm} {G : Gm} {f fi : Nat} {d : Df} {x : Str} {st : Stmt} {N ps : List Str} {fd : FuncData} (hf : G.fa f = fi) (F : Fun K x x st fi fd) (b : Binds K fd ps []) (sc : FnScope N ps (defScope st)) (np : d.np = ps.length) (ns : d.ns = N.length) (kl : d.keep.length ≤ d.np)
    (c : chkSs (defS st N) nm (keptIx d.keep) d.body (defBody st) = true) : DfOk K nm G f d x st N ps fd := ⟨hf ▸ F, b, sc, np, ns, kl, c⟩
theorem con_int {mg : Str → Option Value} {G : Gm} {x : Str} {i : Int} {t : Tok} (h : mg x = some (.int i t)) : ∃ u v, mg x = some u ∧ L2.RelV v u ∧ Rep G (fun _ => none) (.int i) v [] := ⟨_, .int i, h, ⟨t, rfl⟩, .int⟩
theorem con_str {mg : Str → Option Value} {G : Gm} {x s : Str} {c : List Nat} {t : Tok} (h : mg x = some (.str s t)) (e : (⟨c.toArray⟩ : Str) = s) : ∃ u v, mg x = some u ∧ L2.RelV v u ∧ Rep G (fun _ => none) (.str c) v [] := ⟨_, .str s, h, ⟨t, rfl⟩, e ▸ .str⟩
end Ev
end
section
set_option Elab.async false
set_option linter.all false
/-! Pm, part A: permutations of the first n numbers, their orbits. Plain Lean. -/
namespace Pm
theorem least {P : Nat → Prop} (h : ∃ k, P k) : ∃ m, P m ∧ ∀ j, j < m → ¬ P j := by
  obtain ⟨k, hk⟩ := h
  induction k using Nat.strongRecOn with
  | _ k ih =>
    by_cases q : ∃ j, j < k ∧ P j
    · obtain ⟨j, h1, h2⟩ := q
      exact ih j h1 h2
    · exact ⟨k, hk, fun j hj hp => q ⟨j, hj, hp⟩⟩
theorem pig : ∀ (n : Nat) (l : List Nat), (∀ x ∈ l, x < n) → l.Nodup → l.length ≤ n
  | 0, [], _, _ => Nat.le_refl _
  | 0, x :: r, h, _ => absurd (h x List.mem_cons_self) (Nat.not_lt_zero x)
  | n + 1, l, h, nd => by
    have h1 := pig n (l.erase n) (fun x hx => by
      have h2 := List.mem_of_mem_erase hx
      have h3 := h x h2
      have h4 : x ≠ n := fun e => by
        subst e
        exact (List.Nodup.not_mem_erase nd) hx
      omega) (nd.erase n)
    by_cases hm : n ∈ l
    · rw [List.length_erase_of_mem hm] at h1
      omega
    · rw [List.erase_of_not_mem hm] at h1
      omega
def it (f : Nat → Nat) : Nat → Nat → Nat
  | 0, x => x
  | k + 1, x => f (it f k x)
theorem it_add (f : Nat → Nat) (x : Nat) : ∀ j k, it f (j + k) x = it f j (it f k x)
  | 0, k => by rw [Nat.zero_add]; rfl
  | j + 1, k => by
    rw [Nat.add_right_comm]
    show f (it f (j + k) x) = f (it f j (it f k x))
    rw [it_add f x j k]
theorem it_one (f : Nat → Nat) (k x : Nat) : it f k (f x) = it f (k + 1) x := (it_add f x k 1).symm
structure Pm (n : Nat) where
  f : Nat → Nat
  g : Nat → Nat
  gf : ∀ x, g (f x) = x
  fg : ∀ x, f (g x) = x
  fix : ∀ x, n ≤ x → f x = x
variable {n : Nat}
namespace Pm
theorem inj (p : Pm n) {x y : Nat} (h : p.f x = p.f y) : x = y := by rw [← p.gf x, h, p.gf]
theorem lt (p : Pm n) {x : Nat} (h : x < n) : p.f x < n := by
  by_cases q : p.f x < n
  · exact q
  · have := p.inj (p.fix (p.f x) (by omega))
    omega
theorem it_lt (p : Pm n) {x : Nat} (h : x < n) : ∀ k, it p.f k x < n
  | 0 => h
  | k + 1 => p.lt (p.it_lt h k)
theorem it_inj (p : Pm n) {x y : Nat} : ∀ k, it p.f k x = it p.f k y → x = y
  | 0, h => h
  | k + 1, h => p.it_inj k (p.inj h)
def inv (p : Pm n) : Pm n where
  f := p.g
  g := p.f
  gf := p.fg
  fg := p.gf
  fix := fun x h => by
    have := p.gf x
    rw [p.fix x h] at this
    exact this
/-- first q, then p -/
def mul (p q : Pm n) : Pm n where
  f := fun x => p.f (q.f x)
  g := fun x => q.g (p.g x)
  gf := fun x => by rw [p.gf, q.gf]
  fg := fun x => by rw [q.fg, p.fg]
  fix := fun x h => by rw [q.fix x h, p.fix x h]
def one (n : Nat) : Pm n := ⟨id, id, fun _ => rfl, fun _ => rfl, fun _ _ => rfl⟩
def swf (x y z : Nat) : Nat := if z = x then y else if z = y then x else z
theorem swf_swf (x y z : Nat) : swf x y (swf x y z) = z := by
  unfold swf
  repeat' split
  all_goals omega
def sw (x y : Nat) (hx : x < n) (hy : y < n) : Pm n where
  f := swf x y
  g := swf x y
  gf := swf_swf x y
  fg := swf_swf x y
  fix := fun z h => by
    unfold swf
    rw [if_neg (by omega), if_neg (by omega)]
/-- it comes back -/
theorem back (p : Pm n) {x : Nat} (h : x < n) : ∃ m, 0 < m ∧ m ≤ n ∧ it p.f m x = x := by
  have h1 : ¬ ((List.range (n + 1)).map fun k => it p.f k x).Nodup := fun nd => by
    have := pig n _ (fun y hy => by
      obtain ⟨k, _, rfl⟩ := List.mem_map.mp hy
      exact p.it_lt h k) nd
    rw [List.length_map, List.length_range] at this
    omega
  have h2 : ∃ i j, i < j ∧ j ≤ n ∧ it p.f i x = it p.f j x := by
    apply Classical.byContradiction
    intro q
    apply h1
    refine List.pairwise_map.mpr ?_
    have := List.pairwise_lt_range (n := n + 1)
    refine List.Pairwise.imp_of_mem ?_ this
    intro a b ha hb hab e
    exact q ⟨a, b, hab, by have := List.mem_range.mp hb; omega, e⟩
  obtain ⟨i, j, hij, hj, e⟩ := h2
  refine ⟨j - i, by omega, by omega, ?_⟩
  have e2 : j = i + (j - i) := by omega
  rw [e2, it_add] at e
  exact (p.it_inj i e).symm
/-- the period -/
theorem period (p : Pm n) {x : Nat} (h : x < n) : ∃ m, 0 < m ∧ m ≤ n ∧ it p.f m x = x ∧ ∀ j, 0 < j → j < m → it p.f j x ≠ x := by
  obtain ⟨k, k0, kn, hk⟩ := p.back h
  obtain ⟨m, ⟨m0, hm⟩, hl⟩ := least (P := fun m => 0 < m ∧ it p.f m x = x) ⟨k, k0, hk⟩
  refine ⟨m, m0, ?_, hm, fun j j0 jm e => hl j jm ⟨j0, e⟩⟩
  apply Classical.byContradiction
  intro q
  exact hl k (by omega) ⟨k0, hk⟩
/-- in the orbit -/
def O (p : Pm n) (x y : Nat) : Prop := ∃ k, it p.f k x = y
theorem O.refl (p : Pm n) (x : Nat) : O p x x := ⟨0, rfl⟩
theorem O.trans {p : Pm n} {x y z : Nat} (a : O p x y) (b : O p y z) : O p x z := by
  obtain ⟨j, rfl⟩ := a
  obtain ⟨k, rfl⟩ := b
  exact ⟨k + j, it_add ..⟩
theorem it_mul (p : Pm n) {x m : Nat} (h : it p.f m x = x) : ∀ k, it p.f (m * k) x = x
  | 0 => rfl
  | k + 1 => by rw [Nat.mul_succ, it_add, h, p.it_mul h k]
theorem O.symm {p : Pm n} {x y : Nat} (h : x < n) (a : O p x y) : O p y x := by
  obtain ⟨j, rfl⟩ := a
  obtain ⟨m, m0, _, hm⟩ := p.back h
  refine ⟨m * (j + 1) - j, ?_⟩
  rw [← it_add]
  have e : m * (j + 1) - j + j = m * (j + 1) := by
    have : j ≤ m * (j + 1) := Nat.le_trans (by omega : j ≤ 1 * (j + 1)) (Nat.mul_le_mul_right _ m0)
    omega
  rw [e, p.it_mul hm]
theorem O.step (p : Pm n) (x : Nat) : O p x (p.f x) := ⟨1, rfl⟩
theorem O.lt {p : Pm n} {x y : Nat} (a : O p x y) (h : x < n) : y < n := by
  obtain ⟨k, rfl⟩ := a
  exact p.it_lt h k
theorem it_mod (p : Pm n) {x m : Nat} (h : it p.f m x = x) (k : Nat) : it p.f k x = it p.f (k % m) x := by
  have e : k = k % m + m * (k / m) := (Nat.mod_add_div k m).symm
  conv => lhs; rw [e, it_add, p.it_mul h]
/-- in the orbit, by a place below the period -/
theorem O.at_ {p : Pm n} {x y m : Nat} (m0 : 0 < m) (hm : it p.f m x = x) (a : O p x y) : ∃ j, 0 < j ∧ j ≤ m ∧ it p.f j x = y := by
  obtain ⟨k, rfl⟩ := a
  by_cases q : k % m = 0
  · refine ⟨m, m0, Nat.le_refl _, ?_⟩
    rw [p.it_mod hm k, q, hm]
    rfl
  · exact ⟨k % m, by omega, Nat.le_of_lt (Nat.mod_lt _ m0), (p.it_mod hm k).symm⟩
theorem uniq (p : Pm n) {x m i j : Nat} (hl : ∀ j, 0 < j → j < m → it p.f j x ≠ x) (hi : 0 < i) (hij : i < j) (hj : j ≤ m) : it p.f i x ≠ it p.f j x := fun e => by
  have e2 : j = i + (j - i) := by omega
  rw [e2, it_add] at e
  exact hl (j - i) (by omega) (by omega) (p.it_inj i e).symm
end Pm
end Pm
end
section
set_option Elab.async false
set_option linter.all false
/-! Pm, part B: a transposition ahead splits an orbit, or joins two. -/
namespace Pm
namespace Pm
variable {n : Nat}
/-- p behind the exchange of x and y -/
def cut (p : Pm n) (x y : Nat) (hx : x < n) (hy : y < n) : Pm n := p.mul (sw x y hx hy)
section
variable {p : Pm n} {x y : Nat} {hx : x < n} {hy : y < n}
theorem cut_x : (p.cut x y hx hy).f x = p.f y := by
  show p.f (swf x y x) = _
  unfold swf
  rw [if_pos rfl]
theorem cut_y : (p.cut x y hx hy).f y = p.f x := by
  show p.f (swf x y y) = _
  unfold swf
  split
  · rename_i e; rw [e]
  · rw [if_pos rfl]
theorem cut_ne {z : Nat} (h1 : z ≠ x) (h2 : z ≠ y) : (p.cut x y hx hy).f z = p.f z := by
  show p.f (swf x y z) = _
  unfold swf
  rw [if_neg h1, if_neg h2]
/-- x's orbit in p: period m, y at the place j -/
structure Coil (p : Pm n) (x y m j : Nat) : Prop where
  j0 : 0 < j
  jm : j < m
  back : it p.f m x = x
  low : ∀ i, 0 < i → i < m → it p.f i x ≠ x
  at_ : it p.f j x = y
theorem coil (hx : x < n) (h : O p x y) (hne : x ≠ y) : ∃ m j, Coil p x y m j := by
  obtain ⟨m, m0, _, hm, hl⟩ := p.period hx
  obtain ⟨j, j0, jm, e⟩ := h.at_ m0 hm
  refine ⟨m, j, j0, ?_, hm, hl, e⟩
  apply Classical.byContradiction
  intro q
  have : j = m := by omega
  subst this
  exact hne (hm.symm.trans e)
variable {m j : Nat}
/-- two places -/
theorem Coil.ne (c : Coil p x y m j) {i k : Nat} (hi : 0 < i) (hik : i < k) (hk : k ≤ m) : it p.f i x ≠ it p.f k x := p.uniq c.low hi hik hk
/-- the first arc: from y through it to y -/
theorem Coil.runA (c : Coil p x y m j) : ∀ i, i < j → it (p.cut x y hx hy).f (i + 1) y = it p.f (i + 1) x
  | 0, _ => cut_y
  | i + 1, h => by
    show (p.cut x y hx hy).f (it _ (i + 1) y) = _
    rw [c.runA i (by omega)]
    refine cut_ne (c.low (i + 1) (by omega) (by have := c.jm; omega)) ?_
    rw [← c.at_]
    exact c.ne (by omega) (by omega) (by have := c.jm; omega)
theorem Coil.runB (c : Coil p x y m j) : ∀ i, j + i < m → it (p.cut x y hx hy).f (i + 1) x = it p.f (j + i + 1) x
  | 0, _ => by
    show (p.cut x y hx hy).f x = _
    rw [cut_x, ← c.at_]
    rfl
  | i + 1, h => by
    show (p.cut x y hx hy).f (it _ (i + 1) x) = _
    rw [c.runB i (by omega)]
    refine cut_ne (c.low (j + i + 1) (by omega) (by omega)) ?_
    rw [← c.at_]
    exact (c.ne c.j0 (by omega) (by omega)).symm
theorem Coil.backA (c : Coil p x y m j) : it (p.cut x y hx hy).f j y = y := by
  have h := c.runA (hx := hx) (hy := hy) (j - 1) (by have := c.j0; omega)
  have e : j - 1 + 1 = j := by have := c.j0; omega
  rw [e, c.at_] at h
  exact h
theorem Coil.backB (c : Coil p x y m j) : it (p.cut x y hx hy).f (m - j) x = x := by
  have h := c.runB (hx := hx) (hy := hy) (m - j - 1) (by have := c.jm; omega)
  have e : m - j - 1 + 1 = m - j := by have := c.jm; omega
  have e2 : j + (m - j - 1) + 1 = m := by have := c.jm; omega
  rw [e, e2, c.back] at h
  exact h
/-- whom y's new orbit has -/
theorem Coil.oA (c : Coil p x y m j) (z : Nat) : O (p.cut x y hx hy) y z ↔ ∃ i, 0 < i ∧ i ≤ j ∧ it p.f i x = z := by
  constructor
  · intro h
    obtain ⟨i, i0, ij, e⟩ := h.at_ c.j0 c.backA
    refine ⟨i, i0, ij, ?_⟩
    have := c.runA (hx := hx) (hy := hy) (i - 1) (by omega)
    have e1 : i - 1 + 1 = i := by omega
    rw [e1] at this
    rw [← this, e]
  · rintro ⟨i, i0, ij, rfl⟩
    refine ⟨i, ?_⟩
    have := c.runA (hx := hx) (hy := hy) (i - 1) (by omega)
    have e1 : i - 1 + 1 = i := by omega
    rwa [e1] at this
theorem Coil.oB (c : Coil p x y m j) (z : Nat) : O (p.cut x y hx hy) x z ↔ ∃ i, j < i ∧ i ≤ m ∧ it p.f i x = z := by
  constructor
  · intro h
    obtain ⟨i, i0, ij, e⟩ := h.at_ (by have := c.jm; omega) c.backB
    refine ⟨j + i, by omega, by omega, ?_⟩
    have := c.runB (hx := hx) (hy := hy) (i - 1) (by omega)
    have e1 : i - 1 + 1 = i := by omega
    have e2 : j + (i - 1) + 1 = j + i := by omega
    rw [e1, e2] at this
    rw [← this, e]
  · rintro ⟨i, i0, ij, rfl⟩
    refine ⟨i - j, ?_⟩
    have := c.runB (hx := hx) (hy := hy) (i - j - 1) (by omega)
    have e1 : i - j - 1 + 1 = i - j := by omega
    have e2 : j + (i - j - 1) + 1 = i := by omega
    rw [e1, e2] at this
    exact this
theorem Coil.oX (c : Coil p x y m j) (z : Nat) : O p x z ↔ (O (p.cut x y hx hy) y z ∨ O (p.cut x y hx hy) x z) := by
  rw [c.oA, c.oB]
  constructor
  · intro h
    obtain ⟨i, i0, im, e⟩ := h.at_ (by have := c.jm; omega) c.back
    by_cases q : i ≤ j
    · exact .inl ⟨i, i0, q, e⟩
    · exact .inr ⟨i, by omega, im, e⟩
  · rintro (⟨i, _, _, e⟩ | ⟨i, _, _, e⟩) <;> exact ⟨i, e⟩
theorem Coil.apart (c : Coil p x y m j) {z : Nat} (h1 : O (p.cut x y hx hy) y z) (h2 : O (p.cut x y hx hy) x z) : False := by
  obtain ⟨i, i0, ij, e⟩ := (c.oA z).mp h1
  obtain ⟨k, k0, km, e2⟩ := (c.oB z).mp h2
  exact c.ne i0 (by omega) km (e.trans e2.symm)
/-- outside it goes on as it was -/
theorem out_it {z : Nat} (hx' : x < n) (h : ¬ O p x z) (hxy : O p x y) : ∀ k, it (p.cut x y hx hy).f k z = it p.f k z
  | 0 => rfl
  | k + 1 => by
    show (p.cut x y hx hy).f (it _ k z) = p.f (it p.f k z)
    rw [out_it hx' h hxy k]
    have q : ∀ u, O p x u → it p.f k z ≠ u := fun u hu e => by
      apply h
      have hz : z < n ∨ n ≤ z := by omega
      rcases hz with hz | hz
      · have h1 : O p z u := ⟨k, e⟩
        exact hu.trans (h1.symm hz)
      · have fixed : ∀ k, it p.f k z = z := fun k => by
          induction k with
          | zero => rfl
          | succ k ih => show p.f (it p.f k z) = z; rw [ih, p.fix z hz]
        rw [fixed] at e
        rw [e]
        exact hu
    exact cut_ne (q x (O.refl p x)) (q y hxy)
theorem out_O {z w : Nat} (h : ¬ O p x z) (hxy : O p x y) : O (p.cut x y hx hy) z w ↔ O p z w := by
  constructor
  · rintro ⟨k, e⟩; exact ⟨k, by rw [← e, out_it hx h hxy]⟩
  · rintro ⟨k, e⟩; exact ⟨k, by rw [← e, out_it hx h hxy]⟩
end
end Pm
end Pm
end
section
set_option Elab.async false
set_option linter.all false
/-! Pm, part C: how many orbits; how far a permutation is from doing nothing. -/
namespace Pm
theorem count_one {q q' : Nat → Bool} {v : Nat} : ∀ {l : List Nat}, l.Nodup → v ∈ l → (∀ z ∈ l, z ≠ v → q' z = q z) → q v = false → q' v = true → (l.filter q').length = (l.filter q).length + 1
  | [], _, hm, _, _, _ => by cases hm
  | x :: r, nd, hm, h, h1, h2 => by
    obtain ⟨hx, nd⟩ := List.nodup_cons.mp nd
    by_cases e : x = v
    · subst e
      have same : r.filter q' = r.filter q := List.filter_congr fun z hz => h z (List.mem_cons_of_mem _ hz) (fun e => hx (e ▸ hz))
      simp [List.filter_cons, h1, h2, same]
    · have hm' : v ∈ r := by
        rcases List.mem_cons.mp hm with q | q
        · exact absurd q.symm e
        · exact q
      have ih := count_one (q := q) (q' := q') nd hm' (fun z hz => h z (List.mem_cons_of_mem _ hz)) h1 h2
      have hxx := h x List.mem_cons_self e
      simp only [List.filter_cons, hxx]
      split
      · simp only [List.length_cons, ih]
      · exact ih
namespace Pm
variable {n : Nat}
/-- the least of its orbit -/
def Mn (p : Pm n) (x : Nat) : Prop := ∀ y, O p x y → x ≤ y
open Classical in
noncomputable def cyc (p : Pm n) : Nat := ((List.range n).filter fun x => decide (Mn p x)).length
theorem least_of (p : Pm n) (x : Nat) : ∃ a, O p x a ∧ ∀ w, O p x w → a ≤ w := by
  obtain ⟨a, h1, h2⟩ := least (P := O p x) ⟨x, O.refl p x⟩
  exact ⟨a, h1, fun w hw => Classical.byContradiction fun q => h2 w (by omega) hw⟩
theorem mn_iff {p : Pm n} {x a z : Nat} (hx : x < n) (ha : O p x a) (hl : ∀ w, O p x w → a ≤ w) (hz : O p x z) : Mn p z ↔ z = a := by
  constructor
  · intro h
    have h1 := h a ((hz.symm hx).trans ha)
    have h2 := hl z hz
    omega
  · rintro rfl
    exact fun y hy => hl y (hz.trans hy)
open Classical in
theorem cyc_split {p : Pm n} {x y : Nat} {hx : x < n} {hy : y < n} (h : O p x y) (hne : x ≠ y) : cyc (p.cut x y hx hy) = cyc p + 1 := by
  obtain ⟨m, j, c⟩ := coil hx h hne
  obtain ⟨a, ha, la⟩ := least_of (p.cut x y hx hy) y
  obtain ⟨b, hb, lb⟩ := least_of (p.cut x y hx hy) x
  have hab : a ≠ b := fun e => c.apart ha (e ▸ hb)
  have ya : ∀ z, O (p.cut x y hx hy) y z → O p x z := fun z hz => (c.oX z).mpr (.inl hz)
  have xb : ∀ z, O (p.cut x y hx hy) x z → O p x z := fun z hz => (c.oX z).mpr (.inr hz)
  -- the other one: v; the least of all: u
  have key : ∀ v, (v = a ∧ b < a ∨ v = b ∧ a < b) → cyc (p.cut x y hx hy) = cyc p + 1 := by
    intro v hv
    have vO : O p x v := by
      rcases hv with ⟨rfl, _⟩ | ⟨rfl, _⟩
      · exact ya _ ha
      · exact xb _ hb
    have vn : v < n := vO.lt hx
    refine count_one (v := v) List.nodup_range (List.mem_range.mpr vn) (fun z hz hzv => ?_) ?_ ?_
    · have zn := List.mem_range.mp hz
      rw [decide_eq_decide]
      by_cases q : O p x z
      · rcases (c.oX z).mp q with q' | q'
        · rw [mn_iff hy ha la q']
          constructor
          · rintro rfl
            rcases hv with ⟨rfl, _⟩ | ⟨_, hab'⟩
            · exact absurd rfl hzv
            · intro w hw
              rcases (c.oX w).mp (q.trans hw) with k | k
              · exact la w k
              · exact Nat.le_trans (Nat.le_of_lt hab') (lb w k)
          · intro hm
            have h1 := la z q'
            have h2 := hm a ((q.symm hx).trans (ya a ha))
            omega
        · rw [mn_iff hx hb lb q']
          constructor
          · rintro rfl
            rcases hv with ⟨_, hab'⟩ | ⟨rfl, _⟩
            · intro w hw
              rcases (c.oX w).mp (q.trans hw) with k | k
              · exact Nat.le_trans (Nat.le_of_lt hab') (la w k)
              · exact lb w k
            · exact absurd rfl hzv
          · intro hm
            have h1 := lb z q'
            have h2 := hm b ((q.symm hx).trans (xb b hb))
            omega
      · unfold Mn
        constructor
        · exact fun hm w hw => hm w ((out_O q h).mpr hw)
        · exact fun hm w hw => hm w ((out_O q h).mp hw)
    · rw [decide_eq_false_iff_not]
      intro hm
      rcases hv with ⟨rfl, hab'⟩ | ⟨rfl, hab'⟩
      · have := hm b ((vO.symm hx).trans (xb b hb))
        omega
      · have := hm a ((vO.symm hx).trans (ya a ha))
        omega
    · rw [decide_eq_true_iff]
      rcases hv with ⟨rfl, _⟩ | ⟨rfl, _⟩
      · exact (mn_iff hy ha la ha).mpr rfl
      · exact (mn_iff hx hb lb hb).mpr rfl
  by_cases q : a < b
  · exact key b (.inr ⟨rfl, q⟩)
  · exact key a (.inl ⟨rfl, by omega⟩)
theorem ext {p q : Pm n} (h : ∀ x, p.f x = q.f x) : p = q := by
  have hf : p.f = q.f := funext h
  have hg : p.g = q.g := by
    funext x
    have h1 : q.f (q.g x) = x := q.fg x
    rw [← h] at h1
    have h2 := p.gf (q.g x)
    rw [h1] at h2
    exact h2
  cases p; cases q
  cases hf; cases hg
  rfl
theorem cut_cut {p : Pm n} {x y : Nat} {hx : x < n} {hy : y < n} : (p.cut x y hx hy).cut x y hx hy = p := ext fun z => by
  show p.f (swf x y (swf x y z)) = p.f z
  rw [swf_swf]
theorem cyc_join {p : Pm n} {x y : Nat} {hx : x < n} {hy : y < n} (h : ¬ O p x y) : cyc p = cyc (p.cut x y hx hy) + 1 := by
  have hne : x ≠ y := fun e => h (e ▸ O.refl p x)
  have h2 : O (p.cut x y hx hy) x y := by
    -- from x behind the cut one goes as p from y, and comes to y
    obtain ⟨m, m0, _, hm, hl⟩ := p.period hy
    have run : ∀ i, i < m → it (p.cut x y hx hy).f (i + 1) x = it p.f (i + 1) y := by
      intro i
      induction i with
      | zero => intro _; exact cut_x
      | succ i ih =>
        intro hi
        show (p.cut x y hx hy).f (it _ (i + 1) x) = _
        rw [ih (by omega)]
        refine cut_ne (fun e => h ?_) (hl (i + 1) (by omega) (by omega))
        exact O.symm hy ⟨i + 1, e⟩
    refine ⟨m, ?_⟩
    have := run (m - 1) (by omega)
    have e : m - 1 + 1 = m := by omega
    rw [e, hm] at this
    exact this
  have := cyc_split (hx := hx) (hy := hy) h2 hne
  rw [cut_cut] at this
  exact this
theorem cyc_le (p : Pm n) : cyc p ≤ n := by
  unfold cyc
  refine Nat.le_trans (List.length_filter_le _ _) ?_
  rw [List.length_range]
  exact Nat.le_refl _
/-- how many exchanges at least -/
noncomputable def len (p : Pm n) : Nat := n - cyc p
theorem len_split {p : Pm n} {x y : Nat} {hx : x < n} {hy : y < n} (h : O p x y) (hne : x ≠ y) : len p = len (p.cut x y hx hy) + 1 := by
  have h1 := cyc_split (hx := hx) (hy := hy) h hne
  have h2 := cyc_le (p.cut x y hx hy)
  unfold len
  omega
theorem len_join {p : Pm n} {x y : Nat} {hx : x < n} {hy : y < n} (h : ¬ O p x y) : len (p.cut x y hx hy) = len p + 1 := by
  have h1 := cyc_join (hx := hx) (hy := hy) h
  have h2 := cyc_le p
  unfold len
  omega
end Pm
end Pm
end
section
set_option Elab.async false
set_option linter.all false
/-! Pm, part D: arcs of an orbit, by places. -/
namespace Pm
namespace Pm
variable {n : Nat}
/-- strictly between z and w, going along c from z -/
def Arc (c : Pm n) (z w u : Nat) : Prop := ∃ i, 0 < i ∧ it c.f i z = u ∧ ∀ k, 0 < k → k ≤ i → it c.f k z ≠ w
/-- a lies in c: its rings in the rings of c, the same way round, not crossing -/
def NC (a c : Pm n) : Prop := ∀ z, z < n → O c z (a.f z) ∧ ∀ u, Arc c z (a.f z) u → Arc c z (a.f z) (a.f u)
def btw (s t v : Nat) : Prop := (s < t ∧ s < v ∧ v < t) ∨ (t ≤ s ∧ (s < v ∨ v < t))
/-- an orbit with its period -/
structure Ring (c : Pm n) (x m : Nat) : Prop where
  m0 : 0 < m
  back : it c.f m x = x
  low : ∀ i, 0 < i → i < m → it c.f i x ≠ x
theorem Ring.over {c : Pm n} {x m : Nat} (R : Ring c x m) {i : Nat} (h : m ≤ i) : it c.f i x = it c.f (i - m) x := by
  have e : i = (i - m) + m := by omega
  conv => lhs; rw [e, it_add, R.back]
theorem Ring.inj {c : Pm n} {x m : Nat} (R : Ring c x m) {s t : Nat} (hs : 0 < s) (hs' : s ≤ m) (ht : 0 < t) (ht' : t ≤ m) (e : it c.f s x = it c.f t x) : s = t := by
  by_cases h1 : s < t
  · exact absurd e (c.uniq R.low hs h1 ht')
  · by_cases h2 : t < s
    · exact absurd e.symm (c.uniq R.low ht h2 hs')
    · omega
theorem Ring.arc {c : Pm n} {x m s t u : Nat} (R : Ring c x m) (hs : 0 < s) (hs' : s ≤ m) (ht : 0 < t) (ht' : t ≤ m) :
    Arc c (it c.f s x) (it c.f t x) u ↔ ∃ v, 0 < v ∧ v ≤ m ∧ it c.f v x = u ∧ btw s t v := by
  constructor
  · rintro ⟨i, i0, rfl, h⟩
    rw [← it_add]
    by_cases q : s < t
    · have hi : i < t - s := by
        apply Classical.byContradiction
        intro hn
        refine h (t - s) (by omega) (by omega) ?_
        rw [← it_add]
        congr 1
        omega
      exact ⟨i + s, by omega, by omega, rfl, .inl ⟨q, by omega, by omega⟩⟩
    · have hi : i < t + m - s := by
        apply Classical.byContradiction
        intro hn
        refine h (t + m - s) (by omega) (by omega) ?_
        rw [← it_add, R.over (by omega)]
        congr 1
        omega
      by_cases q2 : i + s ≤ m
      · exact ⟨i + s, by omega, q2, rfl, .inr ⟨by omega, .inl (by omega)⟩⟩
      · refine ⟨i + s - m, by omega, by omega, (R.over (by omega)).symm, .inr ⟨by omega, .inr (by omega)⟩⟩
  · rintro ⟨v, v0, vm, rfl, h⟩
    by_cases q : s < v
    · refine ⟨v - s, by omega, ?_, fun k k0 kv e => ?_⟩
      · rw [← it_add]
        congr 1
        omega
      · rw [← it_add] at e
        have := R.inj (by omega) (by omega) ht ht' e
        rcases h with h | h <;> omega
    · have hv : t ≤ s ∧ v < t := by rcases h with h | h <;> omega
      refine ⟨v + m - s, by omega, ?_, fun k k0 kv e => ?_⟩
      · rw [← it_add, R.over (by omega)]
        congr 1
        omega
      · rw [← it_add] at e
        by_cases q2 : k + s ≤ m
        · have := R.inj (by omega) q2 ht ht' e
          omega
        · rw [R.over (by omega)] at e
          have := R.inj (by omega) (by omega) ht ht' e
          omega
theorem Coil.ring {p : Pm n} {x y m j : Nat} (c : Coil p x y m j) : Ring p x m := ⟨by have := c.jm; omega, c.back, c.low⟩
section
variable {p : Pm n} {x y m j : Nat} {hx : x < n} {hy : y < n}
theorem Coil.ringA (c : Coil p x y m j) : Ring (p.cut x y hx hy) y j where
  m0 := c.j0
  back := c.backA
  low := fun i i0 ij e => by
    have := c.runA (hx := hx) (hy := hy) (i - 1) (by omega)
    have e1 : i - 1 + 1 = i := by omega
    rw [e1, e] at this
    rw [← c.at_] at this
    exact c.ne i0 ij (Nat.le_of_lt c.jm) this.symm
theorem Coil.ringB (c : Coil p x y m j) : Ring (p.cut x y hx hy) x (m - j) where
  m0 := by have := c.jm; omega
  back := c.backB
  low := fun i i0 ij e => by
    have := c.runB (hx := hx) (hy := hy) (i - 1) (by omega)
    have e1 : i - 1 + 1 = i := by omega
    have e2 : j + (i - 1) + 1 = j + i := by omega
    rw [e1, e, e2] at this
    exact c.low (j + i) (by omega) (by omega) this.symm
theorem Coil.pA (c : Coil p x y m j) {i : Nat} (h0 : 0 < i) (h : i ≤ j) : it (p.cut x y hx hy).f i y = it p.f i x := by
  have := c.runA (hx := hx) (hy := hy) (i - 1) (by omega)
  have e1 : i - 1 + 1 = i := by omega
  rwa [e1] at this
theorem Coil.pB (c : Coil p x y m j) {i : Nat} (h0 : j < i) (h : i ≤ m) : it (p.cut x y hx hy).f (i - j) x = it p.f i x := by
  have := c.runB (hx := hx) (hy := hy) (i - j - 1) (by omega)
  have e1 : i - j - 1 + 1 = i - j := by omega
  have e2 : j + (i - j - 1) + 1 = i := by omega
  rwa [e1, e2] at this
theorem Coil.arcA (c : Coil p x y m j) {s t u : Nat} (hs : 0 < s) (hs' : s ≤ j) (ht : 0 < t) (ht' : t ≤ j) :
    Arc (p.cut x y hx hy) (it p.f s x) (it p.f t x) u ↔ ∃ v, 0 < v ∧ v ≤ j ∧ it p.f v x = u ∧ btw s t v := by
  rw [← c.pA (hx := hx) (hy := hy) hs hs', ← c.pA (hx := hx) (hy := hy) ht ht', (c.ringA (hx := hx) (hy := hy)).arc hs hs' ht ht']
  constructor
  · rintro ⟨v, v0, vj, e, b⟩; exact ⟨v, v0, vj, by rw [← c.pA (hx := hx) (hy := hy) v0 vj]; exact e, b⟩
  · rintro ⟨v, v0, vj, e, b⟩; exact ⟨v, v0, vj, by rw [c.pA (hx := hx) (hy := hy) v0 vj]; exact e, b⟩
theorem Coil.arcB (c : Coil p x y m j) {s t u : Nat} (hs : j < s) (hs' : s ≤ m) (ht : j < t) (ht' : t ≤ m) :
    Arc (p.cut x y hx hy) (it p.f s x) (it p.f t x) u ↔ ∃ v, j < v ∧ v ≤ m ∧ it p.f v x = u ∧ btw s t v := by
  rw [← c.pB (hx := hx) (hy := hy) hs hs', ← c.pB (hx := hx) (hy := hy) ht ht', (c.ringB (hx := hx) (hy := hy)).arc (by omega) (by omega) (by omega) (by omega)]
  constructor
  · rintro ⟨v, v0, vj, e, b⟩
    refine ⟨v + j, by omega, by omega, ?_, ?_⟩
    · rw [← c.pB (hx := hx) (hy := hy) (by omega) (by omega), Nat.add_sub_cancel]; exact e
    · unfold btw at b ⊢; omega
  · rintro ⟨v, v0, vj, e, b⟩
    refine ⟨v - j, by omega, by omega, ?_, ?_⟩
    · rw [c.pB (hx := hx) (hy := hy) v0 vj]; exact e
    · unfold btw at b ⊢; omega
/-- outside nothing changes -/
theorem arc_out (hx' : x < n) {z w u : Nat} (h : ¬ O p x z) (hxy : O p x y) : Arc (p.cut x y hx hy) z w u ↔ Arc p z w u := by
  unfold Arc
  constructor
  · rintro ⟨i, i0, e, q⟩
    exact ⟨i, i0, by rw [← out_it (hx := hx) (hy := hy) hx' h hxy]; exact e, fun k k0 ki => by rw [← out_it (hx := hx) (hy := hy) hx' h hxy]; exact q k k0 ki⟩
  · rintro ⟨i, i0, e, q⟩
    exact ⟨i, i0, by rw [out_it hx' h hxy]; exact e, fun k k0 ki => by rw [out_it hx' h hxy]; exact q k k0 ki⟩
end
end Pm
end Pm
end
section
set_option Elab.async false
set_option linter.all false
set_option maxHeartbeats 1000000
/-! Ev, part E: a lies in c just if its length and that of the rest make c's. -/
namespace Pm
/-- places behind the cut -/
def rho' (ρ : Nat → Nat) (j m s : Nat) : Nat := if s = j then j else if s = m then ρ j else ρ s
theorem rho_j {ρ : Nat → Nat} {j m : Nat} : rho' ρ j m j = j := by unfold rho'; rw [if_pos rfl]
theorem rho_m {ρ : Nat → Nat} {j m : Nat} (h : j < m) : rho' ρ j m m = ρ j := by unfold rho'; rw [if_neg (by omega), if_pos rfl]
theorem rho_s {ρ : Nat → Nat} {j m s : Nat} (h1 : s ≠ j) (h2 : s ≠ m) : rho' ρ j m s = ρ s := by unfold rho'; rw [if_neg h1, if_neg h2]
open Pm (btw)
/-- what is known of the places: x = place m goes to j -/
structure Pl (ρ : Nat → Nat) (j m : Nat) : Prop where
  j0 : 0 < j
  jm : j < m
  in_ : ∀ s, 0 < s → s ≤ m → 0 < ρ s ∧ ρ s ≤ m
  inj : ∀ s t, 0 < s → s ≤ m → 0 < t → t ≤ m → ρ s = ρ t → s = t
  top : ρ m = j
theorem pos_fwd {ρ : Nat → Nat} {j m : Nat} (p : Pl ρ j m) (cl : ∀ s v, 0 < s → s ≤ m → 0 < v → v ≤ m → btw s (ρ s) v → btw s (ρ s) (ρ v)) (hi : ∀ v, j ≤ v → v < m → j < ρ v) :
    (∀ s v, 0 < s → s ≤ j → 0 < v → v ≤ j → 0 < rho' ρ j m v ∧ rho' ρ j m v ≤ j ∧ (btw s (rho' ρ j m s) v → btw s (rho' ρ j m s) (rho' ρ j m v))) ∧
    ∀ s v, j < s → s ≤ m → j < v → v ≤ m → j < rho' ρ j m v ∧ rho' ρ j m v ≤ m ∧ (btw s (rho' ρ j m s) v → btw s (rho' ρ j m s) (rho' ρ j m v)) := by
  obtain ⟨j0, jm, hin, inj, top⟩ := p
  have lowr : ∀ v, 0 < v → v < j → 0 < ρ v ∧ ρ v < j := fun v v0 vj => by
    have h := cl m v (by omega) (Nat.le_refl _) v0 (by omega)
    rw [top] at h
    have h2 := hin v v0 (by omega)
    have h3 := h (.inr ⟨by omega, .inr vj⟩)
    unfold btw at h3
    omega
  constructor
  · intro s v s0 sj v0 vj
    by_cases hv : v = j
    · subst hv
      rw [rho_j]
      exact ⟨j0, Nat.le_refl _, id⟩
    · have hr := lowr v v0 (by omega)
      rw [rho_s hv (by omega)]
      refine ⟨hr.1, by omega, fun b => ?_⟩
      by_cases hs : s = j
      · subst hs
        rw [rho_j] at b ⊢
        unfold btw at b ⊢
        omega
      · rw [rho_s hs (by omega)] at b ⊢
        exact cl s v s0 (by omega) v0 (by omega) b
  · intro s v sj sm vj vm
    have hj := hi j (Nat.le_refl _) jm
    have hjm := hin j j0 (by omega)
    by_cases hv : v = m
    · subst hv
      rw [rho_m jm]
      refine ⟨hj, hjm.2, fun b => ?_⟩
      by_cases hs : s = v
      · subst hs
        rw [rho_m jm] at b ⊢
        unfold btw at b ⊢
        omega
      · rw [rho_s (by omega) hs] at b ⊢
        have h1 := cl s v (by omega) sm (by omega) vm b
        rw [top] at h1
        exact cl s j (by omega) sm j0 (by omega) h1
    · have hr := hi v (by omega) (by omega)
      have hr2 := hin v (by omega) vm
      rw [rho_s (by omega) hv]
      refine ⟨hr, hr2.2, fun b => ?_⟩
      by_cases hs : s = m
      · subst hs
        rw [rho_m jm] at b ⊢
        have h1 := cl j v j0 (by omega) (by omega) vm
        unfold btw at b h1 ⊢
        omega
      · rw [rho_s (by omega) hs] at b ⊢
        exact cl s v (by omega) sm (by omega) vm b
theorem pos_bwd {ρ : Nat → Nat} {j m : Nat} (p : Pl ρ j m)
    (hA : ∀ s v, 0 < s → s ≤ j → 0 < v → v ≤ j → 0 < rho' ρ j m v ∧ rho' ρ j m v ≤ j ∧ (btw s (rho' ρ j m s) v → btw s (rho' ρ j m s) (rho' ρ j m v)))
    (hB : ∀ s v, j < s → s ≤ m → j < v → v ≤ m → j < rho' ρ j m v ∧ rho' ρ j m v ≤ m ∧ (btw s (rho' ρ j m s) v → btw s (rho' ρ j m s) (rho' ρ j m v))) :
    ∀ s v, 0 < s → s ≤ m → 0 < v → v ≤ m → btw s (ρ s) v → btw s (ρ s) (ρ v) := by
  obtain ⟨j0, jm, hin, inj, top⟩ := p
  have low : ∀ v, 0 < v → v < j → 0 < ρ v ∧ ρ v < j := fun v v0 vj => by
    have h := hA v v v0 (by omega) v0 (by omega)
    rw [rho_s (by omega) (by omega)] at h
    have h2 : ρ v ≠ j := fun e => by
      have := inj v m v0 (by omega) (by omega) (Nat.le_refl _) (e.trans top.symm)
      omega
    omega
  have hj : j < ρ j ∧ ρ j ≤ m := by
    have h := hB m m jm (Nat.le_refl _) jm (Nat.le_refl _)
    rw [rho_m jm] at h
    exact ⟨h.1, h.2.1⟩
  have high : ∀ v, j < v → v < m → j < ρ v ∧ ρ v ≤ m := fun v v0 vm => by
    have h := hB v v v0 (by omega) v0 (by omega)
    rw [rho_s (by omega) (by omega)] at h
    exact ⟨h.1, h.2.1⟩
  intro s v s0 sm v0 vm b
  by_cases hs1 : s < j
  · have hs := low s s0 hs1
    by_cases hv : v < j
    · have h := (hA s v s0 (by omega) v0 (by omega)).2.2
      rw [rho_s (by omega) (by omega), rho_s (by omega) (by omega)] at h
      exact h b
    · by_cases hv2 : v = m
      · subst hv2; rw [top]; unfold btw at b ⊢; omega
      · by_cases hv3 : v = j
        · subst hv3; unfold btw at b ⊢; omega
        · have := high v (by omega) (by omega)
          unfold btw at b ⊢; omega
  · by_cases hs2 : s = j
    · subst hs2
      have hvm : v ≠ m := fun e => by subst e; unfold btw at b; omega
      have hvs : s < v := by unfold btw at b; omega
      have h := (hB m v jm (Nat.le_refl _) hvs vm)
      rw [rho_m jm, rho_s (by omega) hvm] at h
      have h2 := h.2.2 (by unfold btw at b ⊢; omega)
      have h3 := h.1
      have h4 := h.2.1
      unfold btw at b h2 ⊢
      omega
    · by_cases hs3 : s = m
      · subst hs3
        rw [top] at b ⊢
        have hv : v < j := by unfold btw at b; omega
        have := low v v0 hv
        unfold btw at b ⊢
        omega
      · have hs := high s (by omega) (by omega)
        by_cases hv : v < j
        · have := low v v0 hv
          unfold btw at b ⊢; omega
        · by_cases hv2 : v = j
          · subst hv2
            have h := (hB s m (by omega) sm jm (Nat.le_refl _)).2.2
            rw [rho_s (by omega) hs3, rho_m jm] at h
            refine h ?_
            unfold btw at b ⊢; omega
          · by_cases hv3 : v = m
            · subst hv3; rw [top]; unfold btw at b ⊢; omega
            · have h := (hB s v (by omega) sm (by omega) vm).2.2
              rw [rho_s (by omega) hs3, rho_s (by omega) hv3] at h
              exact h b
end Pm
end
section
set_option Elab.async false
set_option linter.all false
set_option maxHeartbeats 1000000
/-! Pm, part F: the law of lengths. -/
namespace Pm
namespace Pm
variable {n : Nat}
section
variable {a c : Pm n} {x y m j : Nat} {hx : x < n} {hy : y < n}
/-- the places to which a leads -/
def Leads (a c : Pm n) (x m : Nat) (ρ : Nat → Nat) : Prop := ∀ s, 0 < s → s ≤ m → 0 < ρ s ∧ ρ s ≤ m ∧ a.f (it c.f s x) = it c.f (ρ s) x
theorem leads_of (C : Coil c x y m j) (hxn : x < n) (h : ∀ z, O c x z → O c x (a.f z)) : ∃ ρ, Leads a c x m ρ := by
  have q : ∀ s, ∃ t, 0 < s → s ≤ m → 0 < t ∧ t ≤ m ∧ a.f (it c.f s x) = it c.f t x := fun s => by
    obtain ⟨t, t0, tm, e⟩ := (h _ ⟨s, rfl⟩).at_ C.ring.m0 C.back
    exact ⟨t, fun _ _ => ⟨t0, tm, e.symm⟩⟩
  obtain ⟨ρ, hρ⟩ := Classical.axiomOfChoice q
  exact ⟨ρ, fun s s0 sm => hρ s s0 sm⟩
theorem pl_of (C : Coil c x y m j) (ha : a.f x = y) {ρ : Nat → Nat} (L : Leads a c x m ρ) : Pl ρ j m where
  j0 := C.j0
  jm := C.jm
  in_ := fun s s0 sm => ⟨(L s s0 sm).1, (L s s0 sm).2.1⟩
  inj := fun s t s0 sm t0 tm e => by
    have h1 := (L s s0 sm).2.2
    have h2 := (L t t0 tm).2.2
    rw [e, ← h2] at h1
    exact C.ring.inj s0 sm t0 tm (a.inj h1)
  top := by
    have m0 := C.ring.m0
    have h := L m m0 (Nat.le_refl _)
    rw [C.back, ha, ← C.at_] at h
    exact (C.ring.inj C.j0 (Nat.le_of_lt C.jm) h.1 h.2.1 h.2.2).symm
/-- the cut ones lead as rho' says -/
theorem leads_cut (C : Coil c x y m j) (ha : a.f x = y) {ρ : Nat → Nat} (L : Leads a c x m ρ) {s : Nat} (s0 : 0 < s) (sm : s ≤ m) : (a.cut x y hx hy).f (it c.f s x) = it c.f (rho' ρ j m s) x := by
  by_cases h1 : s = j
  · subst h1
    rw [rho_j, C.at_, cut_y, ha]
  · by_cases h2 : s = m
    · subst h2
      rw [rho_m C.jm, C.back, cut_x]
      have := (L j C.j0 (Nat.le_of_lt C.jm)).2.2
      rw [C.at_] at this
      exact this
    · rw [rho_s h1 h2, cut_ne (C.low s s0 (by omega)) ?_]
      · exact (L s s0 sm).2.2
      · rw [← C.at_]
        exact fun e => h1 (C.ring.inj s0 sm C.j0 (Nat.le_of_lt C.jm) e)
theorem out_ne (hxy : O c x y) {z : Nat} (h : ¬ O c x z) : z ≠ x ∧ z ≠ y := ⟨fun e => h (e ▸ O.refl c x), fun e => h (e ▸ hxy)⟩
theorem arc_O {c : Pm n} {z w u : Nat} (h : Arc c z w u) : O c z u := let ⟨i, _, e, _⟩ := h; ⟨i, e⟩
theorem high_of (C : Coil c x y m j) (hxn : x < n) (ha : a.f x = y) {ρ : Nat → Nat} (L : Leads a c x m ρ) (low : ∀ v, 0 < v → v < j → ρ v < j) : ∀ v, j ≤ v → v < m → j < ρ v := by
  intro v jv vm
  apply Classical.byContradiction
  intro q
  have p := pl_of C ha L
  have v0 : 0 < v := Nat.lt_of_lt_of_le C.j0 jv
  have hne : ρ v ≠ j := fun e => by
    have := p.inj v m v0 (by omega) (by omega) (Nat.le_refl _) (e.trans p.top.symm)
    omega
  have hv := L v v0 (by omega)
  have run : ∀ k, ∃ i, 0 < i ∧ i < j ∧ it a.f k (it c.f (ρ v) x) = it c.f i x := by
    intro k
    induction k with
    | zero => exact ⟨ρ v, hv.1, by omega, rfl⟩
    | succ k ih =>
      obtain ⟨i, i0, ij, e⟩ := ih
      have hi := L i i0 (by have := C.jm; omega)
      refine ⟨ρ i, hi.1, low i i0 ij, ?_⟩
      show a.f (it a.f k _) = _
      rw [e, hi.2.2]
  obtain ⟨K, K0, _, hK⟩ := a.back (c.it_lt hxn v)
  obtain ⟨i, i0, ij, e⟩ := run (K - 1)
  rw [← hv.2.2, it_one] at e
  have eK : K - 1 + 1 = K := by omega
  rw [eK, hK] at e
  have := C.ring.inj v0 (by omega) i0 (by have := C.jm; omega) e
  omega
/-- forwards -/
theorem nc_fwd (hxy : O c x y) (hne : x ≠ y) (ha : a.f x = y) (h : NC a c) : NC (a.cut x y hx hy) (c.cut x y hx hy) := by
  obtain ⟨m, j, C⟩ := coil hx hxy hne
  obtain ⟨ρ, L⟩ := leads_of (a := a) C hx fun z hz => hz.trans (h z (hz.lt hx)).1
  have p := pl_of C ha L
  have cl : ∀ s v, 0 < s → s ≤ m → 0 < v → v ≤ m → btw s (ρ s) v → btw s (ρ s) (ρ v) := by
    intro s v s0 sm v0 vm b
    have q := (h (it c.f s x) (c.it_lt hx s)).2 (it c.f v x)
    have hs := L s s0 sm
    have hv := L v v0 vm
    rw [hs.2.2, hv.2.2, C.ring.arc s0 sm hs.1 hs.2.1, C.ring.arc s0 sm hs.1 hs.2.1] at q
    obtain ⟨w, w0, wm, e, bw⟩ := q ⟨v, v0, vm, rfl, b⟩
    rwa [C.ring.inj w0 wm hv.1 hv.2.1 e] at bw
  have low : ∀ v, 0 < v → v < j → ρ v < j := fun v v0 vj => by
    have h1 := cl m v C.ring.m0 (Nat.le_refl _) v0 (by have := C.jm; omega)
    rw [p.top] at h1
    have h2 := p.in_ v v0 (by have := C.jm; omega)
    have h3 := h1 (.inr ⟨by have := C.jm; omega, .inr vj⟩)
    unfold btw at h3
    omega
  obtain ⟨hA, hB⟩ := pos_fwd p cl (high_of C hx ha L low)
  intro z zn
  by_cases q : O c x z
  · obtain ⟨s, s0, sm, rfl⟩ := q.at_ C.ring.m0 C.back
    rw [leads_cut C ha L s0 sm]
    by_cases sj : s ≤ j
    · have hs := hA s s s0 sj s0 sj
      refine ⟨?_, fun u hu => ?_⟩
      · have h1 : O (c.cut x y hx hy) y (it c.f s x) := (C.oA _).mpr ⟨s, s0, sj, rfl⟩
        have h2 : O (c.cut x y hx hy) y (it c.f (rho' ρ j m s) x) := (C.oA _).mpr ⟨_, hs.1, hs.2.1, rfl⟩
        exact (h1.symm hy).trans h2
      · rw [C.arcA s0 sj hs.1 hs.2.1] at hu ⊢
        obtain ⟨v, v0, vj, rfl, b⟩ := hu
        have hv := hA s v s0 sj v0 vj
        exact ⟨_, hv.1, hv.2.1, (leads_cut C ha L v0 (by have := C.jm; omega)).symm, hv.2.2 b⟩
    · have hs := hB s s (by omega) sm (by omega) sm
      refine ⟨?_, fun u hu => ?_⟩
      · have h1 : O (c.cut x y hx hy) x (it c.f s x) := (C.oB _).mpr ⟨s, by omega, sm, rfl⟩
        have h2 : O (c.cut x y hx hy) x (it c.f (rho' ρ j m s) x) := (C.oB _).mpr ⟨_, hs.1, hs.2.1, rfl⟩
        exact (h1.symm hx).trans h2
      · rw [C.arcB (by omega) sm hs.1 hs.2.1] at hu ⊢
        obtain ⟨v, v0, vj, rfl, b⟩ := hu
        have hv := hB s v (by omega) sm v0 vj
        exact ⟨_, hv.1, hv.2.1, (leads_cut C ha L (by omega) vj).symm, hv.2.2 b⟩
  · obtain ⟨z1, z2⟩ := out_ne hxy q
    rw [cut_ne z1 z2]
    have hz := h z zn
    refine ⟨(out_O q hxy).mpr hz.1, fun u hu => ?_⟩
    rw [arc_out hx q hxy] at hu ⊢
    obtain ⟨u1, u2⟩ := out_ne hxy (z := u) fun e => q (e.trans ((arc_O hu).symm zn))
    rw [cut_ne u1 u2]
    exact hz.2 u hu
/-- backwards -/
theorem nc_bwd (hxy : O c x y) (hne : x ≠ y) (ha : a.f x = y) (h : NC (a.cut x y hx hy) (c.cut x y hx hy)) : NC a c := by
  obtain ⟨m, j, C⟩ := coil hx hxy hne
  have m0 := C.ring.m0
  have jm := C.jm
  have stay : ∀ z, O c x z → O c x ((a.cut x y hx hy).f z) := fun z hz => by
    have h1 := (h z (hz.lt hx)).1
    rw [C.oX (hx := hx) (hy := hy)] at hz ⊢
    rcases hz with q | q
    · exact .inl (q.trans h1)
    · exact .inr (q.trans h1)
  have stay2 : ∀ z, O c x z → O c x (a.f z) := fun z hz => by
    by_cases e1 : z = x
    · rw [e1, ha]; exact hxy
    · by_cases e2 : z = y
      · rw [e2, ← cut_x (hx := hx) (hy := hy)]; exact stay x (O.refl c x)
      · rw [← cut_ne (hx := hx) (hy := hy) e1 e2]; exact stay z hz
  obtain ⟨ρ, L⟩ := leads_of (a := a) C hx stay2
  have p := pl_of C ha L
  have r0 : ∀ s, 0 < s → s ≤ m → 0 < rho' ρ j m s ∧ rho' ρ j m s ≤ m := fun s s0 sm => by
    unfold rho'
    split
    · exact ⟨C.j0, by omega⟩
    · split
      · exact p.in_ j C.j0 (by omega)
      · exact p.in_ s s0 sm
  have inA : ∀ v, 0 < v → v ≤ j → 0 < rho' ρ j m v ∧ rho' ρ j m v ≤ j := fun v v0 vj => by
    have h1 := (h (it c.f v x) (c.it_lt hx v)).1
    have h2 : O (c.cut x y hx hy) y (it c.f v x) := (C.oA _).mpr ⟨v, v0, vj, rfl⟩
    have h3 := h2.trans h1
    rw [leads_cut C ha L v0 (by omega)] at h3
    obtain ⟨i, i0, ij, e⟩ := (C.oA _).mp h3
    have h4 := r0 v v0 (by omega)
    have := C.ring.inj i0 (by omega) h4.1 h4.2 e
    omega
  have inB : ∀ v, j < v → v ≤ m → j < rho' ρ j m v ∧ rho' ρ j m v ≤ m := fun v v0 vj => by
    have h1 := (h (it c.f v x) (c.it_lt hx v)).1
    have h2 : O (c.cut x y hx hy) x (it c.f v x) := (C.oB _).mpr ⟨v, v0, vj, rfl⟩
    have h3 := h2.trans h1
    rw [leads_cut C ha L (by omega) vj] at h3
    obtain ⟨i, i0, ij, e⟩ := (C.oB _).mp h3
    have h4 := r0 v (by omega) vj
    have := C.ring.inj (by omega) ij h4.1 h4.2 e
    omega
  have cl := pos_bwd p (fun s v s0 sj v0 vj => ⟨(inA v v0 vj).1, (inA v v0 vj).2, fun b => by
      have q := (h (it c.f s x) (c.it_lt hx s)).2 (it c.f v x)
      have hs := inA s s0 sj
      have hv := inA v v0 vj
      rw [leads_cut C ha L s0 (by omega), leads_cut C ha L v0 (by omega), C.arcA s0 sj hs.1 hs.2, C.arcA s0 sj hs.1 hs.2] at q
      obtain ⟨w, w0, wm, e, bw⟩ := q ⟨v, v0, vj, rfl, b⟩
      rwa [C.ring.inj w0 (by omega) hv.1 (by omega) e] at bw⟩)
    (fun s v s0 sm v0 vm => ⟨(inB v v0 vm).1, (inB v v0 vm).2, fun b => by
      have q := (h (it c.f s x) (c.it_lt hx s)).2 (it c.f v x)
      have hs := inB s s0 sm
      have hv := inB v v0 vm
      rw [leads_cut C ha L (by omega) sm, leads_cut C ha L (by omega) vm, C.arcB s0 sm hs.1 hs.2, C.arcB s0 sm hs.1 hs.2] at q
      obtain ⟨w, w0, wm, e, bw⟩ := q ⟨v, v0, vm, rfl, b⟩
      rwa [C.ring.inj (by omega) wm (by omega) hv.2 e] at bw⟩)
  intro z zn
  by_cases q : O c x z
  · refine ⟨(q.symm hx).trans (stay2 z q), ?_⟩
    obtain ⟨s, s0, sm, rfl⟩ := q.at_ m0 C.back
    have hs := L s s0 sm
    intro u hu
    rw [hs.2.2, C.ring.arc s0 sm hs.1 hs.2.1] at hu ⊢
    obtain ⟨v, v0, vm, rfl, b⟩ := hu
    have hv := L v v0 vm
    exact ⟨ρ v, hv.1, hv.2.1, hv.2.2.symm, cl s v s0 sm v0 vm b⟩
  · obtain ⟨z1, z2⟩ := out_ne hxy q
    have hz := h z zn
    rw [cut_ne z1 z2] at hz
    refine ⟨(out_O q hxy).mp hz.1, fun u hu => ?_⟩
    have h2 := hz.2 u
    rw [arc_out hx q hxy, arc_out hx q hxy] at h2
    obtain ⟨u1, u2⟩ := out_ne hxy (z := u) fun e => q (e.trans ((arc_O hu).symm zn))
    rw [cut_ne u1 u2] at h2
    exact h2 hu
end
end Pm
end Pm
end
section
set_option Elab.async false
set_option linter.all false
/-! Pm, part G: lengths add up just if a lies in c. -/
namespace Pm
namespace Pm
variable {n : Nat}
open Classical in
theorem cyc_one : cyc (one n) = n := by
  unfold cyc
  rw [List.filter_eq_self.mpr, List.length_range]
  intro z _
  rw [decide_eq_true_iff]
  rintro y ⟨k, rfl⟩
  have : ∀ k, it (one n).f k z = z := fun k => by
    induction k with
    | zero => rfl
    | succ k ih => exact ih
  rw [this]
  exact Nat.le_refl _
theorem len_one : len (one n) = 0 := by
  unfold len
  rw [cyc_one]
  exact Nat.sub_self n
theorem moved {p : Pm n} {x : Nat} (h : p.f x ≠ x) : x < n := by
  apply Classical.byContradiction
  intro q
  exact h (p.fix x (by omega))
theorem cut_mul {r a : Pm n} {x y : Nat} {hx : x < n} {hy : y < n} : r.mul (a.cut x y hx hy) = (r.mul a).cut x y hx hy := ext fun _ => rfl
theorem len_cut_le (p : Pm n) {x y : Nat} (hx : x < n) (hy : y < n) (hne : x ≠ y) : len p ≤ len (p.cut x y hx hy) + 1 := by
  by_cases h : O p x y
  · have := len_split (hx := hx) (hy := hy) h hne
    omega
  · have := len_join (hx := hx) (hy := hy) h
    omega
/-- lengths are at most added -/
theorem len_mul (r : Pm n) : ∀ (k : Nat) (a : Pm n), len a = k → len (r.mul a) ≤ len a + len r := by
  intro k
  induction k with
  | zero =>
    intro a ha
    have : a = one n := ext fun x => by
      apply Classical.byContradiction
      intro q
      have q : a.f x ≠ x := q
      have hx := moved q
      have := len_split (hx := hx) (hy := a.lt hx) (O.step a x) (Ne.symm q)
      omega
    subst this
    have e : r.mul (one n) = r := ext fun _ => rfl
    rw [e]
    omega
  | succ k ih =>
    intro a ha
    by_cases q : ∃ x, a.f x ≠ x
    · obtain ⟨x, q⟩ := q
      have hx := moved q
      have h1 := len_split (hx := hx) (hy := a.lt hx) (O.step a x) (Ne.symm q)
      have h2 := ih (a.cut x (a.f x) hx (a.lt hx)) (by omega)
      rw [cut_mul] at h2
      have h3 := len_cut_le (r.mul a) hx (a.lt hx) (Ne.symm q)
      omega
    · have : a = one n := ext fun x => by
        apply Classical.byContradiction
        intro q'
        exact q ⟨x, q'⟩
      rw [this, len_one] at ha
      omega
theorem nc_one (c : Pm n) : NC (one n) c := fun z _ => ⟨O.refl c z, fun _ hu => hu⟩
/-- THE LAW OF LENGTHS -/
theorem geo_iff (r : Pm n) : ∀ (k : Nat) (a : Pm n), len a = k → (len a + len r = len (r.mul a) ↔ NC a (r.mul a)) := by
  intro k
  induction k with
  | zero =>
    intro a ha
    have : a = one n := ext fun x => by
      apply Classical.byContradiction
      intro q
      have q : a.f x ≠ x := q
      have hx := moved q
      have := len_split (hx := hx) (hy := a.lt hx) (O.step a x) (Ne.symm q)
      omega
    subst this
    have e : r.mul (one n) = r := ext fun _ => rfl
    rw [e, len_one]
    exact ⟨fun _ => nc_one r, fun _ => by omega⟩
  | succ k ih =>
    intro a ha
    by_cases q : ∃ x, a.f x ≠ x
    · obtain ⟨x, q⟩ := q
      have hx := moved q
      have hy := a.lt hx
      have h1 := len_split (hx := hx) (hy := hy) (O.step a x) (Ne.symm q)
      have h2 := ih (a.cut x (a.f x) hx hy) (by omega)
      have h4 := len_mul r (len (a.cut x (a.f x) hx hy)) (a.cut x (a.f x) hx hy) rfl
      rw [cut_mul] at h2 h4
      constructor
      · intro e
        have hO : O (r.mul a) x (a.f x) := by
          apply Classical.byContradiction
          intro nO
          have h3 := len_join (hx := hx) (hy := hy) nO
          omega
        have h3 := len_split (hx := hx) (hy := hy) hO (Ne.symm q)
        exact nc_bwd hO (Ne.symm q) rfl (h2.mp (by omega))
      · intro h
        have hO := (h x hx).1
        have h3 := len_split (hx := hx) (hy := hy) hO (Ne.symm q)
        have h5 := h2.mpr (nc_fwd hO (Ne.symm q) rfl h)
        omega
    · have : a = one n := ext fun x => by
        apply Classical.byContradiction
        intro q'
        exact q ⟨x, q'⟩
      rw [this, len_one] at ha
      omega
end Pm
end Pm
end
section
set_option Elab.async false
set_option linter.all false
/-! Pm, part H: lengths of renamed ones and of those that go back. -/
namespace Pm
namespace Pm
variable {n : Nat}
/-- p renamed by q -/
def conj (q p : Pm n) : Pm n := (q.mul p).mul q.inv
theorem conj_cut {q p : Pm n} {x y : Nat} (hx : x < n) (hy : y < n) : conj q (p.cut x y hx hy) = (conj q p).cut (q.f x) (q.f y) (q.lt hx) (q.lt hy) := ext fun z => by
  show q.f (p.f (swf x y (q.g z))) = q.f (p.f (q.g (swf (q.f x) (q.f y) z)))
  congr 2
  unfold swf
  by_cases h1 : z = q.f x
  · subst h1
    rw [q.gf, if_pos rfl, if_pos rfl, q.gf]
  · have h1' : q.g z ≠ x := fun e => h1 (by rw [← e, q.fg])
    rw [if_neg h1, if_neg h1']
    by_cases h2 : z = q.f y
    · subst h2
      rw [q.gf, if_pos rfl, if_pos rfl, q.gf]
    · have h2' : q.g z ≠ y := fun e => h2 (by rw [← e, q.fg])
      rw [if_neg h2, if_neg h2']
theorem conj_one {q : Pm n} : conj q (one n) = one n := ext fun z => q.fg z
theorem inv_cut {p : Pm n} {x y : Nat} (hx : x < n) (hy : y < n) : (p.cut x y hx hy).inv = p.inv.cut (p.f x) (p.f y) (p.lt hx) (p.lt hy) := ext fun z => by
  show swf x y (p.g z) = p.g (swf (p.f x) (p.f y) z)
  unfold swf
  by_cases h1 : z = p.f x
  · subst h1
    rw [p.gf, if_pos rfl, if_pos rfl, p.gf]
  · have h1' : p.g z ≠ x := fun e => h1 (by rw [← e, p.fg])
    rw [if_neg h1, if_neg h1']
    by_cases h2 : z = p.f y
    · subst h2
      rw [p.gf, if_pos rfl, if_pos rfl, p.gf]
    · have h2' : p.g z ≠ y := fun e => h2 (by rw [← e, p.fg])
      rw [if_neg h2, if_neg h2']
/-- by induction over the exchanges that are needed -/
theorem ind {C : Pm n → Prop} (h0 : C (one n)) (h1 : ∀ (p : Pm n) (x : Nat) (hx : x < n), p.f x ≠ x → len p = len (p.cut x (p.f x) hx (p.lt hx)) + 1 → C (p.cut x (p.f x) hx (p.lt hx)) → C p) : ∀ (k : Nat) (p : Pm n), len p = k → C p := by
  intro k
  induction k with
  | zero =>
    intro p hp
    have : p = one n := ext fun x => by
      apply Classical.byContradiction
      intro q
      have q : p.f x ≠ x := q
      have hx := moved q
      have := len_split (hx := hx) (hy := p.lt hx) (O.step p x) (Ne.symm q)
      omega
    rw [this]
    exact h0
  | succ k ih =>
    intro p hp
    by_cases q : ∃ x, p.f x ≠ x
    · obtain ⟨x, q⟩ := q
      have hx := moved q
      have h := len_split (hx := hx) (hy := p.lt hx) (O.step p x) (Ne.symm q)
      exact h1 p x hx q h (ih _ (by omega))
    · have : p = one n := ext fun x => by
        apply Classical.byContradiction
        intro q'
        exact q ⟨x, q'⟩
      rw [this]
      exact h0
theorem len_conj_le (q p : Pm n) : len (conj q p) ≤ len p := by
  refine ind (C := fun p => len (conj q p) ≤ len p) ?_ ?_ (len p) p rfl
  · show len (conj q (one n)) ≤ len (one n)
    rw [conj_one]
    exact Nat.le_refl _
  · intro p x hx hne h ih
    have h2 := len_cut_le (conj q p) (q.lt hx) (q.lt (p.lt hx)) (fun e => hne (q.inj e).symm)
    rw [← conj_cut hx (p.lt hx)] at h2
    omega
theorem conj_conj (q p : Pm n) : conj q.inv (conj q p) = p := ext fun z => by
  show q.g (q.f (p.f (q.g (q.f z)))) = p.f z
  rw [q.gf, q.gf]
theorem len_conj (q p : Pm n) : len (conj q p) = len p := by
  have h1 := len_conj_le q p
  have h2 := len_conj_le q.inv (conj q p)
  rw [conj_conj] at h2
  omega
theorem len_inv_le (p : Pm n) : len p.inv ≤ len p := by
  refine ind (C := fun p => len p.inv ≤ len p) ?_ ?_ (len p) p rfl
  · exact Nat.le_refl _
  · intro p x hx hne h ih
    have h2 := len_cut_le p.inv (p.lt hx) (p.lt (p.lt hx)) (fun e => hne (p.inj e).symm)
    rw [← inv_cut hx (p.lt hx)] at h2
    omega
theorem len_inv (p : Pm n) : len p.inv = len p := Nat.le_antisymm (len_inv_le p) (len_inv_le p.inv)
/-- a lies in c -/
def Lies (a c : Pm n) : Prop := len a + len (c.mul a.inv) = len c
theorem rest_mul (a c : Pm n) : (c.mul a.inv).mul a = c := ext fun z => by
  show c.f (a.g (a.f z)) = c.f z
  rw [a.gf]
theorem lies_nc (a c : Pm n) : Lies a c ↔ NC a c := by
  have := geo_iff (c.mul a.inv) (len a) a rfl
  rw [rest_mul] at this
  exact this
/-- the rest lies in c just if a does -/
theorem lies_rest (a c : Pm n) : Lies (c.mul a.inv) c ↔ Lies a c := by
  unfold Lies
  have e : c.mul (c.mul a.inv).inv = conj (c.mul a.inv) a := ext fun z => by
    show c.f (a.f (c.g z)) = c.f (a.g (a.f (a.f (c.g z))))
    rw [a.gf]
  rw [e, len_conj]
  omega
/-- so do those that go back -/
theorem lies_back (a c : Pm n) : Lies a.inv c.inv ↔ Lies a c := by
  unfold Lies
  have e : c.inv.mul a.inv.inv = conj a.inv (c.mul a.inv).inv := ext fun z => by
    show c.g (a.f z) = a.g (a.f (c.g (a.f z)))
    rw [a.gf]
  rw [e, len_conj, len_inv, len_inv, len_inv]
/-- what lies in what lies in c, lies in c -/
theorem lies_trans {a b c : Pm n} (h1 : Lies a b) (h2 : Lies b c) : Lies a c := by
  unfold Lies at *
  have e : c.mul a.inv = (c.mul b.inv).mul (b.mul a.inv) := ext fun z => by
    show c.f (a.g z) = c.f (b.g (b.f (a.g z)))
    rw [b.gf]
  have h3 := len_mul (c.mul b.inv) _ (b.mul a.inv) rfl
  have h4 := len_mul (c.mul a.inv) _ a rfl
  rw [← e] at h3
  rw [rest_mul] at h4
  omega
end Pm
end Pm
end
section
set_option Elab.async false
set_option linter.all false
/-! Pm, part I: rings as lists. -/
namespace Pm
namespace Pm
variable {n : Nat}
/-- after how many steps x is back -/
noncomputable def per (p : Pm n) (x : Nat) : Nat := open Classical in if h : x < n then Classical.choose (p.period h) else 1
theorem per_spec (p : Pm n) {x : Nat} (h : x < n) : 0 < p.per x ∧ p.per x ≤ n ∧ it p.f (p.per x) x = x ∧ ∀ j, 0 < j → j < p.per x → it p.f j x ≠ x := by
  unfold per
  rw [dif_pos h]
  exact Classical.choose_spec (p.period h)
theorem per_pos (p : Pm n) {x : Nat} (h : x < n) : 0 < p.per x := (p.per_spec h).1
theorem per_le (p : Pm n) {x : Nat} (h : x < n) : p.per x ≤ n := (p.per_spec h).2.1
theorem per_back (p : Pm n) {x : Nat} (h : x < n) : it p.f (p.per x) x = x := (p.per_spec h).2.2.1
theorem per_ring (p : Pm n) {x : Nat} (h : x < n) : Ring p x (p.per x) := ⟨(p.per_spec h).1, (p.per_spec h).2.2.1, (p.per_spec h).2.2.2⟩
theorem it_ne (p : Pm n) {x i j : Nat} (h : x < n) (hij : i < j) (hj : j < p.per x) : it p.f i x ≠ it p.f j x := by
  intro e
  by_cases h0 : i = 0
  · subst h0
    exact (p.per_spec h).2.2.2 j hij hj e.symm
  · exact p.uniq (p.per_spec h).2.2.2 (by omega) hij (by omega) e
theorem it_eq (p : Pm n) {x i j : Nat} (h : x < n) (hi : i < p.per x) (hj : j < p.per x) (e : it p.f i x = it p.f j x) : i = j := by
  by_cases h1 : i < j
  · exact absurd e (p.it_ne h h1 hj)
  · by_cases h2 : j < i
    · exact absurd e.symm (p.it_ne h h2 hi)
    · omega
/-- the ring of x, from x on -/
noncomputable def ring (p : Pm n) (x : Nat) : List Nat := (List.range (p.per x)).map fun i => it p.f i x
theorem ring_len (p : Pm n) (x : Nat) : (p.ring x).length = p.per x := by unfold ring; rw [List.length_map, List.length_range]
theorem ring_at (p : Pm n) (x : Nat) {i : Nat} (h : i < (p.ring x).length) : (p.ring x)[i] = it p.f i x := by simp [ring]
theorem ring_get (p : Pm n) {x i : Nat} (h : i < p.per x) : (p.ring x)[i]? = some (it p.f i x) := by
  rw [List.getElem?_eq_getElem (by rw [ring_len]; exact h), ring_at]
theorem O.below {p : Pm n} {x y : Nat} (h : x < n) (o : O p x y) : ∃ i, i < p.per x ∧ it p.f i x = y := by
  obtain ⟨k, rfl⟩ := o
  refine ⟨k % p.per x, Nat.mod_lt _ (p.per_pos h), ?_⟩
  rw [← p.it_mod (p.per_back h)]
theorem mem_ring {p : Pm n} {x y : Nat} (h : x < n) : y ∈ p.ring x ↔ O p x y := by
  unfold ring
  rw [List.mem_map]
  constructor
  · rintro ⟨i, _, rfl⟩; exact ⟨i, rfl⟩
  · intro o
    obtain ⟨i, hi, e⟩ := o.below h
    exact ⟨i, List.mem_range.mpr hi, e⟩
theorem ring_nodup (p : Pm n) {x : Nat} (h : x < n) : (p.ring x).Nodup := by
  unfold ring
  rw [List.nodup_iff_pairwise_ne, List.pairwise_map]
  refine List.Pairwise.imp_of_mem ?_ (List.pairwise_lt_range (n := p.per x))
  intro i j hi hj hij
  exact p.it_ne h hij (List.mem_range.mp hj)
theorem ring_zero (p : Pm n) {x : Nat} (h : x < n) : (p.ring x)[0]? = some x := p.ring_get (p.per_pos h)
theorem ring_idx (p : Pm n) {x i : Nat} (h : x < n) (hi : i < p.per x) : (p.ring x).idxOf (it p.f i x) = i := by
  have h1 : i < (p.ring x).length := by rw [ring_len]; exact hi
  have := (p.ring_nodup h).idxOf_getElem i h1
  rwa [ring_at] at this
theorem ring_lt {p : Pm n} {x y : Nat} (h : x < n) (hy : y ∈ p.ring x) : y < n := ((mem_ring h).mp hy).lt h
open Classical in
/-- all rings, by their least places -/
noncomputable def heads (p : Pm n) : List Nat := (List.range n).filter fun x => decide (Mn p x)
noncomputable def rings (p : Pm n) : List (List Nat) := p.heads.map p.ring
theorem rings_len (p : Pm n) : p.rings.length = cyc p := by
  unfold rings heads cyc
  rw [List.length_map]
theorem mem_heads {p : Pm n} {x : Nat} : x ∈ p.heads ↔ x < n ∧ Mn p x := by
  unfold heads
  rw [List.mem_filter, List.mem_range, @decide_eq_true_iff _ (Classical.propDecidable _)]
theorem heads_sorted (p : Pm n) : p.heads.Pairwise (· < ·) := List.pairwise_lt_range.filter _
theorem head_of (p : Pm n) {x : Nat} (h : x < n) : ∃ a, a ∈ p.heads ∧ O p a x := by
  obtain ⟨a, h1, h2⟩ := p.least_of x
  have ha := h1.lt h
  exact ⟨a, mem_heads.mpr ⟨ha, fun y hy => h2 y (h1.trans hy)⟩, h1.symm h⟩
theorem head_uniq {p : Pm n} {a b : Nat} (ha : a ∈ p.heads) (hb : b ∈ p.heads) (o : O p a b) : a = b := by
  obtain ⟨h1, m1⟩ := mem_heads.mp ha
  obtain ⟨h2, m2⟩ := mem_heads.mp hb
  exact Nat.le_antisymm (m1 b o) (m2 a (o.symm h1))
/-- the least place of the ring of x -/
noncomputable def hd (p : Pm n) (x : Nat) : Nat := Classical.choose (p.least_of x)
theorem hd_spec (p : Pm n) (x : Nat) : O p x (p.hd x) ∧ ∀ w, O p x w → p.hd x ≤ w := Classical.choose_spec (p.least_of x)
theorem hd_head (p : Pm n) {x : Nat} (h : x < n) : p.hd x ∈ p.heads := by
  obtain ⟨h1, h2⟩ := p.hd_spec x
  exact mem_heads.mpr ⟨h1.lt h, fun y hy => h2 y (h1.trans hy)⟩
theorem hd_of {p : Pm n} {x y : Nat} (hx : x ∈ p.heads) (o : O p x y) : p.hd y = x := by
  have hxn := (mem_heads.mp hx).1
  have hy := o.lt hxn
  exact (head_uniq hx (p.hd_head hy) (o.trans (p.hd_spec y).1)).symm
theorem hd_eq {p : Pm n} {x y : Nat} (hx : x < n) (hy : y < n) : p.hd x = p.hd y ↔ O p x y := by
  constructor
  · intro e
    have h1 := (p.hd_spec x).1
    have h2 := (p.hd_spec y).1
    rw [← e] at h2
    exact h1.trans (h2.symm hy)
  · intro o
    have h2 := (p.hd_spec y).1
    exact hd_of (p.hd_head hy) (((o.trans h2).symm hx))
/-! ### arcs, by places in the ring from x on -/
theorem it_g (p : Pm n) (x : Nat) : ∀ i, it p.f (i + 1) (p.g x) = it p.f i x := fun i => by
  rw [it_add p.f (p.g x) i 1]
  show it p.f i (p.f (p.g x)) = _
  rw [p.fg]
theorem g_lt (p : Pm n) {x : Nat} (h : x < n) : p.g x < n := p.inv.lt h
theorem ring_back (p : Pm n) {x : Nat} (h : x < n) : Ring p (p.g x) (p.per x) := by
  refine ⟨p.per_pos h, ?_, fun i i0 im e => ?_⟩
  · have h0 := p.per_pos h
    have := p.it_g x (p.per x - 1)
    rw [show p.per x - 1 + 1 = p.per x by omega] at this
    rw [this]
    refine p.inj ?_
    rw [p.fg]
    show it p.f (p.per x - 1 + 1) x = x
    rw [show p.per x - 1 + 1 = p.per x by omega, p.per_back h]
  · have := p.it_g x (i - 1)
    rw [show i - 1 + 1 = i by omega] at this
    rw [this] at e
    have e2 : it p.f i x = x := by
      rw [show i = i - 1 + 1 by omega]
      show p.f (it p.f (i - 1) x) = x
      rw [e, p.fg]
    exact (p.per_spec h).2.2.2 i i0 im e2
theorem arc_at (c : Pm n) {x s t u : Nat} (h : x < n) (hs : s < c.per x) (ht : t < c.per x) :
    Arc c (it c.f s x) (it c.f t x) u ↔ ∃ v, v < c.per x ∧ it c.f v x = u ∧ btw s t v := by
  have R := c.ring_back h
  have := R.arc (s := s + 1) (t := t + 1) (u := u) (by omega) (by omega) (by omega) (by omega)
  rw [c.it_g, c.it_g] at this
  rw [this]
  constructor
  · rintro ⟨v, v0, vm, e, b⟩
    refine ⟨v - 1, by omega, ?_, ?_⟩
    · rw [← c.it_g, show v - 1 + 1 = v by omega]; exact e
    · unfold btw at b ⊢; omega
  · rintro ⟨v, vm, e, b⟩
    refine ⟨v + 1, by omega, by omega, ?_, ?_⟩
    · rw [c.it_g]; exact e
    · unfold btw at b ⊢; omega
theorem arc_pos (c : Pm n) {x s t v : Nat} (h : x < n) (hs : s < c.per x) (ht : t < c.per x) (hv : v < c.per x) :
    Arc c (it c.f s x) (it c.f t x) (it c.f v x) ↔ btw s t v := by
  rw [arc_at c h hs ht]
  constructor
  · rintro ⟨v', h1, e, b⟩
    exact c.it_eq h h1 hv e ▸ b
  · exact fun b => ⟨v, hv, rfl, b⟩
theorem arc_orbit {c : Pm n} {z w u : Nat} (h : Arc c z w u) : O c z u := let ⟨i, _, e, _⟩ := h; ⟨i, e⟩
/-! ### what lies in c, by order and crossings -/
/-- rings in rings -/
def Inn (a c : Pm n) : Prop := ∀ z, z < n → O c z (a.f z)
/-- the same way round -/
def Rnd (a c : Pm n) : Prop := ∀ z v, z < n → O a z v → ¬ Arc c z (a.f z) v
/-- not crossing -/
def Apt (a c : Pm n) : Prop := ∀ z w u v, z < n → z ≠ w → O a z w → Arc c z w u → Arc c w z v → O a u v → O a z u
theorem Inn.orbit {a c : Pm n} (h : Inn a c) {z w : Nat} (hz : z < n) (o : O a z w) : O c z w := by
  obtain ⟨k, rfl⟩ := o
  induction k with
  | zero => exact O.refl c z
  | succ k ih => exact ih.trans (h _ (a.it_lt hz k))
theorem NC.arc_it {a c : Pm n} (h : NC a c) {z u : Nat} (hz : z < n) (hu : Arc c z (a.f z) u) : ∀ k, Arc c z (a.f z) (it a.f k u)
  | 0 => hu
  | k + 1 => (h z hz).2 _ (h.arc_it hz hu k)
theorem arc_self {c : Pm n} {z w : Nat} (hz : z < n) (o : O c z w) : ¬ Arc c z w z := by
  rintro ⟨i, i0, e, hn⟩
  by_cases q : z = w
  · exact hn i i0 (Nat.le_refl i) (e.trans q)
  · obtain ⟨j, hj, e2⟩ := o.below hz
    have hj0 : 0 < j := Nat.pos_of_ne_zero fun z0 => q (by subst z0; exact e2)
    by_cases h : j ≤ i
    · exact hn j hj0 h e2
    · exact (c.per_spec hz).2.2.2 i i0 (by omega) e
theorem NC.inn {a c : Pm n} (h : NC a c) : Inn a c := fun z hz => (h z hz).1
theorem NC.rnd {a c : Pm n} (h : NC a c) : Rnd a c := fun z v hz o hv => by
  have hzv := o.symm hz
  obtain ⟨k, e⟩ := hzv
  have := h.arc_it hz hv k
  rw [e] at this
  exact arc_self hz (h z hz).1 this
theorem NC.apt {a c : Pm n} (h : NC a c) : Apt a c := fun z w u v hz hzw ozw hu hv ouv => by
  apply Classical.byContradiction
  intro nzu
  have inn := h.inn
  have ow : O c z w := inn.orbit hz ozw
  have ou : O c z u := arc_orbit hu
  have hw := ow.lt hz
  have hun := ou.lt hz
  -- the last one of the ring of z ahead of u
  obtain ⟨i, hi, hlow⟩ := least (P := fun i => 0 < i ∧ ∃ y, O a z y ∧ it c.f i y = u) (by
    obtain ⟨i, i0, e, _⟩ := hu
    exact ⟨i, i0, z, O.refl a z, e⟩)
  obtain ⟨i0, y, oy, ey⟩ := hi
  have hy := (inn.orbit hz oy).lt hz
  -- no ring element in between
  have hfree : ∀ k, 0 < k → k ≤ i → ¬ O a z (it c.f k y) := by
    intro k k0 ki o
    by_cases q : k = i
    · subst q; rw [ey] at o; exact nzu o
    · refine hlow (i - k) (by omega) ⟨by omega, it c.f k y, o, ?_⟩
      rw [← it_add, show i - k + k = i by omega, ey]
  have au : Arc c y (a.f y) u := ⟨i, i0, ey, fun k k0 ki e => hfree k k0 ki (e ▸ oy.trans (O.step a y))⟩
  obtain ⟨k, ek⟩ := ouv
  have av := h.arc_it hy au k
  rw [ek] at av
  obtain ⟨i', i'0, ev, hn'⟩ := av
  have hfree' : ∀ k, 0 < k → k ≤ i' → ¬ O a z (it c.f k y) := by
    intro k k0 ki o
    exact h.rnd y (it c.f k y) hy ((oy.symm hz).trans o) ⟨k, k0, rfl, fun l l0 lk => hn' l l0 (by omega)⟩
  -- places from z on
  obtain ⟨t, ht, et⟩ := ow.below hz
  have t0 : 0 < t := Nat.pos_of_ne_zero fun z0 => hzw (by subst z0; exact et)
  have m0 := c.per_pos hz
  obtain ⟨s, hs, es⟩ := ou.below hz
  have b1 : btw 0 t s := by
    have := hu
    rw [← et, ← es] at this
    exact (c.arc_pos (s := 0) hz m0 ht hs).mp this
  have ov : O c z v := ow.trans (arc_orbit hv)
  obtain ⟨r, hr, er⟩ := ov.below hz
  have b2 : btw t 0 r := by
    have := hv
    rw [← et, ← er] at this
    exact (c.arc_pos (t := 0) hz ht m0 hr).mp this
  unfold btw at b1 b2
  by_cases q : i ≤ i'
  · -- from u to v one meets w
    refine hfree' (i + (t - s)) (by omega) ?_ ?_
    · -- i' - i steps lead from u to v
      apply Classical.byContradiction
      intro hlt
      have e : it c.f (i' - i) u = v := by rw [← ey, ← it_add, show i' - i + i = i' by omega, ev]
      rw [← es, ← it_add, ← er] at e
      have := c.it_eq hz (by omega) hr e
      omega
    · have e : it c.f (i + (t - s)) y = w := by
        rw [show i + (t - s) = (t - s) + i by omega, it_add, ey, ← es, ← it_add, show t - s + s = t by omega, et]
      rw [e]; exact ozw
  · -- from v to u one meets z
    refine hfree (i' + (c.per z - r)) (by omega) ?_ ?_
    · apply Classical.byContradiction
      intro hlt
      have e : it c.f (i - i') v = u := by rw [← ev, ← it_add, show i - i' + i' = i by omega, ey]
      rw [← er, ← it_add, ← es] at e
      have := c.it_eq hz (by omega) hs e
      omega
    · have e : it c.f (i' + (c.per z - r)) y = z := by
        rw [show i' + (c.per z - r) = (c.per z - r) + i' by omega, it_add, ev, ← er, ← it_add, show c.per z - r + r = c.per z by omega, c.per_back hz]
      rw [e]; exact O.refl a z
theorem nc_of {a c : Pm n} (hi : Inn a c) (hr : Rnd a c) (ha : Apt a c) : NC a c := fun z hz => by
  refine ⟨hi z hz, fun u hu => ?_⟩
  have ou := arc_orbit hu
  have hun := ou.lt hz
  have nzu : ¬ O a z u := fun o => hr z u hz o hu
  have oau : O c z (a.f u) := ou.trans (hi u hun)
  have m0 := c.per_pos hz
  obtain ⟨t, ht, et⟩ := (hi z hz).below hz
  obtain ⟨v, hv, ev⟩ := oau.below hz
  have back : ∀ y, O a z y → a.f u ≠ y := fun y oy e => nzu (oy.trans ((e ▸ O.step a u : O a u y).symm hun))
  have v0 : v ≠ 0 := fun e => by subst e; exact back z (O.refl a z) ev.symm
  have vt : v ≠ t := fun e => by subst e; exact back (a.f z) (O.step a z) (ev.symm.trans et)
  rw [← et, ← ev]
  refine (c.arc_pos (s := 0) hz m0 ht hv).mpr ?_
  apply Classical.byContradiction
  intro nb
  unfold btw at nb
  have t0 : t ≠ 0 := by omega
  refine nzu (ha z (a.f z) u (a.f u) hz (fun e => ?_) (O.step a z) hu ?_ (O.step a u))
  · exact t0 (c.it_eq hz ht m0 (by rw [et, ← e]; rfl))
  · rw [← et, ← ev]
    refine (c.arc_pos (t := 0) hz ht m0 hv).mpr ?_
    unfold btw
    omega
theorem nc_look (a c : Pm n) : NC a c ↔ Inn a c ∧ Rnd a c ∧ Apt a c := ⟨fun h => ⟨h.inn, h.rnd, h.apt⟩, fun h => nc_of h.1 h.2.1 h.2.2⟩
end Pm
end Pm
end
section
set_option Elab.async false
set_option linter.all false
/-! Pm, part J: looks at rings. -/
namespace Pm
theorem sub_range' : ∀ (m s : Nat) (l : List Nat), l.Pairwise (· < ·) → (∀ x ∈ l, s ≤ x ∧ x < s + m) → List.Sublist l (List.range' s m)
  | 0, s, [], _, _ => List.Sublist.slnil
  | 0, s, x :: l, _, h => by have := h x List.mem_cons_self; omega
  | m + 1, s, [], _, _ => List.nil_sublist _
  | m + 1, s, x :: l, hp, h => by
    rw [List.range'_succ]
    have hp' := List.pairwise_cons.mp hp
    have hx := h x List.mem_cons_self
    by_cases q : x = s
    · subst q
      refine List.Sublist.cons_cons _ (sub_range' m (x + 1) l hp'.2 fun y hy => ?_)
      have := hp'.1 y hy
      have := h y (List.mem_cons_of_mem _ hy)
      omega
    · refine List.Sublist.cons _ (sub_range' m (s + 1) (x :: l) hp fun y hy => ?_)
      have := h y hy
      rcases List.mem_cons.mp hy with rfl | hy'
      · omega
      · have := hp'.1 y hy'
        omega
/-- changes along a row of booleans -/
def chg (a : Bool) : List Bool → Nat
  | [] => 0
  | b :: l => (if b = a then 0 else 1) + chg b l
def alt (b : Bool) : Nat → List Bool
  | 0 => []
  | k + 1 => b :: alt (!b) k
theorem chg_alt : ∀ (l : List Bool) (a : Bool) (k : Nat), k ≤ chg a l ↔ List.Sublist (alt (!a) k) l
  | [], a, 0 => by simp [alt, chg]
  | [], a, k + 1 => by simp [alt, chg]
  | b :: l, a, 0 => by simp [alt]
  | b :: l, a, k + 1 => by
    by_cases q : b = a
    · subst q
      have ih := chg_alt l b (k + 1)
      unfold chg
      rw [if_pos rfl, Nat.zero_add, ih]
      constructor
      · exact fun h => h.cons _
      · intro h
        rcases List.sublist_cons_iff.mp h with h | ⟨r, e, _⟩
        · exact h
        · have := congrArg List.head? e
          cases b <;> simp [alt] at this
    · have e : b = !a := by cases a <;> cases b <;> simp_all
      subst e
      have ih := chg_alt l (!a) k
      unfold chg
      rw [if_neg q]
      have : (k + 1 ≤ 1 + chg (!a) l) ↔ k ≤ chg (!a) l := by omega
      rw [this, ih]
      show _ ↔ List.Sublist ((!a) :: alt (!!a) k) ((!a) :: l)
      rw [List.cons_sublist_cons]
theorem chg_four {l : List Bool} {a : Bool} : 2 < chg a (l ++ [a]) ↔ ∃ b, List.Sublist [b, !b, b, !b] (l ++ [a]) := by
  have h := chg_alt (l ++ [a]) a 3
  have e : alt (!a) 3 = [!a, a, !a] := by simp [alt]
  rw [e] at h
  show 3 ≤ _ ↔ _
  rw [h]
  constructor
  · intro q
    refine ⟨!a, ?_⟩
    have q2 : List.Sublist [!a, a, !a] l := by
      rw [List.sublist_append_iff] at q
      obtain ⟨l1, l2, e1, s1, s2⟩ := q
      have : l2 = [] := by
        rcases l2 with _ | ⟨y, r⟩
        · rfl
        · have hr : r = [] := List.eq_nil_of_length_eq_zero (by have := s2.length_le; simp at this; simpa using this)
          subst hr
          have hy : y = a := by have := s2.subset (List.mem_cons_self (a := y)); simpa using this
          subst hy
          have := congrArg List.getLast? e1
          simp at this
      subst this
      simp at e1
      rw [e1]; exact s1
    have := List.Sublist.append q2 (List.Sublist.refl [a])
    simpa using this
  · rintro ⟨b, q⟩
    by_cases e : b = a
    · subst e
      exact (List.sublist_cons_self b _).trans q
    · have : b = !a := by cases a <;> cases b <;> simp_all
      subst this
      simp only [Bool.not_not] at q
      refine List.Sublist.trans ?_ q
      exact List.sublist_append_left [!a, a, !a] [a]
/-- two rings cross in a third one -/
def Meet (one other home : List Nat) : Prop := ∃ x1 x2 x3 x4, List.Sublist [x1, x2, x3, x4] home ∧ ((x1 ∈ one ∧ x2 ∈ other ∧ x3 ∈ one ∧ x4 ∈ other) ∨ (x1 ∈ other ∧ x2 ∈ one ∧ x3 ∈ other ∧ x4 ∈ one))
def marks (one other home : List Nat) : List Bool := (home.filter fun p => decide (p ∈ one) || decide (p ∈ other)).map fun p => decide (p ∈ one)
theorem four_marks {one other home : List Nat} (hd : ∀ x ∈ one, x ∉ other) : (∃ b, List.Sublist [b, !b, b, !b] (marks one other home)) ↔ Meet one other home := by
  unfold marks Meet
  constructor
  · rintro ⟨b, h⟩
    rw [List.sublist_map_iff] at h
    obtain ⟨l, hl, e⟩ := h
    have hall : ∀ x ∈ l, x ∈ one ∨ x ∈ other := fun x hx => by
      have := (List.mem_filter.mp (hl.subset hx)).2
      simpa using this
    have hs : List.Sublist l home := hl.trans List.filter_sublist
    rcases l with _ | ⟨x1, _ | ⟨x2, _ | ⟨x3, _ | ⟨x4, _ | ⟨x5, r⟩⟩⟩⟩⟩
    · simp at e
    · simp at e
    · simp at e
    · simp at e
    · simp only [List.map_cons, List.map_nil, List.cons.injEq, and_true] at e
      obtain ⟨e1, e2, e3, e4⟩ := e
      have a1 := hall x1 (by simp)
      have a2 := hall x2 (by simp)
      have a3 := hall x3 (by simp)
      have a4 := hall x4 (by simp)
      refine ⟨x1, x2, x3, x4, hs, ?_⟩
      cases b <;> simp at e1 e2 e3 e4 <;> simp_all
    · simp at e
  · rintro ⟨x1, x2, x3, x4, hs, h⟩
    have hf : List.Sublist [x1, x2, x3, x4] (home.filter fun p => decide (p ∈ one) || decide (p ∈ other)) := by
      have h0 : [x1, x2, x3, x4].filter (fun p => decide (p ∈ one) || decide (p ∈ other)) = [x1, x2, x3, x4] := by
        rw [List.filter_eq_self]
        intro x hx
        simp at hx
        rcases h with h | h <;> rcases hx with rfl | rfl | rfl | rfl <;> simp_all
      rw [← h0]
      exact hs.filter _
    have hm := hf.map fun p => decide (p ∈ one)
    rcases h with ⟨h1, h2, h3, h4⟩ | ⟨h1, h2, h3, h4⟩
    · refine ⟨true, ?_⟩
      have n2 : x2 ∉ one := fun q => hd _ q h2
      have n4 : x4 ∉ one := fun q => hd _ q h4
      simpa [h1, h3, n2, n4] using hm
    · refine ⟨false, ?_⟩
      have n2 : x1 ∉ one := fun q => hd _ q h1
      have n4 : x3 ∉ one := fun q => hd _ q h3
      simpa [h2, h4, n2, n4] using hm
namespace Pm
variable {n : Nat}
theorem four_ring (c : Pm n) {x x1 x2 x3 x4 : Nat} : List.Sublist [x1, x2, x3, x4] (c.ring x) ↔ ∃ i j k l, i < j ∧ j < k ∧ k < l ∧ l < c.per x ∧ it c.f i x = x1 ∧ it c.f j x = x2 ∧ it c.f k x = x3 ∧ it c.f l x = x4 := by
  unfold ring
  rw [List.sublist_map_iff]
  constructor
  · rintro ⟨l, hl, e⟩
    rcases l with _ | ⟨i, _ | ⟨j, _ | ⟨k, _ | ⟨m, _ | ⟨x5, r⟩⟩⟩⟩⟩
    · simp at e
    · simp at e
    · simp at e
    · simp at e
    · simp only [List.map_cons, List.map_nil, List.cons.injEq, and_true] at e
      have hp := List.Pairwise.sublist hl List.pairwise_lt_range
      simp only [List.pairwise_cons, List.mem_cons, forall_eq_or_imp] at hp
      have hm : m ∈ List.range (c.per x) := hl.subset (by simp)
      rw [List.mem_range] at hm
      exact ⟨i, j, k, m, hp.1.1, hp.2.1.1, hp.2.2.1.1, hm, e.1.symm, e.2.1.symm, e.2.2.1.symm, e.2.2.2.symm⟩
    · simp at e
  · rintro ⟨i, j, k, l, h1, h2, h3, h4, rfl, rfl, rfl, rfl⟩
    refine ⟨[i, j, k, l], ?_, rfl⟩
    rw [List.range_eq_range']
    refine sub_range' _ _ _ ?_ ?_
    · simp; omega
    · simp; omega
/-- the program's look: apart -/
def ApartL (a c : Pm n) : Prop := ∀ x ∈ a.heads, ∀ y ∈ a.ring x, y ∈ c.ring x
theorem apart_inn (a c : Pm n) : ApartL a c ↔ Inn a c := by
  constructor
  · intro h z hz
    obtain ⟨x, hx, o⟩ := a.head_of hz
    have hxn := (mem_heads.mp hx).1
    have h1 := (mem_ring hxn).mp (h x hx z ((mem_ring hxn).mpr o))
    have h2 := (mem_ring hxn).mp (h x hx (a.f z) ((mem_ring hxn).mpr (o.trans (O.step a z))))
    exact (h1.symm hxn).trans h2
  · intro h x hx y hy
    have hxn := (mem_heads.mp hx).1
    exact (mem_ring hxn).mpr (h.orbit hxn ((mem_ring hxn).mp hy))
/-- places of a ring in a ring -/
noncomputable def spot (a c : Pm n) (x i : Nat) : Nat := (c.ring x).idxOf (it a.f i x)
theorem spot_spec {a c : Pm n} (h : Inn a c) {x i : Nat} (hx : x < n) : spot a c x i < c.per x ∧ it c.f (spot a c x i) x = it a.f i x := by
  have hm : it a.f i x ∈ c.ring x := (mem_ring hx).mpr (h.orbit hx ⟨i, rfl⟩)
  have hl := List.idxOf_lt_length_iff.mpr hm
  refine ⟨by rwa [ring_len] at hl, ?_⟩
  have := List.getElem_idxOf hl
  rwa [ring_at] at this
theorem spot_zero {a c : Pm n} (h : Inn a c) {x : Nat} (hx : x < n) : spot a c x 0 = 0 := by
  obtain ⟨h1, h2⟩ := spot_spec (i := 0) h hx
  exact c.it_eq hx h1 (c.per_pos hx) h2
theorem spot_inj {a c : Pm n} (h : Inn a c) {x i j : Nat} (hx : x < n) (hi : i < a.per x) (hj : j < a.per x) (e : spot a c x i = spot a c x j) : i = j := by
  have h1 := (spot_spec (i := i) h hx).2
  have h2 := (spot_spec (i := j) h hx).2
  rw [e, h2] at h1
  exact a.it_eq hx hi hj h1.symm
def RoundL (a c : Pm n) : Prop := ∀ x ∈ a.heads, ∀ i, 1 ≤ i → i + 1 < a.per x → ¬ spot a c x (i + 1) < spot a c x i
/-- rising spots -/
def Rising (a c : Pm n) (x : Nat) : Prop := ∀ i j, i < j → j < a.per x → spot a c x i < spot a c x j
theorem rising_of {a c : Pm n} (h : Inn a c) {x : Nat} (hx : x < n) (hs : ∀ i, 1 ≤ i → i + 1 < a.per x → ¬ spot a c x (i + 1) < spot a c x i) : Rising a c x := by
  have step : ∀ i, i + 1 < a.per x → spot a c x i < spot a c x (i + 1) := by
    intro i hi
    have hne : spot a c x i ≠ spot a c x (i + 1) := fun e => by
      have := spot_inj h hx (by omega) hi e
      omega
    by_cases q : i = 0
    · subst q
      rw [spot_zero h hx] at hne ⊢
      omega
    · have := hs i (by omega) hi
      omega
  intro i j hij
  obtain ⟨d, rfl⟩ : ∃ d, j = i + 1 + d := ⟨j - (i + 1), by omega⟩
  clear hij
  induction d with
  | zero => exact fun hj => step i hj
  | succ d ih =>
    intro hj
    have h1 := ih (by omega)
    have h2 := step (i + 1 + d) hj
    exact Nat.lt_trans h1 h2
theorem rising_rnd {a c : Pm n} (h : Inn a c) : (∀ x ∈ a.heads, Rising a c x) ↔ Rnd a c := by
  constructor
  · intro hr z v hz ov hA
    obtain ⟨x, hx, o⟩ := a.head_of hz
    have hxn := (mem_heads.mp hx).1
    have R := hr x hx
    obtain ⟨k, hk, ek⟩ := o.below hxn
    obtain ⟨j, hj, ej⟩ := (o.trans ov).below hxn
    obtain ⟨s1, s2⟩ := spot_spec (i := k) h hxn
    obtain ⟨v1, v2⟩ := spot_spec (i := j) h hxn
    by_cases q : k + 1 < a.per x
    · obtain ⟨t1, t2⟩ := spot_spec (i := k + 1) h hxn
      have e : a.f z = it a.f (k + 1) x := by rw [← ek]; rfl
      rw [e, ← ek, ← ej, ← s2, ← t2, ← v2, c.arc_pos hxn s1 t1 v1] at hA
      have b1 := R k (k + 1) (by omega) q
      unfold btw at hA
      by_cases q2 : j ≤ k
      · by_cases q3 : j = k
        · subst q3; omega
        · have := R j k (by omega) hk; omega
      · by_cases q3 : j = k + 1
        · subst q3; omega
        · have := R (k + 1) j (by omega) hj; omega
    · have e : a.f z = it c.f 0 x := by
        have : a.f z = it a.f (k + 1) x := by rw [← ek]; rfl
        rw [this, show k + 1 = a.per x by omega, a.per_back hxn]
        rfl
      rw [e, ← ek, ← ej, ← s2, ← v2, c.arc_pos hxn s1 (c.per_pos hxn) v1] at hA
      unfold btw at hA
      by_cases q3 : j = k
      · subst q3; omega
      · have := R j k (by omega) hk; omega
  · intro hr x hx
    have hxn := (mem_heads.mp hx).1
    refine rising_of h hxn fun i hi hp hlt => ?_
    obtain ⟨s1, s2⟩ := spot_spec (i := i) h hxn
    obtain ⟨t1, t2⟩ := spot_spec (i := i + 1) h hxn
    have t0 : spot a c x (i + 1) ≠ 0 := fun e => by
      have := spot_inj h hxn (i := i + 1) (j := 0) hp (by omega) (by rw [e, spot_zero h hxn])
      omega
    refine hr (it a.f i x) x (a.it_lt hxn i) (O.symm hxn ⟨i, rfl⟩) ?_
    show Arc c (it a.f i x) (it a.f (i + 1) x) (it c.f 0 x)
    rw [← s2, ← t2, c.arc_pos hxn s1 t1 (c.per_pos hxn)]
    unfold btw
    omega
theorem round_rnd {a c : Pm n} (h : Inn a c) : RoundL a c ↔ Rnd a c := by
  rw [← rising_rnd h]
  constructor
  · exact fun hr x hx => rising_of h (mem_heads.mp hx).1 (hr x hx)
  · intro hr x hx i hi hp
    have := hr x hx i (i + 1) (by omega) hp
    omega
def CrossL (a c : Pm n) : Prop := ∀ x ∈ c.heads, ∀ i j, i < j → j < c.per x → O a (it c.f i x) (it c.f j x) → ∀ u, i < u → u < j → ∀ v, v < c.per x → (v < i ∨ j < v) → O a (it c.f u x) (it c.f v x) → O a (it c.f u x) (it c.f i x)
theorem cross_apt {a c : Pm n} (inn : Inn a c) : CrossL a c ↔ Apt a c := by
  constructor
  · intro h z w u v hz hzw ozw hu hv ouv
    obtain ⟨x, hx, o⟩ := c.head_of hz
    have hxn := (mem_heads.mp hx).1
    have ou := o.trans (arc_orbit hu)
    have ow := o.trans (inn.orbit hz ozw)
    have ov := ow.trans (arc_orbit hv)
    obtain ⟨s, hs, es⟩ := o.below hxn
    obtain ⟨t, ht, et⟩ := ow.below hxn
    obtain ⟨p, hp, ep⟩ := ou.below hxn
    obtain ⟨q, hq, eq⟩ := ov.below hxn
    have hst : s ≠ t := fun e => hzw (by rw [← es, e, et])
    have hun := ou.lt hxn
    have b1 := hu
    rw [← es, ← et, ← ep, c.arc_pos hxn hs ht hp] at b1
    have b2 := hv
    rw [← es, ← et, ← eq, c.arc_pos hxn ht hs hq] at b2
    unfold btw at b1 b2
    by_cases hlt : s < t
    · have := h x hx s t hlt ht (by rw [es, et]; exact ozw) p (by omega) (by omega) q hq (by omega) (by rw [ep, eq]; exact ouv)
      rw [ep, es] at this
      exact this.symm hun
    · have hvn := ov.lt hxn
      have := h x hx t s (by omega) hs (by rw [es, et]; exact ozw.symm hz) q (by omega) (by omega) p hp (by omega) (by rw [ep, eq]; exact ouv.symm hun)
      rw [eq, et] at this
      exact ozw.trans ((ouv.trans this).symm hun)
  · intro h x hx i j hij hj oij u hiu huj v hv hvo ouv
    have hxn := (mem_heads.mp hx).1
    have hi := c.it_lt hxn i
    have hu := c.it_lt hxn u
    refine (h (it c.f i x) (it c.f j x) (it c.f u x) (it c.f v x) hi (c.it_ne hxn hij hj) oij ?_ ?_ ouv).symm hi
    · rw [c.arc_pos hxn (by omega) hj (by omega)]
      unfold btw; omega
    · rw [c.arc_pos hxn hj (by omega) hv]
      unfold btw; omega
/-- the law's look: in order -/
def OrderL (a c : Pm n) : Prop := ∀ x ∈ a.heads, ((c.ring x).filter fun y => decide (y ∈ a.ring x)) = a.ring x
theorem order_rising (a c : Pm n) : OrderL a c ↔ Inn a c ∧ ∀ x ∈ a.heads, Rising a c x := by
  have hP : ∀ {x : Nat}, x < n → (c.ring x).Pairwise fun u v => (c.ring x).idxOf u < (c.ring x).idxOf v := by
    intro x hx
    rw [List.pairwise_iff_getElem]
    intro i j hi hj hij
    rw [(c.ring_nodup hx).idxOf_getElem i hi, (c.ring_nodup hx).idxOf_getElem j hj]
    exact hij
  constructor
  · intro h
    have hin : Inn a c := (apart_inn a c).mp fun x hx y hy => by
      have := h x hx
      rw [← this] at hy
      exact (List.mem_filter.mp hy).1
    refine ⟨hin, fun x hx i j hij hj => ?_⟩
    have hxn := (mem_heads.mp hx).1
    have := (hP hxn).filter fun y => decide (y ∈ a.ring x)
    rw [h x hx, List.pairwise_iff_getElem] at this
    have := this i j (by rw [ring_len]; omega) (by rw [ring_len]; omega) hij
    rw [ring_at, ring_at] at this
    exact this
  · rintro ⟨hin, hr⟩ x hx
    have hxn := (mem_heads.mp hx).1
    have h1 := (hP hxn).filter fun y => decide (y ∈ a.ring x)
    have h2 : (a.ring x).Pairwise fun u v => (c.ring x).idxOf u < (c.ring x).idxOf v := by
      rw [List.pairwise_iff_getElem]
      intro i j hi hj hij
      rw [ring_at, ring_at]
      rw [ring_len] at hj
      exact hr x hx i j hij hj
    refine List.Perm.eq_of_pairwise (le := fun u v => (c.ring x).idxOf u < (c.ring x).idxOf v) ?_ h1 h2 ?_
    · intro u v _ _ q1 q2; omega
    · rw [List.perm_ext_iff_of_nodup ((c.ring_nodup hxn).filter _) (a.ring_nodup hxn)]
      intro y
      rw [List.mem_filter, decide_eq_true_iff]
      exact ⟨fun q => q.2, fun q => ⟨(apart_inn a c).mpr hin x hx y q, q⟩⟩
def MeetL (a c : Pm n) : Prop := ∀ x ∈ a.heads, ∀ x' ∈ a.heads, x' < x → x' ∈ c.ring x → ¬ Meet (a.ring x) (a.ring x') (c.ring x)
theorem ring_apart {a : Pm n} {x x' : Nat} (hx : x ∈ a.heads) (hx' : x' ∈ a.heads) (hne : x ≠ x') : ∀ y ∈ a.ring x, y ∉ a.ring x' := fun y hy hy' => by
  have hxn := (mem_heads.mp hx).1
  have hxn' := (mem_heads.mp hx').1
  exact hne (head_uniq hx hx' (((mem_ring hxn).mp hy).trans (((mem_ring hxn').mp hy').symm hxn')))
theorem meet_apt {a c : Pm n} (inn : Inn a c) : MeetL a c ↔ Apt a c := by
  constructor
  · intro h z w u v hz hzw ozw hu hv ouv
    apply Classical.byContradiction
    intro nzu
    have ou := arc_orbit hu
    have hun := ou.lt hz
    have ow := inn.orbit hz ozw
    have ov := ow.trans (arc_orbit hv)
    obtain ⟨x1, hx1, o1⟩ := a.head_of hz
    obtain ⟨x2, hx2, o2⟩ := a.head_of hun
    have hn1 := (mem_heads.mp hx1).1
    have hn2 := (mem_heads.mp hx2).1
    have hne : x1 ≠ x2 := fun e => nzu ((o1.symm hn1).trans (e ▸ o2))
    have key : ∀ x, x < n → O c x z → ∃ y1 y2 y3 y4, List.Sublist [y1, y2, y3, y4] (c.ring x) ∧ ((y1 ∈ a.ring x1 ∧ y2 ∈ a.ring x2 ∧ y3 ∈ a.ring x1 ∧ y4 ∈ a.ring x2) ∨ (y1 ∈ a.ring x2 ∧ y2 ∈ a.ring x1 ∧ y3 ∈ a.ring x2 ∧ y4 ∈ a.ring x1)) := by
      intro x hxn o
      obtain ⟨s, hs, es⟩ := o.below hxn
      obtain ⟨t, ht, et⟩ := (o.trans ow).below hxn
      obtain ⟨p, hp, ep⟩ := (o.trans ou).below hxn
      obtain ⟨q, hq, eq⟩ := (o.trans ov).below hxn
      have hst : s ≠ t := fun e => hzw (by rw [← es, e, et])
      have b1 := hu
      rw [← es, ← et, ← ep, c.arc_pos hxn hs ht hp] at b1
      have b2 := hv
      rw [← es, ← et, ← eq, c.arc_pos hxn ht hs hq] at b2
      have m1 : z ∈ a.ring x1 := (mem_ring hn1).mpr o1
      have m2 : w ∈ a.ring x1 := (mem_ring hn1).mpr (o1.trans ozw)
      have m3 : u ∈ a.ring x2 := (mem_ring hn2).mpr o2
      have m4 : v ∈ a.ring x2 := (mem_ring hn2).mpr (o2.trans ouv)
      unfold btw at b1 b2
      by_cases hlt : s < t
      · by_cases hq1 : q < s
        · exact ⟨v, z, u, w, c.four_ring.mpr ⟨q, s, p, t, by omega, by omega, by omega, by omega, eq, es, ep, et⟩, .inr ⟨m4, m1, m3, m2⟩⟩
        · exact ⟨z, u, w, v, c.four_ring.mpr ⟨s, p, t, q, by omega, by omega, by omega, by omega, es, ep, et, eq⟩, .inl ⟨m1, m3, m2, m4⟩⟩
      · by_cases hp1 : p < t
        · exact ⟨u, w, v, z, c.four_ring.mpr ⟨p, t, q, s, by omega, by omega, by omega, by omega, ep, et, eq, es⟩, .inr ⟨m3, m2, m4, m1⟩⟩
        · exact ⟨w, v, z, u, c.four_ring.mpr ⟨t, q, s, p, by omega, by omega, by omega, by omega, et, eq, es, ep⟩, .inl ⟨m2, m4, m1, m3⟩⟩
    have oc1 : O c x1 z := inn.orbit hn1 o1
    have oc2 : O c x2 z := (inn.orbit hn2 o2).trans (ou.symm hz)
    by_cases q : x2 < x1
    · exact h x1 hx1 x2 hx2 q ((mem_ring hn1).mpr (oc1.trans (oc2.symm hn2))) (key x1 hn1 oc1)
    · obtain ⟨y1, y2, y3, y4, k1, k2⟩ := key x2 hn2 oc2
      exact h x2 hx2 x1 hx1 (by omega) ((mem_ring hn2).mpr (oc2.trans (oc1.symm hn1))) ⟨y1, y2, y3, y4, k1, k2.symm⟩
  · intro h x hx x' hx' hlt hm
    have hxn := (mem_heads.mp hx).1
    have hxn' := (mem_heads.mp hx').1
    have key : ∀ (r r' : Nat), r ∈ a.heads → r' ∈ a.heads → r ≠ r' → ∀ y1 y2 y3 y4, List.Sublist [y1, y2, y3, y4] (c.ring x) → y1 ∈ a.ring r → y2 ∈ a.ring r' → y3 ∈ a.ring r → y4 ∈ a.ring r' → False := by
      intro r r' hr hr' hne y1 y2 y3 y4 hs m1 m2 m3 m4
      obtain ⟨i, j, k, l, h1, h2, h3, h4, rfl, rfl, rfl, rfl⟩ := c.four_ring.mp hs
      have hrn := (mem_heads.mp hr).1
      have hrn' := (mem_heads.mp hr').1
      have hi := c.it_lt hxn i
      have := h (it c.f i x) (it c.f k x) (it c.f j x) (it c.f l x) hi (c.it_ne hxn (by omega) (by omega)) ((((mem_ring hrn).mp m1).symm hrn).trans ((mem_ring hrn).mp m3)) (by
        rw [c.arc_pos hxn (by omega) (by omega) (by omega)]; unfold btw; omega) (by
        rw [c.arc_pos hxn (by omega) (by omega) (by omega)]; unfold btw; omega) ((((mem_ring hrn').mp m2).symm hrn').trans ((mem_ring hrn').mp m4))
      exact hne (head_uniq hr hr' ((((mem_ring hrn).mp m1).trans this).trans (((mem_ring hrn').mp m2).symm hrn')))
    rintro ⟨y1, y2, y3, y4, hs, ⟨m1, m2, m3, m4⟩ | ⟨m1, m2, m3, m4⟩⟩
    · exact key x x' hx hx' (by omega) y1 y2 y3 y4 hs m1 m2 m3 m4
    · exact key x' x hx' hx (by omega) y1 y2 y3 y4 hs m1 m2 m3 m4
/-- the two looks -/
theorem lies_prog (a c : Pm n) : Lies a c ↔ ApartL a c ∧ RoundL a c ∧ CrossL a c := by
  rw [lies_nc, nc_look, apart_inn]
  exact ⟨fun h => ⟨h.1, (round_rnd h.1).mpr h.2.1, (cross_apt h.1).mpr h.2.2⟩, fun h => ⟨h.1, (round_rnd h.1).mp h.2.1, (cross_apt h.1).mp h.2.2⟩⟩
theorem lies_law (a c : Pm n) : Lies a c ↔ OrderL a c ∧ MeetL a c := by
  rw [lies_nc, nc_look, order_rising]
  exact ⟨fun h => ⟨⟨h.1, (rising_rnd h.1).mpr h.2.1⟩, (meet_apt h.1).mpr h.2.2⟩, fun h => ⟨h.1.1, (rising_rnd h.1.1).mp h.1.2, (meet_apt h.1.1).mp h.2⟩⟩
end Pm
end Pm
end
section
set_option Elab.async false
set_option linter.all false
/-! Pm, part K: exchanges one behind the other. -/
namespace Pm
namespace Pm
variable {n : Nat}
/-- an exchange ahead -/
def cutT (p : Pm n) (e : Nat × Nat) : Pm n := if h : e.1 < n ∧ e.2 < n then p.cut e.1 e.2 h.1 h.2 else p
def cuts (p : Pm n) (l : List (Nat × Nat)) : Pm n := l.foldl cutT p
theorem cuts_nil (p : Pm n) : p.cuts [] = p := rfl
theorem cuts_cons (p : Pm n) (e : Nat × Nat) (l : List (Nat × Nat)) : p.cuts (e :: l) = (p.cutT e).cuts l := rfl
theorem cuts_app (p : Pm n) (l m : List (Nat × Nat)) : p.cuts (l ++ m) = (p.cuts l).cuts m := List.foldl_append
theorem cutT_mul (r a : Pm n) (e : Nat × Nat) : r.mul (a.cutT e) = (r.mul a).cutT e := by
  unfold cutT
  by_cases h : e.1 < n ∧ e.2 < n
  · rw [dif_pos h, dif_pos h, cut_mul]
  · rw [dif_neg h, dif_neg h]
theorem cuts_mul (r : Pm n) : ∀ (l : List (Nat × Nat)) (a : Pm n), r.mul (a.cuts l) = (r.mul a).cuts l
  | [], a => rfl
  | e :: l, a => by rw [cuts_cons, cuts_cons, cuts_mul r l, cutT_mul]
theorem cut_self (p : Pm n) {x : Nat} (hx : x < n) : p.cut x x hx hx = p := ext fun z => by
  show p.f (swf x x z) = p.f z
  unfold swf
  by_cases h : z = x
  · rw [if_pos h, h]
  · rw [if_neg h, if_neg h]
theorem len_cutT_le (p : Pm n) (e : Nat × Nat) : len (p.cutT e) ≤ len p + 1 := by
  unfold cutT
  by_cases h : e.1 < n ∧ e.2 < n
  · rw [dif_pos h]
    by_cases q : e.1 = e.2
    · have : ∀ (y : Nat) (hy : y < n), e.1 = y → len (p.cut e.1 y h.1 hy) ≤ len p + 1 := by
        rintro y hy rfl
        rw [cut_self]
        omega
      exact this e.2 h.2 q
    · have := len_cut_le (p.cut e.1 e.2 h.1 h.2) h.1 h.2 q
      rwa [cut_cut] at this
  · rw [dif_neg h]
    omega
theorem len_cuts_le : ∀ (l : List (Nat × Nat)) (p : Pm n), len (p.cuts l) ≤ len p + l.length
  | [], p => by rw [cuts_nil]; simp
  | e :: l, p => by
    rw [cuts_cons]
    have h1 := len_cuts_le l (p.cutT e)
    have h2 := len_cutT_le p e
    simp only [List.length_cons]
    omega
theorem mul_one (r : Pm n) : r.mul (one n) = r := ext fun _ => rfl
theorem inv_inv (r : Pm n) : r.inv.inv = r := rfl
/-- the first exchanges of some that cut c -/
theorem first_lies {c : Pm n} {l : List (Nat × Nat)} (h : len (c.cuts l) + l.length = len c) : Lies ((one n).cuts l).inv c := by
  unfold Lies
  rw [inv_inv, cuts_mul, mul_one, len_inv]
  have h1 := len_cuts_le l (one n)
  rw [len_one] at h1
  have h2 := len_mul (c.cuts l) _ ((one n).cuts l).inv rfl
  have e : (c.cuts l).mul ((one n).cuts l).inv = c := by
    have := rest_mul ((one n).cuts l).inv c
    rw [inv_inv, cuts_mul, mul_one] at this
    exact this
  rw [e, len_inv] at h2
  omega
/-- exchanges of places of a ring cut it -/
theorem len_cutT {p : Pm n} {x y : Nat} (hx : x < n) (o : O p x y) (hne : x ≠ y) : len (p.cutT (x, y)) + 1 = len p := by
  have hy := o.lt hx
  unfold cutT
  rw [dif_pos ⟨hx, hy⟩]
  exact (len_split (hx := hx) (hy := hy) o hne).symm
theorem one_of_fix {p : Pm n} (h : ∀ x, x < n → p.f x = x) : p = one n := ext fun x => by
  by_cases q : x < n
  · exact h x q
  · exact p.fix x (by omega)
/-- what is not the rest has a ring of two or more -/
theorem long_ring {p : Pm n} (h : 0 < len p) : ∃ x ∈ p.heads, 1 < p.per x := by
  apply Classical.byContradiction
  intro hn
  have : p = one n := one_of_fix fun x hx => by
    obtain ⟨a, ha, o⟩ := p.head_of hx
    have han := (mem_heads.mp ha).1
    have h1 : p.per a = 1 := by
      have := p.per_pos han
      have : ¬ 1 < p.per a := fun q => hn ⟨a, ha, q⟩
      omega
    have h2 : p.f a = a := by
      have := p.per_back han
      rw [h1] at this
      exact this
    obtain ⟨i, hi, e⟩ := o.below han
    have : i = 0 := by omega
    subst this
    have e : a = x := e
    rw [← e]
    exact h2
  rw [this, len_one] at h
  omega
end Pm
end Pm
end
section
set_option Elab.async false
set_option linter.all false
set_option maxRecDepth 100000
/-! Wk: steps of the evaluator, for the plain laws. -/
namespace Ev
theorem callK_eq {P : Prog} {w k f : Nat} {d : Df} {ts : List T} (h : 0 < k) (hd : P f = some d) : callK P w k f ts = runD d ⟨fun g => (P g).elim [] (·.keep), callK P w (k - 1)⟩ w ts := by
  obtain ⟨k, rfl⟩ : ∃ j, k = j + 1 := ⟨k - 1, by omega⟩
  show (match P f with
    | none => CR.no
    | some d => runD d ⟨fun g => (P g).elim [] (·.keep), callK P w k⟩ w ts) = _
  rw [hd]
  rfl
theorem fl_ok {α : Type} (a : α) (env : Env) (f : α → Env → Fl) : (Out.ok a env).fl f = f a env := Eq.trans rfl rfl
theorem bd_ok {α β : Type} (a : α) (env : Env) (f : α → Env → Out β) : (Out.ok a env).bind f = f a env := Eq.trans rfl rfl
theorem pq_add (a b : T) : prim .add [a, b] = pAdd a b := Eq.trans rfl rfl
theorem pq_sub (a b : T) : prim .sub [a, b] = pSub a b := Eq.trans rfl rfl
theorem pq_mul (a b : T) : prim .mul [a, b] = pMul a b := Eq.trans rfl rfl
theorem pq_fdiv (a b : T) : prim .fdiv [a, b] = pDiv a b := Eq.trans rfl rfl
theorem pq_mod (a b : T) : prim .mod [a, b] = pMod a b := Eq.trans rfl rfl
theorem pq_pow (a b : T) : prim .pow [a, b] = pPow a b := Eq.trans rfl rfl
theorem pq_neg (a : T) : prim .neg [a] = pNeg a := Eq.trans rfl rfl
theorem pq_idx (a b : T) : prim .idx [a, b] = pIdx a b := Eq.trans rfl rfl
theorem pq_len (a : T) : prim .len [a] = pLen a := Eq.trans rfl rfl
theorem pq_tuple (a : T) : prim .tuple [a] = pTuple a := Eq.trans rfl rfl
theorem pq_list (a : T) : prim .list [a] = pList a := Eq.trans rfl rfl
theorem pq_rg1 (a : T) : prim .rg1 [a] = pRg1 a := Eq.trans rfl rfl
theorem pq_rg2 (a b : T) : prim .rg2 [a, b] = pRg2 a b := Eq.trans rfl rfl
theorem pq_sorted (a : T) : prim .sorted [a] = pSorted a := Eq.trans rfl rfl
theorem pq_abs (a : T) : prim .abs [a] = pAbs a := Eq.trans rfl rfl
theorem pq_int1 (a : T) : prim .int1 [a] = pInt a := Eq.trans rfl rfl
theorem pq_max2 (a b : T) : prim .max2 [a, b] = pMax a b := Eq.trans rfl rfl
theorem pq_min2 (a b : T) : prim .min2 [a, b] = pMin a b := Eq.trans rfl rfl
theorem pq_all (a : T) : prim .all [a] = pAll a := Eq.trans rfl rfl
theorem pq_sum1 (a : T) : prim .sum1 [a] = pSum a := Eq.trans rfl rfl
theorem pq_lindex (a b : T) : prim .lindex [a, b] = pIndex a b := Eq.trans rfl rfl
theorem pq_repr (a : T) : prim .repr [a] = pRepr a := Eq.trans rfl rfl
theorem pq_cmp (c : Cmp) (a b : T) : prim (.cmp c) [a, b] = (cmpT c a b).map .bl := Eq.trans rfl rfl
theorem pq_isT (k : Nat) (t : T) : prim (.isT k) [t] = if isData t then some (.bl (isTy k t)) else none := Eq.trans rfl rfl
theorem of_some {α : Type} (a : α) (env : Env) : ofOpt (some a) env = .ok a env := Eq.trans rfl rfl
theorem lcGo_map {f : T → Env → Out (Option T)} {h : T → Option T} {base : Env} {own : List Nat} : ∀ {its : List T}, (∀ t ∈ its, ∀ env, wipeE env own = base → ∃ env', f t env = .ok (h t) env' ∧ wipeE env' own = base) → ∀ (acc : List T) (env : Env), wipeE env own = base →
    ∃ env', lcGo f its acc env = .ok (acc.reverse ++ its.filterMap h) env' ∧ wipeE env' own = base
  | [], _, acc, env, he => ⟨env, by simp [lcGo], he⟩
  | t :: r, hf, acc, env, he => by
    obtain ⟨env1, h1, h2⟩ := hf t List.mem_cons_self env he
    have ih := lcGo_map (f := f) (h := h) (base := base) (own := own) (its := r) fun u hu => hf u (List.mem_cons_of_mem _ hu)
    unfold lcGo
    rw [h1]
    cases e : h t with
    | none =>
      obtain ⟨env', h3, h4⟩ := ih acc env1 h2
      exact ⟨env', by simpa [Out.bind, e] using h3, h4⟩
    | some y =>
      obtain ⟨env', h3, h4⟩ := ih (y :: acc) env1 h2
      refine ⟨env', ?_, h4⟩
      simpa [Out.bind, e] using h3
theorem wipeE_at {own : List Nat} {env : Env} {j : Nat} : (wipeE env own)[j]? = if j ∈ own then (if j < env.length then some none else none) else env[j]? := by
  induction own with
  | nil => simp [wipeE]
  | cons v vs ih =>
    have hl : ∀ vs : List Nat, (wipeE env vs).length = env.length := fun vs => by
      induction vs with
      | nil => rfl
      | cons v vs ih => unfold wipeE; rw [List.length_set, ih]
    unfold wipeE
    by_cases h : v = j
    · subst h
      rw [if_pos List.mem_cons_self, List.getElem?_set]
      simp [hl]
    · rw [List.getElem?_set_ne h, ih]
      have : (j ∈ v :: vs) = (j ∈ vs) := by
        simp only [List.mem_cons, eq_iff_iff]
        exact ⟨fun q => q.elim (fun e => absurd e.symm h) id, .inr⟩
      simp only [this]
theorem wipeE_len (env : Env) : ∀ vs : List Nat, (wipeE env vs).length = env.length
  | [] => rfl
  | v :: vs => by unfold wipeE; rw [List.length_set, wipeE_len env vs]
theorem wipeE_wipeE {own : List Nat} {env : Env} : wipeE (wipeE env own) own = wipeE env own := by
  refine List.ext_getElem? fun j => ?_
  rw [wipeE_at, wipeE_at, wipeE_len]
  by_cases q : j ∈ own
  · rw [if_pos q, if_pos q]
  · rw [if_neg q, if_neg q]
/-- a list comprehension whose turns change nothing -/
theorem ev_lc {fs : Fns} {e : E} {tg : Tg} {own : List Nat} {ik : Ik} {es cond : Es} {env env1 : Env} {ts its : List T} (h : T → Option T) (h1 : evL fs es env = .ok ts env1) (h2 : iterT ik (T.fzs ts) = some its) (h3 : its.length ≤ line)
    (hf : ∀ t ∈ its, ∃ env2, bindT tg t (wipeE env1 own) = some env2 ∧ ((evC fs cond env2).bind fun k env => if k = true then (evE fs e env).bind fun y env => .ok (some y) env else .ok none env) = .ok (h t) env2 ∧ wipeE env2 own = wipeE env1 own) :
    evE fs (.lc e tg own ik es cond) env = .ok (.lst true (its.filterMap h)) (unwipe env1 (wipeE env1 own) own) := by
  unfold evE
  rw [h1, Out.bind_ok]
  simp only [h2]
  rw [if_pos (decide_eq_true h3)]
  have q := lcGo_map (f := fun t env => match bindT tg t (wipeE env own) with
      | none => Out.no
      | some env => ((evC fs cond env).bind fun k env => if k = true then (evE fs e env).bind fun y env => Out.ok (some y) env else Out.ok none env).noex) (h := h) (base := wipeE env1 own) (own := own) (its := its) (fun t ht env he => by
    obtain ⟨env2, a1, a2, a3⟩ := hf t ht
    refine ⟨env2, ?_, a3⟩
    simp only [he, a1, a2, Out.noex]) [] (wipeE env1 own) wipeE_wipeE
  obtain ⟨env', q1, q2⟩ := q
  refine (congrArg (fun o => Out.bind o fun ys env' => Out.ok (T.lst true ys) (unwipe env1 (wipeE env' own) own)) q1).trans ?_
  simp only [Out.bind_ok, List.reverse_nil, List.nil_append, q2]
/-- without a test -/
theorem ev_lcm {fs : Fns} {e : E} {tg : Tg} {own : List Nat} {ik : Ik} {es : Es} {env env1 : Env} {ts its : List T} (h : T → T) (h1 : evL fs es env = .ok ts env1) (h2 : iterT ik (T.fzs ts) = some its) (h3 : its.length ≤ line)
    (hf : ∀ t ∈ its, ∃ env2, bindT tg t (wipeE env1 own) = some env2 ∧ evE fs e env2 = .ok (h t) env2 ∧ wipeE env2 own = wipeE env1 own) :
    evE fs (.lc e tg own ik es .nil) env = .ok (.lst true (its.map h)) (unwipe env1 (wipeE env1 own) own) := by
  have := ev_lc (fs := fs) (e := e) (tg := tg) (own := own) (cond := .nil) (fun t => some (h t)) h1 h2 h3 fun t ht => by
    obtain ⟨env2, a1, a2, a3⟩ := hf t ht
    refine ⟨env2, a1, ?_, a3⟩
    show (evE fs e env2).bind _ = _
    rw [a2]
    rfl
  rw [this, List.filterMap_eq_map']
/-- a loop that runs to its end -/
theorem forL_inv {b : T → Env → Fl} : ∀ {its : List T} {I : Nat → Env → Prop} {env : Env}, I 0 env → (∀ i t env, its[i]? = some t → I i env → ∃ env', (b t env = .nx env' ∨ b t env = .ct env') ∧ I (i + 1) env') → ∃ env', forL b its env = .nx env' ∧ I its.length env'
  | [], I, env, h0, _ => ⟨env, rfl, h0⟩
  | t :: r, I, env, h0, hs => by
    obtain ⟨env1, h1, h2⟩ := hs 0 t env rfl h0
    obtain ⟨env2, h3, h4⟩ := forL_inv (b := b) (its := r) (I := fun i => I (i + 1)) (env := env1) h2 fun i u e hu hi => hs (i + 1) u e (by simpa using hu) hi
    refine ⟨env2, ?_, h4⟩
    unfold forL
    rcases h1 with h1 | h1
    · rw [h1]; exact h3
    · rw [h1]; exact h3
theorem ev_for {fs : Fns} {w : Nat} {tg : Tg} {ik : Ik} {es : Es} {b : Ss} {env env1 : Env} {ts its : List T} {I : Nat → Env → Prop} (h1 : evL fs es env = .ok ts env1) (h2 : iterT ik (T.fzs ts) = some its) (h0 : I 0 env1)
    (hs : ∀ i t envi, its[i]? = some t → I i envi → ∃ env2, bindT tg t envi = some env2 ∧ ∃ env3, (evSs fs w b env2 = .nx env3 ∨ evSs fs w b env2 = .ct env3) ∧ I (i + 1) env3) : ∃ env', evS fs w (.for_ tg ik es b) env = .nx env' ∧ I its.length env' := by
  obtain ⟨env', q1, q2⟩ := forL_inv (b := fun t env => match bindT tg t env with
      | none => Fl.no
      | some env => evSs fs w b env) (its := its) (I := I) (env := env1) h0 fun i t e ht hi => by
    obtain ⟨env2, a1, env3, a2, a3⟩ := hs i t e ht hi
    refine ⟨env3, ?_, a3⟩
    simp only [a1]
    exact a2
  refine ⟨env', ?_, q2⟩
  unfold evS
  rw [h1, fl_ok]
  simp only [h2]
  exact q1
theorem whileL_inv {c : Env → Out Bool} {b : Env → Fl} {I : Nat → Env → Prop} {J : Env → Prop} {m : Nat} (step : ∀ i env, i < m → I i env → ∃ env1 env2, c env = .ok true env1 ∧ b env1 = .nx env2 ∧ I (i + 1) env2) (stop : ∀ env, I m env → ∃ env1, c env = .ok false env1 ∧ J env1) :
    ∀ (d i w : Nat) (env : Env), i + d = m → d < w → I i env → ∃ env', whileL c b w env = .nx env' ∧ J env'
  | 0, i, w, env, hd, hw, hi => by
    obtain ⟨w, rfl⟩ : ∃ j, w = j + 1 := ⟨w - 1, by omega⟩
    have : i = m := by omega
    subst this
    obtain ⟨env1, h1, h2⟩ := stop env hi
    refine ⟨env1, ?_, h2⟩
    unfold whileL
    rw [h1, fl_ok]
    rfl
  | d + 1, i, w, env, hd, hw, hi => by
    obtain ⟨w, rfl⟩ : ∃ j, w = j + 1 := ⟨w - 1, by omega⟩
    obtain ⟨env1, env2, h1, h2, h3⟩ := step i env (by omega) hi
    obtain ⟨env', q1, q2⟩ := whileL_inv step stop d (i + 1) w env2 (by omega) (by omega) h3
    refine ⟨env', ?_, q2⟩
    unfold whileL
    rw [h1, fl_ok, if_pos rfl, h2]
    exact q1
end Ev
end
section
set_option Elab.async false
set_option linter.all false
set_option maxRecDepth 100000
/-! Wl: what a text leaves behind, stepwise. -/
namespace Ev
/-- N of where it goes on, R of what it hands back, B and C of a turn that is left -/
def Fl.sat (r : Fl) (N : Env → Prop) (R : T → Env → Prop) (B C : Env → Prop) : Prop := match r with
  | .nx env => N env
  | .rt t env => R t env
  | .bk env => B env
  | .ct env => C env
  | _ => False
def Out.sat {α : Type} (o : Out α) (K : α → Env → Prop) : Prop := match o with
  | .ok a env => K a env
  | _ => False
section
variable {N : Env → Prop} {R : T → Env → Prop} {B C : Env → Prop} {fs : Fns} {w : Nat}
theorem sat_nx {e : Env} : (Fl.nx e).sat N R B C ↔ N e := Iff.trans Iff.rfl Iff.rfl
theorem sat_rt {t : T} {e : Env} : (Fl.rt t e).sat N R B C ↔ R t e := Iff.trans Iff.rfl Iff.rfl
theorem sat_bk {e : Env} : (Fl.bk e).sat N R B C ↔ B e := Iff.trans Iff.rfl Iff.rfl
theorem sat_ct {e : Env} : (Fl.ct e).sat N R B C ↔ C e := Iff.trans Iff.rfl Iff.rfl
theorem sat_if {c : Prop} [Decidable c] {x y : Fl} : (if c then x else y).sat N R B C ↔ ((c → x.sat N R B C) ∧ (¬ c → y.sat N R B C)) := by
  by_cases h : c <;> simp [h]
theorem osat_ok {α : Type} {a : α} {e : Env} {K : α → Env → Prop} : (Out.ok a e).sat K ↔ K a e := Iff.trans Iff.rfl Iff.rfl
/-- the text behind -/
def Kn (fs : Fns) (w : Nat) (r : Ss) (N : Env → Prop) (R : T → Env → Prop) (B C : Env → Prop) (e : Env) : Prop := (evSs fs w r e).sat N R B C
theorem Kn_at {r : Ss} {a : Option T} {l : Env} : Kn fs w r N R B C (a :: l) ↔ (evSs fs w r (a :: l)).sat N R B C := Iff.trans Iff.rfl Iff.rfl
theorem sat_nil {e : Env} : (evSs fs w .nil e).sat N R B C ↔ N e := by simp [evSs, sat_nx]
theorem sat_cons {s : S} {r : Ss} {e : Env} : (evSs fs w (.cons s r) e).sat N R B C ↔ (evS fs w s e).sat (Kn fs w r N R B C) R B C := by
  simp only [evSs]
  cases evS fs w s e <;> exact Iff.rfl
/-- a loop over its items -/
def ForG (fs : Fns) (w : Nat) (tg : Tg) (b : Ss) (its : List T) (e : Env) (N : Env → Prop) (R : T → Env → Prop) (B C : Env → Prop) : Prop :=
  (forL (fun t env => match bindT tg t env with
    | none => Fl.no
    | some env => evSs fs w b env) its e).sat N R B C
def ForK (fs : Fns) (w : Nat) (tg : Tg) (ik : Ik) (b : Ss) (N : Env → Prop) (R : T → Env → Prop) (B C : Env → Prop) (ts : List T) (e : Env) : Prop :=
  ∃ its, iterT ik (T.fzs ts) = some its ∧ ForG fs w tg b its e N R B C
theorem ForK_at {tg : Tg} {ik : Ik} {b : Ss} {ts : List T} {a : Option T} {l : Env} : ForK fs w tg ik b N R B C ts (a :: l) ↔ ∃ its, iterT ik (T.fzs ts) = some its ∧ ForG fs w tg b its (a :: l) N R B C := Iff.trans Iff.rfl Iff.rfl
theorem sat_for {tg : Tg} {ik : Ik} {es : Es} {b : Ss} {e : Env} : (evS fs w (.for_ tg ik es b) e).sat N R B C ↔ (evL fs es e).sat (ForK fs w tg ik b N R B C) := by
  simp only [evS]
  cases h : evL fs es e with
  | ok ts e1 =>
    simp only [Out.fl, Out.sat, ForK, ForG]
    cases h2 : iterT ik (T.fzs ts) with
    | none => simp [Fl.sat]
    | some its =>
      constructor
      · exact fun q => ⟨its, rfl, q⟩
      · rintro ⟨its', he, q⟩; cases he; exact q
  | ex x e1 => simp [Out.fl, Out.sat, Fl.sat]
  | no => simp [Out.fl, Out.sat, Fl.sat]
theorem forL_sat {b : T → Env → Fl} : ∀ {its : List T} {I : Nat → Env → Prop} {e : Env}, I 0 e →
    (∀ i t e, its[i]? = some t → I i e → (b t e).sat (I (i + 1)) R N (I (i + 1))) → (∀ e, I its.length e → N e) → (forL b its e).sat N R B C
  | [], I, e, h0, _, hn => by unfold forL; exact hn e h0
  | t :: r, I, e, h0, hs, hn => by
    have h1 := hs 0 t e rfl h0
    have ih : ∀ e1, I 1 e1 → (forL b r e1).sat N R B C := fun e1 h2 => forL_sat (b := b) (its := r) (I := fun i => I (i + 1)) (e := e1) h2 (fun i u e hu hi => hs (i + 1) u e (by simpa using hu) hi) hn
    unfold forL
    cases hb : b t e with
    | nx e1 => rw [hb] at h1; exact ih e1 h1
    | ct e1 => rw [hb] at h1; exact ih e1 h1
    | bk e1 => rw [hb] at h1; exact h1
    | rt u e1 => rw [hb] at h1; exact h1
    | ex x e1 => rw [hb] at h1; exact h1
    | no => rw [hb] at h1; exact h1
theorem Fl.sat_imp {r : Fl} {N N' : Env → Prop} {C C' : Env → Prop} (h : r.sat N R B C) (hN : ∀ e, N e → N' e) (hC : ∀ e, C e → C' e) : r.sat N' R B C' := by
  cases r with
  | nx e => exact hN e h
  | ct e => exact hC e h
  | rt t e => exact h
  | bk e => exact h
  | ex x e => exact h
  | no => exact h
theorem forG_inv {tg : Tg} {b : Ss} {its : List T} {e : Env} (I : Nat → Env → Prop) (h0 : I 0 e)
    (hs : ∀ i t e, its[i]? = some t → I i e → ∃ e1, bindT tg t e = some e1 ∧ ∀ N' : Env → Prop, (∀ e, I (i + 1) e → N' e) → (evSs fs w b e1).sat N' R N N') (hn : ∀ e, I its.length e → N e) : ForG fs w tg b its e N R B C := by
  refine forL_sat h0 (fun i t e ht hi => ?_) hn
  obtain ⟨e1, h1, h2⟩ := hs i t e ht hi
  simp only [h1]
  exact h2 _ fun _ h => h
/-- items that are pictures of things -/
theorem forG_map {X : Type} {xs : List X} {g : X → T} {tg : Tg} {b : Ss} {e : Env} (I : Nat → Env → Prop) (h0 : I 0 e)
    (hs : ∀ i (h : i < xs.length) e, I i e → ∃ e1, bindT tg (g xs[i]) e = some e1 ∧ ∀ N' : Env → Prop, (∀ e, I (i + 1) e → N' e) → (evSs fs w b e1).sat N' R N N') (hn : ∀ e, I xs.length e → N e) : ForG fs w tg b (xs.map g) e N R B C := by
  refine forG_inv I h0 (fun i t e ht hi => ?_) (fun e he => hn e (by rwa [List.length_map] at he))
  have hl : i < xs.length := by
    have := (List.getElem?_eq_some_iff.mp ht).1
    rwa [List.length_map] at this
  rw [List.getElem?_map, List.getElem?_eq_getElem hl] at ht
  cases ht
  exact hs i hl e hi
/-- a loop that looks at each item -/
theorem forG_each {X : Type} {xs : List X} {g : X → T} {tg : Tg} {b : Ss} {e : Env} (St : Env → Prop) (Good : X → Prop) (h0 : St e)
    (hs : ∀ x ∈ xs, ∀ e, St e → ∃ e1, bindT tg (g x) e = some e1 ∧ ∀ N' : Env → Prop, (∀ e, St e → Good x → N' e) → (evSs fs w b e1).sat N' R N N') (hn : ∀ e, St e → (∀ x ∈ xs, Good x) → N e) : ForG fs w tg b (xs.map g) e N R B C := by
  refine forG_map (I := fun i e => St e ∧ ∀ x ∈ xs.take i, Good x) ⟨h0, fun x hx => by simp at hx⟩ (fun i hi e ⟨h1, h2⟩ => ?_) (fun e ⟨h1, h2⟩ => hn e h1 (by rwa [List.take_length] at h2))
  obtain ⟨e1, q1, q2⟩ := hs _ (List.getElem_mem hi) e h1
  refine ⟨e1, q1, fun N' hN' => q2 N' fun e he hg => hN' e ⟨he, fun x hx => ?_⟩⟩
  rw [List.take_add_one, List.getElem?_eq_getElem hi, List.mem_append] at hx
  rcases hx with hx | hx
  · exact h2 x hx
  · simp at hx
    subst hx
    exact hg
/-- a loop that may be left -/
theorem forG_brk {X : Type} {xs : List X} {g : X → T} {tg : Tg} {b : Ss} {e : Env} (I : Nat → Env → Prop) (J : Env → Prop) (h0 : I 0 e)
    (hs : ∀ i (h : i < xs.length) e, I i e → ∃ e1, bindT tg (g xs[i]) e = some e1 ∧ ∀ N' J' : Env → Prop, (∀ e, I (i + 1) e → N' e) → (∀ e, J e → J' e) → (evSs fs w b e1).sat N' R J' N') (he : ∀ e, I xs.length e → J e) (hn : ∀ e, J e → N e) : ForG fs w tg b (xs.map g) e N R B C := by
  refine forG_map I h0 (fun i hi e h1 => ?_) (fun e h1 => hn e (he e h1))
  obtain ⟨e1, q1, q2⟩ := hs i hi e h1
  exact ⟨e1, q1, fun N' hN' => q2 N' N hN' hn⟩
/-- a turn of a while: on, or out -/
def WhK (fs : Fns) (w : Nat) (b : Ss) (i m : Nat) (I : Env → Prop) (N : Env → Prop) (R : T → Env → Prop) (t : T) (e : Env) : Prop :=
  (t = .bl true ∧ i < m ∧ (evSs fs w b e).sat I R N I) ∨ (t = .bl false ∧ N e)
theorem whl_sat {c : E} {b : Ss} (m : Nat) (I : Nat → Env → Prop) {e : Env} (hw : m < w) (h0 : I 0 e)
    (hs : ∀ i e, I i e → ∀ N' : Env → Prop, (∀ e, I (i + 1) e → N' e) → (evE fs c e).sat (WhK fs w b i m N' N R)) : (evS fs w (.whl c b) e).sat N R B C := by
  have hs' : ∀ i e, I i e → ∃ k e1, (evE fs c e).bind asBool = .ok k e1 ∧ ((k = true ∧ i < m ∧ (evSs fs w b e1).sat (I (i + 1)) R N (I (i + 1))) ∨ (k = false ∧ N e1)) := by
    intro i e hi
    have h := hs i e hi _ fun _ h => h
    cases hc : evE fs c e with
    | ok t e1 =>
      rw [hc] at h
      rcases h with ⟨rfl, h1, h2⟩ | ⟨rfl, h1⟩
      · exact ⟨true, e1, rfl, .inl ⟨rfl, h1, h2⟩⟩
      · exact ⟨false, e1, rfl, .inr ⟨rfl, h1⟩⟩
    | ex x e1 => rw [hc] at h; exact h.elim
    | no => rw [hc] at h; exact h.elim
  have key : ∀ (d i v : Nat) (e : Env), i + d = m → d < v → I i e → (whileL (fun env => (evE fs c env).bind asBool) (evSs fs w b) v e).sat N R B C := by
    intro d
    induction d with
    | zero =>
      intro i v e hd hv hi
      obtain ⟨v, rfl⟩ : ∃ j, v = j + 1 := ⟨v - 1, by omega⟩
      obtain ⟨k, e1, h1, h2⟩ := hs' i e hi
      unfold whileL
      rw [h1, fl_ok]
      rcases h2 with ⟨rfl, h2, _⟩ | ⟨rfl, h2⟩
      · omega
      · simpa [Fl.sat] using h2
    | succ d ih =>
      intro i v e hd hv hi
      obtain ⟨v, rfl⟩ : ∃ j, v = j + 1 := ⟨v - 1, by omega⟩
      obtain ⟨k, e1, h1, h2⟩ := hs' i e hi
      unfold whileL
      rw [h1, fl_ok]
      rcases h2 with ⟨rfl, h2, h3⟩ | ⟨rfl, h2⟩
      · rw [if_pos rfl]
        cases hb : evSs fs w b e1 with
        | nx e2 => rw [hb] at h3; exact ih (i + 1) v e2 (by omega) (by omega) h3
        | ct e2 => rw [hb] at h3; exact ih (i + 1) v e2 (by omega) (by omega) h3
        | bk e2 => rw [hb] at h3; exact h3
        | rt u e2 => rw [hb] at h3; exact h3
        | ex x e2 => rw [hb] at h3; exact h3
        | no => rw [hb] at h3; exact h3
      · simpa [Fl.sat] using h2
  unfold evS
  exact key m 0 w e (by omega) hw h0
/-- a list comprehension over its items -/
def LcG (fs : Fns) (elt : E) (tg : Tg) (own : List Nat) (cond : Es) (its : List T) (e : Env) : Out T :=
  if decide (its.length ≤ line) then
        (lcGo (fun t env => match bindT tg t (wipeE env own) with
          | none => .no
          | some env => ((evC fs cond env).bind fun k env => if k then (evE fs elt env).bind fun y env => .ok (some y) env else .ok none env).noex) its [] (wipeE e own)).bind fun ys env' => .ok (.lst true ys) (unwipe e (wipeE env' own) own)
      else .no
def LcK (fs : Fns) (elt : E) (tg : Tg) (own : List Nat) (ik : Ik) (cond : Es) (ts : List T) (e : Env) : Out T := match iterT ik (T.fzs ts) with
  | none => .no
  | some its => LcG fs elt tg own cond its e
theorem ev_lcK {elt : E} {tg : Tg} {own : List Nat} {ik : Ik} {es cond : Es} {e : Env} : evE fs (.lc elt tg own ik es cond) e = (evL fs es e).bind (LcK fs elt tg own ik cond) := by
  unfold evE
  rfl
theorem LcK_some {elt : E} {tg : Tg} {own : List Nat} {ik : Ik} {cond : Es} {ts : List T} {a : Option T} {l : Env} : LcK fs elt tg own ik cond ts (a :: l) = match iterT ik (T.fzs ts) with
  | none => .no
  | some its => LcG fs elt tg own cond its (a :: l) := Eq.trans rfl rfl
theorem noex_ok {α : Type} (a : α) (e : Env) : (Out.ok a e).noex = .ok a e := rfl
theorem lcG_gen {X : Type} {xs : List X} {g : X → T} {elt : E} {tg : Tg} {own : List Nat} {cond : Es} {e : Env} (h : X → Option T) (h3 : xs.length ≤ line)
    (hf : ∀ x ∈ xs, ∃ env2, bindT tg (g x) (wipeE e own) = some env2 ∧ ((evC fs cond env2).bind fun k env => if k = true then (evE fs elt env).bind fun y env => .ok (some y) env else .ok none env) = .ok (h x) env2 ∧ wipeE env2 own = wipeE e own) :
    LcG fs elt tg own cond (xs.map g) e = .ok (.lst true (xs.filterMap h)) (unwipe e (wipeE e own) own) := by
  unfold LcG
  rw [if_pos (decide_eq_true (by rw [List.length_map]; exact h3))]
  have q : ∀ (xs : List X), (∀ x ∈ xs, ∃ env2, bindT tg (g x) (wipeE e own) = some env2 ∧ ((evC fs cond env2).bind fun k env => if k = true then (evE fs elt env).bind fun y env => .ok (some y) env else .ok none env) = .ok (h x) env2 ∧ wipeE env2 own = wipeE e own) →
    ∀ acc (env : Env), wipeE env own = wipeE e own → ∃ env', lcGo (fun t env => match bindT tg t (wipeE env own) with
      | none => Out.no
      | some env => ((evC fs cond env).bind fun k env => if k = true then (evE fs elt env).bind fun y env => Out.ok (some y) env else Out.ok none env).noex) (xs.map g) acc env = .ok (acc.reverse ++ xs.filterMap h) env' ∧ wipeE env' own = wipeE e own := by
    intro xs
    induction xs with
    | nil => intro _ acc env he; exact ⟨env, by simp [lcGo], he⟩
    | cons x r ih =>
      intro hf acc env he
      obtain ⟨env2, a1, a2, a3⟩ := hf x List.mem_cons_self
      have ih := ih fun u hu => hf u (List.mem_cons_of_mem _ hu)
      rw [List.map_cons]
      unfold lcGo
      rw [he]
      simp only [a1, a2, noex_ok, Out.bind_ok]
      cases eh : h x with
      | none =>
        obtain ⟨env', h3, h4⟩ := ih acc env2 a3
        exact ⟨env', by simpa [eh] using h3, h4⟩
      | some y =>
        obtain ⟨env', h3, h4⟩ := ih (y :: acc) env2 a3
        exact ⟨env', by simpa [eh] using h3, h4⟩
  obtain ⟨env', q1, q2⟩ := q xs hf [] (wipeE e own) wipeE_wipeE
  rw [q1, Out.bind_ok, q2]
  rfl
theorem lcG_map {X : Type} {xs : List X} {g : X → T} {elt : E} {tg : Tg} {own : List Nat} {e : Env} (h : X → T) (h3 : xs.length ≤ line)
    (hf : ∀ x ∈ xs, ∃ env2, bindT tg (g x) (wipeE e own) = some env2 ∧ evE fs elt env2 = .ok (h x) env2 ∧ wipeE env2 own = wipeE e own) :
    LcG fs elt tg own .nil (xs.map g) e = .ok (.lst true (xs.map h)) (unwipe e (wipeE e own) own) := by
  rw [lcG_gen (fun x => some (h x)) h3 fun x hx => by
    obtain ⟨env2, a1, a2, a3⟩ := hf x hx
    refine ⟨env2, a1, ?_, a3⟩
    show (evE fs elt env2).bind _ = _
    rw [a2]
    rfl, List.filterMap_eq_map']
/-- what a def hands back -/
def RetK (keep : List Bool) (ts : List T) (Q : T → List T → Prop) (t : T) (e : Env) : Prop := ∃ as, argsOut keep ts e = some as ∧ Q t as
theorem RetK_at {keep : List Bool} {ts : List T} {Q : T → List T → Prop} {t : T} {a : Option T} {l : Env} : RetK keep ts Q t (a :: l) ↔ ∃ as, argsOut keep ts (a :: l) = some as ∧ Q t as := Iff.trans Iff.rfl Iff.rfl
def NonK (keep : List Bool) (ts : List T) (Q : T → List T → Prop) (e : Env) : Prop := RetK keep ts Q .non e
theorem NonK_at {keep : List Bool} {ts : List T} {Q : T → List T → Prop} {a : Option T} {l : Env} : NonK keep ts Q (a :: l) ↔ ∃ as, argsOut keep ts (a :: l) = some as ∧ Q .non as := Iff.trans Iff.rfl Iff.rfl
def Off (e : Env) : Prop := False
theorem callK_sat {P : Prog} {k f : Nat} {d : Df} {ts : List T} {Q : T → List T → Prop} (hd : P f = some d) (h : 0 < k) (hl : ts.length = d.np)
    (q : (evSs ⟨fun g => (P g).elim [] (·.keep), callK P w (k - 1)⟩ w d.body (ts.map some ++ List.replicate (d.ns - d.np) none)).sat (NonK d.keep ts Q) (RetK d.keep ts Q) Off Off) : ∃ t as, callK P w k f ts = .ok t as ∧ Q t as := by
  rw [callK_eq h hd]
  unfold runD
  rw [if_pos hl]
  revert q
  cases evSs ⟨fun g => (P g).elim [] (·.keep), callK P w (k - 1)⟩ w d.body (ts.map some ++ List.replicate (d.ns - d.np) none) with
  | nx e => rintro ⟨as, h1, h2⟩; exact ⟨.non, as, by simp only [h1], h2⟩
  | rt t e => rintro ⟨as, h1, h2⟩; exact ⟨t, as, by simp only [h1], h2⟩
  | bk e => exact fun q => q.elim
  | ct e => exact fun q => q.elim
  | ex x e => exact fun q => q.elim
  | no => exact fun q => q.elim
theorem callK_is {P : Prog} {k f : Nat} {d : Df} {ts : List T} {t : T} {as : List T} (hd : P f = some d) (h : 0 < k) (hl : ts.length = d.np)
    (q : (evSs ⟨fun g => (P g).elim [] (·.keep), callK P w (k - 1)⟩ w d.body (ts.map some ++ List.replicate (d.ns - d.np) none)).sat (NonK d.keep ts fun t' as' => t' = t ∧ as' = as) (RetK d.keep ts fun t' as' => t' = t ∧ as' = as) Off Off) : callK P w k f ts = .ok t as := by
  obtain ⟨t', as', h1, rfl, rfl⟩ := callK_sat hd h hl q
  exact h1
theorem callK_by {P : Prog} {k f : Nat} {d : Df} {ts : List T} (Q : T → List T → Prop) (hd : P f = some d) (h : 0 < k) (hl : ts.length = d.np)
    (q : ∀ Q' : T → List T → Prop, (∀ t as, Q t as → Q' t as) → (evSs ⟨fun g => (P g).elim [] (·.keep), callK P w (k - 1)⟩ w d.body (ts.map some ++ List.replicate (d.ns - d.np) none)).sat (NonK d.keep ts Q') (RetK d.keep ts Q') Off Off) : ∃ t as, callK P w k f ts = .ok t as ∧ Q t as :=
  callK_sat hd h hl (q Q fun _ _ h => h)
end
end Ev
end
section
set_option Elab.async false
set_option linter.all false
set_option maxRecDepth 100000
/-! Wv: values of the plain laws: tuples and lists of places. -/
namespace Ev
/-- places -/
abbrev ils (p : List Nat) : List T := p.map fun x : Nat => T.int (x : Int)
abbrev tp (p : List Nat) : T := .tup (ils p)
theorem fzs_ils (p : List Nat) : T.fzs (ils p) = ils p := by
  induction p with
  | nil => rfl
  | cons x r ih => simp only [ils, List.map_cons, T.fzs, T.fz] at ih ⊢; rw [ih]
theorem pure_ils (p : List Nat) : (ils p).all T.pure = true := by
  rw [List.all_eq_true]
  intro t ht
  obtain ⟨x, _, rfl⟩ := List.mem_map.mp ht
  rfl
theorem len_ils (p : List Nat) : (ils p).length = p.length := List.length_map _
theorem data_ils (n : Nat) (p : List Nat) : (ils p).all (data (n + 1)) = true := by
  rw [List.all_eq_true]
  intro t ht
  obtain ⟨x, _, rfl⟩ := List.mem_map.mp ht
  rfl
theorem intsOf_ils (p : List Nat) : intsOf (ils p) = some (p.map fun x : Nat => (x : Int)) := by
  induction p with
  | nil => rfl
  | cons x r ih =>
    show (intsOf (ils r)).map _ = _
    rw [ih]
    rfl
theorem eqB_int (i j : Int) : eqB (.int i) (.int j) = (i == j) := by simp only [eqB]
theorem eqBs_ils : ∀ p q : List Nat, eqBs (ils p) (ils q) = decide (p = q)
  | [], [] => by simp [eqBs]
  | [], y :: q => by simp [eqBs]
  | x :: p, [] => by simp [eqBs]
  | x :: p, y :: q => by
    show (eqB (.int x) (.int y) && eqBs (ils p) (ils q)) = _
    rw [eqBs_ils p q, eqB_int]
    by_cases h1 : x = y
    · subst h1
      by_cases h2 : p = q
      · subst h2; simp
      · simp [h2]
    · have : ¬ (x : Int) = (y : Int) := by omega
      simp [h1, this]
theorem eqT_int (i j : Int) : eqT (.int i) (.int j) = some (decide (i = j)) := by
  show some (eqB _ _) = _
  rw [eqB_int]
  rfl
theorem eqT_bl (i j : Bool) : eqT (.bl i) (.bl j) = some (i == j) := by simp [eqT, data, eqB]
theorem eqT_tp (p q : List Nat) : eqT (tp p) (tp q) = some (decide (p = q)) := by
  have h1 : data 12 (tp p) = true := by simp only [data]; exact data_ils 10 p
  have h2 : data 12 (tp q) = true := by simp only [data]; exact data_ils 10 q
  unfold eqT
  rw [h1, h2, Bool.and_self, if_pos rfl]
  simp only [eqB, eqBs_ils]
theorem eqT_lst (o o' : Bool) (p q : List Nat) : eqT (.lst o (ils p)) (.lst o' (ils q)) = some (decide (p = q)) := by
  have h1 : data 12 (.lst o (ils p)) = true := by simp only [data]; exact data_ils 10 p
  have h2 : data 12 (.lst o' (ils q)) = true := by simp only [data]; exact data_ils 10 q
  unfold eqT
  rw [h1, h2, Bool.and_self, if_pos rfl]
  simp only [eqB, eqBs_ils]
theorem pLen_tp (p : List Nat) : pLen (tp p) = some (.int p.length) := by
  show some (T.int ((ils p).length : Int)) = _
  rw [len_ils]
theorem pLen_lst (o : Bool) (p : List Nat) : pLen (.lst o (ils p)) = some (.int p.length) := by
  show some (T.int ((ils p).length : Int)) = _
  rw [len_ils]
theorem pIx_nat {n i : Nat} (h : i < n) : pIx n (i : Int) = some i := by
  unfold pIx
  rw [if_pos (by omega), if_pos (by omega)]
  simp
theorem at_ils {p : List Nat} {i : Nat} (h : i < p.length) : (ils p)[i]? = some (.int (p[i] : Nat)) := by
  rw [List.getElem?_map, List.getElem?_eq_getElem h]
  rfl
theorem pIdx_tp {p : List Nat} {i : Nat} (h : i < p.length) : pIdx (tp p) (.int i) = some (.int (p[i] : Nat)) := by
  unfold pIdx
  simp only [len_ils, pIx_nat h, Option.bind_some, at_ils h]
theorem pIdx_lst {o : Bool} {p : List Nat} {i : Nat} (h : i < p.length) : pIdx (.lst o (ils p)) (.int i) = some (.int (p[i] : Nat)) := by
  unfold pIdx
  simp only [len_ils, pIx_nat h, Option.bind_some, at_ils h]
  rfl
theorem upto_ils : ∀ n a : Nat, upto (a : Int) n = ils ((List.range' a n))
  | 0, _ => rfl
  | n + 1, a => by
    show T.int a :: upto ((a : Int) + 1) n = _
    rw [List.range'_succ, show ((a : Int) + 1) = ((a + 1 : Nat) : Int) by omega, upto_ils n (a + 1)]
    rfl
theorem upto_zero (n : Nat) : upto 0 n = ils (List.range n) := by
  have := upto_ils n 0
  rw [List.range_eq_range']
  exact this
theorem pRg1_nat {n : Nat} (h : n ≤ 1000) : pRg1 (.int n) = some (.lst true (ils (List.range n))) := by
  have : (small (n : Int) && decide ((n : Int) ≤ 16777216)) = true := by
    simp only [small, Bool.and_eq_true, decide_eq_true_eq]
    omega
  show (if (small (n : Int) && decide ((n : Int) ≤ 16777216)) = true then some (T.lst true (upto 0 (n : Int).toNat)) else none) = _
  rw [if_pos this, Int.toNat_natCast, upto_zero]
theorem pTuple_lst (o : Bool) (p : List Nat) : pTuple (.lst o (ils p)) = some (tp p) := by
  show (if (ils p).all T.pure = true then some (tp p) else none) = _
  rw [if_pos (pure_ils p)]
theorem pList_tp (p : List Nat) : pList (tp p) = some (.lst true (ils p)) := rfl
theorem pList_lst (o : Bool) (p : List Nat) : pList (.lst o (ils p)) = some (.lst true (ils p)) := by
  show (if (ils p).all T.pure = true then some (T.lst true (ils p)) else none) = _
  rw [if_pos (pure_ils p)]
theorem inT_ils (x : Nat) (p : List Nat) : inT (.int x) (ils p) = some (decide (x ∈ p)) := by
  unfold inT
  rw [data_ils 11 p]
  simp only [data, Bool.and_self, if_true, List.any_map]
  congr 1
  rw [Bool.eq_iff_iff, List.any_eq_true, decide_eq_true_iff]
  constructor
  · rintro ⟨y, hy, e⟩
    have : (y : Int) = (x : Int) := by simpa [eqB] using e
    have : y = x := by omega
    exact this ▸ hy
  · intro h
    exact ⟨x, h, by simp [eqB]⟩
theorem bools_true : ∀ l : List T, bools (l.filterMap fun _ => some (T.bl true)) = some (l.map fun _ => true)
  | [] => rfl
  | t :: l => by
    show (bools (l.filterMap fun _ => some (T.bl true))).map _ = _
    rw [bools_true l]
    rfl
theorem pAll_true (o : Bool) (l : List T) : pAll (.lst o (l.filterMap fun _ => some (T.bl true))) = some (.bl true) := by
  show (bools (l.filterMap fun _ => some (T.bl true))).map (fun bs => T.bl (bs.all id)) = _
  rw [bools_true]
  simp
/-! ### sorting places -/
theorem pAll_map (o : Bool) (l : List T) : pAll (.lst o (l.map fun _ => T.bl true)) = some (.bl true) := by
  have := pAll_true o l
  rwa [List.filterMap_eq_map'] at this
theorem sorted_uniq {l l' : List Int} (p : l.Perm l') (h : l.Pairwise (· ≤ ·)) (h' : l'.Pairwise (· ≤ ·)) : l = l' := p.eq_of_pairwise (fun a b _ _ h1 h2 => Int.le_antisymm h1 h2) h h'
end Ev
end
section
set_option Elab.async false
set_option linter.all false
set_option maxRecDepth 100000
/-! Wd: deeds, as lists of places and as permutations. -/
namespace Ev
structure Deed (p : List Nat) : Prop where
  nd : p.Nodup
  lt : ∀ x ∈ p, x < p.length
  le : p.length ≤ 12
theorem Deed.mem {p : List Nat} (d : Deed p) {a : Nat} (h : a < p.length) : a ∈ p := by
  apply Classical.byContradiction
  intro q
  have := Pm.pig p.length (a :: p) (fun x hx => by
    rcases List.mem_cons.mp hx with rfl | hx
    · exact h
    · exact d.lt x hx) (List.nodup_cons.mpr ⟨q, d.nd⟩)
  simp only [List.length_cons] at this
  omega
theorem Deed.perm {p : List Nat} (d : Deed p) : p.Perm (List.range p.length) := by
  rw [List.perm_ext_iff_of_nodup d.nd List.nodup_range]
  intro a
  rw [List.mem_range]
  exact ⟨d.lt a, d.mem⟩
theorem deed_of_perm {p : List Nat} {n : Nat} (h : p.Perm (List.range n)) (hn : n ≤ 12) : Deed p := by
  have hl : p.length = n := by rw [h.length_eq, List.length_range]
  refine ⟨h.nodup_iff.mpr List.nodup_range, fun x hx => ?_, by omega⟩
  have := h.mem_iff.mp hx
  rw [List.mem_range] at this
  omega
theorem range_int_sorted (n : Nat) : ((List.range n).map fun x : Nat => (x : Int)).Pairwise (· ≤ ·) := by
  rw [List.pairwise_map]
  exact List.pairwise_lt_range.imp fun h => by omega
theorem sort_deed {p : List Nat} (d : Deed p) : sortI (p.map fun x : Nat => (x : Int)) = (List.range p.length).map fun x : Nat => (x : Int) :=
  sorted_uniq ((sortI_perm _).trans (d.perm.map _)) (sortI_sorted _) (range_int_sorted _)
theorem pSorted_tp {p : List Nat} (d : Deed p) : pSorted (tp p) = some (.lst true (ils (List.range p.length))) := by
  show ((intsOf (ils p)).map fun ns => T.lst true ((sortI ns).map .int)) = _
  rw [intsOf_ils]
  show some (T.lst true ((sortI _).map .int)) = _
  rw [sort_deed d, List.map_map]
  rfl
/-- as a permutation -/
def Deed.pm {p : List Nat} (d : Deed p) : Pm.Pm p.length where
  f := fun x => if h : x < p.length then p[x] else x
  g := fun x => if x < p.length then p.idxOf x else x
  gf := fun x => by
    by_cases h : x < p.length
    · have h1 : p[x] < p.length := d.lt _ (List.getElem_mem h)
      simp only [h, dif_pos, h1, if_true]
      exact d.nd.idxOf_getElem x h
    · simp only [h, dif_neg, not_false_eq_true, if_false]
  fg := fun x => by
    by_cases h : x < p.length
    · have h1 : p.idxOf x < p.length := List.idxOf_lt_length_iff.mpr (d.mem h)
      simp only [h, if_true, h1, dif_pos]
      exact List.getElem_idxOf h1
    · simp only [h, if_false, dif_neg, not_false_eq_true]
  fix := fun x h => by
    simp only [show ¬ x < p.length by omega, dif_neg, not_false_eq_true]
theorem Deed.at_ {p : List Nat} (d : Deed p) {x : Nat} (h : x < p.length) : p[x] = d.pm.f x := by
  show _ = if h : x < p.length then p[x] else x
  rw [dif_pos h]
/-- back to a list -/
def lsOf {n : Nat} (f : Pm.Pm n) : List Nat := (List.range n).map f.f
theorem lsOf_len {n : Nat} (f : Pm.Pm n) : (lsOf f).length = n := by unfold lsOf; rw [List.length_map, List.length_range]
theorem lsOf_deed {n : Nat} (f : Pm.Pm n) (h : n ≤ 12) : Deed (lsOf f) where
  nd := by
    unfold lsOf
    rw [List.nodup_iff_pairwise_ne, List.pairwise_map]
    exact (List.nodup_iff_pairwise_ne.mp List.nodup_range).imp fun hne e => hne (f.inj e)
  lt := fun x hx => by
    rw [lsOf_len]
    obtain ⟨y, hy, rfl⟩ := List.mem_map.mp hx
    exact f.lt (List.mem_range.mp hy)
  le := by rw [lsOf_len]; exact h
theorem lsOf_pm {p : List Nat} (d : Deed p) : lsOf d.pm = p := by
  refine List.ext_getElem (lsOf_len _) fun i h1 h2 => ?_
  have : (lsOf d.pm)[i] = d.pm.f i := by simp [lsOf]
  rw [this, d.at_ h2]
end Ev
end
section
set_option Elab.async false
set_option linter.all false
set_option maxRecDepth 100000
/-! Wm: the walks' tactic, and more values. -/
namespace Ev
theorem asBool_bl (b : Bool) (e : Env) : asBool (.bl b) e = .ok b e := Eq.trans rfl rfl
theorem bT_name (i : Nat) (t : T) (e : Env) : bindT (.name i) t e = some (e.set i (some t)) := by simp only [bindT]
theorem bT_tup (gs : List Tg) (ts : List T) (e : Env) : bindT (.tup gs) (.tup ts) e = bindTs gs ts e := by simp only [bindT]
theorem bT_lst (gs : List Tg) (ts : List T) (e : Env) : bindT (.tup gs) (.lst false ts) e = bindTs gs ts e := by simp only [bindT]
theorem bTs_nil (e : Env) : bindTs [] [] e = some e := by simp only [bindTs]
theorem bTs_cons (g : Tg) (gs : List Tg) (t : T) (ts : List T) (e : Env) : bindTs (g :: gs) (t :: ts) e = (bindT g t e).bind fun e => bindTs gs ts e := by simp only [bindTs]
section
variable {fs : Fns} {elt : E} {tg : Tg} {own : List Nat} {cond : Es} {a : Option T} {l : Env}
theorem LcK_at {ik : Ik} {ts its : List T} {e : Env} (h : iterT ik (T.fzs ts) = some its) : LcK fs elt tg own ik cond ts e = LcG fs elt tg own cond its e := by
  unfold LcK
  rw [h]
theorem LcK_t {ts : List T} : LcK fs elt tg own .seq cond [.tup ts] (a :: l) = LcG fs elt tg own cond ts (a :: l) := LcK_at rfl
theorem LcK_l {ts : List T} : LcK fs elt tg own .seq cond [.lst false ts] (a :: l) = LcG fs elt tg own cond ts (a :: l) := LcK_at rfl
theorem LcK_lo {ts : List T} : LcK fs elt tg own .seq cond [.lst true ts] (a :: l) = LcG fs elt tg own cond (T.fzs ts) (a :: l) := LcK_at rfl
theorem LcK_et {ts : List T} : LcK fs elt tg own .enum cond [.tup ts] (a :: l) = LcG fs elt tg own cond (iterT.enumT 0 ts) (a :: l) := LcK_at rfl
theorem LcK_el {ts : List T} : LcK fs elt tg own .enum cond [.lst false ts] (a :: l) = LcG fs elt tg own cond (iterT.enumT 0 ts) (a :: l) := LcK_at rfl
theorem LcK_elo {ts : List T} : LcK fs elt tg own .enum cond [.lst true ts] (a :: l) = LcG fs elt tg own cond (iterT.enumT 0 (T.fzs ts)) (a :: l) := LcK_at rfl
end
theorem any_ils (x : Nat) (L : List Nat) : ((ils L).any fun t => eqB t (.int x)) = decide (x ∈ L) := by
  rw [Bool.eq_iff_iff, List.any_eq_true, decide_eq_true_iff]
  constructor
  · rintro ⟨t, ht, e⟩
    obtain ⟨y, hy, rfl⟩ := List.mem_map.mp ht
    rw [eqB_int, beq_iff_eq] at e
    have : y = x := by omega
    exact this ▸ hy
  · intro h
    exact ⟨.int x, List.mem_map.mpr ⟨x, h, rfl⟩, by rw [eqB_int]; simp⟩
theorem ils_app (A B : List Nat) : ils A ++ ils B = ils (A ++ B) := List.map_append.symm
theorem eqT_nil (o o' : Bool) (p : List Nat) : eqT (.lst o (ils p)) (.lst o' []) = some (decide (p = [])) := eqT_lst o o' p []
theorem eqT_nn (o o' : Bool) : eqT (.lst o []) (.lst o' []) = some true := by
  have := eqT_lst o o' [] []
  simpa using this
theorem small_nat {y : Nat} (h : y < 1000000) : small (y : Int) = true := by
  simp only [small, Bool.and_eq_true, decide_eq_true_eq]
  omega
theorem iter_rg1 {n : Nat} (h : n < 1000000) : iterT .rg1 [.int n] = some (ils (List.range n)) := by
  show (if small (n : Int) = true then some (upto 0 (n : Int).toNat) else none) = _
  rw [if_pos (small_nat h), Int.toNat_natCast, upto_zero]
theorem iter_rg2 {a b : Nat} (ha : a < 1000000) (hb : b < 1000000) : iterT .rg2 [.int a, .int b] = some (ils (List.range' a (b - a))) := by
  show (if (small (a : Int) && small (b : Int)) = true then some (upto a ((b : Int) - a).toNat) else none) = _
  rw [small_nat ha, small_nat hb, Bool.and_self, if_pos rfl, show ((b : Int) - a).toNat = b - a by omega, upto_ils]
theorem LcK_r {n : Nat} (h : n < 1000000) {fs : Fns} {elt : E} {tg : Tg} {own : List Nat} {cond : Es} {a : Option T} {l : Env} : LcK fs elt tg own .rg1 cond [.int n] (a :: l) = LcG fs elt tg own cond (ils (List.range n)) (a :: l) := LcK_at (iter_rg1 h)
theorem iter_lst (ts : List T) : iterT .seq [.lst false ts] = some ts := rfl
theorem iter_tup (ts : List T) : iterT .seq [.tup ts] = some ts := rfl
theorem iter_enum_tup (ts : List T) : iterT .enum [.tup ts] = some (iterT.enumT 0 ts) := rfl
theorem iter_enum_lst (ts : List T) : iterT .enum [.lst false ts] = some (iterT.enumT 0 ts) := rfl
/-- tuples of places -/
abbrev tps (rs : List (List Nat)) : List T := rs.map tp
theorem fzs_tps (rs : List (List Nat)) : T.fzs (tps rs) = tps rs := by
  induction rs with
  | nil => rfl
  | cons r rs ih =>
    show (tp r).fz :: T.fzs (tps rs) = _
    rw [ih]; rfl
theorem pure_tps (rs : List (List Nat)) : (tps rs).all T.pure = true := by
  rw [List.all_eq_true]
  intro t ht
  obtain ⟨x, _, rfl⟩ := List.mem_map.mp ht
  rfl
theorem pTuple_tps (o : Bool) (rs : List (List Nat)) : pTuple (.lst o (tps rs)) = some (.tup (tps rs)) := by
  show (if (tps rs).all T.pure = true then some (T.tup (tps rs)) else none) = _
  rw [if_pos (pure_tps rs)]
theorem app_ils (p : List Nat) (x : Nat) : ils p ++ [.int (x : Int)] = ils (p ++ [x]) := by simp [ils]
theorem app_tps (rs : List (List Nat)) (r : List Nat) : tps rs ++ [tp r] = tps (rs ++ [r]) := by simp [tps]
theorem enum_get {p : List Nat} {i : Nat} {t : T} (h : (iterT.enumT 0 (ils p))[i]? = some t) : ∃ h : i < p.length, t = .tup [.int (i : Nat), .int (p[i] : Nat)] := by
  have hi : i < p.length := by
    have := (List.getElem?_eq_some_iff.mp h).1
    rwa [enum_len, len_ils] at this
  refine ⟨hi, ?_⟩
  have := enum_at (ils p) 0 i _ (at_ils hi)
  rw [h, Nat.zero_add] at this
  exact Option.some.inj this
theorem set_ils (L : List Nat) (y i : Nat) : (ils L).set y (.int i) = ils (L.set y i) := by
  exact (List.map_set ..).symm
theorem firstIx_ils (x : Nat) : ∀ (L : List Nat) (n : Nat), firstIx (.int x) (ils L) n = if x ∈ L then some (n + L.idxOf x) else none
  | [], n => rfl
  | y :: r, n => by
    show (if eqB (.int y) (.int x) = true then some n else firstIx (.int x) (ils r) (n + 1)) = _
    rw [eqB_int, firstIx_ils x r (n + 1)]
    by_cases h : y = x
    · subst h; simp
    · have h2 : ((y : Int) == (x : Int)) = false := by
        rw [beq_eq_false_iff_ne]; omega
      have h3 : ¬ x = y := fun e => h e.symm
      rw [h2]
      simp only [Bool.false_eq_true, if_false, List.mem_cons, h3, false_or]
      by_cases q : x ∈ r
      · rw [if_pos q, if_pos q, List.idxOf_cons]
        have : (y == x) = false := by rw [beq_eq_false_iff_ne]; exact h
        rw [this]
        simp only [cond_false]
        congr 1
        omega
      · rw [if_neg q, if_neg q]
theorem keyIx_none {x : Nat} {L : List Nat} (h : x ∉ L) : keyIx (.int x) (ils L) = some none := by
  unfold keyIx
  rw [firstIx_ils, if_neg h]
theorem getD_at {p : List Nat} {i : Nat} (h : i < p.length) : p.getD i 0 = p[i] := by
  rw [List.getD_eq_getElem?_getD, List.getElem?_eq_getElem h]; rfl
/-- the last one of a list -/
theorem pIx_last {n : Nat} (h : 0 < n) : pIx n (-1) = some (n - 1) := by
  unfold pIx
  rw [if_neg (by omega), if_pos (by omega)]
  congr 1
  omega
theorem pIdx_last {o : Bool} {p : List Nat} (h : 0 < p.length) : pIdx (.lst o (ils p)) (.int (-1)) = some (.int (p[p.length - 1] : Nat)) := by
  unfold pIdx
  simp only [len_ils, pIx_last h, Option.bind_some, at_ils (show p.length - 1 < p.length by omega)]
  rfl
theorem same {m n : Nat} {b : Pm.Pm m} {a : Pm.Pm n} (e : m = n) (hf : ∀ x, b.f x = a.f x) {α : Type} (F : ∀ k, Pm.Pm k → α) : F m b = F n a := by
  subst e
  rw [Pm.Pm.ext hf]
/-- deeds of n places as permutations -/
abbrev tq {n : Nat} (a : Pm.Pm n) : T := tp (lsOf a)
theorem lsOf_at {n : Nat} (a : Pm.Pm n) {x : Nat} (h : x < (lsOf a).length) : (lsOf a)[x] = a.f x := by simp [lsOf]
theorem pm_f {n : Nat} (a : Pm.Pm n) (hn : n ≤ 12) (x : Nat) : (lsOf_deed a hn).pm.f x = a.f x := by
  have hl := lsOf_len a
  by_cases h : x < (lsOf a).length
  · rw [← (lsOf_deed a hn).at_ h, lsOf_at]
  · rw [Pm.Pm.fix _ x (by omega), a.fix x (by omega)]
theorem pm_same {n : Nat} (a : Pm.Pm n) (hn : n ≤ 12) {α : Type} (F : ∀ k, Pm.Pm k → α) : F _ (lsOf_deed a hn).pm = F n a := same (lsOf_len a) (pm_f a hn) F
theorem pIdx_tq {n : Nat} (a : Pm.Pm n) {x : Nat} (h : x < n) : pIdx (tq a) (.int x) = some (.int (a.f x : Nat)) := by
  rw [pIdx_tp (by rw [lsOf_len]; exact h), lsOf_at]
theorem lsOf_inj {n : Nat} {a b : Pm.Pm n} (h : lsOf a = lsOf b) : a = b := Pm.Pm.ext fun x => by
  by_cases hx : x < n
  · have h1 := lsOf_at a (x := x) (by rw [lsOf_len]; exact hx)
    have h2 := lsOf_at b (x := x) (by rw [lsOf_len]; exact hx)
    rw [← h1, ← h2]
    simp only [h]
  · rw [a.fix x (by omega), b.fix x (by omega)]
theorem len_tps (rs : List (List Nat)) : (tps rs).length = rs.length := List.length_map _
theorem pLen_tps (o : Bool) (rs : List (List Nat)) : pLen (.lst o (tps rs)) = some (.int rs.length) := by
  show some (T.int ((tps rs).length : Int)) = _
  rw [len_tps]
theorem pLen_ttps (rs : List (List Nat)) : pLen (.tup (tps rs)) = some (.int rs.length) := by
  show some (T.int ((tps rs).length : Int)) = _
  rw [len_tps]
/-- sorted places -/
def srt (l : List Nat) : List Nat := (sortI (l.map fun x : Nat => (x : Int))).map Int.toNat
theorem sortI_nats (l : List Nat) : sortI (l.map fun x : Nat => (x : Int)) = (srt l).map fun x : Nat => (x : Int) := by
  unfold srt
  rw [List.map_map]
  have : ∀ z ∈ sortI (l.map fun x : Nat => (x : Int)), ((fun x : Nat => (x : Int)) ∘ Int.toNat) z = z := fun z hz => by
    have := (sortI_perm (l.map fun x : Nat => (x : Int))).mem_iff.mp hz
    obtain ⟨x, _, rfl⟩ := List.mem_map.mp this
    simp
  rw [List.map_congr_left this]
  simp
theorem srt_perm (l : List Nat) : (srt l).Perm l := by
  have h := sortI_perm (l.map fun x : Nat => (x : Int))
  have := h.map Int.toNat
  refine this.trans ?_
  rw [List.map_map]
  have : (Int.toNat ∘ fun x : Nat => (x : Int)) = id := funext fun x => Int.toNat_natCast x
  rw [this, List.map_id]
theorem srt_sorted (l : List Nat) : (srt l).Pairwise (· ≤ ·) := by
  have h := sortI_sorted (l.map fun x : Nat => (x : Int))
  rw [sortI_nats, List.pairwise_map] at h
  exact h.imp fun h => by omega
theorem pSorted_ils (l : List Nat) : pSorted (tp l) = some (.lst true (ils (srt l))) := by
  show ((intsOf (ils l)).map fun ns => T.lst true ((sortI ns).map .int)) = _
  rw [intsOf_ils]
  show some (T.lst true ((sortI _).map .int)) = _
  rw [sortI_nats, List.map_map]
  rfl
theorem pSorted_lst (o : Bool) (l : List Nat) : pSorted (.lst o (ils l)) = some (.lst true (ils (srt l))) := pSorted_ils l
theorem iter_rg2m {n : Nat} (hn : n < 1000000) : iterT .rg2 [.int 1, .int ((n : Int) - 1)] = some (ils (List.range' 1 (n - 2))) := by
  have h1 : small 1 = true := by decide
  have h2 : small ((n : Int) - 1) = true := by
    simp only [small, Bool.and_eq_true, decide_eq_true_eq]
    omega
  show (if (small 1 && small ((n : Int) - 1)) = true then some (upto 1 ((n : Int) - 1 - 1).toNat) else none) = _
  rw [h1, h2, Bool.and_self, if_pos rfl, show ((n : Int) - 1 - 1).toNat = n - 2 by omega]
  exact congrArg some (upto_ils (n - 2) 1)
theorem iter_rg2p {a b : Nat} (ha : a + 1 < 1000000) (hb : b < 1000000) : iterT .rg2 [.int ((a : Int) + 1), .int b] = some (ils (List.range' (a + 1) (b - (a + 1)))) := by
  have := iter_rg2 (a := a + 1) (b := b) ha hb
  exact this
theorem pIdx_lst1 {o : Bool} {p : List Nat} {i : Nat} (h : i + 1 < p.length) : pIdx (.lst o (ils p)) (.int ((i : Int) + 1)) = some (.int (p[i + 1] : Nat)) := pIdx_lst (i := i + 1) h
theorem pIdx_tp1 {p : List Nat} {i : Nat} (h : i + 1 < p.length) : pIdx (tp p) (.int ((i : Int) + 1)) = some (.int (p[i + 1] : Nat)) := pIdx_tp (i := i + 1) h
theorem pIndex_ils {o : Bool} {p : List Nat} {x : Nat} (h : x ∈ p) : pIndex (.lst o (ils p)) (.int x) = some (.int (p.idxOf x)) := by
  simp [pIndex, data_ils 11 p, firstIx_ils, h, data, -List.all_map]
theorem pIdx_dct {o : Bool} {L : List Nat} {m : Nat → Nat} {x : Nat} (h : x ∈ L) : pIdx (.dct o (ils L) (ils (L.map m))) (.int x) = some (.int (m x : Nat)) := by
  unfold pIdx
  simp only [isKey, if_true, firstIx_ils, if_pos h, Option.bind_some, Nat.zero_add]
  have hl := List.idxOf_lt_length_iff.mpr h
  rw [at_ils (show L.idxOf x < (L.map m).length by rw [List.length_map]; exact hl)]
  simp [List.getElem_map, List.getElem_idxOf, T.pure]
theorem tps_rings {n : Nat} (a : Pm.Pm n) : tps a.rings = a.heads.map fun x => tp (a.ring x) := by
  show (a.heads.map a.ring).map tp = _
  rw [List.map_map]
  rfl
theorem pIdx_ring0 {n : Nat} (a : Pm.Pm n) {x : Nat} (h : x < n) : pIdx (tp (a.ring x)) (.int 0) = some (.int x) := by
  have h1 : 0 < (a.ring x).length := by rw [Pm.Pm.ring_len]; exact a.per_pos h
  have := pIdx_tp h1
  rw [Pm.Pm.ring_at] at this
  exact this
theorem head_at {n : Nat} (a : Pm.Pm n) {i : Nat} (h : i < a.heads.length) : a.heads[i] < n := (Pm.Pm.mem_heads.mp (List.getElem_mem h)).1
theorem slice_mid {p : List Nat} {i j : Nat} (h : i < j) (hj : j ≤ p.length) : slice (tp p) (some ((i : Int) + 1)) (some (j : Int)) = some (tp ((p.drop (i + 1)).take (j - (i + 1)))) := by
  have h1 : ¬ (i : Int) + 1 < 0 := by omega
  have h2 : ¬ (j : Int) < 0 := by omega
  simp [slice, cut, sIx, len_ils, h1, h2, List.map_drop, List.map_take, show ((i : Int) + 1).toNat = i + 1 by omega, show min (i + 1) p.length = i + 1 by omega, show min j p.length = j by omega]
theorem slice_from {p : List Nat} {j : Nat} (hj : j < p.length) : slice (tp p) (some ((j : Int) + 1)) none = some (tp (p.drop (j + 1))) := by
  have h1 : ¬ (j : Int) + 1 < 0 := by omega
  simp [slice, cut, sIx, len_ils, h1, List.map_drop, List.map_take, show ((j : Int) + 1).toNat = j + 1 by omega, show min (j + 1) p.length = j + 1 by omega]
  rw [List.take_of_length_le (by simp)]
theorem slice_to {p : List Nat} {i : Nat} (hj : i ≤ p.length) : slice (tp p) none (some (i : Int)) = some (tp (p.take i)) := by
  have h1 : ¬ (i : Int) < 0 := by omega
  simp [slice, cut, sIx, len_ils, h1, List.map_drop, List.map_take, show min i p.length = i by omega]
theorem slice_to_lst {o : Bool} {p : List Nat} {i : Nat} (hj : i ≤ p.length) : slice (.lst o (ils p)) none (some (i : Int)) = some (.lst true (ils (p.take i))) := by
  have h1 : ¬ (i : Int) < 0 := by omega
  have h2 := pure_ils p
  simp [slice, cut, sIx, len_ils, h1, h2, List.map_drop, List.map_take, show min i p.length = i by omega, -List.all_map]
theorem filterMap_if {X Y : Type} (g : X → Y) (p : X → Prop) [DecidablePred p] : ∀ l : List X, (l.filterMap fun r => if p r then some (g r) else none) = (l.filter fun r => decide (p r)).map g
  | [] => rfl
  | x :: l => by
    have ih := filterMap_if g p l
    by_cases h : p x
    · simp [h, ih]
    · simp [h, ih]
theorem slice_to_map {X : Type} {g : X → T} {l : List X} {i : Nat} (hj : i ≤ l.length) : slice (.tup (l.map g)) none (some (i : Int)) = some (.tup ((l.take i).map g)) := by
  have h1 : ¬ (i : Int) < 0 := by omega
  simp [slice, cut, sIx, h1, List.map_drop, List.map_take, show min i l.length = i by omega]
theorem slice_to_tps {o : Bool} {l : List (List Nat)} {i : Nat} (hj : i ≤ l.length) : slice (.lst o (tps l)) none (some (i : Int)) = some (.lst true (tps (l.take i))) := by
  have h1 : ¬ (i : Int) < 0 := by omega
  have h2 := pure_tps l
  simp [slice, cut, sIx, h1, h2, List.map_drop, List.map_take, show min i l.length = i by omega, -List.all_map]
theorem data_tps (n : Nat) (rs : List (List Nat)) : (tps rs).all (data (n + 2)) = true := by
  rw [List.all_eq_true]
  intro t ht
  obtain ⟨x, _, rfl⟩ := List.mem_map.mp ht
  simp only [data]
  exact data_ils n x
theorem eqT_tps_nil (o o' : Bool) (rs : List (List Nat)) : eqT (.lst o (tps rs)) (.lst o' []) = some (decide (rs = [])) := by
  have h1 : data 12 (.lst o (tps rs)) = true := by simp only [data]; exact data_tps 9 rs
  have h2 : data 12 (.lst o' []) = true := by simp [data]
  unfold eqT
  rw [h1, h2, Bool.and_self, if_pos rfl]
  cases rs <;> simp [eqB, eqBs]
theorem enum_get_tps {rs : List (List Nat)} {i : Nat} {t : T} (h : (iterT.enumT 0 (tps rs))[i]? = some t) : ∃ h : i < rs.length, t = .tup [.int (i : Nat), tp rs[i]] := by
  have hi : i < rs.length := by
    have := (List.getElem?_eq_some_iff.mp h).1
    rwa [enum_len, len_tps] at this
  refine ⟨hi, ?_⟩
  have e : (tps rs)[i]? = some (tp rs[i]) := by rw [List.getElem?_map, List.getElem?_eq_getElem hi]; rfl
  have := enum_at (tps rs) 0 i _ e
  rw [h, Nat.zero_add] at this
  exact Option.some.inj this
theorem perm_pm {p : List Nat} {n : Nat} (h : p.Perm (List.range n)) (hn : n ≤ 12) : ∃ a : Pm.Pm n, p = lsOf a := by
  have d := deed_of_perm h hn
  have hl : p.length = n := by rw [h.length_eq, List.length_range]
  subst hl
  exact ⟨d.pm, (lsOf_pm d).symm⟩
theorem pTuple_tp (p : List Nat) : pTuple (tp p) = some (tp p) := rfl
end Ev
end
section
set_option Elab.async false
set_option linter.all false
set_option maxRecDepth 100000
namespace K91
open Ev
/-- is_integer(value): 0 value -/
def b0 : Ss := (.cons (.ret (.and (.pr (.isT 0) (.cons (.var 0) .nil)) (.and (.not (.pr (.isT 1) (.cons (.var 0) .nil))) (.chain .lt .lt (.pr .neg (.cons (.glb (.int 100000000000000000000000000000000000000000000000000000000000000000000000000000000000000000000000000000000000000000000000000000000000000000000000000000000000000000000000000000000000000000000000000000000) 2) .nil)) (.var 0) (.glb (.int 100000000000000000000000000000000000000000000000000000000000000000000000000000000000000000000000000000000000000000000000000000000000000000000000000000000000000000000000000000000000000000000000000000000) 2))))) .nil)
def d0 : Df := ⟨1, 1, [true], b0⟩
/-- is_count(value): 0 value -/
def b1 : Ss := (.cons (.ret (.and (.call 0 (.cons (.var 0) .nil)) (.pr (.cmp .ge) (.cons (.var 0) (.cons (.int 0) .nil))))) .nil)
def d1 : Df := ⟨1, 1, [true], b1⟩
/-- is_order(value, total): 0 value 1 total 2 place -/
def b2 : Ss := (.cons (.ite (.or (.not (.pr (.isT 3) (.cons (.var 0) .nil))) (.or (.pr (.cmp .ne) (.cons (.pr .len (.cons (.var 0) .nil)) (.cons (.var 1) .nil))) (.not (.pr .all (.cons (.lc (.call 1 (.cons (.var 2) .nil)) (.name 2) [2] .seq (.cons (.var 0) .nil) .nil) .nil))))) (.cons (.ret (.bl false)) .nil) .nil) (.cons (.ret (.pr (.cmp .eq) (.cons (.pr .sorted (.cons (.var 0) .nil)) (.cons (.pr .rg1 (.cons (.var 1) .nil)) .nil)))) .nil))
def d2 : Df := ⟨2, 3, [true, true], b2⟩
/-- is_deed(value): 0 value -/
def b3 : Ss := (.cons (.ret (.and (.pr (.isT 3) (.cons (.var 0) .nil)) (.and (.chain .le .le (.int 1) (.pr .len (.cons (.var 0) .nil)) (.glb (.int 12) 3)) (.call 2 (.cons (.var 0) (.cons (.pr .len (.cons (.var 0) .nil)) .nil)))))) .nil)
def d3 : Df := ⟨1, 1, [true], b3⟩
/-- require_deed(deed): 0 deed -/
def b4 : Ss := (.cons (.ite (.not (.call 3 (.cons (.var 0) .nil))) (.cons .never .nil) .nil) .nil)
def d4 : Df := ⟨1, 1, [true], b4⟩
/-- require_same(one, other): 0 one 1 other -/
def b5 : Ss := (.cons (.ite (.pr (.cmp .ne) (.cons (.pr .len (.cons (.var 0) .nil)) (.cons (.pr .len (.cons (.var 1) .nil)) .nil))) (.cons .never .nil) .nil) .nil)
def d5 : Df := ⟨2, 2, [true, true], b5⟩
/-- ring_list(deed): 0 deed 1 found 2 seen 3 first 4 ring 5 place -/
def b6 : Ss := (.cons (.par [1, 2] (.cons (.lst .nil) (.cons .dct0 .nil))) (.cons (.for_ (.name 3) .rg1 (.cons (.pr .len (.cons (.var 0) .nil)) .nil) (.cons (.par [4, 5] (.cons (.lst .nil) (.cons (.var 3) .nil))) (.cons (.whl (.pr (.cmp .notin) (.cons (.var 5) (.cons (.var 2) .nil))) (.cons (.setix 2 (.var 5) (.bl true)) (.cons (.app 4 (.var 5)) (.cons (.asg 5 (.pr .idx (.cons (.var 0) (.cons (.var 5) .nil)))) .nil)))) (.cons (.ite (.pr (.cmp .ne) (.cons (.var 4) (.cons (.lst .nil) .nil))) (.cons (.app 1 (.pr .tuple (.cons (.var 4) .nil))) .nil) .nil) .nil)))) (.cons (.ret (.mv 1)) .nil)))
def d6 : Df := ⟨1, 6, [true], b6⟩
/-- rings_of(deed): 0 deed -/
def b7 : Ss := (.cons (.ex (.call 4 (.cons (.var 0) .nil))) (.cons (.ret (.pr .tuple (.cons (.call 6 (.cons (.var 0) .nil)) .nil))) .nil))
def d7 : Df := ⟨1, 1, [true], b7⟩
/-- done_behind(one, other): 0 one 1 other 2 place -/
def b8 : Ss := (.cons (.ret (.pr .tuple (.cons (.lc (.pr .idx (.cons (.var 1) (.cons (.var 2) .nil))) (.name 2) [2] .seq (.cons (.var 0) .nil) .nil) .nil))) .nil)
def d8 : Df := ⟨2, 3, [true, true], b8⟩
/-- behind(one, other): 0 one 1 other -/
def b9 : Ss := (.cons (.ex (.call 4 (.cons (.var 0) .nil))) (.cons (.ex (.call 4 (.cons (.var 1) .nil))) (.cons (.ex (.call 5 (.cons (.var 0) (.cons (.var 1) .nil)))) (.cons (.ret (.call 8 (.cons (.var 0) (.cons (.var 1) .nil)))) .nil))))
def d9 : Df := ⟨2, 2, [true, true], b9⟩
/-- taken_back(deed): 0 deed 1 found 2 one 3 other -/
def b10 : Ss := (.cons (.asg 1 (.pr .list (.cons (.var 0) .nil))) (.cons (.for_ (.tup [(.name 2), (.name 3)]) .enum (.cons (.var 0) .nil) (.cons (.setix 1 (.var 3) (.var 2)) .nil)) (.cons (.ret (.pr .tuple (.cons (.var 1) .nil))) .nil)))
def d10 : Df := ⟨1, 4, [true], b10⟩
/-- back_of(deed): 0 deed -/
def b11 : Ss := (.cons (.ex (.call 4 (.cons (.var 0) .nil))) (.cons (.ret (.call 10 (.cons (.var 0) .nil))) .nil))
def d11 : Df := ⟨1, 1, [true], b11⟩
/-- least_steps_of(deed): 0 deed -/
def b12 : Ss := (.cons (.ret (.pr .sub (.cons (.pr .len (.cons (.var 0) .nil)) (.cons (.pr .len (.cons (.call 6 (.cons (.var 0) .nil)) .nil)) .nil)))) .nil)
def d12 : Df := ⟨1, 1, [true], b12⟩
/-- least_steps(deed): 0 deed -/
def b13 : Ss := (.cons (.ex (.call 4 (.cons (.var 0) .nil))) (.cons (.ret (.call 12 (.cons (.var 0) .nil))) .nil))
def d13 : Df := ⟨1, 1, [true], b13⟩
/-- require_deed(deed): 0 deed -/
def b14 : Ss := (.cons (.ite (.not (.call 3 (.cons (.var 0) .nil))) (.cons .never .nil) .nil) .nil)
def d14 : Df := ⟨1, 1, [true], b14⟩
/-- require_both(inner, whole): 0 inner 1 whole -/
def b15 : Ss := (.cons (.ex (.call 14 (.cons (.var 0) .nil))) (.cons (.ex (.call 14 (.cons (.var 1) .nil))) (.cons (.ite (.pr (.cmp .ne) (.cons (.pr .len (.cons (.var 0) .nil)) (.cons (.pr .len (.cons (.var 1) .nil)) .nil))) (.cons .never .nil) .nil) .nil)))
def d15 : Df := ⟨2, 2, [true, true], b15⟩
/-- rest_between(inner, whole): 0 inner 1 whole -/
def b16 : Ss := (.cons (.ret (.call 9 (.cons (.call 11 (.cons (.var 0) .nil)) (.cons (.var 1) .nil)))) .nil)
def d16 : Df := ⟨2, 2, [true, true], b16⟩
/-- rest_of(inner, whole): 0 inner 1 whole -/
def b17 : Ss := (.cons (.ex (.call 15 (.cons (.var 0) (.cons (.var 1) .nil)))) (.cons (.ret (.call 16 (.cons (.var 0) (.cons (.var 1) .nil)))) .nil))
def d17 : Df := ⟨2, 2, [true, true], b17⟩
/-- is_inner(inner, whole): 0 inner 1 whole -/
def b18 : Ss := (.cons (.ret (.pr (.cmp .eq) (.cons (.pr .add (.cons (.call 13 (.cons (.var 0) .nil)) (.cons (.call 13 (.cons (.call 16 (.cons (.var 0) (.cons (.var 1) .nil))) .nil)) .nil))) (.cons (.call 13 (.cons (.var 1) .nil)) .nil)))) .nil)
def d18 : Df := ⟨2, 2, [true, true], b18⟩
/-- lies_in(inner, whole): 0 inner 1 whole -/
def b19 : Ss := (.cons (.ex (.call 15 (.cons (.var 0) (.cons (.var 1) .nil)))) (.cons (.ret (.call 18 (.cons (.var 0) (.cons (.var 1) .nil)))) .nil))
def d19 : Df := ⟨2, 2, [true, true], b19⟩
/-- ring_with(deed, place): 0 deed 1 place 2 found -/
def b20 : Ss := (.cons (.asg 2 (.lst (.cons (.var 1) .nil))) (.cons (.whl (.pr (.cmp .ne) (.cons (.pr .idx (.cons (.var 0) (.cons (.pr .idx (.cons (.var 2) (.cons (.pr .neg (.cons (.int 1) .nil)) .nil))) .nil))) (.cons (.var 1) .nil))) (.cons (.app 2 (.pr .idx (.cons (.var 0) (.cons (.pr .idx (.cons (.var 2) (.cons (.pr .neg (.cons (.int 1) .nil)) .nil))) .nil)))) .nil)) (.cons (.ret (.mv 2)) .nil)))
def d20 : Df := ⟨2, 3, [true, true], b20⟩
/-- apart_reason(inner, whole): 0 inner 1 whole 2 ring 3 home 4 place -/
def b21 : Ss := (.cons (.for_ (.name 2) .seq (.cons (.call 7 (.cons (.var 0) .nil)) .nil) (.cons (.asg 3 (.call 20 (.cons (.var 1) (.cons (.pr .idx (.cons (.var 2) (.cons (.int 0) .nil))) .nil)))) (.cons (.for_ (.name 4) .seq (.cons (.pr .sorted (.cons (.var 2) .nil)) .nil) (.cons (.ite (.pr (.cmp .notin) (.cons (.var 4) (.cons (.var 3) .nil))) (.cons (.ret (.tup (.cons (.glb (.str [97, 112, 97, 114, 116]) 0) (.cons (.pr .min2 (.cons (.pr .idx (.cons (.var 2) (.cons (.int 0) .nil))) (.cons (.var 4) .nil))) (.cons (.pr .max2 (.cons (.pr .idx (.cons (.var 2) (.cons (.int 0) .nil))) (.cons (.var 4) .nil))) .nil))))) .nil) .nil) .nil)) .nil))) (.cons (.ret .non) .nil))
def d21 : Df := ⟨2, 5, [true, true], b21⟩
/-- round_reason(inner, whole): 0 inner 1 whole 2 ring 3 home 4 spots 5 at 6 place -/
def b22 : Ss := (.cons (.for_ (.name 2) .seq (.cons (.call 7 (.cons (.var 0) .nil)) .nil) (.cons (.asg 3 (.call 20 (.cons (.var 1) (.cons (.pr .idx (.cons (.var 2) (.cons (.int 0) .nil))) .nil)))) (.cons (.asg 4 (.lc (.bm .lindex (.cons (.var 3) .nil) (.cons (.var 6) .nil)) (.name 6) [6] .seq (.cons (.var 2) .nil) .nil)) (.cons (.for_ (.name 5) .rg2 (.cons (.int 1) (.cons (.pr .sub (.cons (.pr .len (.cons (.var 2) .nil)) (.cons (.int 1) .nil))) .nil)) (.cons (.ite (.pr (.cmp .gt) (.cons (.pr .idx (.cons (.var 4) (.cons (.var 5) .nil))) (.cons (.pr .idx (.cons (.var 4) (.cons (.pr .add (.cons (.var 5) (.cons (.int 1) .nil))) .nil))) .nil))) (.cons (.ret (.tup (.cons (.glb (.str [114, 111, 117, 110, 100]) 4) (.cons (.pr .idx (.cons (.var 2) (.cons (.int 0) .nil))) (.cons (.pr .idx (.cons (.var 2) (.cons (.var 5) .nil))) (.cons (.pr .idx (.cons (.var 2) (.cons (.pr .add (.cons (.var 5) (.cons (.int 1) .nil))) .nil))) .nil)))))) .nil) .nil) .nil)) .nil)))) (.cons (.ret .non) .nil))
def d22 : Df := ⟨2, 7, [true, true], b22⟩
/-- cross_reason(inner, whole): 0 inner 1 whole 2 marks 3 ring 4 place 5 home 6 one 7 other 8 found -/
def b23 : Ss := (.cons (.asg 2 .dct0) (.cons (.for_ (.name 3) .seq (.cons (.call 7 (.cons (.var 0) .nil)) .nil) (.cons (.for_ (.name 4) .seq (.cons (.var 3) .nil) (.cons (.setix 2 (.var 4) (.pr .idx (.cons (.var 3) (.cons (.int 0) .nil)))) .nil)) .nil)) (.cons (.for_ (.name 5) .seq (.cons (.call 7 (.cons (.var 1) .nil)) .nil) (.cons (.for_ (.name 6) .rg1 (.cons (.pr .len (.cons (.var 5) .nil)) .nil) (.cons (.for_ (.name 7) .rg2 (.cons (.pr .add (.cons (.var 6) (.cons (.int 1) .nil))) (.cons (.pr .len (.cons (.var 5) .nil)) .nil)) (.cons (.ite (.pr (.cmp .eq) (.cons (.pr .idx (.cons (.var 2) (.cons (.pr .idx (.cons (.var 5) (.cons (.var 6) .nil))) .nil))) (.cons (.pr .idx (.cons (.var 2) (.cons (.pr .idx (.cons (.var 5) (.cons (.var 7) .nil))) .nil))) .nil))) (.cons (.asg 8 (.call 24 (.cons (.var 2) (.cons (.var 5) (.cons (.var 6) (.cons (.var 7) .nil)))))) (.cons (.ite (.pr (.cmp .isnot) (.cons (.var 8) (.cons .non .nil))) (.cons (.ret (.tup (.cons (.glb (.str [99, 114, 111, 115, 115]) 1) (.cons (.pr .idx (.cons (.var 5) (.cons (.var 6) .nil))) (.cons (.pr .idx (.cons (.var 8) (.cons (.int 0) .nil))) (.cons (.pr .idx (.cons (.var 5) (.cons (.var 7) .nil))) (.cons (.pr .idx (.cons (.var 8) (.cons (.int 1) .nil))) .nil))))))) .nil) .nil) .nil)) .nil) .nil)) .nil)) .nil)) (.cons (.ret .non) .nil))))
def d23 : Df := ⟨2, 9, [true, true], b23⟩
/-- crossing(marks, home, one, other): 0 marks 1 home 2 one 3 other 4 inner 5 outer -/
def b24 : Ss := (.cons (.for_ (.name 4) .seq (.cons (.slc (.cons (.var 1) .nil) (.cons (.pr .add (.cons (.var 2) (.cons (.int 1) .nil))) .nil) (.cons (.var 3) .nil)) .nil) (.cons (.for_ (.name 5) .seq (.cons (.lst (.star (.slc (.cons (.var 1) .nil) (.cons (.pr .add (.cons (.var 3) (.cons (.int 1) .nil))) .nil) .nil) (.star (.slc (.cons (.var 1) .nil) .nil (.cons (.var 2) .nil)) .nil))) .nil) (.cons (.ite (.and (.pr (.cmp .eq) (.cons (.pr .idx (.cons (.var 0) (.cons (.var 4) .nil))) (.cons (.pr .idx (.cons (.var 0) (.cons (.var 5) .nil))) .nil))) (.pr (.cmp .ne) (.cons (.pr .idx (.cons (.var 0) (.cons (.var 4) .nil))) (.cons (.pr .idx (.cons (.var 0) (.cons (.pr .idx (.cons (.var 1) (.cons (.var 2) .nil))) .nil))) .nil)))) (.cons (.ret (.tup (.cons (.var 4) (.cons (.var 5) .nil)))) .nil) .nil) .nil)) .nil)) (.cons (.ret .non) .nil))
def d24 : Df := ⟨4, 6, [true, true, true, true], b24⟩
/-- reason_for(inner, whole): 0 inner 1 whole 2 found -/
def b25 : Ss := (.cons (.asg 2 (.call 21 (.cons (.var 0) (.cons (.var 1) .nil)))) (.cons (.ite (.pr (.cmp .is) (.cons (.var 2) (.cons .non .nil))) (.cons (.asg 2 (.call 22 (.cons (.var 0) (.cons (.var 1) .nil)))) .nil) .nil) (.cons (.ret (.ite (.pr (.cmp .is) (.cons (.var 2) (.cons .non .nil))) (.call 23 (.cons (.var 0) (.cons (.var 1) .nil))) (.var 2))) .nil)))
def d25 : Df := ⟨2, 3, [true, true], b25⟩
/-- any_apartness(inner, whole): 0 inner 1 whole -/
def b26 : Ss := (.cons (.ex (.call 15 (.cons (.var 0) (.cons (.var 1) .nil)))) (.cons (.ret (.call 25 (.cons (.var 0) (.cons (.var 1) .nil)))) .nil))
def d26 : Df := ⟨2, 2, [true, true], b26⟩
/-- _law_dice(script, spot): 0 script 1 spot 2 cell 3 left -/
def b27 : Ss := (.cons (.asg 2 (.ite (.pr (.cmp .lt) (.cons (.var 1) (.cons (.pr .len (.cons (.var 0) .nil)) .nil))) (.pr .int1 (.cons (.pr .idx (.cons (.var 0) (.cons (.var 1) .nil))) .nil)) (.pr .add (.cons (.pr .mul (.cons (.int 79) (.cons (.var 1) .nil))) (.cons (.int 41) .nil))))) (.cons (.asg 3 (.pr .mod (.cons (.pr .max2 (.cons (.int 0) (.cons (.pr .sub (.cons (.pr .abs (.cons (.var 2) .nil)) (.cons (.pr .pow (.cons (.int 10) (.cons (.int 15) .nil))) .nil))) .nil))) (.cons (.pr .mul (.cons (.pr .pow (.cons (.int 10) (.cons (.int 60) .nil))) (.cons (.pr .pow (.cons (.int 10) (.cons (.int 60) .nil))) .nil))) .nil)))) (.cons (.ret (.lst (.cons (.var 3) (.cons (.pr .add (.cons (.pr .add (.cons (.pr .add (.cons (.pr .mul (.cons (.pr .mod (.cons (.pr .abs (.cons (.var 2) .nil)) (.cons (.int 1152921504606846883) .nil))) (.cons (.int 53) .nil))) (.cons (.pr .mul (.cons (.int 1019) (.cons (.var 1) .nil))) .nil))) (.cons (.pr .mul (.cons (.int 41) (.cons (.pr .int1 (.cons (.pr (.cmp .lt) (.cons (.var 2) (.cons (.int 0) .nil))) .nil)) .nil))) .nil))) (.cons (.int 17) .nil))) (.cons (.int 0) .nil))))) .nil)))
def d27 : Df := ⟨2, 4, [true, true], b27⟩
/-- _law_roll(dice, total): 0 dice 1 total 2 found 3 one 4 two -/
def b28 : Ss := (.cons (.ite (.pr (.cmp .gt) (.cons (.pr .idx (.cons (.var 0) (.cons (.int 0) .nil))) (.cons (.int 0) .nil))) (.cons (.asg 2 (.pr .mod (.cons (.pr .int1 (.cons (.pr .idx (.cons (.var 0) (.cons (.int 0) .nil))) .nil)) (.cons (.var 1) .nil)))) (.cons (.setix 0 (.int 0) (.pr .fdiv (.cons (.pr .idx (.cons (.var 0) (.cons (.int 0) .nil))) (.cons (.var 1) .nil)))) (.cons (.ret (.mv 2)) .nil))) .nil) (.cons (.setix 0 (.int 2) (.pr .add (.cons (.pr .idx (.cons (.var 0) (.cons (.int 2) .nil))) (.cons (.int 1) .nil)))) (.cons (.asg 3 (.pr .mod (.cons (.pr .int1 (.cons (.pr .add (.cons (.pr .idx (.cons (.var 0) (.cons (.int 1) .nil))) (.cons (.pr .mul (.cons (.int 49979687) (.cons (.pr .idx (.cons (.var 0) (.cons (.int 2) .nil))) .nil))) .nil))) .nil)) (.cons (.int 2305843009213693613) .nil)))) (.cons (.asg 4 (.pr .add (.cons (.pr .mul (.cons (.pr .mod (.cons (.pr .int1 (.cons (.pr .add (.cons (.pr .mul (.cons (.var 3) (.cons (.var 3) .nil))) (.cons (.pr .mul (.cons (.int 89) (.cons (.pr .idx (.cons (.var 0) (.cons (.int 2) .nil))) .nil))) .nil))) .nil)) (.cons (.int 1152921504606846697) .nil))) (.cons (.int 6972593) .nil))) (.cons (.var 3) .nil)))) (.cons (.ret (.pr .mod (.cons (.pr .int1 (.cons (.pr .fdiv (.cons (.var 4) (.cons (.int 131072) .nil))) .nil)) (.cons (.var 1) .nil)))) .nil)))))
def d28 : Df := ⟨2, 5, [true, true], b28⟩
/-- _law_pick(dice, items): 0 dice 1 items -/
def b29 : Ss := (.cons (.ret (.pr .idx (.cons (.var 1) (.cons (.call 28 (.cons (.var 0) (.cons (.pr .len (.cons (.var 1) .nil)) .nil))) .nil)))) .nil)
def d29 : Df := ⟨2, 2, [true, true], b29⟩
/-- _law_mixed(dice, items): 0 dice 1 items 2 left 3 found 4 turn -/
def b30 : Ss := (.cons (.par [2, 3] (.cons (.pr .list (.cons (.var 1) .nil)) (.cons (.lst .nil) .nil))) (.cons (.for_ (.name 4) .rg1 (.cons (.pr .len (.cons (.var 1) .nil)) .nil) (.cons (.app 3 (.popAt 2 (.call 28 (.cons (.var 0) (.cons (.pr .len (.cons (.var 2) .nil)) .nil))))) .nil)) (.cons (.ret (.mv 3)) .nil)))
def d30 : Df := ⟨2, 5, [true, true], b30⟩
/-- _law_deed(places, steps): 0 places 1 steps 2 lies 3 one 4 other 5 owner 6 found 7 place -/
def b31 : Ss := (.cons (.asg 2 (.pr .rg1 (.cons (.var 0) .nil))) (.cons (.for_ (.tup [(.name 3), (.name 4), (.name 5)]) .seq (.cons (.var 1) .nil) (.cons (.swap 2 (.var 3) 2 (.var 4) (.pr .idx (.cons (.var 2) (.cons (.var 4) .nil))) (.pr .idx (.cons (.var 2) (.cons (.var 3) .nil)))) .nil)) (.cons (.asg 6 (.pr .mul (.cons (.lst (.cons (.int 0) .nil)) (.cons (.var 0) .nil)))) (.cons (.for_ (.name 7) .rg1 (.cons (.var 0) .nil) (.cons (.setix 6 (.pr .idx (.cons (.var 2) (.cons (.var 7) .nil))) (.var 7)) .nil)) (.cons (.ret (.pr .tuple (.cons (.var 6) .nil))) .nil)))))
def d31 : Df := ⟨2, 8, [true, true], b31⟩
/-- _law_rings(deed): 0 deed 1 found 2 known 3 place 4 ring 5 turn -/
def b32 : Ss := (.cons (.par [1, 2] (.cons (.lst .nil) (.cons (.lst .nil) .nil))) (.cons (.for_ (.name 3) .rg1 (.cons (.pr .len (.cons (.var 0) .nil)) .nil) (.cons (.asg 4 (.lst .nil)) (.cons (.for_ (.name 5) .rg1 (.cons (.pr .len (.cons (.var 0) .nil)) .nil) (.cons (.ite (.pr (.cmp .isin) (.cons (.var 3) (.cons (.var 2) .nil))) (.cons .brk .nil) .nil) (.cons (.app 4 (.var 3)) (.cons (.app 2 (.var 3)) (.cons (.asg 3 (.pr .idx (.cons (.var 0) (.cons (.var 3) .nil)))) .nil))))) (.cons (.ite (.pr (.cmp .ne) (.cons (.var 4) (.cons (.lst .nil) .nil))) (.cons (.app 1 (.pr .tuple (.cons (.var 4) .nil))) .nil) .nil) .nil)))) (.cons (.ret (.mv 1)) .nil)))
def d32 : Df := ⟨1, 6, [true], b32⟩
/-- _law_owned(exchanges): 0 exchanges 1 one 2 other -/
def b33 : Ss := (.cons (.ret (.lc (.tup (.cons (.var 1) (.cons (.var 2) (.cons (.str [97]) .nil)))) (.tup [(.name 1), (.name 2)]) [1, 2] .seq (.cons (.var 0) .nil) .nil)) .nil)
def d33 : Df := ⟨1, 3, [true], b33⟩
/-- _law_tuple_deed(places, exchanges): 0 places 1 exchanges -/
def b34 : Ss := (.cons (.ret (.call 31 (.cons (.var 0) (.cons (.call 33 (.cons (.var 1) .nil)) .nil)))) .nil)
def d34 : Df := ⟨2, 2, [true, true], b34⟩
/-- _law_round(places): 0 places 1 place -/
def b35 : Ss := (.cons (.ret (.pr .tuple (.cons (.lc (.pr .mod (.cons (.pr .add (.cons (.var 1) (.cons (.int 1) .nil))) (.cons (.var 0) .nil))) (.name 1) [1] .rg1 (.cons (.var 0) .nil) .nil) .nil))) .nil)
def d35 : Df := ⟨1, 2, [true], b35⟩
/-- _law_drawn_least(dice, deed): 0 dice 1 deed 2 found 3 left 4 turn 5 ring 6 one 7 other 8 ends -/
def b36 : Ss := (.cons (.par [2, 3] (.cons (.lst .nil) (.cons (.var 1) .nil))) (.cons (.for_ (.name 4) .rg1 (.cons (.pr .sub (.cons (.pr .len (.cons (.var 1) .nil)) (.cons (.pr .len (.cons (.call 32 (.cons (.var 1) .nil)) .nil)) .nil))) .nil) (.cons (.asg 5 (.call 29 (.cons (.var 0) (.cons (.lc (.var 5) (.name 5) [5] .seq (.cons (.call 32 (.cons (.var 3) .nil)) .nil) (.cons (.pr (.cmp .gt) (.cons (.pr .len (.cons (.var 5) .nil)) (.cons (.int 1) .nil))) .nil)) .nil)))) (.cons (.unp (.tup [(.name 6), (.name 7)]) (.pr .sorted (.cons (.slc (.cons (.call 30 (.cons (.var 0) (.cons (.pr .list (.cons (.var 5) .nil)) .nil))) .nil) .nil (.cons (.int 2) .nil)) .nil))) (.cons (.app 2 (.tup (.cons (.var 6) (.cons (.var 7) .nil)))) (.cons (.asg 8 (.pr .list (.cons (.var 3) .nil))) (.cons (.swap 8 (.var 6) 8 (.var 7) (.pr .idx (.cons (.var 3) (.cons (.var 7) .nil))) (.pr .idx (.cons (.var 3) (.cons (.var 6) .nil)))) (.cons (.asg 3 (.pr .tuple (.cons (.var 8) .nil))) .nil))))))) (.cons (.ret (.pr .tuple (.cons (.var 2) .nil))) .nil)))
def d36 : Df := ⟨2, 9, [true, true], b36⟩
/-- _law_least(deed): 0 deed -/
def b37 : Ss := (.cons (.ret (.pr .sub (.cons (.pr .len (.cons (.var 0) .nil)) (.cons (.pr .len (.cons (.call 32 (.cons (.var 0) .nil)) .nil)) .nil)))) .nil)
def d37 : Df := ⟨1, 1, [true], b37⟩
/-- _law_place_ring(deed, place): 0 deed 1 place 2 found 3 turn -/
def b38 : Ss := (.cons (.asg 2 (.lst (.cons (.var 1) .nil))) (.cons (.for_ (.name 3) .rg1 (.cons (.pr .len (.cons (.var 0) .nil)) .nil) (.cons (.ite (.pr (.cmp .eq) (.cons (.pr .idx (.cons (.var 0) (.cons (.pr .idx (.cons (.var 2) (.cons (.pr .neg (.cons (.int 1) .nil)) .nil))) .nil))) (.cons (.var 1) .nil))) (.cons .brk .nil) .nil) (.cons (.app 2 (.pr .idx (.cons (.var 0) (.cons (.pr .idx (.cons (.var 2) (.cons (.pr .neg (.cons (.int 1) .nil)) .nil))) .nil)))) .nil))) (.cons (.ret (.mv 2)) .nil)))
def d38 : Df := ⟨2, 4, [true, true], b38⟩
/-- _law_do_meet(one, other, home): 0 one 1 other 2 home 3 marks 4 changes 5 place 6 at -/
def b39 : Ss := (.cons (.asg 3 (.lc (.pr (.cmp .isin) (.cons (.var 5) (.cons (.var 0) .nil))) (.name 5) [5] .seq (.cons (.var 2) .nil) (.cons (.or (.pr (.cmp .isin) (.cons (.var 5) (.cons (.var 0) .nil))) (.pr (.cmp .isin) (.cons (.var 5) (.cons (.var 1) .nil)))) .nil))) (.cons (.asg 4 (.lc (.var 6) (.name 6) [6] .rg1 (.cons (.pr .len (.cons (.var 3) .nil)) .nil) (.cons (.pr (.cmp .ne) (.cons (.pr .idx (.cons (.var 3) (.cons (.var 6) .nil))) (.cons (.pr .idx (.cons (.var 3) (.cons (.pr .sub (.cons (.var 6) (.cons (.int 1) .nil))) .nil))) .nil))) .nil))) (.cons (.ret (.pr (.cmp .gt) (.cons (.pr .len (.cons (.var 4) .nil)) (.cons (.int 2) .nil)))) .nil)))
def d39 : Df := ⟨3, 7, [true, true, true], b39⟩
/-- _law_looks_right(inner, whole): 0 inner 1 whole 2 rings 3 at 4 ring 5 home 6 place 7 other -/
def b40 : Ss := (.cons (.asg 2 (.call 32 (.cons (.var 0) .nil))) (.cons (.for_ (.tup [(.name 3), (.name 4)]) .enum (.cons (.var 2) .nil) (.cons (.asg 5 (.call 38 (.cons (.var 1) (.cons (.pr .idx (.cons (.var 4) (.cons (.int 0) .nil))) .nil)))) (.cons (.ite (.pr (.cmp .ne) (.cons (.lc (.var 6) (.name 6) [6] .seq (.cons (.var 5) .nil) (.cons (.pr (.cmp .isin) (.cons (.var 6) (.cons (.var 4) .nil))) .nil)) (.cons (.pr .list (.cons (.var 4) .nil)) .nil))) (.cons (.ret (.bl false)) .nil) .nil) (.cons (.ite (.pr (.cmp .ne) (.cons (.lc (.var 7) (.name 7) [7] .seq (.cons (.slc (.cons (.var 2) .nil) .nil (.cons (.var 3) .nil)) .nil) (.cons (.and (.pr (.cmp .isin) (.cons (.pr .idx (.cons (.var 7) (.cons (.int 0) .nil))) (.cons (.var 5) .nil))) (.call 39 (.cons (.var 4) (.cons (.var 7) (.cons (.var 5) .nil))))) .nil)) (.cons (.lst .nil) .nil))) (.cons (.ret (.bl false)) .nil) .nil) .nil)))) (.cons (.ret (.bl true)) .nil)))
def d40 : Df := ⟨2, 8, [true, true], b40⟩
/-- _law_right(dice, inner, whole): 0 dice 1 inner 2 whole 3 rest 4 due 5 place -/
def b41 : Ss := (.cons (.asg 3 (.pr .tuple (.cons (.call 17 (.cons (.var 1) (.cons (.var 2) .nil))) .nil))) (.cons (.ite (.or (.pr (.cmp .ne) (.cons (.lc (.pr .idx (.cons (.var 3) (.cons (.pr .idx (.cons (.var 1) (.cons (.var 5) .nil))) .nil))) (.name 5) [5] .rg1 (.cons (.pr .len (.cons (.var 2) .nil)) .nil) .nil) (.cons (.pr .list (.cons (.var 2) .nil)) .nil))) (.pr (.cmp .ne) (.cons (.call 9 (.cons (.var 1) (.cons (.var 3) .nil))) (.cons (.var 2) .nil)))) (.cons (.ret (.bl false)) .nil) .nil) (.cons (.asg 4 (.pr (.cmp .eq) (.cons (.pr .add (.cons (.call 37 (.cons (.var 1) .nil)) (.cons (.call 37 (.cons (.var 3) .nil)) .nil))) (.cons (.call 37 (.cons (.var 2) .nil)) .nil)))) (.cons (.ite (.or (.pr (.cmp .ne) (.cons (.var 4) (.cons (.call 40 (.cons (.var 1) (.cons (.var 2) .nil))) .nil))) (.pr (.cmp .ne) (.cons (.pr .repr (.cons (.call 19 (.cons (.var 1) (.cons (.var 2) .nil))) .nil)) (.cons (.pr .repr (.cons (.var 4) .nil)) .nil)))) (.cons (.ret (.bl false)) .nil) .nil) (.cons (.ite (.or (.pr (.cmp .ne) (.cons (.pr (.cmp .is) (.cons (.call 26 (.cons (.var 1) (.cons (.var 2) .nil))) (.cons .non .nil))) (.cons (.var 4) .nil))) (.pr (.cmp .ne) (.cons (.call 19 (.cons (.var 3) (.cons (.var 2) .nil))) (.cons (.var 4) .nil)))) (.cons (.ret (.bl false)) .nil) .nil) (.cons (.ret (.pr (.cmp .eq) (.cons (.call 19 (.cons (.call 11 (.cons (.var 1) .nil)) (.cons (.call 11 (.cons (.var 2) .nil)) .nil))) (.cons (.var 4) .nil)))) .nil))))))
def d41 : Df := ⟨3, 6, [true, true, true], b41⟩
/-- _law_first_part(dice, whole): 0 dice 1 whole 2 some -/
def b42 : Ss := (.cons (.asg 2 (.call 36 (.cons (.var 0) (.cons (.var 1) .nil)))) (.cons (.ret (.call 34 (.cons (.pr .len (.cons (.var 1) .nil)) (.cons (.slc (.cons (.var 2) .nil) .nil (.cons (.call 28 (.cons (.var 0) (.cons (.pr .add (.cons (.pr .len (.cons (.var 2) .nil)) (.cons (.int 1) .nil))) .nil))) .nil)) .nil)))) .nil))
def d42 : Df := ⟨2, 3, [true, true], b42⟩
/-- law(script): 0 script 1 spot 2 dice 3 turn 4 places 5 whole 6 inner 7 least 8 ends 9 one 10 other -/
def b43 : Ss := (.cons (.for_ (.name 1) .rg1 (.cons (.pr .max2 (.cons (.int 1) (.cons (.pr .min2 (.cons (.int 5) (.cons (.pr .len (.cons (.var 0) .nil)) .nil))) .nil))) .nil) (.cons (.asg 2 (.call 27 (.cons (.var 0) (.cons (.var 1) .nil)))) (.cons (.for_ (.name 3) .rg1 (.cons (.int 4) .nil) (.cons (.asg 4 (.call 29 (.cons (.var 2) (.cons (.lst (.cons (.pr .add (.cons (.int 1) (.cons (.call 28 (.cons (.var 2) (.cons (.int 7) .nil))) .nil))) (.cons (.int 4) (.cons (.int 5) (.cons (.int 12) .nil))))) .nil)))) (.cons (.par [5, 6] (.cons (.pr .tuple (.cons (.call 30 (.cons (.var 2) (.cons (.pr .rg1 (.cons (.var 4) .nil)) .nil))) .nil)) (.cons (.pr .tuple (.cons (.call 30 (.cons (.var 2) (.cons (.pr .rg1 (.cons (.var 4) .nil)) .nil))) .nil)) .nil))) (.cons (.ite (.not (.call 41 (.cons (.var 2) (.cons (.var 6) (.cons (.var 5) .nil))))) (.cons (.ret (.bl false)) .nil) .nil) (.cons (.ite (.pr (.cmp .eq) (.cons (.pr .mod (.cons (.var 3) (.cons (.int 2) .nil))) (.cons (.int 0) .nil))) (.cons (.asg 5 (.call 35 (.cons (.var 4) .nil))) .nil) .nil) (.cons (.asg 6 (.call 42 (.cons (.var 2) (.cons (.var 5) .nil)))) (.cons (.ite (.or (.not (.call 41 (.cons (.var 2) (.cons (.var 6) (.cons (.var 5) .nil))))) (.pr (.cmp .isnot) (.cons (.call 19 (.cons (.var 6) (.cons (.var 5) .nil))) (.cons (.bl true) .nil)))) (.cons (.ret (.bl false)) .nil) .nil) (.cons (.asg 7 (.call 42 (.cons (.var 2) (.cons (.var 6) .nil)))) (.cons (.ite (.or (.pr (.cmp .isnot) (.cons (.call 19 (.cons (.var 7) (.cons (.var 6) .nil))) (.cons (.bl true) .nil))) (.pr (.cmp .isnot) (.cons (.call 19 (.cons (.var 7) (.cons (.var 5) .nil))) (.cons (.bl true) .nil)))) (.cons (.ret (.bl false)) .nil) .nil) (.cons (.asg 8 (.pr .list (.cons (.var 6) .nil))) (.cons (.par [9, 10] (.cons (.call 28 (.cons (.var 2) (.cons (.var 4) .nil))) (.cons (.call 28 (.cons (.var 2) (.cons (.var 4) .nil))) .nil))) (.cons (.swap 8 (.var 9) 8 (.var 10) (.pr .idx (.cons (.var 8) (.cons (.var 10) .nil))) (.pr .idx (.cons (.var 8) (.cons (.var 9) .nil)))) (.cons (.ite (.not (.call 41 (.cons (.var 2) (.cons (.pr .tuple (.cons (.var 8) .nil)) (.cons (.var 5) .nil))))) (.cons (.ret (.bl false)) .nil) .nil) .nil))))))))))))) .nil))) (.cons (.ret (.and (.pr (.cmp .is) (.cons (.call 19 (.cons (.tup (.cons (.int 2) (.cons (.int 3) (.cons (.int 0) (.cons (.int 1) .nil))))) (.cons (.tup (.cons (.int 1) (.cons (.int 2) (.cons (.int 3) (.cons (.int 0) .nil))))) .nil))) (.cons (.bl false) .nil))) (.pr (.cmp .is) (.cons (.call 19 (.cons (.tup (.cons (.int 1) (.cons (.int 0) (.cons (.int 3) (.cons (.int 2) .nil))))) (.cons (.tup (.cons (.int 1) (.cons (.int 2) (.cons (.int 3) (.cons (.int 0) .nil))))) .nil))) (.cons (.bl true) .nil))))) .nil))
def d43 : Df := ⟨1, 11, [true], b43⟩
def P : Prog
  | 0 => some d0
  | 1 => some d1
  | 2 => some d2
  | 3 => some d3
  | 4 => some d4
  | 5 => some d5
  | 6 => some d6
  | 7 => some d7
  | 8 => some d8
  | 9 => some d9
  | 10 => some d10
  | 11 => some d11
  | 12 => some d12
  | 13 => some d13
  | 14 => some d14
  | 15 => some d15
  | 16 => some d16
  | 17 => some d17
  | 18 => some d18
  | 19 => some d19
  | 20 => some d20
  | 21 => some d21
  | 22 => some d22
  | 23 => some d23
  | 24 => some d24
  | 25 => some d25
  | 26 => some d26
  | 27 => some d27
  | 28 => some d28
  | 29 => some d29
  | 30 => some d30
  | 31 => some d31
  | 32 => some d32
  | 33 => some d33
  | 34 => some d34
  | 35 => some d35
  | 36 => some d36
  | 37 => some d37
  | 38 => some d38
  | 39 => some d39
  | 40 => some d40
  | 41 => some d41
  | 42 => some d42
  | 43 => some d43
  | _ => none
def fnT : List (PySem.Str × Nat) := [(PySem.Str.ofString "is_integer", 0), (PySem.Str.ofString "is_count", 1), (PySem.Str.ofString "is_order", 2), (PySem.Str.ofString "is_deed", 3), (PySem.Str.ofString "require_deed", 14), (PySem.Str.ofString "require_deed_deeds", 4), (PySem.Str.ofString "require_same", 5), (PySem.Str.ofString "ring_list", 6), (PySem.Str.ofString "rings_of", 7), (PySem.Str.ofString "done_behind", 8), (PySem.Str.ofString "behind", 9), (PySem.Str.ofString "taken_back", 10), (PySem.Str.ofString "back_of", 11), (PySem.Str.ofString "least_steps_of", 12), (PySem.Str.ofString "least_steps", 13), (PySem.Str.ofString "require_deed_between", 14), (PySem.Str.ofString "require_both", 15), (PySem.Str.ofString "rest_between", 16), (PySem.Str.ofString "rest_of", 17), (PySem.Str.ofString "is_inner", 18), (PySem.Str.ofString "lies_in", 19), (PySem.Str.ofString "ring_with", 20), (PySem.Str.ofString "apart_reason", 21), (PySem.Str.ofString "round_reason", 22), (PySem.Str.ofString "cross_reason", 23), (PySem.Str.ofString "crossing", 24), (PySem.Str.ofString "reason_for", 25), (PySem.Str.ofString "any_apartness", 26), (PySem.Str.ofString "_law_dice", 27), (PySem.Str.ofString "_law_roll", 28), (PySem.Str.ofString "_law_pick", 29), (PySem.Str.ofString "_law_mixed", 30), (PySem.Str.ofString "_law_deed", 31), (PySem.Str.ofString "_law_rings", 32), (PySem.Str.ofString "_law_owned", 33), (PySem.Str.ofString "_law_tuple_deed", 34), (PySem.Str.ofString "_law_round", 35), (PySem.Str.ofString "_law_drawn_least", 36), (PySem.Str.ofString "_law_least", 37), (PySem.Str.ofString "_law_place_ring", 38), (PySem.Str.ofString "_law_do_meet", 39), (PySem.Str.ofString "_law_looks_right", 40), (PySem.Str.ofString "_law_right", 41), (PySem.Str.ofString "_law_first_part", 42), (PySem.Str.ofString "law", 43)]
def conT : List (PySem.Str × T) := [(PySem.Str.ofString "APART", (.str [97, 112, 97, 114, 116])), (PySem.Str.ofString "CROSS", (.str [99, 114, 111, 115, 115])), (PySem.Str.ofString "LIMIT", (.int 100000000000000000000000000000000000000000000000000000000000000000000000000000000000000000000000000000000000000000000000000000000000000000000000000000000000000000000000000000000000000000000000000000000)), (PySem.Str.ofString "MAX_PLACES", (.int 12)), (PySem.Str.ofString "ROUND", (.str [114, 111, 117, 110, 100]))]
def bltT : List PySem.Str := ["abs", "all", "bool", "enumerate", "int", "isinstance", "len", "list", "max", "min", "range", "repr", "sorted", "tuple"]
abbrev nm : Nm := nmOf fnT conT bltT
end K91
end
section
namespace K91
open Ev
theorem pk0 : (P 0).elim [] (fun d : Df => d.keep) = [true] := rfl
theorem pk1 : (P 1).elim [] (fun d : Df => d.keep) = [true] := rfl
theorem pk2 : (P 2).elim [] (fun d : Df => d.keep) = [true, true] := rfl
theorem pk3 : (P 3).elim [] (fun d : Df => d.keep) = [true] := rfl
theorem pk4 : (P 4).elim [] (fun d : Df => d.keep) = [true] := rfl
theorem pk5 : (P 5).elim [] (fun d : Df => d.keep) = [true, true] := rfl
theorem pk6 : (P 6).elim [] (fun d : Df => d.keep) = [true] := rfl
theorem pk7 : (P 7).elim [] (fun d : Df => d.keep) = [true] := rfl
theorem pk8 : (P 8).elim [] (fun d : Df => d.keep) = [true, true] := rfl
theorem pk9 : (P 9).elim [] (fun d : Df => d.keep) = [true, true] := rfl
theorem pk10 : (P 10).elim [] (fun d : Df => d.keep) = [true] := rfl
theorem pk11 : (P 11).elim [] (fun d : Df => d.keep) = [true] := rfl
theorem pk12 : (P 12).elim [] (fun d : Df => d.keep) = [true] := rfl
theorem pk13 : (P 13).elim [] (fun d : Df => d.keep) = [true] := rfl
theorem pk14 : (P 14).elim [] (fun d : Df => d.keep) = [true] := rfl
theorem pk15 : (P 15).elim [] (fun d : Df => d.keep) = [true, true] := rfl
theorem pk16 : (P 16).elim [] (fun d : Df => d.keep) = [true, true] := rfl
theorem pk17 : (P 17).elim [] (fun d : Df => d.keep) = [true, true] := rfl
theorem pk18 : (P 18).elim [] (fun d : Df => d.keep) = [true, true] := rfl
theorem pk19 : (P 19).elim [] (fun d : Df => d.keep) = [true, true] := rfl
theorem pk20 : (P 20).elim [] (fun d : Df => d.keep) = [true, true] := rfl
theorem pk21 : (P 21).elim [] (fun d : Df => d.keep) = [true, true] := rfl
theorem pk22 : (P 22).elim [] (fun d : Df => d.keep) = [true, true] := rfl
theorem pk23 : (P 23).elim [] (fun d : Df => d.keep) = [true, true] := rfl
theorem pk24 : (P 24).elim [] (fun d : Df => d.keep) = [true, true, true, true] := rfl
theorem pk25 : (P 25).elim [] (fun d : Df => d.keep) = [true, true] := rfl
theorem pk26 : (P 26).elim [] (fun d : Df => d.keep) = [true, true] := rfl
theorem pk27 : (P 27).elim [] (fun d : Df => d.keep) = [true, true] := rfl
theorem pk28 : (P 28).elim [] (fun d : Df => d.keep) = [true, true] := rfl
theorem pk29 : (P 29).elim [] (fun d : Df => d.keep) = [true, true] := rfl
theorem pk30 : (P 30).elim [] (fun d : Df => d.keep) = [true, true] := rfl
theorem pk31 : (P 31).elim [] (fun d : Df => d.keep) = [true, true] := rfl
theorem pk32 : (P 32).elim [] (fun d : Df => d.keep) = [true] := rfl
theorem pk33 : (P 33).elim [] (fun d : Df => d.keep) = [true] := rfl
theorem pk34 : (P 34).elim [] (fun d : Df => d.keep) = [true, true] := rfl
theorem pk35 : (P 35).elim [] (fun d : Df => d.keep) = [true] := rfl
theorem pk36 : (P 36).elim [] (fun d : Df => d.keep) = [true, true] := rfl
theorem pk37 : (P 37).elim [] (fun d : Df => d.keep) = [true] := rfl
theorem pk38 : (P 38).elim [] (fun d : Df => d.keep) = [true, true] := rfl
theorem pk39 : (P 39).elim [] (fun d : Df => d.keep) = [true, true, true] := rfl
theorem pk40 : (P 40).elim [] (fun d : Df => d.keep) = [true, true] := rfl
theorem pk41 : (P 41).elim [] (fun d : Df => d.keep) = [true, true, true] := rfl
theorem pk42 : (P 42).elim [] (fun d : Df => d.keep) = [true, true] := rfl
theorem pk43 : (P 43).elim [] (fun d : Df => d.keep) = [true] := rfl
end K91
end
section
set_option Elab.async false
set_option maxRecDepth 100000
set_option linter.all false
/-! W91a: the walks of k91's defs, first part. -/
open Ev
namespace K91
section
variable {w k : Nat}
theorem sp0 (h : 1 ≤ k) {i : Int} (h1 : 0 ≤ i) (h2 : i < 1000) : callK P w k 0 [.int i] = .ok (.bl true) [.int i] := by
  rw [callK_eq (d := d0) h rfl]
  have e1 : (-100000000000000000000000000000000000000000000000000000000000000000000000000000000000000000000000000000000000000000000000000000000000000000000000000000000000000000000000000000000000000000000000000000000 : Int) < i := by omega
  have e2 : i < 100000000000000000000000000000000000000000000000000000000000000000000000000000000000000000000000000000000000000000000000000000000000000000000000000000000000000000000000000000000000000000000000000000000 := by omega
  simp [d0, b0, -List.filterMap_map, -List.map_map, runD, evSs, evS.eq_1, evS.eq_2, evS.eq_3, evS.eq_4, evS.eq_5, evS.eq_6, evS.eq_7, evS.eq_8, evS.eq_9, evS.eq_10, evS.eq_11, evS.eq_12, evS.eq_15, evS.eq_16, evS.eq_17, evS.eq_18, evS.eq_19, evE.eq_1, evE.eq_2, evE.eq_3, evE.eq_4, evE.eq_5, evE.eq_6, evE.eq_7, evE.eq_8, evE.eq_9, evE.eq_10, evE.eq_11, evE.eq_12, evE.eq_13, evE.eq_14, evE.eq_15, evE.eq_16, evE.eq_17, evE.eq_18, evE.eq_19, evE.eq_21, evE.eq_22, evE.eq_23, evO, evL, evI, evC, opds, Opd.get, pq_add, pq_sub, pq_mul, pq_fdiv, pq_mod, pq_pow, pq_neg, pq_idx, pq_len, pq_tuple, pq_list, pq_rg1, pq_rg2, pq_sorted, pq_abs, pq_int1, pq_max2, pq_min2, pq_all, pq_sum1, pq_lindex, pq_repr, pq_cmp, pq_isT, isData, isTy, of_some, Option.map_some, bd_ok, fl_ok, asBool, cmpT, ltT, argsOut, pNeg, callO, lend, giveBack, T.pure, eqT_int, eqT_bl, eqT_tp, eqT_lst, pLen_tp, pLen_lst, bindT, bindTs, wipeE, unwipe, len_ils, e1, e2]
theorem sp1 (h : 2 ≤ k) {i : Int} (h1 : 0 ≤ i) (h2 : i < 1000) : callK P w k 1 [.int i] = .ok (.bl true) [.int i] := by
  rw [callK_eq (d := d1) (by omega) rfl]
  have := sp0 (w := w) (k := k - 1) (by omega) (i := i) h1 h2
  simp [d1, b1, -List.filterMap_map, -List.map_map, runD, evSs, evS.eq_1, evS.eq_2, evS.eq_3, evS.eq_4, evS.eq_5, evS.eq_6, evS.eq_7, evS.eq_8, evS.eq_9, evS.eq_10, evS.eq_11, evS.eq_12, evS.eq_15, evS.eq_16, evS.eq_17, evS.eq_18, evS.eq_19, evE.eq_1, evE.eq_2, evE.eq_3, evE.eq_4, evE.eq_5, evE.eq_6, evE.eq_7, evE.eq_8, evE.eq_9, evE.eq_10, evE.eq_11, evE.eq_12, evE.eq_13, evE.eq_14, evE.eq_15, evE.eq_16, evE.eq_17, evE.eq_18, evE.eq_19, evE.eq_21, evE.eq_22, evE.eq_23, evO, evL, evI, evC, opds, Opd.get, pq_add, pq_sub, pq_mul, pq_fdiv, pq_mod, pq_pow, pq_neg, pq_idx, pq_len, pq_tuple, pq_list, pq_rg1, pq_rg2, pq_sorted, pq_abs, pq_int1, pq_max2, pq_min2, pq_all, pq_sum1, pq_lindex, pq_repr, pq_cmp, pq_isT, isData, isTy, of_some, Option.map_some, bd_ok, fl_ok, asBool, cmpT, ltT, argsOut, pNeg, callO, lend, giveBack, T.pure, eqT_int, eqT_bl, eqT_tp, eqT_lst, pLen_tp, pLen_lst, bindT, bindTs, wipeE, unwipe, len_ils, P, d0, this, h1]
theorem sp2 (h : 3 ≤ k) {p : List Nat} (d : Deed p) : callK P w k 2 [tp p, .int p.length] = .ok (.bl true) [tp p, .int p.length] := by
  rw [callK_eq (d := d2) (by omega) rfl]
  have lc := ev_lcm (fs := ⟨fun g => (P g).elim [] (·.keep), callK P w (k - 1)⟩) (e := .call 1 (.cons (.var 2) .nil)) (tg := .name 2) (own := [2]) (ik := .seq) (es := .cons (.var 0) .nil) (env := [some (tp p), some (.int p.length), none]) (env1 := [some (tp p), some (.int p.length), none]) (ts := [tp p]) (its := ils p) (fun _ => .bl true)
    (by simp [-List.filterMap_map, -List.map_map, runD, evSs, evS.eq_1, evS.eq_2, evS.eq_3, evS.eq_4, evS.eq_5, evS.eq_6, evS.eq_7, evS.eq_8, evS.eq_9, evS.eq_10, evS.eq_11, evS.eq_12, evS.eq_15, evS.eq_16, evS.eq_17, evS.eq_18, evS.eq_19, evE.eq_1, evE.eq_2, evE.eq_3, evE.eq_4, evE.eq_5, evE.eq_6, evE.eq_7, evE.eq_8, evE.eq_9, evE.eq_10, evE.eq_11, evE.eq_12, evE.eq_13, evE.eq_14, evE.eq_15, evE.eq_16, evE.eq_17, evE.eq_18, evE.eq_19, evE.eq_21, evE.eq_22, evE.eq_23, evO, evL, evI, evC, opds, Opd.get, pq_add, pq_sub, pq_mul, pq_fdiv, pq_mod, pq_pow, pq_neg, pq_idx, pq_len, pq_tuple, pq_list, pq_rg1, pq_rg2, pq_sorted, pq_abs, pq_int1, pq_max2, pq_min2, pq_all, pq_sum1, pq_lindex, pq_repr, pq_cmp, pq_isT, isData, isTy, of_some, Option.map_some, bd_ok, fl_ok, asBool, cmpT, ltT, argsOut, pNeg, callO, lend, giveBack, T.pure, eqT_int, eqT_bl, eqT_tp, eqT_lst, pLen_tp, pLen_lst, bindT, bindTs, wipeE, unwipe, len_ils]) (by simp [T.fzs, T.fz, iterT]) (by rw [List.length_map]; have := d.le; show _ ≤ 16777216; omega) (fun t ht => by
      obtain ⟨x, hx, rfl⟩ := List.mem_map.mp ht
      have := d.lt x hx
      have := d.le
      have s := sp1 (w := w) (k := k - 1) (by omega) (i := (x : Int)) (by omega) (by omega)
      refine ⟨[some (tp p), some (.int p.length), some (.int x)], ?_⟩
      simp [-List.filterMap_map, -List.map_map, runD, evSs, evS.eq_1, evS.eq_2, evS.eq_3, evS.eq_4, evS.eq_5, evS.eq_6, evS.eq_7, evS.eq_8, evS.eq_9, evS.eq_10, evS.eq_11, evS.eq_12, evS.eq_15, evS.eq_16, evS.eq_17, evS.eq_18, evS.eq_19, evE.eq_1, evE.eq_2, evE.eq_3, evE.eq_4, evE.eq_5, evE.eq_6, evE.eq_7, evE.eq_8, evE.eq_9, evE.eq_10, evE.eq_11, evE.eq_12, evE.eq_13, evE.eq_14, evE.eq_15, evE.eq_16, evE.eq_17, evE.eq_18, evE.eq_19, evE.eq_21, evE.eq_22, evE.eq_23, evO, evL, evI, evC, opds, Opd.get, pq_add, pq_sub, pq_mul, pq_fdiv, pq_mod, pq_pow, pq_neg, pq_idx, pq_len, pq_tuple, pq_list, pq_rg1, pq_rg2, pq_sorted, pq_abs, pq_int1, pq_max2, pq_min2, pq_all, pq_sum1, pq_lindex, pq_repr, pq_cmp, pq_isT, isData, isTy, of_some, Option.map_some, bd_ok, fl_ok, asBool, cmpT, ltT, argsOut, pNeg, callO, lend, giveBack, T.pure, eqT_int, eqT_bl, eqT_tp, eqT_lst, pLen_tp, pLen_lst, bindT, bindTs, wipeE, unwipe, len_ils, P, d1, s])
  have hl := d.le
  have q1 := pSorted_tp d
  have q2 := pRg1_nat (n := p.length) (by omega)
  have q3 := pAll_map true (ils p)
  simp [d2, b2, -List.filterMap_map, -List.map_map, runD, evSs, evS.eq_1, evS.eq_2, evS.eq_3, evS.eq_4, evS.eq_5, evS.eq_6, evS.eq_7, evS.eq_8, evS.eq_9, evS.eq_10, evS.eq_11, evS.eq_12, evS.eq_15, evS.eq_16, evS.eq_17, evS.eq_18, evS.eq_19, evE.eq_1, evE.eq_2, evE.eq_3, evE.eq_4, evE.eq_5, evE.eq_6, evE.eq_7, evE.eq_8, evE.eq_9, evE.eq_10, evE.eq_11, evE.eq_12, evE.eq_13, evE.eq_14, evE.eq_15, evE.eq_16, evE.eq_17, evE.eq_18, evE.eq_19, evE.eq_21, evE.eq_22, evE.eq_23, evO, evL, evI, evC, opds, Opd.get, pq_add, pq_sub, pq_mul, pq_fdiv, pq_mod, pq_pow, pq_neg, pq_idx, pq_len, pq_tuple, pq_list, pq_rg1, pq_rg2, pq_sorted, pq_abs, pq_int1, pq_max2, pq_min2, pq_all, pq_sum1, pq_lindex, pq_repr, pq_cmp, pq_isT, isData, isTy, of_some, Option.map_some, bd_ok, fl_ok, asBool, cmpT, ltT, argsOut, pNeg, callO, lend, giveBack, T.pure, eqT_int, eqT_bl, eqT_tp, eqT_lst, pLen_tp, pLen_lst, bindT, bindTs, wipeE, unwipe, len_ils, lc, q1, q2, q3]
theorem sp3 (h : 4 ≤ k) {p : List Nat} (d : Deed p) (h0 : 1 ≤ p.length) : callK P w k 3 [tp p] = .ok (.bl true) [tp p] := by
  rw [callK_eq (d := d3) (by omega) rfl]
  have hl := d.le
  have s := sp2 (w := w) (k := k - 1) (by omega) d
  have e1 : decide ((p.length : Int) < 1) = false := decide_eq_false (by omega)
  have e2 : decide ((12 : Int) < p.length) = false := decide_eq_false (by omega)
  simp [d3, b3, -List.filterMap_map, -List.map_map, runD, evSs, evS.eq_1, evS.eq_2, evS.eq_3, evS.eq_4, evS.eq_5, evS.eq_6, evS.eq_7, evS.eq_8, evS.eq_9, evS.eq_10, evS.eq_11, evS.eq_12, evS.eq_15, evS.eq_16, evS.eq_17, evS.eq_18, evS.eq_19, evE.eq_1, evE.eq_2, evE.eq_3, evE.eq_4, evE.eq_5, evE.eq_6, evE.eq_7, evE.eq_8, evE.eq_9, evE.eq_10, evE.eq_11, evE.eq_12, evE.eq_13, evE.eq_14, evE.eq_15, evE.eq_16, evE.eq_17, evE.eq_18, evE.eq_19, evE.eq_21, evE.eq_22, evE.eq_23, evO, evL, evI, evC, opds, Opd.get, pq_add, pq_sub, pq_mul, pq_fdiv, pq_mod, pq_pow, pq_neg, pq_idx, pq_len, pq_tuple, pq_list, pq_rg1, pq_rg2, pq_sorted, pq_abs, pq_int1, pq_max2, pq_min2, pq_all, pq_sum1, pq_lindex, pq_repr, pq_cmp, pq_isT, isData, isTy, of_some, Option.map_some, bd_ok, fl_ok, asBool, cmpT, ltT, argsOut, pNeg, callO, lend, giveBack, T.pure, eqT_int, eqT_bl, eqT_tp, eqT_lst, pLen_tp, pLen_lst, bindT, bindTs, wipeE, unwipe, len_ils, P, d2, s, e1, e2]
theorem sp4 (h : 5 ≤ k) {p : List Nat} (d : Deed p) (h0 : 1 ≤ p.length) : callK P w k 4 [tp p] = .ok .non [tp p] := by
  rw [callK_eq (d := d4) (by omega) rfl]
  have s := sp3 (w := w) (k := k - 1) (by omega) d h0
  simp [d4, b4, -List.filterMap_map, -List.map_map, runD, evSs, evS.eq_1, evS.eq_2, evS.eq_3, evS.eq_4, evS.eq_5, evS.eq_6, evS.eq_7, evS.eq_8, evS.eq_9, evS.eq_10, evS.eq_11, evS.eq_12, evS.eq_15, evS.eq_16, evS.eq_17, evS.eq_18, evS.eq_19, evE.eq_1, evE.eq_2, evE.eq_3, evE.eq_4, evE.eq_5, evE.eq_6, evE.eq_7, evE.eq_8, evE.eq_9, evE.eq_10, evE.eq_11, evE.eq_12, evE.eq_13, evE.eq_14, evE.eq_15, evE.eq_16, evE.eq_17, evE.eq_18, evE.eq_19, evE.eq_21, evE.eq_22, evE.eq_23, evO, evL, evI, evC, opds, Opd.get, pq_add, pq_sub, pq_mul, pq_fdiv, pq_mod, pq_pow, pq_neg, pq_idx, pq_len, pq_tuple, pq_list, pq_rg1, pq_rg2, pq_sorted, pq_abs, pq_int1, pq_max2, pq_min2, pq_all, pq_sum1, pq_lindex, pq_repr, pq_cmp, pq_isT, isData, isTy, of_some, Option.map_some, bd_ok, fl_ok, asBool, cmpT, ltT, argsOut, pNeg, callO, lend, giveBack, T.pure, eqT_int, eqT_bl, eqT_tp, eqT_lst, pLen_tp, pLen_lst, bindT, bindTs, wipeE, unwipe, len_ils, P, d3, s]
theorem sp14 (h : 5 ≤ k) {p : List Nat} (d : Deed p) (h0 : 1 ≤ p.length) : callK P w k 14 [tp p] = .ok .non [tp p] := by
  rw [callK_eq (d := d14) (by omega) rfl]
  have s := sp3 (w := w) (k := k - 1) (by omega) d h0
  simp [d14, b14, -List.filterMap_map, -List.map_map, runD, evSs, evS.eq_1, evS.eq_2, evS.eq_3, evS.eq_4, evS.eq_5, evS.eq_6, evS.eq_7, evS.eq_8, evS.eq_9, evS.eq_10, evS.eq_11, evS.eq_12, evS.eq_15, evS.eq_16, evS.eq_17, evS.eq_18, evS.eq_19, evE.eq_1, evE.eq_2, evE.eq_3, evE.eq_4, evE.eq_5, evE.eq_6, evE.eq_7, evE.eq_8, evE.eq_9, evE.eq_10, evE.eq_11, evE.eq_12, evE.eq_13, evE.eq_14, evE.eq_15, evE.eq_16, evE.eq_17, evE.eq_18, evE.eq_19, evE.eq_21, evE.eq_22, evE.eq_23, evO, evL, evI, evC, opds, Opd.get, pq_add, pq_sub, pq_mul, pq_fdiv, pq_mod, pq_pow, pq_neg, pq_idx, pq_len, pq_tuple, pq_list, pq_rg1, pq_rg2, pq_sorted, pq_abs, pq_int1, pq_max2, pq_min2, pq_all, pq_sum1, pq_lindex, pq_repr, pq_cmp, pq_isT, isData, isTy, of_some, Option.map_some, bd_ok, fl_ok, asBool, cmpT, ltT, argsOut, pNeg, callO, lend, giveBack, T.pure, eqT_int, eqT_bl, eqT_tp, eqT_lst, pLen_tp, pLen_lst, bindT, bindTs, wipeE, unwipe, len_ils, P, d3, s]
theorem sp15 (h : 6 ≤ k) {p q : List Nat} (d : Deed p) (e : Deed q) (h0 : 1 ≤ p.length) (hl : q.length = p.length) : callK P w k 15 [tp p, tp q] = .ok .non [tp p, tp q] := by
  rw [callK_eq (d := d15) (by omega) rfl]
  have s1 := sp14 (w := w) (k := k - 1) (by omega) d h0
  have s2 := sp14 (w := w) (k := k - 1) (by omega) e (by omega)
  simp [d15, b15, -List.filterMap_map, -List.map_map, runD, evSs, evS.eq_1, evS.eq_2, evS.eq_3, evS.eq_4, evS.eq_5, evS.eq_6, evS.eq_7, evS.eq_8, evS.eq_9, evS.eq_10, evS.eq_11, evS.eq_12, evS.eq_15, evS.eq_16, evS.eq_17, evS.eq_18, evS.eq_19, evE.eq_1, evE.eq_2, evE.eq_3, evE.eq_4, evE.eq_5, evE.eq_6, evE.eq_7, evE.eq_8, evE.eq_9, evE.eq_10, evE.eq_11, evE.eq_12, evE.eq_13, evE.eq_14, evE.eq_15, evE.eq_16, evE.eq_17, evE.eq_18, evE.eq_19, evE.eq_21, evE.eq_22, evE.eq_23, evO, evL, evI, evC, opds, Opd.get, pq_add, pq_sub, pq_mul, pq_fdiv, pq_mod, pq_pow, pq_neg, pq_idx, pq_len, pq_tuple, pq_list, pq_rg1, pq_rg2, pq_sorted, pq_abs, pq_int1, pq_max2, pq_min2, pq_all, pq_sum1, pq_lindex, pq_repr, pq_cmp, pq_isT, isData, isTy, of_some, Option.map_some, bd_ok, fl_ok, asBool, cmpT, ltT, argsOut, pNeg, callO, lend, giveBack, T.pure, eqT_int, eqT_bl, eqT_tp, eqT_lst, pLen_tp, pLen_lst, bindT, bindTs, wipeE, unwipe, len_ils, P, d14, s1, s2, hl]
theorem sp5 (h : 1 ≤ k) {p q : List Nat} (hl : q.length = p.length) : callK P w k 5 [tp p, tp q] = .ok .non [tp p, tp q] := by
  rw [callK_eq (d := d5) (by omega) rfl]
  simp [d5, b5, -List.filterMap_map, -List.map_map, runD, evSs, evS.eq_1, evS.eq_2, evS.eq_3, evS.eq_4, evS.eq_5, evS.eq_6, evS.eq_7, evS.eq_8, evS.eq_9, evS.eq_10, evS.eq_11, evS.eq_12, evS.eq_15, evS.eq_16, evS.eq_17, evS.eq_18, evS.eq_19, evE.eq_1, evE.eq_2, evE.eq_3, evE.eq_4, evE.eq_5, evE.eq_6, evE.eq_7, evE.eq_8, evE.eq_9, evE.eq_10, evE.eq_11, evE.eq_12, evE.eq_13, evE.eq_14, evE.eq_15, evE.eq_16, evE.eq_17, evE.eq_18, evE.eq_19, evE.eq_21, evE.eq_22, evE.eq_23, evO, evL, evI, evC, opds, Opd.get, pq_add, pq_sub, pq_mul, pq_fdiv, pq_mod, pq_pow, pq_neg, pq_idx, pq_len, pq_tuple, pq_list, pq_rg1, pq_rg2, pq_sorted, pq_abs, pq_int1, pq_max2, pq_min2, pq_all, pq_sum1, pq_lindex, pq_repr, pq_cmp, pq_isT, isData, isTy, of_some, Option.map_some, bd_ok, fl_ok, asBool, cmpT, ltT, argsOut, pNeg, callO, lend, giveBack, T.pure, eqT_int, eqT_bl, eqT_tp, eqT_lst, pLen_tp, pLen_lst, bindT, bindTs, wipeE, unwipe, len_ils, hl]
/-- a function of places -/
def hN (f : Nat → Nat) : T → T
  | .int i => .int (f i.toNat)
  | _ => .non
theorem map_hN (f : Nat → Nat) (p : List Nat) : (ils p).map (hN f) = ils (p.map f) := by
  rw [List.map_map]
  show _ = (p.map f).map _
  rw [List.map_map]
  rfl
/-- q behind p -/
def thn (p q : List Nat) : List Nat := p.map fun x => q.getD x 0
theorem sp8 (h : 1 ≤ k) {p q : List Nat} (hp : ∀ x ∈ p, x < q.length) (hl : p.length ≤ 12) : callK P w k 8 [tp p, tp q] = .ok (tp (thn p q)) [tp p, tp q] := by
  rw [callK_eq (d := d8) (by omega) rfl]
  have lc := ev_lcm (fs := ⟨fun g => (P g).elim [] (·.keep), callK P w (k - 1)⟩) (e := .pr .idx (.cons (.var 1) (.cons (.var 2) .nil))) (tg := .name 2) (own := [2]) (ik := .seq) (es := .cons (.var 0) .nil) (env := [some (tp p), some (tp q), none]) (env1 := [some (tp p), some (tp q), none]) (ts := [tp p]) (its := ils p) (hN fun x => q.getD x 0)
    (by simp [-List.filterMap_map, -List.map_map, runD, evSs, evS.eq_1, evS.eq_2, evS.eq_3, evS.eq_4, evS.eq_5, evS.eq_6, evS.eq_7, evS.eq_8, evS.eq_9, evS.eq_10, evS.eq_11, evS.eq_12, evS.eq_15, evS.eq_16, evS.eq_17, evS.eq_18, evS.eq_19, evE.eq_1, evE.eq_2, evE.eq_3, evE.eq_4, evE.eq_5, evE.eq_6, evE.eq_7, evE.eq_8, evE.eq_9, evE.eq_10, evE.eq_11, evE.eq_12, evE.eq_13, evE.eq_14, evE.eq_15, evE.eq_16, evE.eq_17, evE.eq_18, evE.eq_19, evE.eq_21, evE.eq_22, evE.eq_23, evO, evL, evI, evC, opds, Opd.get, pq_add, pq_sub, pq_mul, pq_fdiv, pq_mod, pq_pow, pq_neg, pq_idx, pq_len, pq_tuple, pq_list, pq_rg1, pq_rg2, pq_sorted, pq_abs, pq_int1, pq_max2, pq_min2, pq_all, pq_sum1, pq_lindex, pq_repr, pq_cmp, pq_isT, isData, isTy, of_some, Option.map_some, bd_ok, fl_ok, asBool, cmpT, ltT, argsOut, pNeg, callO, lend, giveBack, T.pure, eqT_int, eqT_bl, eqT_tp, eqT_lst, pLen_tp, pLen_lst, bindT, bindTs, wipeE, unwipe, len_ils]) (by simp [T.fzs, T.fz, iterT]) (by rw [List.length_map]; show _ ≤ 16777216; omega) (fun t ht => by
      obtain ⟨x, hx, rfl⟩ := List.mem_map.mp ht
      have h1 := hp x hx
      have h2 := pIdx_tp h1
      have h3 : q.getD x 0 = q[x] := by rw [List.getD_eq_getElem?_getD, List.getElem?_eq_getElem h1]; rfl
      refine ⟨[some (tp p), some (tp q), some (.int x)], ?_⟩
      simp [-List.filterMap_map, -List.map_map, runD, evSs, evS.eq_1, evS.eq_2, evS.eq_3, evS.eq_4, evS.eq_5, evS.eq_6, evS.eq_7, evS.eq_8, evS.eq_9, evS.eq_10, evS.eq_11, evS.eq_12, evS.eq_15, evS.eq_16, evS.eq_17, evS.eq_18, evS.eq_19, evE.eq_1, evE.eq_2, evE.eq_3, evE.eq_4, evE.eq_5, evE.eq_6, evE.eq_7, evE.eq_8, evE.eq_9, evE.eq_10, evE.eq_11, evE.eq_12, evE.eq_13, evE.eq_14, evE.eq_15, evE.eq_16, evE.eq_17, evE.eq_18, evE.eq_19, evE.eq_21, evE.eq_22, evE.eq_23, evO, evL, evI, evC, opds, Opd.get, pq_add, pq_sub, pq_mul, pq_fdiv, pq_mod, pq_pow, pq_neg, pq_idx, pq_len, pq_tuple, pq_list, pq_rg1, pq_rg2, pq_sorted, pq_abs, pq_int1, pq_max2, pq_min2, pq_all, pq_sum1, pq_lindex, pq_repr, pq_cmp, pq_isT, isData, isTy, of_some, Option.map_some, bd_ok, fl_ok, asBool, cmpT, ltT, argsOut, pNeg, callO, lend, giveBack, T.pure, eqT_int, eqT_bl, eqT_tp, eqT_lst, pLen_tp, pLen_lst, bindT, bindTs, wipeE, unwipe, len_ils, h2, hN, h1])
  rw [map_hN, show (p.map fun x => q.getD x 0) = thn p q from rfl] at lc
  have q1 := pTuple_lst true (thn p q)
  simp [d8, b8, -List.filterMap_map, -List.map_map, runD, evSs, evS.eq_1, evS.eq_2, evS.eq_3, evS.eq_4, evS.eq_5, evS.eq_6, evS.eq_7, evS.eq_8, evS.eq_9, evS.eq_10, evS.eq_11, evS.eq_12, evS.eq_15, evS.eq_16, evS.eq_17, evS.eq_18, evS.eq_19, evE.eq_1, evE.eq_2, evE.eq_3, evE.eq_4, evE.eq_5, evE.eq_6, evE.eq_7, evE.eq_8, evE.eq_9, evE.eq_10, evE.eq_11, evE.eq_12, evE.eq_13, evE.eq_14, evE.eq_15, evE.eq_16, evE.eq_17, evE.eq_18, evE.eq_19, evE.eq_21, evE.eq_22, evE.eq_23, evO, evL, evI, evC, opds, Opd.get, pq_add, pq_sub, pq_mul, pq_fdiv, pq_mod, pq_pow, pq_neg, pq_idx, pq_len, pq_tuple, pq_list, pq_rg1, pq_rg2, pq_sorted, pq_abs, pq_int1, pq_max2, pq_min2, pq_all, pq_sum1, pq_lindex, pq_repr, pq_cmp, pq_isT, isData, isTy, of_some, Option.map_some, bd_ok, fl_ok, asBool, cmpT, ltT, argsOut, pNeg, callO, lend, giveBack, T.pure, eqT_int, eqT_bl, eqT_tp, eqT_lst, pLen_tp, pLen_lst, bindT, bindTs, wipeE, unwipe, len_ils, lc, q1]
theorem sp9 (h : 6 ≤ k) {p q : List Nat} (d : Deed p) (e : Deed q) (h0 : 1 ≤ p.length) (hl : q.length = p.length) : callK P w k 9 [tp p, tp q] = .ok (tp (thn p q)) [tp p, tp q] := by
  rw [callK_eq (d := d9) (by omega) rfl]
  have s1 := sp4 (w := w) (k := k - 1) (by omega) d h0
  have s2 := sp4 (w := w) (k := k - 1) (by omega) e (by omega)
  have s3 := sp5 (w := w) (k := k - 1) (by omega) hl
  have s4 := sp8 (w := w) (k := k - 1) (by omega) (p := p) (q := q) (fun x hx => by rw [hl]; exact d.lt x hx) d.le
  simp [d9, b9, -List.filterMap_map, -List.map_map, runD, evSs, evS.eq_1, evS.eq_2, evS.eq_3, evS.eq_4, evS.eq_5, evS.eq_6, evS.eq_7, evS.eq_8, evS.eq_9, evS.eq_10, evS.eq_11, evS.eq_12, evS.eq_15, evS.eq_16, evS.eq_17, evS.eq_18, evS.eq_19, evE.eq_1, evE.eq_2, evE.eq_3, evE.eq_4, evE.eq_5, evE.eq_6, evE.eq_7, evE.eq_8, evE.eq_9, evE.eq_10, evE.eq_11, evE.eq_12, evE.eq_13, evE.eq_14, evE.eq_15, evE.eq_16, evE.eq_17, evE.eq_18, evE.eq_19, evE.eq_21, evE.eq_22, evE.eq_23, evO, evL, evI, evC, opds, Opd.get, pq_add, pq_sub, pq_mul, pq_fdiv, pq_mod, pq_pow, pq_neg, pq_idx, pq_len, pq_tuple, pq_list, pq_rg1, pq_rg2, pq_sorted, pq_abs, pq_int1, pq_max2, pq_min2, pq_all, pq_sum1, pq_lindex, pq_repr, pq_cmp, pq_isT, isData, isTy, of_some, Option.map_some, bd_ok, fl_ok, asBool, cmpT, ltT, argsOut, pNeg, callO, lend, giveBack, T.pure, eqT_int, eqT_bl, eqT_tp, eqT_lst, pLen_tp, pLen_lst, bindT, bindTs, wipeE, unwipe, len_ils, P, d4, d5, d8, s1, s2, s3, s4]
end
end K91
end
section
set_option Elab.async false
set_option maxRecDepth 100000
set_option linter.all false
/-! W91b: the walks of k91's defs, second part. -/
open Ev
namespace K91
section
variable {w k : Nat}
theorem nodup_at {p : List Nat} (nd : p.Nodup) {i j : Nat} {hi : i < p.length} {hj : j < p.length} (e : p[i] = p[j]) : i = j := by
  have h1 := nd.idxOf_getElem i hi
  have h2 := nd.idxOf_getElem j hj
  rw [e, h2] at h1
  exact h1.symm
theorem sp10 (h : 1 ≤ k) {p : List Nat} (d : Deed p) : callK P w k 10 [tp p] = .ok (tp (lsOf d.pm.inv)) [tp p] := by
  refine callK_is (d := d10) rfl (by omega) rfl ?_
  have hl := d.le
  simp [-List.filterMap_map, -List.map_map, -List.map_set, -List.map_append, -List.any_map, -List.any_append, -List.all_map, -List.all_append, -List.map_take, -List.map_drop, -List.map_tail, -List.map_reverse, -List.map_dropLast, sat_nx, sat_rt, sat_bk, sat_ct, sat_if, osat_ok, Kn_at, sat_nil, sat_cons, sat_for, ForK_at, ev_lcK, LcK_t, LcK_l, LcK_lo, LcK_et, LcK_el, LcK_elo, RetK_at, NonK_at, evS.eq_1, evS.eq_2, evS.eq_3, evS.eq_4, evS.eq_5, evS.eq_6, evS.eq_7, evS.eq_8, evS.eq_9, evS.eq_10, evS.eq_11, evS.eq_12, evS.eq_15, evS.eq_16, evS.eq_17, evS.eq_18, evS.eq_19, evE.eq_1, evE.eq_2, evE.eq_3, evE.eq_4, evE.eq_5, evE.eq_6, evE.eq_7, evE.eq_8, evE.eq_9, evE.eq_10, evE.eq_11, evE.eq_12, evE.eq_13, evE.eq_14, evE.eq_15, evE.eq_16, evE.eq_17, evE.eq_18, evE.eq_19, evE.eq_21, evE.eq_22, evE.eq_23, evO, evL, evI, evC, opds, Opd.get, pq_add, pq_sub, pq_mul, pq_fdiv, pq_mod, pq_pow, pq_neg, pq_idx, pq_len, pq_tuple, pq_list, pq_rg1, pq_rg2, pq_sorted, pq_abs, pq_int1, pq_max2, pq_min2, pq_all, pq_sum1, pq_lindex, pq_repr, pq_cmp, pq_isT, isData, isTy, of_some, Option.map_some, bd_ok, fl_ok, asBool_bl, cmpT, ltT, argsOut, pNeg, callO, lend, giveBack, T.pure, T.fz, T.fzs, fzs_ils, eqT_int, eqT_bl, eqT_tp, eqT_lst, pLen_tp, pLen_lst, bT_name, bT_tup, bT_lst, bTs_nil, bTs_cons, Option.bind_some, setAll, wipeE, unwipe, len_ils, isLst, line, Int.natCast_inj, isKey, any_ils, inT_ils, eqT_nil, eqT_nn, ils_app, pure_ils, items, d10, b10, iter_enum_tup, pList_tp]
  refine forG_inv (I := fun i env => ∃ (L : List Nat) (a b : Option T), env = [some (tp p), some (.lst true (ils L)), a, b] ∧ L.length = p.length ∧ ∀ j, (h : j < p.length) → j < i → L[p[j]]? = some j) ⟨p, none, none, rfl, rfl, fun j _ hj => absurd hj (Nat.not_lt_zero j)⟩ ?_ ?_
  · rintro i t e ht ⟨L, a, b, rfl, hL, hj⟩
    obtain ⟨hi, rfl⟩ := enum_get ht
    have hp := d.lt _ (List.getElem_mem hi)
    have e1 := small_nat (y := p[i]) (by omega)
    have e2 := pIx_nat (n := L.length) (i := p[i]) (by omega)
    refine ⟨_, rfl, fun N hN => ?_⟩
    simp [-List.filterMap_map, -List.map_map, -List.map_set, -List.map_append, -List.any_map, -List.any_append, -List.all_map, -List.all_append, -List.map_take, -List.map_drop, -List.map_tail, -List.map_reverse, -List.map_dropLast, sat_nx, sat_rt, sat_bk, sat_ct, sat_if, osat_ok, Kn_at, sat_nil, sat_cons, sat_for, ForK_at, ev_lcK, LcK_t, LcK_l, LcK_lo, LcK_et, LcK_el, LcK_elo, RetK_at, NonK_at, evS.eq_1, evS.eq_2, evS.eq_3, evS.eq_4, evS.eq_5, evS.eq_6, evS.eq_7, evS.eq_8, evS.eq_9, evS.eq_10, evS.eq_11, evS.eq_12, evS.eq_15, evS.eq_16, evS.eq_17, evS.eq_18, evS.eq_19, evE.eq_1, evE.eq_2, evE.eq_3, evE.eq_4, evE.eq_5, evE.eq_6, evE.eq_7, evE.eq_8, evE.eq_9, evE.eq_10, evE.eq_11, evE.eq_12, evE.eq_13, evE.eq_14, evE.eq_15, evE.eq_16, evE.eq_17, evE.eq_18, evE.eq_19, evE.eq_21, evE.eq_22, evE.eq_23, evO, evL, evI, evC, opds, Opd.get, pq_add, pq_sub, pq_mul, pq_fdiv, pq_mod, pq_pow, pq_neg, pq_idx, pq_len, pq_tuple, pq_list, pq_rg1, pq_rg2, pq_sorted, pq_abs, pq_int1, pq_max2, pq_min2, pq_all, pq_sum1, pq_lindex, pq_repr, pq_cmp, pq_isT, isData, isTy, of_some, Option.map_some, bd_ok, fl_ok, asBool_bl, cmpT, ltT, argsOut, pNeg, callO, lend, giveBack, T.pure, T.fz, T.fzs, fzs_ils, eqT_int, eqT_bl, eqT_tp, eqT_lst, pLen_tp, pLen_lst, bT_name, bT_tup, bT_lst, bTs_nil, bTs_cons, Option.bind_some, setAll, wipeE, unwipe, len_ils, isLst, line, Int.natCast_inj, isKey, any_ils, inT_ils, eqT_nil, eqT_nn, ils_app, pure_ils, items, setIxS, setIxT, e1, e2, set_ils]
    refine hN _ ⟨L.set p[i] i, _, _, rfl, by rw [List.length_set]; exact hL, fun j hjp hji => ?_⟩
    by_cases q : j = i
    · subst q
      rw [List.getElem?_set_self (by omega)]
    · rw [List.getElem?_set_ne (fun e => q (nodup_at d.nd e).symm)]
      exact hj j hjp (by omega)
  · rintro e ⟨L, a, b, rfl, hL, hj⟩
    have eL : L = lsOf d.pm.inv := by
      refine List.ext_getElem? fun y => ?_
      by_cases hy : y < p.length
      · have h1 : d.pm.g y < p.length := d.pm.inv.lt hy
        have h2 : p[d.pm.g y] = y := by rw [d.at_ h1, d.pm.fg]
        have := hj (d.pm.g y) h1 (by rw [enum_len, len_ils]; exact h1)
        rw [h2] at this
        rw [this]
        unfold lsOf
        rw [List.getElem?_map, List.getElem?_range hy]
        rfl
      · rw [List.getElem?_eq_none (by omega), List.getElem?_eq_none (by rw [lsOf_len]; omega)]
    subst eL
    simp [-List.filterMap_map, -List.map_map, -List.map_set, -List.map_append, -List.any_map, -List.any_append, -List.all_map, -List.all_append, -List.map_take, -List.map_drop, -List.map_tail, -List.map_reverse, -List.map_dropLast, sat_nx, sat_rt, sat_bk, sat_ct, sat_if, osat_ok, Kn_at, sat_nil, sat_cons, sat_for, ForK_at, ev_lcK, LcK_t, LcK_l, LcK_lo, LcK_et, LcK_el, LcK_elo, RetK_at, NonK_at, evS.eq_1, evS.eq_2, evS.eq_3, evS.eq_4, evS.eq_5, evS.eq_6, evS.eq_7, evS.eq_8, evS.eq_9, evS.eq_10, evS.eq_11, evS.eq_12, evS.eq_15, evS.eq_16, evS.eq_17, evS.eq_18, evS.eq_19, evE.eq_1, evE.eq_2, evE.eq_3, evE.eq_4, evE.eq_5, evE.eq_6, evE.eq_7, evE.eq_8, evE.eq_9, evE.eq_10, evE.eq_11, evE.eq_12, evE.eq_13, evE.eq_14, evE.eq_15, evE.eq_16, evE.eq_17, evE.eq_18, evE.eq_19, evE.eq_21, evE.eq_22, evE.eq_23, evO, evL, evI, evC, opds, Opd.get, pq_add, pq_sub, pq_mul, pq_fdiv, pq_mod, pq_pow, pq_neg, pq_idx, pq_len, pq_tuple, pq_list, pq_rg1, pq_rg2, pq_sorted, pq_abs, pq_int1, pq_max2, pq_min2, pq_all, pq_sum1, pq_lindex, pq_repr, pq_cmp, pq_isT, isData, isTy, of_some, Option.map_some, bd_ok, fl_ok, asBool_bl, cmpT, ltT, argsOut, pNeg, callO, lend, giveBack, T.pure, T.fz, T.fzs, fzs_ils, eqT_int, eqT_bl, eqT_tp, eqT_lst, pLen_tp, pLen_lst, bT_name, bT_tup, bT_lst, bTs_nil, bTs_cons, Option.bind_some, setAll, wipeE, unwipe, len_ils, isLst, line, Int.natCast_inj, isKey, any_ils, inT_ils, eqT_nil, eqT_nn, ils_app, pure_ils, items, pTuple_lst]
theorem sp11 (h : 6 ≤ k) {p : List Nat} (d : Deed p) (h0 : 1 ≤ p.length) : callK P w k 11 [tp p] = .ok (tp (lsOf d.pm.inv)) [tp p] := by
  refine callK_is (d := d11) rfl (by omega) rfl ?_
  have s1 := sp4 (w := w) (k := k - 1) (by omega) d h0
  have s2 := sp10 (w := w) (k := k - 1) (by omega) d
  simp [-List.filterMap_map, -List.map_map, -List.map_set, -List.map_append, -List.any_map, -List.any_append, -List.all_map, -List.all_append, -List.map_take, -List.map_drop, -List.map_tail, -List.map_reverse, -List.map_dropLast, sat_nx, sat_rt, sat_bk, sat_ct, sat_if, osat_ok, Kn_at, sat_nil, sat_cons, sat_for, ForK_at, ev_lcK, LcK_t, LcK_l, LcK_lo, LcK_et, LcK_el, LcK_elo, RetK_at, NonK_at, evS.eq_1, evS.eq_2, evS.eq_3, evS.eq_4, evS.eq_5, evS.eq_6, evS.eq_7, evS.eq_8, evS.eq_9, evS.eq_10, evS.eq_11, evS.eq_12, evS.eq_15, evS.eq_16, evS.eq_17, evS.eq_18, evS.eq_19, evE.eq_1, evE.eq_2, evE.eq_3, evE.eq_4, evE.eq_5, evE.eq_6, evE.eq_7, evE.eq_8, evE.eq_9, evE.eq_10, evE.eq_11, evE.eq_12, evE.eq_13, evE.eq_14, evE.eq_15, evE.eq_16, evE.eq_17, evE.eq_18, evE.eq_19, evE.eq_21, evE.eq_22, evE.eq_23, evO, evL, evI, evC, opds, Opd.get, pq_add, pq_sub, pq_mul, pq_fdiv, pq_mod, pq_pow, pq_neg, pq_idx, pq_len, pq_tuple, pq_list, pq_rg1, pq_rg2, pq_sorted, pq_abs, pq_int1, pq_max2, pq_min2, pq_all, pq_sum1, pq_lindex, pq_repr, pq_cmp, pq_isT, isData, isTy, of_some, Option.map_some, bd_ok, fl_ok, asBool_bl, cmpT, ltT, argsOut, pNeg, callO, lend, giveBack, T.pure, T.fz, T.fzs, fzs_ils, eqT_int, eqT_bl, eqT_tp, eqT_lst, pLen_tp, pLen_lst, bT_name, bT_tup, bT_lst, bTs_nil, bTs_cons, Option.bind_some, setAll, wipeE, unwipe, len_ils, isLst, line, Int.natCast_inj, isKey, any_ils, inT_ils, eqT_nil, eqT_nn, ils_app, pure_ils, items, d11, b11, pk4, pk10, s1, s2]
end
end K91
end
section
set_option Elab.async false
set_option maxRecDepth 100000
set_option linter.all false
/-! W91c: the walk of ring_list. -/
open Ev
namespace K91
section
variable {w k : Nat}
open Classical in
/-- the rings of the first i places -/
noncomputable def ru {n : Nat} (p : Pm.Pm n) (i : Nat) : List (List Nat) := ((List.range i).filter fun x => decide (Pm.Pm.Mn p x)).map p.ring
theorem ru_all {n : Nat} (p : Pm.Pm n) : ru p n = p.rings := rfl
theorem ru_yes {n : Nat} {p : Pm.Pm n} {i : Nat} (h : Pm.Pm.Mn p i) : ru p (i + 1) = ru p i ++ [p.ring i] := by
  unfold ru
  rw [List.range_succ, List.filter_append, List.map_append]
  simp [h]
theorem ru_no {n : Nat} {p : Pm.Pm n} {i : Nat} (h : ¬ Pm.Pm.Mn p i) : ru p (i + 1) = ru p i := by
  unfold ru
  rw [List.range_succ, List.filter_append, List.map_append]
  simp [h]
/-- the first j places of the ring of x -/
def rt {n : Nat} (p : Pm.Pm n) (x j : Nat) : List Nat := (List.range j).map fun i => Pm.it p.f i x
theorem rt_succ {n : Nat} (p : Pm.Pm n) (x j : Nat) : rt p x (j + 1) = rt p x j ++ [Pm.it p.f j x] := by
  unfold rt
  rw [List.range_succ, List.map_append]
  rfl
theorem mem_rt {n : Nat} {p : Pm.Pm n} {x j y : Nat} : y ∈ rt p x j ↔ ∃ i, i < j ∧ Pm.it p.f i x = y := by
  unfold rt
  rw [List.mem_map]
  exact ⟨fun ⟨i, h, e⟩ => ⟨i, List.mem_range.mp h, e⟩, fun ⟨i, h, e⟩ => ⟨i, List.mem_range.mpr h, e⟩⟩
theorem rt_len {n : Nat} {p : Pm.Pm n} {x j : Nat} : (rt p x j).length = j := by unfold rt; rw [List.length_map, List.length_range]
theorem rt_ring {n : Nat} (p : Pm.Pm n) (x : Nat) : rt p x (p.per x) = p.ring x := rfl
theorem mn_iff_seen {n : Nat} {p : Pm.Pm n} {i : Nat} (hi : i < n) : Pm.Pm.Mn p i ↔ ¬ ∃ j, j < i ∧ Pm.Pm.O p j i := by
  constructor
  · rintro h ⟨j, hj, o⟩
    have := h j (o.symm (by omega))
    omega
  · intro h y hy
    apply Classical.byContradiction
    intro q
    exact h ⟨y, by omega, hy.symm hi⟩
theorem ru_len {n : Nat} (p : Pm.Pm n) (i : Nat) : (ru p i).length ≤ i := by
  unfold ru
  rw [List.length_map]
  exact Nat.le_trans (List.length_filter_le _ _) (by rw [List.length_range]; exact Nat.le_refl _)
theorem at_it {p : List Nat} (d : Deed p) {x j : Nat} (hx : x < p.length) : pIdx (tp p) (.int (Pm.it d.pm.f j x : Nat)) = some (.int (Pm.it d.pm.f (j + 1) x : Nat)) := by
  have h := d.pm.it_lt hx j
  rw [pIdx_tp h, d.at_ h]
  rfl
theorem sp6 (hw : 20 ≤ w) (h : 1 ≤ k) {p : List Nat} (d : Deed p) : callK P w k 6 [tp p] = .ok (.lst true (tps d.pm.rings)) [tp p] := by
  refine callK_is (d := d6) rfl (by omega) rfl ?_
  have hl := d.le
  simp [-List.filterMap_map, -List.map_map, -List.map_set, -List.map_append, -List.any_map, -List.any_append, -List.all_map, -List.all_append, -List.map_take, -List.map_drop, -List.map_tail, -List.map_reverse, -List.map_dropLast, sat_nx, sat_rt, sat_bk, sat_ct, sat_if, osat_ok, Kn_at, sat_nil, sat_cons, sat_for, ForK_at, ev_lcK, LcK_t, LcK_l, LcK_lo, LcK_et, LcK_el, LcK_elo, RetK_at, NonK_at, evS.eq_1, evS.eq_2, evS.eq_3, evS.eq_4, evS.eq_5, evS.eq_6, evS.eq_7, evS.eq_8, evS.eq_9, evS.eq_10, evS.eq_11, evS.eq_12, evS.eq_15, evS.eq_16, evS.eq_17, evS.eq_18, evS.eq_19, evE.eq_1, evE.eq_2, evE.eq_3, evE.eq_4, evE.eq_5, evE.eq_6, evE.eq_7, evE.eq_8, evE.eq_9, evE.eq_10, evE.eq_11, evE.eq_12, evE.eq_13, evE.eq_14, evE.eq_15, evE.eq_16, evE.eq_17, evE.eq_18, evE.eq_19, evE.eq_21, evE.eq_22, evE.eq_23, evO, evL, evI, evC, opds, Opd.get, pq_add, pq_sub, pq_mul, pq_fdiv, pq_mod, pq_pow, pq_neg, pq_idx, pq_len, pq_tuple, pq_list, pq_rg1, pq_rg2, pq_sorted, pq_abs, pq_int1, pq_max2, pq_min2, pq_all, pq_sum1, pq_lindex, pq_repr, pq_cmp, pq_isT, isData, isTy, of_some, Option.map_some, bd_ok, fl_ok, asBool_bl, cmpT, ltT, argsOut, pNeg, callO, lend, giveBack, T.pure, T.fz, T.fzs, fzs_ils, eqT_int, eqT_bl, eqT_tp, eqT_lst, pLen_tp, pLen_lst, bT_name, bT_tup, bT_lst, bTs_nil, bTs_cons, Option.bind_some, setAll, wipeE, unwipe, len_ils, isLst, line, Int.natCast_inj, isKey, any_ils, inT_ils, eqT_nil, eqT_nn, ils_app, pure_ils, items, d6, b6, iter_rg1 (show p.length < 1000000 by omega)]
  refine forG_map (I := fun i env => ∃ (L : List Nat) (vs : List T) (a b c : Option T), env = [some (tp p), some (.lst true (tps (ru d.pm i))), some (.dct true (ils L) vs), a, b, c] ∧ L.Nodup ∧ (∀ y, y ∈ L ↔ ∃ j, j < i ∧ Pm.Pm.O d.pm j y)) ⟨[], [], none, none, none, rfl, List.nodup_nil, fun y => by simp⟩ ?_ ?_
  · rintro i hi e ⟨L, vs, a, b, c, rfl, hnd, hL⟩
    rw [List.length_range] at hi
    rw [List.getElem_range]
    refine ⟨_, rfl, fun N hN => ?_⟩
    have hLn : ∀ y ∈ L, y < p.length := fun y hy => by
      obtain ⟨j, hj, o⟩ := (hL y).mp hy
      exact o.lt (by omega)
    simp [-List.filterMap_map, -List.map_map, -List.map_set, -List.map_append, -List.any_map, -List.any_append, -List.all_map, -List.all_append, -List.map_take, -List.map_drop, -List.map_tail, -List.map_reverse, -List.map_dropLast, sat_nx, sat_rt, sat_bk, sat_ct, sat_if, osat_ok, Kn_at, sat_nil, sat_cons, sat_for, ForK_at, ev_lcK, LcK_t, LcK_l, LcK_lo, LcK_et, LcK_el, LcK_elo, RetK_at, NonK_at, evS.eq_1, evS.eq_2, evS.eq_3, evS.eq_4, evS.eq_5, evS.eq_6, evS.eq_7, evS.eq_8, evS.eq_9, evS.eq_10, evS.eq_11, evS.eq_12, evS.eq_15, evS.eq_16, evS.eq_17, evS.eq_18, evS.eq_19, evE.eq_1, evE.eq_2, evE.eq_3, evE.eq_4, evE.eq_5, evE.eq_6, evE.eq_7, evE.eq_8, evE.eq_9, evE.eq_10, evE.eq_11, evE.eq_12, evE.eq_13, evE.eq_14, evE.eq_15, evE.eq_16, evE.eq_17, evE.eq_18, evE.eq_19, evE.eq_21, evE.eq_22, evE.eq_23, evO, evL, evI, evC, opds, Opd.get, pq_add, pq_sub, pq_mul, pq_fdiv, pq_mod, pq_pow, pq_neg, pq_idx, pq_len, pq_tuple, pq_list, pq_rg1, pq_rg2, pq_sorted, pq_abs, pq_int1, pq_max2, pq_min2, pq_all, pq_sum1, pq_lindex, pq_repr, pq_cmp, pq_isT, isData, isTy, of_some, Option.map_some, bd_ok, fl_ok, asBool_bl, cmpT, ltT, argsOut, pNeg, callO, lend, giveBack, T.pure, T.fz, T.fzs, fzs_ils, eqT_int, eqT_bl, eqT_tp, eqT_lst, pLen_tp, pLen_lst, bT_name, bT_tup, bT_lst, bTs_nil, bTs_cons, Option.bind_some, setAll, wipeE, unwipe, len_ils, isLst, line, Int.natCast_inj, isKey, any_ils, inT_ils, eqT_nil, eqT_nn, ils_app, pure_ils, items]
    have hiL : Pm.Pm.Mn d.pm i ↔ i ∉ L := by rw [mn_iff_seen hi, hL]
    refine whl_sat p.length (I := fun j env => ∃ vs, env = [some (tp p), some (.lst true (tps (ru d.pm i))), some (.dct true (ils (L ++ rt d.pm i j)) vs), some (.int i), some (.lst true (ils (rt d.pm i j))), some (.int (Pm.it d.pm.f j i : Nat))] ∧ j ≤ d.pm.per i ∧ (i ∈ L → j = 0) ∧ (L ++ rt d.pm i j).Nodup) (by omega) ⟨vs, by simp [rt, Pm.it], Nat.zero_le _, fun _ => rfl, by simpa [rt] using hnd⟩ ?_
    rintro j e ⟨vs, rfl, hj, hj0, hnd2⟩ N' hN'
    have hx := d.pm.it_lt hi j
    have hin : ∀ y ∈ L ++ rt d.pm i j, y < p.length := fun y hy => by
      rcases List.mem_append.mp hy with hy | hy
      · exact hLn y hy
      · obtain ⟨l, _, rfl⟩ := mem_rt.mp hy
        exact d.pm.it_lt hi l
    have hlen := Pm.pig p.length _ hin hnd2
    by_cases hseen : i ∈ L
    · have := hj0 hseen
      subst this
      have e1 : i ∈ L ++ rt d.pm i 0 := List.mem_append_left _ hseen
      simp [-List.filterMap_map, -List.map_map, -List.map_set, -List.map_append, -List.any_map, -List.any_append, -List.all_map, -List.all_append, -List.map_take, -List.map_drop, -List.map_tail, -List.map_reverse, -List.map_dropLast, sat_nx, sat_rt, sat_bk, sat_ct, sat_if, osat_ok, Kn_at, sat_nil, sat_cons, sat_for, ForK_at, ev_lcK, LcK_t, LcK_l, LcK_lo, LcK_et, LcK_el, LcK_elo, RetK_at, NonK_at, evS.eq_1, evS.eq_2, evS.eq_3, evS.eq_4, evS.eq_5, evS.eq_6, evS.eq_7, evS.eq_8, evS.eq_9, evS.eq_10, evS.eq_11, evS.eq_12, evS.eq_15, evS.eq_16, evS.eq_17, evS.eq_18, evS.eq_19, evE.eq_1, evE.eq_2, evE.eq_3, evE.eq_4, evE.eq_5, evE.eq_6, evE.eq_7, evE.eq_8, evE.eq_9, evE.eq_10, evE.eq_11, evE.eq_12, evE.eq_13, evE.eq_14, evE.eq_15, evE.eq_16, evE.eq_17, evE.eq_18, evE.eq_19, evE.eq_21, evE.eq_22, evE.eq_23, evO, evL, evI, evC, opds, Opd.get, pq_add, pq_sub, pq_mul, pq_fdiv, pq_mod, pq_pow, pq_neg, pq_idx, pq_len, pq_tuple, pq_list, pq_rg1, pq_rg2, pq_sorted, pq_abs, pq_int1, pq_max2, pq_min2, pq_all, pq_sum1, pq_lindex, pq_repr, pq_cmp, pq_isT, isData, isTy, of_some, Option.map_some, bd_ok, fl_ok, asBool_bl, cmpT, ltT, argsOut, pNeg, callO, lend, giveBack, T.pure, T.fz, T.fzs, fzs_ils, eqT_int, eqT_bl, eqT_tp, eqT_lst, pLen_tp, pLen_lst, bT_name, bT_tup, bT_lst, bTs_nil, bTs_cons, Option.bind_some, setAll, wipeE, unwipe, len_ils, isLst, line, Int.natCast_inj, isKey, any_ils, inT_ils, eqT_nil, eqT_nn, ils_app, pure_ils, items, Pm.it, e1]
      refine .inr ⟨rfl, ?_⟩
      simp [-List.filterMap_map, -List.map_map, -List.map_set, -List.map_append, -List.any_map, -List.any_append, -List.all_map, -List.all_append, -List.map_take, -List.map_drop, -List.map_tail, -List.map_reverse, -List.map_dropLast, sat_nx, sat_rt, sat_bk, sat_ct, sat_if, osat_ok, Kn_at, sat_nil, sat_cons, sat_for, ForK_at, ev_lcK, LcK_t, LcK_l, LcK_lo, LcK_et, LcK_el, LcK_elo, RetK_at, NonK_at, evS.eq_1, evS.eq_2, evS.eq_3, evS.eq_4, evS.eq_5, evS.eq_6, evS.eq_7, evS.eq_8, evS.eq_9, evS.eq_10, evS.eq_11, evS.eq_12, evS.eq_15, evS.eq_16, evS.eq_17, evS.eq_18, evS.eq_19, evE.eq_1, evE.eq_2, evE.eq_3, evE.eq_4, evE.eq_5, evE.eq_6, evE.eq_7, evE.eq_8, evE.eq_9, evE.eq_10, evE.eq_11, evE.eq_12, evE.eq_13, evE.eq_14, evE.eq_15, evE.eq_16, evE.eq_17, evE.eq_18, evE.eq_19, evE.eq_21, evE.eq_22, evE.eq_23, evO, evL, evI, evC, opds, Opd.get, pq_add, pq_sub, pq_mul, pq_fdiv, pq_mod, pq_pow, pq_neg, pq_idx, pq_len, pq_tuple, pq_list, pq_rg1, pq_rg2, pq_sorted, pq_abs, pq_int1, pq_max2, pq_min2, pq_all, pq_sum1, pq_lindex, pq_repr, pq_cmp, pq_isT, isData, isTy, of_some, Option.map_some, bd_ok, fl_ok, asBool_bl, cmpT, ltT, argsOut, pNeg, callO, lend, giveBack, T.pure, T.fz, T.fzs, fzs_ils, eqT_int, eqT_bl, eqT_tp, eqT_lst, pLen_tp, pLen_lst, bT_name, bT_tup, bT_lst, bTs_nil, bTs_cons, Option.bind_some, setAll, wipeE, unwipe, len_ils, isLst, line, Int.natCast_inj, isKey, any_ils, inT_ils, eqT_nil, eqT_nn, ils_app, pure_ils, items, show rt d.pm i 0 = [] from rfl, eqT_lst true true [] []]
      refine hN _ ⟨L, vs, _, _, _, by rw [ru_no (fun q => hiL.mp q hseen)], hnd, fun y => ?_⟩
      rw [hL]
      constructor
      · rintro ⟨j, hj, o⟩; exact ⟨j, by omega, o⟩
      · rintro ⟨j, hj, o⟩
        by_cases q : j = i
        · subst q
          obtain ⟨l, hl, o2⟩ := (hL j).mp hseen
          exact ⟨l, hl, o2.trans o⟩
        · exact ⟨j, by omega, o⟩
    · by_cases hper : j = d.pm.per i
      · subst hper
        have hp0 := d.pm.per_pos hi
        have e1 : Pm.it d.pm.f (d.pm.per i) i ∈ L ++ rt d.pm i (d.pm.per i) := by
          rw [d.pm.per_back hi]
          exact List.mem_append_right _ (mem_rt.mpr ⟨0, hp0, rfl⟩)
        have e2 : ¬ rt d.pm i (d.pm.per i) = [] := fun e => by
          have := congrArg List.length e
          rw [rt_len] at this
          simp only [List.length_nil] at this
          omega
        have e3 := ru_len d.pm i
        have e4 : (ru d.pm i).length < 16777216 := by omega
        simp [-List.filterMap_map, -List.map_map, -List.map_set, -List.map_append, -List.any_map, -List.any_append, -List.all_map, -List.all_append, -List.map_take, -List.map_drop, -List.map_tail, -List.map_reverse, -List.map_dropLast, sat_nx, sat_rt, sat_bk, sat_ct, sat_if, osat_ok, Kn_at, sat_nil, sat_cons, sat_for, ForK_at, ev_lcK, LcK_t, LcK_l, LcK_lo, LcK_et, LcK_el, LcK_elo, RetK_at, NonK_at, evS.eq_1, evS.eq_2, evS.eq_3, evS.eq_4, evS.eq_5, evS.eq_6, evS.eq_7, evS.eq_8, evS.eq_9, evS.eq_10, evS.eq_11, evS.eq_12, evS.eq_15, evS.eq_16, evS.eq_17, evS.eq_18, evS.eq_19, evE.eq_1, evE.eq_2, evE.eq_3, evE.eq_4, evE.eq_5, evE.eq_6, evE.eq_7, evE.eq_8, evE.eq_9, evE.eq_10, evE.eq_11, evE.eq_12, evE.eq_13, evE.eq_14, evE.eq_15, evE.eq_16, evE.eq_17, evE.eq_18, evE.eq_19, evE.eq_21, evE.eq_22, evE.eq_23, evO, evL, evI, evC, opds, Opd.get, pq_add, pq_sub, pq_mul, pq_fdiv, pq_mod, pq_pow, pq_neg, pq_idx, pq_len, pq_tuple, pq_list, pq_rg1, pq_rg2, pq_sorted, pq_abs, pq_int1, pq_max2, pq_min2, pq_all, pq_sum1, pq_lindex, pq_repr, pq_cmp, pq_isT, isData, isTy, of_some, Option.map_some, bd_ok, fl_ok, asBool_bl, cmpT, ltT, argsOut, pNeg, callO, lend, giveBack, T.pure, T.fz, T.fzs, fzs_ils, eqT_int, eqT_bl, eqT_tp, eqT_lst, pLen_tp, pLen_lst, bT_name, bT_tup, bT_lst, bTs_nil, bTs_cons, Option.bind_some, setAll, wipeE, unwipe, len_ils, isLst, line, Int.natCast_inj, isKey, any_ils, inT_ils, eqT_nil, eqT_nn, ils_app, pure_ils, items, e1]
        refine .inr ⟨rfl, ?_⟩
        simp [-List.filterMap_map, -List.map_map, -List.map_set, -List.map_append, -List.any_map, -List.any_append, -List.all_map, -List.all_append, -List.map_take, -List.map_drop, -List.map_tail, -List.map_reverse, -List.map_dropLast, sat_nx, sat_rt, sat_bk, sat_ct, sat_if, osat_ok, Kn_at, sat_nil, sat_cons, sat_for, ForK_at, ev_lcK, LcK_t, LcK_l, LcK_lo, LcK_et, LcK_el, LcK_elo, RetK_at, NonK_at, evS.eq_1, evS.eq_2, evS.eq_3, evS.eq_4, evS.eq_5, evS.eq_6, evS.eq_7, evS.eq_8, evS.eq_9, evS.eq_10, evS.eq_11, evS.eq_12, evS.eq_15, evS.eq_16, evS.eq_17, evS.eq_18, evS.eq_19, evE.eq_1, evE.eq_2, evE.eq_3, evE.eq_4, evE.eq_5, evE.eq_6, evE.eq_7, evE.eq_8, evE.eq_9, evE.eq_10, evE.eq_11, evE.eq_12, evE.eq_13, evE.eq_14, evE.eq_15, evE.eq_16, evE.eq_17, evE.eq_18, evE.eq_19, evE.eq_21, evE.eq_22, evE.eq_23, evO, evL, evI, evC, opds, Opd.get, pq_add, pq_sub, pq_mul, pq_fdiv, pq_mod, pq_pow, pq_neg, pq_idx, pq_len, pq_tuple, pq_list, pq_rg1, pq_rg2, pq_sorted, pq_abs, pq_int1, pq_max2, pq_min2, pq_all, pq_sum1, pq_lindex, pq_repr, pq_cmp, pq_isT, isData, isTy, of_some, Option.map_some, bd_ok, fl_ok, asBool_bl, cmpT, ltT, argsOut, pNeg, callO, lend, giveBack, T.pure, T.fz, T.fzs, fzs_ils, eqT_int, eqT_bl, eqT_tp, eqT_lst, pLen_tp, pLen_lst, bT_name, bT_tup, bT_lst, bTs_nil, bTs_cons, Option.bind_some, setAll, wipeE, unwipe, len_ils, isLst, line, Int.natCast_inj, isKey, any_ils, inT_ils, eqT_nil, eqT_nn, ils_app, pure_ils, items, eqT_lst true true _ [], e2, pTuple_lst, e4, app_tps]
        refine hN _ ⟨_, _, _, _, _, by rw [ru_yes (hiL.mpr hseen), ← rt_ring], hnd2, fun y => ?_⟩
        rw [List.mem_append, hL, mem_rt]
        constructor
        · rintro (⟨j, hj, o⟩ | ⟨l, hl, rfl⟩)
          · exact ⟨j, by omega, o⟩
          · exact ⟨i, by omega, l, rfl⟩
        · rintro ⟨j, hj, o⟩
          by_cases q : j = i
          · subst q
            obtain ⟨l, hl, e⟩ := Pm.Pm.O.below hi o
            exact .inr ⟨l, hl, e⟩
          · exact .inl ⟨j, by omega, o⟩
      · have hjp : j < d.pm.per i := by omega
        have hn : Pm.it d.pm.f j i ∉ L ++ rt d.pm i j := by
          intro hm
          rcases List.mem_append.mp hm with hm | hm
          · obtain ⟨l, hl, o⟩ := (hL _).mp hm
            refine hseen ((hL i).mpr ⟨l, hl, o.trans (Pm.Pm.O.symm hi ⟨j, rfl⟩)⟩)
          · obtain ⟨l, hl, e⟩ := mem_rt.mp hm
            exact d.pm.it_ne hi hl hjp e
        have hjn : j < p.length := by have := d.pm.per_le hi; omega
        simp [-List.filterMap_map, -List.map_map, -List.map_set, -List.map_append, -List.any_map, -List.any_append, -List.all_map, -List.all_append, -List.map_take, -List.map_drop, -List.map_tail, -List.map_reverse, -List.map_dropLast, sat_nx, sat_rt, sat_bk, sat_ct, sat_if, osat_ok, Kn_at, sat_nil, sat_cons, sat_for, ForK_at, ev_lcK, LcK_t, LcK_l, LcK_lo, LcK_et, LcK_el, LcK_elo, RetK_at, NonK_at, evS.eq_1, evS.eq_2, evS.eq_3, evS.eq_4, evS.eq_5, evS.eq_6, evS.eq_7, evS.eq_8, evS.eq_9, evS.eq_10, evS.eq_11, evS.eq_12, evS.eq_15, evS.eq_16, evS.eq_17, evS.eq_18, evS.eq_19, evE.eq_1, evE.eq_2, evE.eq_3, evE.eq_4, evE.eq_5, evE.eq_6, evE.eq_7, evE.eq_8, evE.eq_9, evE.eq_10, evE.eq_11, evE.eq_12, evE.eq_13, evE.eq_14, evE.eq_15, evE.eq_16, evE.eq_17, evE.eq_18, evE.eq_19, evE.eq_21, evE.eq_22, evE.eq_23, evO, evL, evI, evC, opds, Opd.get, pq_add, pq_sub, pq_mul, pq_fdiv, pq_mod, pq_pow, pq_neg, pq_idx, pq_len, pq_tuple, pq_list, pq_rg1, pq_rg2, pq_sorted, pq_abs, pq_int1, pq_max2, pq_min2, pq_all, pq_sum1, pq_lindex, pq_repr, pq_cmp, pq_isT, isData, isTy, of_some, Option.map_some, bd_ok, fl_ok, asBool_bl, cmpT, ltT, argsOut, pNeg, callO, lend, giveBack, T.pure, T.fz, T.fzs, fzs_ils, eqT_int, eqT_bl, eqT_tp, eqT_lst, pLen_tp, pLen_lst, bT_name, bT_tup, bT_lst, bTs_nil, bTs_cons, Option.bind_some, setAll, wipeE, unwipe, len_ils, isLst, line, Int.natCast_inj, isKey, any_ils, inT_ils, eqT_nil, eqT_nn, ils_app, pure_ils, items, hn]
        refine .inl ⟨rfl, hjn, ?_⟩
        have e4 : L.length + (rt d.pm i j).length < line := by rw [← List.length_append]; show _ < 16777216; omega
        have e5 : (rt d.pm i j).length < 16777216 := by rw [rt_len]; omega
        have e6 := at_it d (j := j) hi
        have e7 := keyIx_none hn
        simp [-List.filterMap_map, -List.map_map, -List.map_set, -List.map_append, -List.any_map, -List.any_append, -List.all_map, -List.all_append, -List.map_take, -List.map_drop, -List.map_tail, -List.map_reverse, -List.map_dropLast, sat_nx, sat_rt, sat_bk, sat_ct, sat_if, osat_ok, Kn_at, sat_nil, sat_cons, sat_for, ForK_at, ev_lcK, LcK_t, LcK_l, LcK_lo, LcK_et, LcK_el, LcK_elo, RetK_at, NonK_at, evS.eq_1, evS.eq_2, evS.eq_3, evS.eq_4, evS.eq_5, evS.eq_6, evS.eq_7, evS.eq_8, evS.eq_9, evS.eq_10, evS.eq_11, evS.eq_12, evS.eq_15, evS.eq_16, evS.eq_17, evS.eq_18, evS.eq_19, evE.eq_1, evE.eq_2, evE.eq_3, evE.eq_4, evE.eq_5, evE.eq_6, evE.eq_7, evE.eq_8, evE.eq_9, evE.eq_10, evE.eq_11, evE.eq_12, evE.eq_13, evE.eq_14, evE.eq_15, evE.eq_16, evE.eq_17, evE.eq_18, evE.eq_19, evE.eq_21, evE.eq_22, evE.eq_23, evO, evL, evI, evC, opds, Opd.get, pq_add, pq_sub, pq_mul, pq_fdiv, pq_mod, pq_pow, pq_neg, pq_idx, pq_len, pq_tuple, pq_list, pq_rg1, pq_rg2, pq_sorted, pq_abs, pq_int1, pq_max2, pq_min2, pq_all, pq_sum1, pq_lindex, pq_repr, pq_cmp, pq_isT, isData, isTy, of_some, Option.map_some, bd_ok, fl_ok, asBool_bl, cmpT, ltT, argsOut, pNeg, callO, lend, giveBack, T.pure, T.fz, T.fzs, fzs_ils, eqT_int, eqT_bl, eqT_tp, eqT_lst, pLen_tp, pLen_lst, bT_name, bT_tup, bT_lst, bTs_nil, bTs_cons, Option.bind_some, setAll, wipeE, unwipe, len_ils, isLst, line, Int.natCast_inj, isKey, any_ils, inT_ils, eqT_nil, eqT_nn, ils_app, pure_ils, items, setIxS, setIxT, e4, e5, e6, e7, app_ils]
        refine hN' _ ⟨vs ++ [T.bl true], by rw [rt_succ], by omega, fun q => absurd q hseen, ?_⟩
        rw [rt_succ, ← List.append_assoc]
        refine List.nodup_append.mpr ⟨hnd2, by simp, fun y hy z hz => ?_⟩
        rw [List.mem_singleton] at hz
        subst hz
        exact fun e => hn (e ▸ hy)
  · rintro e ⟨L, vs, a, b, c, rfl, hnd, hL⟩
    simp [-List.filterMap_map, -List.map_map, -List.map_set, -List.map_append, -List.any_map, -List.any_append, -List.all_map, -List.all_append, -List.map_take, -List.map_drop, -List.map_tail, -List.map_reverse, -List.map_dropLast, sat_nx, sat_rt, sat_bk, sat_ct, sat_if, osat_ok, Kn_at, sat_nil, sat_cons, sat_for, ForK_at, ev_lcK, LcK_t, LcK_l, LcK_lo, LcK_et, LcK_el, LcK_elo, RetK_at, NonK_at, evS.eq_1, evS.eq_2, evS.eq_3, evS.eq_4, evS.eq_5, evS.eq_6, evS.eq_7, evS.eq_8, evS.eq_9, evS.eq_10, evS.eq_11, evS.eq_12, evS.eq_15, evS.eq_16, evS.eq_17, evS.eq_18, evS.eq_19, evE.eq_1, evE.eq_2, evE.eq_3, evE.eq_4, evE.eq_5, evE.eq_6, evE.eq_7, evE.eq_8, evE.eq_9, evE.eq_10, evE.eq_11, evE.eq_12, evE.eq_13, evE.eq_14, evE.eq_15, evE.eq_16, evE.eq_17, evE.eq_18, evE.eq_19, evE.eq_21, evE.eq_22, evE.eq_23, evO, evL, evI, evC, opds, Opd.get, pq_add, pq_sub, pq_mul, pq_fdiv, pq_mod, pq_pow, pq_neg, pq_idx, pq_len, pq_tuple, pq_list, pq_rg1, pq_rg2, pq_sorted, pq_abs, pq_int1, pq_max2, pq_min2, pq_all, pq_sum1, pq_lindex, pq_repr, pq_cmp, pq_isT, isData, isTy, of_some, Option.map_some, bd_ok, fl_ok, asBool_bl, cmpT, ltT, argsOut, pNeg, callO, lend, giveBack, T.pure, T.fz, T.fzs, fzs_ils, eqT_int, eqT_bl, eqT_tp, eqT_lst, pLen_tp, pLen_lst, bT_name, bT_tup, bT_lst, bTs_nil, bTs_cons, Option.bind_some, setAll, wipeE, unwipe, len_ils, isLst, line, Int.natCast_inj, isKey, any_ils, inT_ils, eqT_nil, eqT_nn, ils_app, pure_ils, items, ru_all]
end
end K91
end
section
set_option Elab.async false
set_option maxRecDepth 100000
set_option linter.all false
/-! W91d: walks: lengths, rests, rings of places. -/
open Ev
namespace K91
section
variable {w k n : Nat}
theorem q3 (h : 4 ≤ k) (a : Pm.Pm n) (h1 : 1 ≤ n) (hn : n ≤ 12) : callK P w k 3 [tq a] = .ok (.bl true) [tq a] := sp3 h (lsOf_deed a hn) (by rw [lsOf_len]; exact h1)
theorem q4 (h : 5 ≤ k) (a : Pm.Pm n) (h1 : 1 ≤ n) (hn : n ≤ 12) : callK P w k 4 [tq a] = .ok .non [tq a] := sp4 h (lsOf_deed a hn) (by rw [lsOf_len]; exact h1)
theorem q6 (hw : 20 ≤ w) (h : 1 ≤ k) (a : Pm.Pm n) (hn : n ≤ 12) : callK P w k 6 [tq a] = .ok (.lst true (tps a.rings)) [tq a] := by
  have := sp6 (w := w) (k := k) hw h (lsOf_deed a hn)
  rwa [pm_same a hn fun _ b => b.rings] at this
theorem thn_lsOf (a b : Pm.Pm n) : thn (lsOf a) (lsOf b) = lsOf (b.mul a) := by
  unfold thn lsOf
  rw [List.map_map]
  refine List.map_congr_left fun x hx => ?_
  have h := a.lt (List.mem_range.mp hx)
  show (lsOf b).getD (a.f x) 0 = b.f (a.f x)
  rw [getD_at (by rw [lsOf_len]; exact h), lsOf_at]
theorem q9 (h : 6 ≤ k) (a b : Pm.Pm n) (h1 : 1 ≤ n) (hn : n ≤ 12) : callK P w k 9 [tq a, tq b] = .ok (tq (b.mul a)) [tq a, tq b] := by
  have := sp9 (w := w) (k := k) h (lsOf_deed a hn) (lsOf_deed b hn) (by rw [lsOf_len]; exact h1) (by rw [lsOf_len, lsOf_len])
  rwa [thn_lsOf] at this
theorem q11 (h : 6 ≤ k) (a : Pm.Pm n) (h1 : 1 ≤ n) (hn : n ≤ 12) : callK P w k 11 [tq a] = .ok (tq a.inv) [tq a] := by
  have := sp11 (w := w) (k := k) h (lsOf_deed a hn) (by rw [lsOf_len]; exact h1)
  have e : lsOf (lsOf_deed a hn).pm.inv = lsOf a.inv := pm_same a hn fun _ b => lsOf b.inv
  rwa [e] at this
theorem q15 (h : 6 ≤ k) (a b : Pm.Pm n) (h1 : 1 ≤ n) (hn : n ≤ 12) : callK P w k 15 [tq a, tq b] = .ok .non [tq a, tq b] := sp15 h (lsOf_deed a hn) (lsOf_deed b hn) (by rw [lsOf_len]; exact h1) (by rw [lsOf_len, lsOf_len])
theorem pm_len (a : Pm.Pm n) : (n : Int) - (a.rings.length : Int) = (Pm.Pm.len a : Nat) := by
  rw [Pm.Pm.rings_len]
  have := Pm.Pm.cyc_le a
  unfold Pm.Pm.len
  omega
theorem q7 (hw : 20 ≤ w) (h : 6 ≤ k) (a : Pm.Pm n) (h1 : 1 ≤ n) (hn : n ≤ 12) : callK P w k 7 [tq a] = .ok (.tup (tps a.rings)) [tq a] := by
  refine callK_is (d := d7) rfl (by omega) rfl ?_
  have s1 := q4 (w := w) (k := k - 1) (by omega) a h1 hn
  have s2 := q6 (w := w) (k := k - 1) hw (by omega) a hn
  simp [-List.filterMap_map, -List.map_map, -List.map_set, -List.map_append, -List.any_map, -List.any_append, -List.all_map, -List.all_append, -List.map_take, -List.map_drop, -List.map_tail, -List.map_reverse, -List.map_dropLast, sat_nx, sat_rt, sat_bk, sat_ct, sat_if, osat_ok, Kn_at, sat_nil, sat_cons, sat_for, ForK_at, ev_lcK, LcK_t, LcK_l, LcK_lo, LcK_et, LcK_el, LcK_elo, RetK_at, NonK_at, evS.eq_1, evS.eq_2, evS.eq_3, evS.eq_4, evS.eq_5, evS.eq_6, evS.eq_7, evS.eq_8, evS.eq_9, evS.eq_10, evS.eq_11, evS.eq_12, evS.eq_15, evS.eq_16, evS.eq_17, evS.eq_18, evS.eq_19, evE.eq_1, evE.eq_2, evE.eq_3, evE.eq_4, evE.eq_5, evE.eq_6, evE.eq_7, evE.eq_8, evE.eq_9, evE.eq_10, evE.eq_11, evE.eq_12, evE.eq_13, evE.eq_14, evE.eq_15, evE.eq_16, evE.eq_17, evE.eq_18, evE.eq_19, evE.eq_21, evE.eq_22, evE.eq_23, evO, evL, evI, evC, opds, Opd.get, pq_add, pq_sub, pq_mul, pq_fdiv, pq_mod, pq_pow, pq_neg, pq_idx, pq_len, pq_tuple, pq_list, pq_rg1, pq_rg2, pq_sorted, pq_abs, pq_int1, pq_max2, pq_min2, pq_all, pq_sum1, pq_lindex, pq_repr, pq_cmp, pq_isT, isData, isTy, of_some, Option.map_some, bd_ok, fl_ok, asBool_bl, cmpT, ltT, argsOut, pNeg, callO, lend, giveBack, T.pure, T.fz, T.fzs, fzs_ils, eqT_int, eqT_bl, eqT_tp, eqT_lst, pLen_tp, pLen_lst, bT_name, bT_tup, bT_lst, bTs_nil, bTs_cons, Option.bind_some, setAll, wipeE, unwipe, len_ils, isLst, line, Int.natCast_inj, isKey, any_ils, inT_ils, eqT_nil, eqT_nn, ils_app, pure_ils, items, d7, b7, pk4, pk6, s1, s2, pTuple_tps]
theorem q12 (hw : 20 ≤ w) (h : 2 ≤ k) (a : Pm.Pm n) (hn : n ≤ 12) : callK P w k 12 [tq a] = .ok (.int (Pm.Pm.len a : Nat)) [tq a] := by
  refine callK_is (d := d12) rfl (by omega) rfl ?_
  have s2 := q6 (w := w) (k := k - 1) hw (by omega) a hn
  simp [-List.filterMap_map, -List.map_map, -List.map_set, -List.map_append, -List.any_map, -List.any_append, -List.all_map, -List.all_append, -List.map_take, -List.map_drop, -List.map_tail, -List.map_reverse, -List.map_dropLast, sat_nx, sat_rt, sat_bk, sat_ct, sat_if, osat_ok, Kn_at, sat_nil, sat_cons, sat_for, ForK_at, ev_lcK, LcK_t, LcK_l, LcK_lo, LcK_et, LcK_el, LcK_elo, RetK_at, NonK_at, evS.eq_1, evS.eq_2, evS.eq_3, evS.eq_4, evS.eq_5, evS.eq_6, evS.eq_7, evS.eq_8, evS.eq_9, evS.eq_10, evS.eq_11, evS.eq_12, evS.eq_15, evS.eq_16, evS.eq_17, evS.eq_18, evS.eq_19, evE.eq_1, evE.eq_2, evE.eq_3, evE.eq_4, evE.eq_5, evE.eq_6, evE.eq_7, evE.eq_8, evE.eq_9, evE.eq_10, evE.eq_11, evE.eq_12, evE.eq_13, evE.eq_14, evE.eq_15, evE.eq_16, evE.eq_17, evE.eq_18, evE.eq_19, evE.eq_21, evE.eq_22, evE.eq_23, evO, evL, evI, evC, opds, Opd.get, pq_add, pq_sub, pq_mul, pq_fdiv, pq_mod, pq_pow, pq_neg, pq_idx, pq_len, pq_tuple, pq_list, pq_rg1, pq_rg2, pq_sorted, pq_abs, pq_int1, pq_max2, pq_min2, pq_all, pq_sum1, pq_lindex, pq_repr, pq_cmp, pq_isT, isData, isTy, of_some, Option.map_some, bd_ok, fl_ok, asBool_bl, cmpT, ltT, argsOut, pNeg, callO, lend, giveBack, T.pure, T.fz, T.fzs, fzs_ils, eqT_int, eqT_bl, eqT_tp, eqT_lst, pLen_tp, pLen_lst, bT_name, bT_tup, bT_lst, bTs_nil, bTs_cons, Option.bind_some, setAll, wipeE, unwipe, len_ils, isLst, line, Int.natCast_inj, isKey, any_ils, inT_ils, eqT_nil, eqT_nn, ils_app, pure_ils, items, d12, b12, pk6, s2, pLen_tps, pSub, pm_len, lsOf_len]
theorem q13 (hw : 20 ≤ w) (h : 6 ≤ k) (a : Pm.Pm n) (h1 : 1 ≤ n) (hn : n ≤ 12) : callK P w k 13 [tq a] = .ok (.int (Pm.Pm.len a : Nat)) [tq a] := by
  refine callK_is (d := d13) rfl (by omega) rfl ?_
  have s1 := q4 (w := w) (k := k - 1) (by omega) a h1 hn
  have s2 := q12 (w := w) (k := k - 1) hw (by omega) a hn
  simp [-List.filterMap_map, -List.map_map, -List.map_set, -List.map_append, -List.any_map, -List.any_append, -List.all_map, -List.all_append, -List.map_take, -List.map_drop, -List.map_tail, -List.map_reverse, -List.map_dropLast, sat_nx, sat_rt, sat_bk, sat_ct, sat_if, osat_ok, Kn_at, sat_nil, sat_cons, sat_for, ForK_at, ev_lcK, LcK_t, LcK_l, LcK_lo, LcK_et, LcK_el, LcK_elo, RetK_at, NonK_at, evS.eq_1, evS.eq_2, evS.eq_3, evS.eq_4, evS.eq_5, evS.eq_6, evS.eq_7, evS.eq_8, evS.eq_9, evS.eq_10, evS.eq_11, evS.eq_12, evS.eq_15, evS.eq_16, evS.eq_17, evS.eq_18, evS.eq_19, evE.eq_1, evE.eq_2, evE.eq_3, evE.eq_4, evE.eq_5, evE.eq_6, evE.eq_7, evE.eq_8, evE.eq_9, evE.eq_10, evE.eq_11, evE.eq_12, evE.eq_13, evE.eq_14, evE.eq_15, evE.eq_16, evE.eq_17, evE.eq_18, evE.eq_19, evE.eq_21, evE.eq_22, evE.eq_23, evO, evL, evI, evC, opds, Opd.get, pq_add, pq_sub, pq_mul, pq_fdiv, pq_mod, pq_pow, pq_neg, pq_idx, pq_len, pq_tuple, pq_list, pq_rg1, pq_rg2, pq_sorted, pq_abs, pq_int1, pq_max2, pq_min2, pq_all, pq_sum1, pq_lindex, pq_repr, pq_cmp, pq_isT, isData, isTy, of_some, Option.map_some, bd_ok, fl_ok, asBool_bl, cmpT, ltT, argsOut, pNeg, callO, lend, giveBack, T.pure, T.fz, T.fzs, fzs_ils, eqT_int, eqT_bl, eqT_tp, eqT_lst, pLen_tp, pLen_lst, bT_name, bT_tup, bT_lst, bTs_nil, bTs_cons, Option.bind_some, setAll, wipeE, unwipe, len_ils, isLst, line, Int.natCast_inj, isKey, any_ils, inT_ils, eqT_nil, eqT_nn, ils_app, pure_ils, items, d13, b13, pk4, pk12, s1, s2]
theorem q16 (h : 7 ≤ k) (a c : Pm.Pm n) (h1 : 1 ≤ n) (hn : n ≤ 12) : callK P w k 16 [tq a, tq c] = .ok (tq (c.mul a.inv)) [tq a, tq c] := by
  refine callK_is (d := d16) rfl (by omega) rfl ?_
  have s1 := q11 (w := w) (k := k - 1) (by omega) a h1 hn
  have s2 := q9 (w := w) (k := k - 1) (by omega) a.inv c h1 hn
  simp [-List.filterMap_map, -List.map_map, -List.map_set, -List.map_append, -List.any_map, -List.any_append, -List.all_map, -List.all_append, -List.map_take, -List.map_drop, -List.map_tail, -List.map_reverse, -List.map_dropLast, sat_nx, sat_rt, sat_bk, sat_ct, sat_if, osat_ok, Kn_at, sat_nil, sat_cons, sat_for, ForK_at, ev_lcK, LcK_t, LcK_l, LcK_lo, LcK_et, LcK_el, LcK_elo, RetK_at, NonK_at, evS.eq_1, evS.eq_2, evS.eq_3, evS.eq_4, evS.eq_5, evS.eq_6, evS.eq_7, evS.eq_8, evS.eq_9, evS.eq_10, evS.eq_11, evS.eq_12, evS.eq_15, evS.eq_16, evS.eq_17, evS.eq_18, evS.eq_19, evE.eq_1, evE.eq_2, evE.eq_3, evE.eq_4, evE.eq_5, evE.eq_6, evE.eq_7, evE.eq_8, evE.eq_9, evE.eq_10, evE.eq_11, evE.eq_12, evE.eq_13, evE.eq_14, evE.eq_15, evE.eq_16, evE.eq_17, evE.eq_18, evE.eq_19, evE.eq_21, evE.eq_22, evE.eq_23, evO, evL, evI, evC, opds, Opd.get, pq_add, pq_sub, pq_mul, pq_fdiv, pq_mod, pq_pow, pq_neg, pq_idx, pq_len, pq_tuple, pq_list, pq_rg1, pq_rg2, pq_sorted, pq_abs, pq_int1, pq_max2, pq_min2, pq_all, pq_sum1, pq_lindex, pq_repr, pq_cmp, pq_isT, isData, isTy, of_some, Option.map_some, bd_ok, fl_ok, asBool_bl, cmpT, ltT, argsOut, pNeg, callO, lend, giveBack, T.pure, T.fz, T.fzs, fzs_ils, eqT_int, eqT_bl, eqT_tp, eqT_lst, pLen_tp, pLen_lst, bT_name, bT_tup, bT_lst, bTs_nil, bTs_cons, Option.bind_some, setAll, wipeE, unwipe, len_ils, isLst, line, Int.natCast_inj, isKey, any_ils, inT_ils, eqT_nil, eqT_nn, ils_app, pure_ils, items, d16, b16, pk9, pk11, s1, s2]
theorem q17 (h : 8 ≤ k) (a c : Pm.Pm n) (h1 : 1 ≤ n) (hn : n ≤ 12) : callK P w k 17 [tq a, tq c] = .ok (tq (c.mul a.inv)) [tq a, tq c] := by
  refine callK_is (d := d17) rfl (by omega) rfl ?_
  have s1 := q15 (w := w) (k := k - 1) (by omega) a c h1 hn
  have s2 := q16 (w := w) (k := k - 1) (by omega) a c h1 hn
  simp [-List.filterMap_map, -List.map_map, -List.map_set, -List.map_append, -List.any_map, -List.any_append, -List.all_map, -List.all_append, -List.map_take, -List.map_drop, -List.map_tail, -List.map_reverse, -List.map_dropLast, sat_nx, sat_rt, sat_bk, sat_ct, sat_if, osat_ok, Kn_at, sat_nil, sat_cons, sat_for, ForK_at, ev_lcK, LcK_t, LcK_l, LcK_lo, LcK_et, LcK_el, LcK_elo, RetK_at, NonK_at, evS.eq_1, evS.eq_2, evS.eq_3, evS.eq_4, evS.eq_5, evS.eq_6, evS.eq_7, evS.eq_8, evS.eq_9, evS.eq_10, evS.eq_11, evS.eq_12, evS.eq_15, evS.eq_16, evS.eq_17, evS.eq_18, evS.eq_19, evE.eq_1, evE.eq_2, evE.eq_3, evE.eq_4, evE.eq_5, evE.eq_6, evE.eq_7, evE.eq_8, evE.eq_9, evE.eq_10, evE.eq_11, evE.eq_12, evE.eq_13, evE.eq_14, evE.eq_15, evE.eq_16, evE.eq_17, evE.eq_18, evE.eq_19, evE.eq_21, evE.eq_22, evE.eq_23, evO, evL, evI, evC, opds, Opd.get, pq_add, pq_sub, pq_mul, pq_fdiv, pq_mod, pq_pow, pq_neg, pq_idx, pq_len, pq_tuple, pq_list, pq_rg1, pq_rg2, pq_sorted, pq_abs, pq_int1, pq_max2, pq_min2, pq_all, pq_sum1, pq_lindex, pq_repr, pq_cmp, pq_isT, isData, isTy, of_some, Option.map_some, bd_ok, fl_ok, asBool_bl, cmpT, ltT, argsOut, pNeg, callO, lend, giveBack, T.pure, T.fz, T.fzs, fzs_ils, eqT_int, eqT_bl, eqT_tp, eqT_lst, pLen_tp, pLen_lst, bT_name, bT_tup, bT_lst, bTs_nil, bTs_cons, Option.bind_some, setAll, wipeE, unwipe, len_ils, isLst, line, Int.natCast_inj, isKey, any_ils, inT_ils, eqT_nil, eqT_nn, ils_app, pure_ils, items, d17, b17, pk15, pk16, s1, s2]
open Classical in
theorem q18 (hw : 20 ≤ w) (h : 8 ≤ k) (a c : Pm.Pm n) (h1 : 1 ≤ n) (hn : n ≤ 12) : callK P w k 18 [tq a, tq c] = .ok (.bl (decide (Pm.Pm.Lies a c))) [tq a, tq c] := by
  refine callK_is (d := d18) rfl (by omega) rfl ?_
  have s1 := q13 (w := w) (k := k - 1) hw (by omega) a h1 hn
  have s2 := q13 (w := w) (k := k - 1) hw (by omega) c h1 hn
  have s3 := q13 (w := w) (k := k - 1) hw (by omega) (c.mul a.inv) h1 hn
  have s4 := q16 (w := w) (k := k - 1) (by omega) a c h1 hn
  simp [-List.filterMap_map, -List.map_map, -List.map_set, -List.map_append, -List.any_map, -List.any_append, -List.all_map, -List.all_append, -List.map_take, -List.map_drop, -List.map_tail, -List.map_reverse, -List.map_dropLast, sat_nx, sat_rt, sat_bk, sat_ct, sat_if, osat_ok, Kn_at, sat_nil, sat_cons, sat_for, ForK_at, ev_lcK, LcK_t, LcK_l, LcK_lo, LcK_et, LcK_el, LcK_elo, RetK_at, NonK_at, evS.eq_1, evS.eq_2, evS.eq_3, evS.eq_4, evS.eq_5, evS.eq_6, evS.eq_7, evS.eq_8, evS.eq_9, evS.eq_10, evS.eq_11, evS.eq_12, evS.eq_15, evS.eq_16, evS.eq_17, evS.eq_18, evS.eq_19, evE.eq_1, evE.eq_2, evE.eq_3, evE.eq_4, evE.eq_5, evE.eq_6, evE.eq_7, evE.eq_8, evE.eq_9, evE.eq_10, evE.eq_11, evE.eq_12, evE.eq_13, evE.eq_14, evE.eq_15, evE.eq_16, evE.eq_17, evE.eq_18, evE.eq_19, evE.eq_21, evE.eq_22, evE.eq_23, evO, evL, evI, evC, opds, Opd.get, pq_add, pq_sub, pq_mul, pq_fdiv, pq_mod, pq_pow, pq_neg, pq_idx, pq_len, pq_tuple, pq_list, pq_rg1, pq_rg2, pq_sorted, pq_abs, pq_int1, pq_max2, pq_min2, pq_all, pq_sum1, pq_lindex, pq_repr, pq_cmp, pq_isT, isData, isTy, of_some, Option.map_some, bd_ok, fl_ok, asBool_bl, cmpT, ltT, argsOut, pNeg, callO, lend, giveBack, T.pure, T.fz, T.fzs, fzs_ils, eqT_int, eqT_bl, eqT_tp, eqT_lst, pLen_tp, pLen_lst, bT_name, bT_tup, bT_lst, bTs_nil, bTs_cons, Option.bind_some, setAll, wipeE, unwipe, len_ils, isLst, line, Int.natCast_inj, isKey, any_ils, inT_ils, eqT_nil, eqT_nn, ils_app, pure_ils, items, d18, b18, pk13, pk16, s1, s2, s3, s4, pAdd]
  unfold Pm.Pm.Lies
  omega
open Classical in
theorem q19 (hw : 20 ≤ w) (h : 9 ≤ k) (a c : Pm.Pm n) (h1 : 1 ≤ n) (hn : n ≤ 12) : callK P w k 19 [tq a, tq c] = .ok (.bl (decide (Pm.Pm.Lies a c))) [tq a, tq c] := by
  refine callK_is (d := d19) rfl (by omega) rfl ?_
  have s1 := q15 (w := w) (k := k - 1) (by omega) a c h1 hn
  have s2 := q18 (w := w) (k := k - 1) hw (by omega) a c h1 hn
  simp [-List.filterMap_map, -List.map_map, -List.map_set, -List.map_append, -List.any_map, -List.any_append, -List.all_map, -List.all_append, -List.map_take, -List.map_drop, -List.map_tail, -List.map_reverse, -List.map_dropLast, sat_nx, sat_rt, sat_bk, sat_ct, sat_if, osat_ok, Kn_at, sat_nil, sat_cons, sat_for, ForK_at, ev_lcK, LcK_t, LcK_l, LcK_lo, LcK_et, LcK_el, LcK_elo, RetK_at, NonK_at, evS.eq_1, evS.eq_2, evS.eq_3, evS.eq_4, evS.eq_5, evS.eq_6, evS.eq_7, evS.eq_8, evS.eq_9, evS.eq_10, evS.eq_11, evS.eq_12, evS.eq_15, evS.eq_16, evS.eq_17, evS.eq_18, evS.eq_19, evE.eq_1, evE.eq_2, evE.eq_3, evE.eq_4, evE.eq_5, evE.eq_6, evE.eq_7, evE.eq_8, evE.eq_9, evE.eq_10, evE.eq_11, evE.eq_12, evE.eq_13, evE.eq_14, evE.eq_15, evE.eq_16, evE.eq_17, evE.eq_18, evE.eq_19, evE.eq_21, evE.eq_22, evE.eq_23, evO, evL, evI, evC, opds, Opd.get, pq_add, pq_sub, pq_mul, pq_fdiv, pq_mod, pq_pow, pq_neg, pq_idx, pq_len, pq_tuple, pq_list, pq_rg1, pq_rg2, pq_sorted, pq_abs, pq_int1, pq_max2, pq_min2, pq_all, pq_sum1, pq_lindex, pq_repr, pq_cmp, pq_isT, isData, isTy, of_some, Option.map_some, bd_ok, fl_ok, asBool_bl, cmpT, ltT, argsOut, pNeg, callO, lend, giveBack, T.pure, T.fz, T.fzs, fzs_ils, eqT_int, eqT_bl, eqT_tp, eqT_lst, pLen_tp, pLen_lst, bT_name, bT_tup, bT_lst, bTs_nil, bTs_cons, Option.bind_some, setAll, wipeE, unwipe, len_ils, isLst, line, Int.natCast_inj, isKey, any_ils, inT_ils, eqT_nil, eqT_nn, ils_app, pure_ils, items, d19, b19, pk15, pk18, s1, s2]
/-- the ring with a place -/
theorem q20 (hw : 20 ≤ w) (h : 1 ≤ k) (a : Pm.Pm n) (hn : n ≤ 12) {x : Nat} (hx : x < n) : callK P w k 20 [tq a, .int x] = .ok (.lst true (ils (a.ring x))) [tq a, .int x] := by
  refine callK_is (d := d20) rfl (by omega) rfl ?_
  have hp := a.per_pos hx
  have hl := a.per_le hx
  simp [-List.filterMap_map, -List.map_map, -List.map_set, -List.map_append, -List.any_map, -List.any_append, -List.all_map, -List.all_append, -List.map_take, -List.map_drop, -List.map_tail, -List.map_reverse, -List.map_dropLast, sat_nx, sat_rt, sat_bk, sat_ct, sat_if, osat_ok, Kn_at, sat_nil, sat_cons, sat_for, ForK_at, ev_lcK, LcK_t, LcK_l, LcK_lo, LcK_et, LcK_el, LcK_elo, RetK_at, NonK_at, evS.eq_1, evS.eq_2, evS.eq_3, evS.eq_4, evS.eq_5, evS.eq_6, evS.eq_7, evS.eq_8, evS.eq_9, evS.eq_10, evS.eq_11, evS.eq_12, evS.eq_15, evS.eq_16, evS.eq_17, evS.eq_18, evS.eq_19, evE.eq_1, evE.eq_2, evE.eq_3, evE.eq_4, evE.eq_5, evE.eq_6, evE.eq_7, evE.eq_8, evE.eq_9, evE.eq_10, evE.eq_11, evE.eq_12, evE.eq_13, evE.eq_14, evE.eq_15, evE.eq_16, evE.eq_17, evE.eq_18, evE.eq_19, evE.eq_21, evE.eq_22, evE.eq_23, evO, evL, evI, evC, opds, Opd.get, pq_add, pq_sub, pq_mul, pq_fdiv, pq_mod, pq_pow, pq_neg, pq_idx, pq_len, pq_tuple, pq_list, pq_rg1, pq_rg2, pq_sorted, pq_abs, pq_int1, pq_max2, pq_min2, pq_all, pq_sum1, pq_lindex, pq_repr, pq_cmp, pq_isT, isData, isTy, of_some, Option.map_some, bd_ok, fl_ok, asBool_bl, cmpT, ltT, argsOut, pNeg, callO, lend, giveBack, T.pure, T.fz, T.fzs, fzs_ils, eqT_int, eqT_bl, eqT_tp, eqT_lst, pLen_tp, pLen_lst, bT_name, bT_tup, bT_lst, bTs_nil, bTs_cons, Option.bind_some, setAll, wipeE, unwipe, len_ils, isLst, line, Int.natCast_inj, isKey, any_ils, inT_ils, eqT_nil, eqT_nn, ils_app, pure_ils, items, d20, b20]
  refine whl_sat n (I := fun j env => env = [some (tq a), some (.int x), some (.lst true (ils (rt a x (j + 1))))] ∧ j + 1 ≤ a.per x) (by omega) ⟨by simp [rt, Pm.it], hp⟩ ?_
  rintro j e ⟨rfl, hj⟩ N hN
  have hlen : (rt a x (j + 1)).length = j + 1 := rt_len
  have e1 : pIdx (.lst true (ils (rt a x (j + 1)))) (.int (-1)) = some (.int (Pm.it a.f j x : Nat)) := by
    rw [pIdx_last (by omega)]
    simp [rt, rt_len]
  have e2 := pIdx_tq a (a.it_lt hx j)
  have e3 : a.f (Pm.it a.f j x) = Pm.it a.f (j + 1) x := rfl
  rw [e3] at e2
  have hlin : (rt a x (j + 1)).length < line := by rw [hlen]; show _ < 16777216; omega
  by_cases q : j + 1 = a.per x
  · have e4 : Pm.it a.f (j + 1) x = x := by rw [q, a.per_back hx]
    simp [-List.filterMap_map, -List.map_map, -List.map_set, -List.map_append, -List.any_map, -List.any_append, -List.all_map, -List.all_append, -List.map_take, -List.map_drop, -List.map_tail, -List.map_reverse, -List.map_dropLast, sat_nx, sat_rt, sat_bk, sat_ct, sat_if, osat_ok, Kn_at, sat_nil, sat_cons, sat_for, ForK_at, ev_lcK, LcK_t, LcK_l, LcK_lo, LcK_et, LcK_el, LcK_elo, RetK_at, NonK_at, evS.eq_1, evS.eq_2, evS.eq_3, evS.eq_4, evS.eq_5, evS.eq_6, evS.eq_7, evS.eq_8, evS.eq_9, evS.eq_10, evS.eq_11, evS.eq_12, evS.eq_15, evS.eq_16, evS.eq_17, evS.eq_18, evS.eq_19, evE.eq_1, evE.eq_2, evE.eq_3, evE.eq_4, evE.eq_5, evE.eq_6, evE.eq_7, evE.eq_8, evE.eq_9, evE.eq_10, evE.eq_11, evE.eq_12, evE.eq_13, evE.eq_14, evE.eq_15, evE.eq_16, evE.eq_17, evE.eq_18, evE.eq_19, evE.eq_21, evE.eq_22, evE.eq_23, evO, evL, evI, evC, opds, Opd.get, pq_add, pq_sub, pq_mul, pq_fdiv, pq_mod, pq_pow, pq_neg, pq_idx, pq_len, pq_tuple, pq_list, pq_rg1, pq_rg2, pq_sorted, pq_abs, pq_int1, pq_max2, pq_min2, pq_all, pq_sum1, pq_lindex, pq_repr, pq_cmp, pq_isT, isData, isTy, of_some, Option.map_some, bd_ok, fl_ok, asBool_bl, cmpT, ltT, argsOut, pNeg, callO, lend, giveBack, T.pure, T.fz, T.fzs, fzs_ils, eqT_int, eqT_bl, eqT_tp, eqT_lst, pLen_tp, pLen_lst, bT_name, bT_tup, bT_lst, bTs_nil, bTs_cons, Option.bind_some, setAll, wipeE, unwipe, len_ils, isLst, line, Int.natCast_inj, isKey, any_ils, inT_ils, eqT_nil, eqT_nn, ils_app, pure_ils, items, e1, e2, e4]
    refine .inr ⟨rfl, ?_⟩
    simp [-List.filterMap_map, -List.map_map, -List.map_set, -List.map_append, -List.any_map, -List.any_append, -List.all_map, -List.all_append, -List.map_take, -List.map_drop, -List.map_tail, -List.map_reverse, -List.map_dropLast, sat_nx, sat_rt, sat_bk, sat_ct, sat_if, osat_ok, Kn_at, sat_nil, sat_cons, sat_for, ForK_at, ev_lcK, LcK_t, LcK_l, LcK_lo, LcK_et, LcK_el, LcK_elo, RetK_at, NonK_at, evS.eq_1, evS.eq_2, evS.eq_3, evS.eq_4, evS.eq_5, evS.eq_6, evS.eq_7, evS.eq_8, evS.eq_9, evS.eq_10, evS.eq_11, evS.eq_12, evS.eq_15, evS.eq_16, evS.eq_17, evS.eq_18, evS.eq_19, evE.eq_1, evE.eq_2, evE.eq_3, evE.eq_4, evE.eq_5, evE.eq_6, evE.eq_7, evE.eq_8, evE.eq_9, evE.eq_10, evE.eq_11, evE.eq_12, evE.eq_13, evE.eq_14, evE.eq_15, evE.eq_16, evE.eq_17, evE.eq_18, evE.eq_19, evE.eq_21, evE.eq_22, evE.eq_23, evO, evL, evI, evC, opds, Opd.get, pq_add, pq_sub, pq_mul, pq_fdiv, pq_mod, pq_pow, pq_neg, pq_idx, pq_len, pq_tuple, pq_list, pq_rg1, pq_rg2, pq_sorted, pq_abs, pq_int1, pq_max2, pq_min2, pq_all, pq_sum1, pq_lindex, pq_repr, pq_cmp, pq_isT, isData, isTy, of_some, Option.map_some, bd_ok, fl_ok, asBool_bl, cmpT, ltT, argsOut, pNeg, callO, lend, giveBack, T.pure, T.fz, T.fzs, fzs_ils, eqT_int, eqT_bl, eqT_tp, eqT_lst, pLen_tp, pLen_lst, bT_name, bT_tup, bT_lst, bTs_nil, bTs_cons, Option.bind_some, setAll, wipeE, unwipe, len_ils, isLst, line, Int.natCast_inj, isKey, any_ils, inT_ils, eqT_nil, eqT_nn, ils_app, pure_ils, items]
    rw [q, rt_ring]
  · have e4 : ¬ Pm.it a.f (j + 1) x = x := (a.per_spec hx).2.2.2 (j + 1) (by omega) (by omega)
    simp [-List.filterMap_map, -List.map_map, -List.map_set, -List.map_append, -List.any_map, -List.any_append, -List.all_map, -List.all_append, -List.map_take, -List.map_drop, -List.map_tail, -List.map_reverse, -List.map_dropLast, sat_nx, sat_rt, sat_bk, sat_ct, sat_if, osat_ok, Kn_at, sat_nil, sat_cons, sat_for, ForK_at, ev_lcK, LcK_t, LcK_l, LcK_lo, LcK_et, LcK_el, LcK_elo, RetK_at, NonK_at, evS.eq_1, evS.eq_2, evS.eq_3, evS.eq_4, evS.eq_5, evS.eq_6, evS.eq_7, evS.eq_8, evS.eq_9, evS.eq_10, evS.eq_11, evS.eq_12, evS.eq_15, evS.eq_16, evS.eq_17, evS.eq_18, evS.eq_19, evE.eq_1, evE.eq_2, evE.eq_3, evE.eq_4, evE.eq_5, evE.eq_6, evE.eq_7, evE.eq_8, evE.eq_9, evE.eq_10, evE.eq_11, evE.eq_12, evE.eq_13, evE.eq_14, evE.eq_15, evE.eq_16, evE.eq_17, evE.eq_18, evE.eq_19, evE.eq_21, evE.eq_22, evE.eq_23, evO, evL, evI, evC, opds, Opd.get, pq_add, pq_sub, pq_mul, pq_fdiv, pq_mod, pq_pow, pq_neg, pq_idx, pq_len, pq_tuple, pq_list, pq_rg1, pq_rg2, pq_sorted, pq_abs, pq_int1, pq_max2, pq_min2, pq_all, pq_sum1, pq_lindex, pq_repr, pq_cmp, pq_isT, isData, isTy, of_some, Option.map_some, bd_ok, fl_ok, asBool_bl, cmpT, ltT, argsOut, pNeg, callO, lend, giveBack, T.pure, T.fz, T.fzs, fzs_ils, eqT_int, eqT_bl, eqT_tp, eqT_lst, pLen_tp, pLen_lst, bT_name, bT_tup, bT_lst, bTs_nil, bTs_cons, Option.bind_some, setAll, wipeE, unwipe, len_ils, isLst, line, Int.natCast_inj, isKey, any_ils, inT_ils, eqT_nil, eqT_nn, ils_app, pure_ils, items, e1, e2, e4]
    refine .inl ⟨rfl, by omega, ?_⟩
    simp [-List.filterMap_map, -List.map_map, -List.map_set, -List.map_append, -List.any_map, -List.any_append, -List.all_map, -List.all_append, -List.map_take, -List.map_drop, -List.map_tail, -List.map_reverse, -List.map_dropLast, sat_nx, sat_rt, sat_bk, sat_ct, sat_if, osat_ok, Kn_at, sat_nil, sat_cons, sat_for, ForK_at, ev_lcK, LcK_t, LcK_l, LcK_lo, LcK_et, LcK_el, LcK_elo, RetK_at, NonK_at, evS.eq_1, evS.eq_2, evS.eq_3, evS.eq_4, evS.eq_5, evS.eq_6, evS.eq_7, evS.eq_8, evS.eq_9, evS.eq_10, evS.eq_11, evS.eq_12, evS.eq_15, evS.eq_16, evS.eq_17, evS.eq_18, evS.eq_19, evE.eq_1, evE.eq_2, evE.eq_3, evE.eq_4, evE.eq_5, evE.eq_6, evE.eq_7, evE.eq_8, evE.eq_9, evE.eq_10, evE.eq_11, evE.eq_12, evE.eq_13, evE.eq_14, evE.eq_15, evE.eq_16, evE.eq_17, evE.eq_18, evE.eq_19, evE.eq_21, evE.eq_22, evE.eq_23, evO, evL, evI, evC, opds, Opd.get, pq_add, pq_sub, pq_mul, pq_fdiv, pq_mod, pq_pow, pq_neg, pq_idx, pq_len, pq_tuple, pq_list, pq_rg1, pq_rg2, pq_sorted, pq_abs, pq_int1, pq_max2, pq_min2, pq_all, pq_sum1, pq_lindex, pq_repr, pq_cmp, pq_isT, isData, isTy, of_some, Option.map_some, bd_ok, fl_ok, asBool_bl, cmpT, ltT, argsOut, pNeg, callO, lend, giveBack, T.pure, T.fz, T.fzs, fzs_ils, eqT_int, eqT_bl, eqT_tp, eqT_lst, pLen_tp, pLen_lst, bT_name, bT_tup, bT_lst, bTs_nil, bTs_cons, Option.bind_some, setAll, wipeE, unwipe, len_ils, isLst, line, Int.natCast_inj, isKey, any_ils, inT_ils, eqT_nil, eqT_nn, ils_app, pure_ils, items, e1, e2, hlin, app_ils]
    exact hN _ ⟨by rw [← rt_succ], by omega⟩
end
end K91
end
section
set_option Elab.async false
set_option maxRecDepth 100000
set_option linter.all false
/-! W91e: walks: reasons. -/
open Ev
namespace K91
section
variable {w k n : Nat}
/-- no reason, or one -/
def Rsn (t : T) (ok : Prop) : Prop := (t = .non ∧ ok) ∨ ((∃ ts, t = .tup ts) ∧ ¬ ok)
theorem q21 (hw : 20 ≤ w) (h : 7 ≤ k) (a c : Pm.Pm n) (h1 : 1 ≤ n) (hn : n ≤ 12) : ∃ t as, callK P w k 21 [tq a, tq c] = .ok t as ∧ as = [tq a, tq c] ∧ Rsn t (Pm.Pm.ApartL a c) := by
  refine callK_by (d := d21) _ rfl (by omega) rfl fun Q hQ => ?_
  have s1 := q7 (w := w) (k := k - 1) hw (by omega) a h1 hn
  simp [-List.filterMap_map, -List.map_map, -List.map_set, -List.map_append, -List.any_map, -List.any_append, -List.all_map, -List.all_append, -List.map_take, -List.map_drop, -List.map_tail, -List.map_reverse, -List.map_dropLast, sat_nx, sat_rt, sat_bk, sat_ct, sat_if, osat_ok, Kn_at, sat_nil, sat_cons, sat_for, ForK_at, ev_lcK, LcK_t, LcK_l, LcK_lo, LcK_et, LcK_el, LcK_elo, RetK_at, NonK_at, evS.eq_1, evS.eq_2, evS.eq_3, evS.eq_4, evS.eq_5, evS.eq_6, evS.eq_7, evS.eq_8, evS.eq_9, evS.eq_10, evS.eq_11, evS.eq_12, evS.eq_15, evS.eq_16, evS.eq_17, evS.eq_18, evS.eq_19, evE.eq_1, evE.eq_2, evE.eq_3, evE.eq_4, evE.eq_5, evE.eq_6, evE.eq_7, evE.eq_8, evE.eq_9, evE.eq_10, evE.eq_11, evE.eq_12, evE.eq_13, evE.eq_14, evE.eq_15, evE.eq_16, evE.eq_17, evE.eq_18, evE.eq_19, evE.eq_21, evE.eq_22, evE.eq_23, evO, evL, evI, evC, opds, Opd.get, pq_add, pq_sub, pq_mul, pq_fdiv, pq_mod, pq_pow, pq_neg, pq_idx, pq_len, pq_tuple, pq_list, pq_rg1, pq_rg2, pq_sorted, pq_abs, pq_int1, pq_max2, pq_min2, pq_all, pq_sum1, pq_lindex, pq_repr, pq_cmp, pq_isT, isData, isTy, of_some, Option.map_some, bd_ok, fl_ok, asBool_bl, cmpT, ltT, argsOut, pNeg, callO, lend, giveBack, T.pure, T.fz, T.fzs, fzs_ils, eqT_int, eqT_bl, eqT_tp, eqT_lst, pLen_tp, pLen_lst, bT_name, bT_tup, bT_lst, bTs_nil, bTs_cons, Option.bind_some, setAll, wipeE, unwipe, len_ils, isLst, line, Int.natCast_inj, isKey, any_ils, inT_ils, eqT_nil, eqT_nn, ils_app, pure_ils, items, d21, b21, pk7, s1, iter_tup, tps_rings]
  refine forG_map (I := fun i env => (∃ b c1 d, env = [some (tq a), some (tq c), b, c1, d]) ∧ ∀ j (hj : j < a.heads.length), j < i → ∀ y ∈ a.ring a.heads[j], y ∈ c.ring a.heads[j]) ⟨⟨_, _, _, rfl⟩, fun j _ h0 => absurd h0 (Nat.not_lt_zero j)⟩ ?_ ?_
  · rintro i hi e ⟨⟨b, c1, d, rfl⟩, hI⟩
    have hx := head_at a hi
    have hm := List.getElem_mem hi
    generalize hxe : a.heads[i] = x at hx hm
    have s2 := pIdx_ring0 a hx
    have s3 := q20 (w := w) (k := k - 1) hw (by omega) c hn hx
    refine ⟨_, rfl, fun N hN => ?_⟩
    simp [-List.filterMap_map, -List.map_map, -List.map_set, -List.map_append, -List.any_map, -List.any_append, -List.all_map, -List.all_append, -List.map_take, -List.map_drop, -List.map_tail, -List.map_reverse, -List.map_dropLast, sat_nx, sat_rt, sat_bk, sat_ct, sat_if, osat_ok, Kn_at, sat_nil, sat_cons, sat_for, ForK_at, ev_lcK, LcK_t, LcK_l, LcK_lo, LcK_et, LcK_el, LcK_elo, RetK_at, NonK_at, evS.eq_1, evS.eq_2, evS.eq_3, evS.eq_4, evS.eq_5, evS.eq_6, evS.eq_7, evS.eq_8, evS.eq_9, evS.eq_10, evS.eq_11, evS.eq_12, evS.eq_15, evS.eq_16, evS.eq_17, evS.eq_18, evS.eq_19, evE.eq_1, evE.eq_2, evE.eq_3, evE.eq_4, evE.eq_5, evE.eq_6, evE.eq_7, evE.eq_8, evE.eq_9, evE.eq_10, evE.eq_11, evE.eq_12, evE.eq_13, evE.eq_14, evE.eq_15, evE.eq_16, evE.eq_17, evE.eq_18, evE.eq_19, evE.eq_21, evE.eq_22, evE.eq_23, evO, evL, evI, evC, opds, Opd.get, pq_add, pq_sub, pq_mul, pq_fdiv, pq_mod, pq_pow, pq_neg, pq_idx, pq_len, pq_tuple, pq_list, pq_rg1, pq_rg2, pq_sorted, pq_abs, pq_int1, pq_max2, pq_min2, pq_all, pq_sum1, pq_lindex, pq_repr, pq_cmp, pq_isT, isData, isTy, of_some, Option.map_some, bd_ok, fl_ok, asBool_bl, cmpT, ltT, argsOut, pNeg, callO, lend, giveBack, T.pure, T.fz, T.fzs, fzs_ils, eqT_int, eqT_bl, eqT_tp, eqT_lst, pLen_tp, pLen_lst, bT_name, bT_tup, bT_lst, bTs_nil, bTs_cons, Option.bind_some, setAll, wipeE, unwipe, len_ils, isLst, line, Int.natCast_inj, isKey, any_ils, inT_ils, eqT_nil, eqT_nn, ils_app, pure_ils, items, s2, s3, pk20, pSorted_ils, iter_lst]
    refine forG_map (I := fun i env => (∃ d, env = [some (tq a), some (tq c), some (tp (a.ring x)), some (.lst true (ils (c.ring x))), d]) ∧ ∀ j (hj : j < (srt (a.ring x)).length), j < i → (srt (a.ring x))[j] ∈ c.ring x) ⟨⟨_, rfl⟩, fun j _ h0 => absurd h0 (Nat.not_lt_zero j)⟩ ?_ ?_
    · rintro l hl e ⟨⟨d, rfl⟩, hJ⟩
      have hy : (srt (a.ring x))[l] ∈ a.ring x := (srt_perm _).mem_iff.mp (List.getElem_mem hl)
      have hye : ∀ y, (srt (a.ring x))[l] = y → y ∈ c.ring x → ∀ j (hj : j < (srt (a.ring x)).length), j < l + 1 → (srt (a.ring x))[j] ∈ c.ring x := by
        intro y e hyc j hj hjl
        by_cases q : j = l
        · subst q; rw [e]; exact hyc
        · exact hJ j hj (by omega)
      generalize (srt (a.ring x))[l] = y at hy hye
      refine ⟨_, rfl, fun N' hN' => ?_⟩
      by_cases q : y ∈ c.ring x
      · simp [-List.filterMap_map, -List.map_map, -List.map_set, -List.map_append, -List.any_map, -List.any_append, -List.all_map, -List.all_append, -List.map_take, -List.map_drop, -List.map_tail, -List.map_reverse, -List.map_dropLast, sat_nx, sat_rt, sat_bk, sat_ct, sat_if, osat_ok, Kn_at, sat_nil, sat_cons, sat_for, ForK_at, ev_lcK, LcK_t, LcK_l, LcK_lo, LcK_et, LcK_el, LcK_elo, RetK_at, NonK_at, evS.eq_1, evS.eq_2, evS.eq_3, evS.eq_4, evS.eq_5, evS.eq_6, evS.eq_7, evS.eq_8, evS.eq_9, evS.eq_10, evS.eq_11, evS.eq_12, evS.eq_15, evS.eq_16, evS.eq_17, evS.eq_18, evS.eq_19, evE.eq_1, evE.eq_2, evE.eq_3, evE.eq_4, evE.eq_5, evE.eq_6, evE.eq_7, evE.eq_8, evE.eq_9, evE.eq_10, evE.eq_11, evE.eq_12, evE.eq_13, evE.eq_14, evE.eq_15, evE.eq_16, evE.eq_17, evE.eq_18, evE.eq_19, evE.eq_21, evE.eq_22, evE.eq_23, evO, evL, evI, evC, opds, Opd.get, pq_add, pq_sub, pq_mul, pq_fdiv, pq_mod, pq_pow, pq_neg, pq_idx, pq_len, pq_tuple, pq_list, pq_rg1, pq_rg2, pq_sorted, pq_abs, pq_int1, pq_max2, pq_min2, pq_all, pq_sum1, pq_lindex, pq_repr, pq_cmp, pq_isT, isData, isTy, of_some, Option.map_some, bd_ok, fl_ok, asBool_bl, cmpT, ltT, argsOut, pNeg, callO, lend, giveBack, T.pure, T.fz, T.fzs, fzs_ils, eqT_int, eqT_bl, eqT_tp, eqT_lst, pLen_tp, pLen_lst, bT_name, bT_tup, bT_lst, bTs_nil, bTs_cons, Option.bind_some, setAll, wipeE, unwipe, len_ils, isLst, line, Int.natCast_inj, isKey, any_ils, inT_ils, eqT_nil, eqT_nn, ils_app, pure_ils, items, q]
        exact hN' _ ⟨⟨_, rfl⟩, hye y rfl q⟩
      · simp [-List.filterMap_map, -List.map_map, -List.map_set, -List.map_append, -List.any_map, -List.any_append, -List.all_map, -List.all_append, -List.map_take, -List.map_drop, -List.map_tail, -List.map_reverse, -List.map_dropLast, sat_nx, sat_rt, sat_bk, sat_ct, sat_if, osat_ok, Kn_at, sat_nil, sat_cons, sat_for, ForK_at, ev_lcK, LcK_t, LcK_l, LcK_lo, LcK_et, LcK_el, LcK_elo, RetK_at, NonK_at, evS.eq_1, evS.eq_2, evS.eq_3, evS.eq_4, evS.eq_5, evS.eq_6, evS.eq_7, evS.eq_8, evS.eq_9, evS.eq_10, evS.eq_11, evS.eq_12, evS.eq_15, evS.eq_16, evS.eq_17, evS.eq_18, evS.eq_19, evE.eq_1, evE.eq_2, evE.eq_3, evE.eq_4, evE.eq_5, evE.eq_6, evE.eq_7, evE.eq_8, evE.eq_9, evE.eq_10, evE.eq_11, evE.eq_12, evE.eq_13, evE.eq_14, evE.eq_15, evE.eq_16, evE.eq_17, evE.eq_18, evE.eq_19, evE.eq_21, evE.eq_22, evE.eq_23, evO, evL, evI, evC, opds, Opd.get, pq_add, pq_sub, pq_mul, pq_fdiv, pq_mod, pq_pow, pq_neg, pq_idx, pq_len, pq_tuple, pq_list, pq_rg1, pq_rg2, pq_sorted, pq_abs, pq_int1, pq_max2, pq_min2, pq_all, pq_sum1, pq_lindex, pq_repr, pq_cmp, pq_isT, isData, isTy, of_some, Option.map_some, bd_ok, fl_ok, asBool_bl, cmpT, ltT, argsOut, pNeg, callO, lend, giveBack, T.pure, T.fz, T.fzs, fzs_ils, eqT_int, eqT_bl, eqT_tp, eqT_lst, pLen_tp, pLen_lst, bT_name, bT_tup, bT_lst, bTs_nil, bTs_cons, Option.bind_some, setAll, wipeE, unwipe, len_ils, isLst, line, Int.natCast_inj, isKey, any_ils, inT_ils, eqT_nil, eqT_nn, ils_app, pure_ils, items, q, s2, pMin, pMax]
        exact hQ _ _ ⟨rfl, .inr ⟨⟨_, rfl⟩, fun hA => q (hA x hm y hy)⟩⟩
    · rintro e ⟨⟨d, rfl⟩, hJ⟩
      simp [-List.filterMap_map, -List.map_map, -List.map_set, -List.map_append, -List.any_map, -List.any_append, -List.all_map, -List.all_append, -List.map_take, -List.map_drop, -List.map_tail, -List.map_reverse, -List.map_dropLast, sat_nx, sat_rt, sat_bk, sat_ct, sat_if, osat_ok, Kn_at, sat_nil, sat_cons, sat_for, ForK_at, ev_lcK, LcK_t, LcK_l, LcK_lo, LcK_et, LcK_el, LcK_elo, RetK_at, NonK_at, evS.eq_1, evS.eq_2, evS.eq_3, evS.eq_4, evS.eq_5, evS.eq_6, evS.eq_7, evS.eq_8, evS.eq_9, evS.eq_10, evS.eq_11, evS.eq_12, evS.eq_15, evS.eq_16, evS.eq_17, evS.eq_18, evS.eq_19, evE.eq_1, evE.eq_2, evE.eq_3, evE.eq_4, evE.eq_5, evE.eq_6, evE.eq_7, evE.eq_8, evE.eq_9, evE.eq_10, evE.eq_11, evE.eq_12, evE.eq_13, evE.eq_14, evE.eq_15, evE.eq_16, evE.eq_17, evE.eq_18, evE.eq_19, evE.eq_21, evE.eq_22, evE.eq_23, evO, evL, evI, evC, opds, Opd.get, pq_add, pq_sub, pq_mul, pq_fdiv, pq_mod, pq_pow, pq_neg, pq_idx, pq_len, pq_tuple, pq_list, pq_rg1, pq_rg2, pq_sorted, pq_abs, pq_int1, pq_max2, pq_min2, pq_all, pq_sum1, pq_lindex, pq_repr, pq_cmp, pq_isT, isData, isTy, of_some, Option.map_some, bd_ok, fl_ok, asBool_bl, cmpT, ltT, argsOut, pNeg, callO, lend, giveBack, T.pure, T.fz, T.fzs, fzs_ils, eqT_int, eqT_bl, eqT_tp, eqT_lst, pLen_tp, pLen_lst, bT_name, bT_tup, bT_lst, bTs_nil, bTs_cons, Option.bind_some, setAll, wipeE, unwipe, len_ils, isLst, line, Int.natCast_inj, isKey, any_ils, inT_ils, eqT_nil, eqT_nn, ils_app, pure_ils, items]
      refine hN _ ⟨⟨_, _, _, rfl⟩, fun j hj hji => ?_⟩
      by_cases q : j = i
      · subst q
        rw [hxe]
        intro y hy
        obtain ⟨l, hl, e⟩ := List.getElem_of_mem ((srt_perm _).mem_iff.mpr hy)
        rw [← e]
        exact hJ l hl hl
      · exact hI j hj (by omega)
  · rintro e ⟨⟨b, c1, d, rfl⟩, hI⟩
    simp [-List.filterMap_map, -List.map_map, -List.map_set, -List.map_append, -List.any_map, -List.any_append, -List.all_map, -List.all_append, -List.map_take, -List.map_drop, -List.map_tail, -List.map_reverse, -List.map_dropLast, sat_nx, sat_rt, sat_bk, sat_ct, sat_if, osat_ok, Kn_at, sat_nil, sat_cons, sat_for, ForK_at, ev_lcK, LcK_t, LcK_l, LcK_lo, LcK_et, LcK_el, LcK_elo, RetK_at, NonK_at, evS.eq_1, evS.eq_2, evS.eq_3, evS.eq_4, evS.eq_5, evS.eq_6, evS.eq_7, evS.eq_8, evS.eq_9, evS.eq_10, evS.eq_11, evS.eq_12, evS.eq_15, evS.eq_16, evS.eq_17, evS.eq_18, evS.eq_19, evE.eq_1, evE.eq_2, evE.eq_3, evE.eq_4, evE.eq_5, evE.eq_6, evE.eq_7, evE.eq_8, evE.eq_9, evE.eq_10, evE.eq_11, evE.eq_12, evE.eq_13, evE.eq_14, evE.eq_15, evE.eq_16, evE.eq_17, evE.eq_18, evE.eq_19, evE.eq_21, evE.eq_22, evE.eq_23, evO, evL, evI, evC, opds, Opd.get, pq_add, pq_sub, pq_mul, pq_fdiv, pq_mod, pq_pow, pq_neg, pq_idx, pq_len, pq_tuple, pq_list, pq_rg1, pq_rg2, pq_sorted, pq_abs, pq_int1, pq_max2, pq_min2, pq_all, pq_sum1, pq_lindex, pq_repr, pq_cmp, pq_isT, isData, isTy, of_some, Option.map_some, bd_ok, fl_ok, asBool_bl, cmpT, ltT, argsOut, pNeg, callO, lend, giveBack, T.pure, T.fz, T.fzs, fzs_ils, eqT_int, eqT_bl, eqT_tp, eqT_lst, pLen_tp, pLen_lst, bT_name, bT_tup, bT_lst, bTs_nil, bTs_cons, Option.bind_some, setAll, wipeE, unwipe, len_ils, isLst, line, Int.natCast_inj, isKey, any_ils, inT_ils, eqT_nil, eqT_nn, ils_app, pure_ils, items]
    refine hQ _ _ ⟨rfl, .inl ⟨rfl, fun x hx y hy => ?_⟩⟩
    obtain ⟨j, hj, e⟩ := List.getElem_of_mem hx
    subst e
    exact hI j hj hj y hy
end
end K91
end
section
set_option Elab.async false
set_option maxRecDepth 100000
set_option linter.all false
/-! W91f: walks: reasons of order and of crossing. -/
open Ev
namespace K91
section
variable {w k n : Nat}
theorem tup_nat (t : T) (xs : List Nat) (f : Nat → Nat) : (ils xs).map (hN f) = ils (xs.map f) := map_hN f xs
theorem q22 (hw : 20 ≤ w) (h : 7 ≤ k) (a c : Pm.Pm n) (h1 : 1 ≤ n) (hn : n ≤ 12) (hA : Pm.Pm.ApartL a c) : ∃ t as, callK P w k 22 [tq a, tq c] = .ok t as ∧ as = [tq a, tq c] ∧ Rsn t (Pm.Pm.RoundL a c) := by
  refine callK_by (d := d22) _ rfl (by omega) rfl fun Q hQ => ?_
  have s1 := q7 (w := w) (k := k - 1) hw (by omega) a h1 hn
  simp [-List.filterMap_map, -List.map_map, -List.map_set, -List.map_append, -List.any_map, -List.any_append, -List.all_map, -List.all_append, -List.map_take, -List.map_drop, -List.map_tail, -List.map_reverse, -List.map_dropLast, sat_nx, sat_rt, sat_bk, sat_ct, sat_if, osat_ok, Kn_at, sat_nil, sat_cons, sat_for, ForK_at, ev_lcK, LcK_t, LcK_l, LcK_lo, LcK_et, LcK_el, LcK_elo, RetK_at, NonK_at, evS.eq_1, evS.eq_2, evS.eq_3, evS.eq_4, evS.eq_5, evS.eq_6, evS.eq_7, evS.eq_8, evS.eq_9, evS.eq_10, evS.eq_11, evS.eq_12, evS.eq_15, evS.eq_16, evS.eq_17, evS.eq_18, evS.eq_19, evE.eq_1, evE.eq_2, evE.eq_3, evE.eq_4, evE.eq_5, evE.eq_6, evE.eq_7, evE.eq_8, evE.eq_9, evE.eq_10, evE.eq_11, evE.eq_12, evE.eq_13, evE.eq_14, evE.eq_15, evE.eq_16, evE.eq_17, evE.eq_18, evE.eq_19, evE.eq_21, evE.eq_22, evE.eq_23, evO, evL, evI, evC, opds, Opd.get, pq_add, pq_sub, pq_mul, pq_fdiv, pq_mod, pq_pow, pq_neg, pq_idx, pq_len, pq_tuple, pq_list, pq_rg1, pq_rg2, pq_sorted, pq_abs, pq_int1, pq_max2, pq_min2, pq_all, pq_sum1, pq_lindex, pq_repr, pq_cmp, pq_isT, isData, isTy, of_some, Option.map_some, bd_ok, fl_ok, asBool_bl, cmpT, ltT, argsOut, pNeg, callO, lend, giveBack, T.pure, T.fz, T.fzs, fzs_ils, eqT_int, eqT_bl, eqT_tp, eqT_lst, pLen_tp, pLen_lst, bT_name, bT_tup, bT_lst, bTs_nil, bTs_cons, Option.bind_some, setAll, wipeE, unwipe, len_ils, isLst, line, Int.natCast_inj, isKey, any_ils, inT_ils, eqT_nil, eqT_nn, ils_app, pure_ils, items, d22, b22, pk7, s1, iter_tup, tps_rings]
  refine forG_map (I := fun i env => (∃ b c1 d e, env = [some (tq a), some (tq c), b, c1, d, e, none]) ∧ ∀ j (hj : j < a.heads.length), j < i → ∀ l, 1 ≤ l → l + 1 < a.per a.heads[j] → ¬ Pm.Pm.spot a c a.heads[j] (l + 1) < Pm.Pm.spot a c a.heads[j] l) ⟨⟨_, _, _, _, rfl⟩, fun j _ h0 => absurd h0 (Nat.not_lt_zero j)⟩ ?_ ?_
  · rintro i hi e ⟨⟨b, c1, d, e, rfl⟩, hI⟩
    have hx := head_at a hi
    have hm := List.getElem_mem hi
    generalize hxe : a.heads[i] = x at hx hm
    have s2 := pIdx_ring0 a hx
    have s3 := q20 (w := w) (k := k - 1) hw (by omega) c hn hx
    refine ⟨_, rfl, fun N hN => ?_⟩
    have hper := a.per_le hx
    have hlen : (a.ring x).length = a.per x := Pm.Pm.ring_len a x
    simp [-List.filterMap_map, -List.map_map, -List.map_set, -List.map_append, -List.any_map, -List.any_append, -List.all_map, -List.all_append, -List.map_take, -List.map_drop, -List.map_tail, -List.map_reverse, -List.map_dropLast, sat_nx, sat_rt, sat_bk, sat_ct, sat_if, osat_ok, Kn_at, sat_nil, sat_cons, sat_for, ForK_at, ev_lcK, LcK_t, LcK_l, LcK_lo, LcK_et, LcK_el, LcK_elo, RetK_at, NonK_at, evS.eq_1, evS.eq_2, evS.eq_3, evS.eq_4, evS.eq_5, evS.eq_6, evS.eq_7, evS.eq_8, evS.eq_9, evS.eq_10, evS.eq_11, evS.eq_12, evS.eq_15, evS.eq_16, evS.eq_17, evS.eq_18, evS.eq_19, evE.eq_1, evE.eq_2, evE.eq_3, evE.eq_4, evE.eq_5, evE.eq_6, evE.eq_7, evE.eq_8, evE.eq_9, evE.eq_10, evE.eq_11, evE.eq_12, evE.eq_13, evE.eq_14, evE.eq_15, evE.eq_16, evE.eq_17, evE.eq_18, evE.eq_19, evE.eq_21, evE.eq_22, evE.eq_23, evO, evL, evI, evC, opds, Opd.get, pq_add, pq_sub, pq_mul, pq_fdiv, pq_mod, pq_pow, pq_neg, pq_idx, pq_len, pq_tuple, pq_list, pq_rg1, pq_rg2, pq_sorted, pq_abs, pq_int1, pq_max2, pq_min2, pq_all, pq_sum1, pq_lindex, pq_repr, pq_cmp, pq_isT, isData, isTy, of_some, Option.map_some, bd_ok, fl_ok, asBool_bl, cmpT, ltT, argsOut, pNeg, callO, lend, giveBack, T.pure, T.fz, T.fzs, fzs_ils, eqT_int, eqT_bl, eqT_tp, eqT_lst, pLen_tp, pLen_lst, bT_name, bT_tup, bT_lst, bTs_nil, bTs_cons, Option.bind_some, setAll, wipeE, unwipe, len_ils, isLst, line, Int.natCast_inj, isKey, any_ils, inT_ils, eqT_nil, eqT_nn, ils_app, pure_ils, items, s2, s3, pk20, iter_tup]
    rw [lcG_map (fun y : Nat => T.int ((c.ring x).idxOf y : Nat)) (by rw [hlen]; show _ ≤ 16777216; omega) (fun y hy => by
      have e1 := pIndex_ils (o := true) (hA x hm y hy)
      refine ⟨_, rfl, ?_⟩
      simp [-List.filterMap_map, -List.map_map, -List.map_set, -List.map_append, -List.any_map, -List.any_append, -List.all_map, -List.all_append, -List.map_take, -List.map_drop, -List.map_tail, -List.map_reverse, -List.map_dropLast, sat_nx, sat_rt, sat_bk, sat_ct, sat_if, osat_ok, Kn_at, sat_nil, sat_cons, sat_for, ForK_at, ev_lcK, LcK_t, LcK_l, LcK_lo, LcK_et, LcK_el, LcK_elo, RetK_at, NonK_at, evS.eq_1, evS.eq_2, evS.eq_3, evS.eq_4, evS.eq_5, evS.eq_6, evS.eq_7, evS.eq_8, evS.eq_9, evS.eq_10, evS.eq_11, evS.eq_12, evS.eq_15, evS.eq_16, evS.eq_17, evS.eq_18, evS.eq_19, evE.eq_1, evE.eq_2, evE.eq_3, evE.eq_4, evE.eq_5, evE.eq_6, evE.eq_7, evE.eq_8, evE.eq_9, evE.eq_10, evE.eq_11, evE.eq_12, evE.eq_13, evE.eq_14, evE.eq_15, evE.eq_16, evE.eq_17, evE.eq_18, evE.eq_19, evE.eq_21, evE.eq_22, evE.eq_23, evO, evL, evI, evC, opds, Opd.get, pq_add, pq_sub, pq_mul, pq_fdiv, pq_mod, pq_pow, pq_neg, pq_idx, pq_len, pq_tuple, pq_list, pq_rg1, pq_rg2, pq_sorted, pq_abs, pq_int1, pq_max2, pq_min2, pq_all, pq_sum1, pq_lindex, pq_repr, pq_cmp, pq_isT, isData, isTy, of_some, Option.map_some, bd_ok, fl_ok, asBool_bl, cmpT, ltT, argsOut, pNeg, callO, lend, giveBack, T.pure, T.fz, T.fzs, fzs_ils, eqT_int, eqT_bl, eqT_tp, eqT_lst, pLen_tp, pLen_lst, bT_name, bT_tup, bT_lst, bTs_nil, bTs_cons, Option.bind_some, setAll, wipeE, unwipe, len_ils, isLst, line, Int.natCast_inj, isKey, any_ils, inT_ils, eqT_nil, eqT_nn, ils_app, pure_ils, items, rcvOk, e1])]
    have e2 : ((a.ring x).map fun y : Nat => T.int ((c.ring x).idxOf y : Nat)) = ils ((a.ring x).map fun y => (c.ring x).idxOf y) := by
      show _ = List.map _ (List.map _ _)
      rw [List.map_map]; rfl
    rw [e2]
    have hsl : ((a.ring x).map fun y => (c.ring x).idxOf y).length = a.per x := by rw [List.length_map, hlen]
    have hsp : ∀ l (hl : l < ((a.ring x).map fun y => (c.ring x).idxOf y).length), ((a.ring x).map fun y => (c.ring x).idxOf y)[l] = Pm.Pm.spot a c x l := fun l hl => by
      rw [List.getElem_map, Pm.Pm.ring_at]
      rfl
    generalize (a.ring x).map (fun y => (c.ring x).idxOf y) = sp at hsl hsp
    simp [-List.filterMap_map, -List.map_map, -List.map_set, -List.map_append, -List.any_map, -List.any_append, -List.all_map, -List.all_append, -List.map_take, -List.map_drop, -List.map_tail, -List.map_reverse, -List.map_dropLast, sat_nx, sat_rt, sat_bk, sat_ct, sat_if, osat_ok, Kn_at, sat_nil, sat_cons, sat_for, ForK_at, ev_lcK, LcK_t, LcK_l, LcK_lo, LcK_et, LcK_el, LcK_elo, RetK_at, NonK_at, evS.eq_1, evS.eq_2, evS.eq_3, evS.eq_4, evS.eq_5, evS.eq_6, evS.eq_7, evS.eq_8, evS.eq_9, evS.eq_10, evS.eq_11, evS.eq_12, evS.eq_15, evS.eq_16, evS.eq_17, evS.eq_18, evS.eq_19, evE.eq_1, evE.eq_2, evE.eq_3, evE.eq_4, evE.eq_5, evE.eq_6, evE.eq_7, evE.eq_8, evE.eq_9, evE.eq_10, evE.eq_11, evE.eq_12, evE.eq_13, evE.eq_14, evE.eq_15, evE.eq_16, evE.eq_17, evE.eq_18, evE.eq_19, evE.eq_21, evE.eq_22, evE.eq_23, evO, evL, evI, evC, opds, Opd.get, pq_add, pq_sub, pq_mul, pq_fdiv, pq_mod, pq_pow, pq_neg, pq_idx, pq_len, pq_tuple, pq_list, pq_rg1, pq_rg2, pq_sorted, pq_abs, pq_int1, pq_max2, pq_min2, pq_all, pq_sum1, pq_lindex, pq_repr, pq_cmp, pq_isT, isData, isTy, of_some, Option.map_some, bd_ok, fl_ok, asBool_bl, cmpT, ltT, argsOut, pNeg, callO, lend, giveBack, T.pure, T.fz, T.fzs, fzs_ils, eqT_int, eqT_bl, eqT_tp, eqT_lst, pLen_tp, pLen_lst, bT_name, bT_tup, bT_lst, bTs_nil, bTs_cons, Option.bind_some, setAll, wipeE, unwipe, len_ils, isLst, line, Int.natCast_inj, isKey, any_ils, inT_ils, eqT_nil, eqT_nn, ils_app, pure_ils, items, hlen, pSub, iter_rg2m (show a.per x < 1000000 by omega)]
    refine forG_map (I := fun i env => (∃ d, env = [some (tq a), some (tq c), some (tp (a.ring x)), some (.lst true (ils (c.ring x))), some (.lst true (ils sp)), d, none]) ∧ ∀ l, 1 ≤ l → l < i + 1 → l + 1 < a.per x → ¬ Pm.Pm.spot a c x (l + 1) < Pm.Pm.spot a c x l) ⟨⟨_, rfl⟩, fun l _ _ => by omega⟩ ?_ ?_
    · rintro l hl e ⟨⟨d, rfl⟩, hJ⟩
      rw [List.length_range'] at hl
      rw [List.getElem_range']
      have hpl : l + 2 < a.per x := by omega
      generalize hy : 1 + 1 * l = y
      have hy' : y = l + 1 := by omega
      refine ⟨_, rfl, fun N' hN' => ?_⟩
      have e3 := pIdx_lst (o := true) (p := sp) (i := y) (by omega)
      have e4 := pIdx_lst1 (o := true) (p := sp) (i := y) (by omega)
      rw [hsp] at e3 e4
      have e5 := pIdx_tp (p := a.ring x) (i := y) (by omega)
      have e6 := pIdx_tp1 (p := a.ring x) (i := y) (by omega)
      by_cases q : Pm.Pm.spot a c x (y + 1) < Pm.Pm.spot a c x y
      · have q' : ((Pm.Pm.spot a c x (y + 1) : Nat) : Int) < (Pm.Pm.spot a c x y : Nat) := by omega
        simp [-List.filterMap_map, -List.map_map, -List.map_set, -List.map_append, -List.any_map, -List.any_append, -List.all_map, -List.all_append, -List.map_take, -List.map_drop, -List.map_tail, -List.map_reverse, -List.map_dropLast, sat_nx, sat_rt, sat_bk, sat_ct, sat_if, osat_ok, Kn_at, sat_nil, sat_cons, sat_for, ForK_at, ev_lcK, LcK_t, LcK_l, LcK_lo, LcK_et, LcK_el, LcK_elo, RetK_at, NonK_at, evS.eq_1, evS.eq_2, evS.eq_3, evS.eq_4, evS.eq_5, evS.eq_6, evS.eq_7, evS.eq_8, evS.eq_9, evS.eq_10, evS.eq_11, evS.eq_12, evS.eq_15, evS.eq_16, evS.eq_17, evS.eq_18, evS.eq_19, evE.eq_1, evE.eq_2, evE.eq_3, evE.eq_4, evE.eq_5, evE.eq_6, evE.eq_7, evE.eq_8, evE.eq_9, evE.eq_10, evE.eq_11, evE.eq_12, evE.eq_13, evE.eq_14, evE.eq_15, evE.eq_16, evE.eq_17, evE.eq_18, evE.eq_19, evE.eq_21, evE.eq_22, evE.eq_23, evO, evL, evI, evC, opds, Opd.get, pq_add, pq_sub, pq_mul, pq_fdiv, pq_mod, pq_pow, pq_neg, pq_idx, pq_len, pq_tuple, pq_list, pq_rg1, pq_rg2, pq_sorted, pq_abs, pq_int1, pq_max2, pq_min2, pq_all, pq_sum1, pq_lindex, pq_repr, pq_cmp, pq_isT, isData, isTy, of_some, Option.map_some, bd_ok, fl_ok, asBool_bl, cmpT, ltT, argsOut, pNeg, callO, lend, giveBack, T.pure, T.fz, T.fzs, fzs_ils, eqT_int, eqT_bl, eqT_tp, eqT_lst, pLen_tp, pLen_lst, bT_name, bT_tup, bT_lst, bTs_nil, bTs_cons, Option.bind_some, setAll, wipeE, unwipe, len_ils, isLst, line, Int.natCast_inj, isKey, any_ils, inT_ils, eqT_nil, eqT_nn, ils_app, pure_ils, items, e3, e4, pAdd, q', s2, e5, e6]
        exact hQ _ _ ⟨rfl, .inr ⟨⟨_, rfl⟩, fun hR => hR x hm y (by omega) (by omega) q⟩⟩
      · have q' : ¬ ((Pm.Pm.spot a c x (y + 1) : Nat) : Int) < (Pm.Pm.spot a c x y : Nat) := by omega
        simp [-List.filterMap_map, -List.map_map, -List.map_set, -List.map_append, -List.any_map, -List.any_append, -List.all_map, -List.all_append, -List.map_take, -List.map_drop, -List.map_tail, -List.map_reverse, -List.map_dropLast, sat_nx, sat_rt, sat_bk, sat_ct, sat_if, osat_ok, Kn_at, sat_nil, sat_cons, sat_for, ForK_at, ev_lcK, LcK_t, LcK_l, LcK_lo, LcK_et, LcK_el, LcK_elo, RetK_at, NonK_at, evS.eq_1, evS.eq_2, evS.eq_3, evS.eq_4, evS.eq_5, evS.eq_6, evS.eq_7, evS.eq_8, evS.eq_9, evS.eq_10, evS.eq_11, evS.eq_12, evS.eq_15, evS.eq_16, evS.eq_17, evS.eq_18, evS.eq_19, evE.eq_1, evE.eq_2, evE.eq_3, evE.eq_4, evE.eq_5, evE.eq_6, evE.eq_7, evE.eq_8, evE.eq_9, evE.eq_10, evE.eq_11, evE.eq_12, evE.eq_13, evE.eq_14, evE.eq_15, evE.eq_16, evE.eq_17, evE.eq_18, evE.eq_19, evE.eq_21, evE.eq_22, evE.eq_23, evO, evL, evI, evC, opds, Opd.get, pq_add, pq_sub, pq_mul, pq_fdiv, pq_mod, pq_pow, pq_neg, pq_idx, pq_len, pq_tuple, pq_list, pq_rg1, pq_rg2, pq_sorted, pq_abs, pq_int1, pq_max2, pq_min2, pq_all, pq_sum1, pq_lindex, pq_repr, pq_cmp, pq_isT, isData, isTy, of_some, Option.map_some, bd_ok, fl_ok, asBool_bl, cmpT, ltT, argsOut, pNeg, callO, lend, giveBack, T.pure, T.fz, T.fzs, fzs_ils, eqT_int, eqT_bl, eqT_tp, eqT_lst, pLen_tp, pLen_lst, bT_name, bT_tup, bT_lst, bTs_nil, bTs_cons, Option.bind_some, setAll, wipeE, unwipe, len_ils, isLst, line, Int.natCast_inj, isKey, any_ils, inT_ils, eqT_nil, eqT_nn, ils_app, pure_ils, items, e3, e4, pAdd, q']
        refine hN' _ ⟨⟨_, rfl⟩, fun z hz1 hz2 hz3 => ?_⟩
        by_cases qz : z = y
        · subst qz; exact q
        · exact hJ z hz1 (by omega) hz3
    · rintro e ⟨⟨d, rfl⟩, hJ⟩
      simp [-List.filterMap_map, -List.map_map, -List.map_set, -List.map_append, -List.any_map, -List.any_append, -List.all_map, -List.all_append, -List.map_take, -List.map_drop, -List.map_tail, -List.map_reverse, -List.map_dropLast, sat_nx, sat_rt, sat_bk, sat_ct, sat_if, osat_ok, Kn_at, sat_nil, sat_cons, sat_for, ForK_at, ev_lcK, LcK_t, LcK_l, LcK_lo, LcK_et, LcK_el, LcK_elo, RetK_at, NonK_at, evS.eq_1, evS.eq_2, evS.eq_3, evS.eq_4, evS.eq_5, evS.eq_6, evS.eq_7, evS.eq_8, evS.eq_9, evS.eq_10, evS.eq_11, evS.eq_12, evS.eq_15, evS.eq_16, evS.eq_17, evS.eq_18, evS.eq_19, evE.eq_1, evE.eq_2, evE.eq_3, evE.eq_4, evE.eq_5, evE.eq_6, evE.eq_7, evE.eq_8, evE.eq_9, evE.eq_10, evE.eq_11, evE.eq_12, evE.eq_13, evE.eq_14, evE.eq_15, evE.eq_16, evE.eq_17, evE.eq_18, evE.eq_19, evE.eq_21, evE.eq_22, evE.eq_23, evO, evL, evI, evC, opds, Opd.get, pq_add, pq_sub, pq_mul, pq_fdiv, pq_mod, pq_pow, pq_neg, pq_idx, pq_len, pq_tuple, pq_list, pq_rg1, pq_rg2, pq_sorted, pq_abs, pq_int1, pq_max2, pq_min2, pq_all, pq_sum1, pq_lindex, pq_repr, pq_cmp, pq_isT, isData, isTy, of_some, Option.map_some, bd_ok, fl_ok, asBool_bl, cmpT, ltT, argsOut, pNeg, callO, lend, giveBack, T.pure, T.fz, T.fzs, fzs_ils, eqT_int, eqT_bl, eqT_tp, eqT_lst, pLen_tp, pLen_lst, bT_name, bT_tup, bT_lst, bTs_nil, bTs_cons, Option.bind_some, setAll, wipeE, unwipe, len_ils, isLst, line, Int.natCast_inj, isKey, any_ils, inT_ils, eqT_nil, eqT_nn, ils_app, pure_ils, items]
      refine hN _ ⟨⟨_, _, _, _, rfl⟩, fun j hj hji => ?_⟩
      by_cases q : j = i
      · subst q
        rw [hxe]
        intro l hl1 hl2
        exact hJ l hl1 (by rw [List.length_range']; omega) hl2
      · exact hI j hj (by omega)
  · rintro e ⟨⟨b, c1, d, e, rfl⟩, hI⟩
    simp [-List.filterMap_map, -List.map_map, -List.map_set, -List.map_append, -List.any_map, -List.any_append, -List.all_map, -List.all_append, -List.map_take, -List.map_drop, -List.map_tail, -List.map_reverse, -List.map_dropLast, sat_nx, sat_rt, sat_bk, sat_ct, sat_if, osat_ok, Kn_at, sat_nil, sat_cons, sat_for, ForK_at, ev_lcK, LcK_t, LcK_l, LcK_lo, LcK_et, LcK_el, LcK_elo, RetK_at, NonK_at, evS.eq_1, evS.eq_2, evS.eq_3, evS.eq_4, evS.eq_5, evS.eq_6, evS.eq_7, evS.eq_8, evS.eq_9, evS.eq_10, evS.eq_11, evS.eq_12, evS.eq_15, evS.eq_16, evS.eq_17, evS.eq_18, evS.eq_19, evE.eq_1, evE.eq_2, evE.eq_3, evE.eq_4, evE.eq_5, evE.eq_6, evE.eq_7, evE.eq_8, evE.eq_9, evE.eq_10, evE.eq_11, evE.eq_12, evE.eq_13, evE.eq_14, evE.eq_15, evE.eq_16, evE.eq_17, evE.eq_18, evE.eq_19, evE.eq_21, evE.eq_22, evE.eq_23, evO, evL, evI, evC, opds, Opd.get, pq_add, pq_sub, pq_mul, pq_fdiv, pq_mod, pq_pow, pq_neg, pq_idx, pq_len, pq_tuple, pq_list, pq_rg1, pq_rg2, pq_sorted, pq_abs, pq_int1, pq_max2, pq_min2, pq_all, pq_sum1, pq_lindex, pq_repr, pq_cmp, pq_isT, isData, isTy, of_some, Option.map_some, bd_ok, fl_ok, asBool_bl, cmpT, ltT, argsOut, pNeg, callO, lend, giveBack, T.pure, T.fz, T.fzs, fzs_ils, eqT_int, eqT_bl, eqT_tp, eqT_lst, pLen_tp, pLen_lst, bT_name, bT_tup, bT_lst, bTs_nil, bTs_cons, Option.bind_some, setAll, wipeE, unwipe, len_ils, isLst, line, Int.natCast_inj, isKey, any_ils, inT_ils, eqT_nil, eqT_nn, ils_app, pure_ils, items]
    refine hQ _ _ ⟨rfl, .inl ⟨rfl, fun x hx => ?_⟩⟩
    obtain ⟨j, hj, e⟩ := List.getElem_of_mem hx
    subst e
    exact hI j hj hj
end
end K91
end
section
set_option Elab.async false
set_option maxRecDepth 100000
set_option linter.all false
/-! W91g: walks: crossings. -/
open Ev
namespace K91
section
variable {w k n : Nat}
/-- between two places of a ring -/
def midL (p : List Nat) (i j : Nat) : List Nat := (p.drop (i + 1)).take (j - (i + 1))
def outL (p : List Nat) (i j : Nat) : List Nat := p.drop (j + 1) ++ p.take i
def CrsQ (p : List Nat) (m : Nat → Nat) (i j : Nat) (z : Nat) (t : T) : Prop :=
  (t = .non ∧ ∀ u ∈ midL p i j, ∀ v ∈ outL p i j, ¬ (m u = m v ∧ m u ≠ m z)) ∨ (∃ u v : Nat, t = .tup [.int u, .int v] ∧ u ∈ midL p i j ∧ v ∈ outL p i j ∧ m u = m v ∧ m u ≠ m z)
theorem q24 (h : 1 ≤ k) {L p : List Nat} {m : Nat → Nat} {i j : Nat} (hl : p.length ≤ 12) (hi : i < j) (hj : j < p.length) (hL : ∀ y ∈ p, y ∈ L) {z : Nat} (hz : p[i] = z) :
    ∃ t as, callK P w k 24 [.dct true (ils L) (ils (L.map m)), tp p, .int i, .int j] = .ok t as ∧ as = [.dct true (ils L) (ils (L.map m)), tp p, .int i, .int j] ∧ CrsQ p m i j z t := by
  refine callK_by (d := d24) _ rfl (by omega) rfl fun Q hQ => ?_
  have e1 := slice_mid hi (show j ≤ p.length by omega)
  have e2 := slice_from hj
  have e3 := slice_to (show i ≤ p.length by omega)
  have em : ∀ u ∈ midL p i j, u ∈ L := fun u hu => hL u (List.mem_of_mem_drop (List.mem_of_mem_take hu))
  have eo : ∀ v ∈ outL p i j, v ∈ L := fun v hv => by
    rcases List.mem_append.mp hv with hv | hv
    · exact hL v (List.mem_of_mem_drop hv)
    · exact hL v (List.mem_of_mem_take hv)
  have ez : z ∈ L := hL z (hz ▸ List.getElem_mem (show i < p.length by omega))
  have e4 := pIdx_tp (show i < p.length by omega)
  rw [hz] at e4
  have e5 := pIdx_dct (o := true) (m := m) ez
  have e6 : p.length - (j + 1) + min i p.length ≤ 16777216 := by omega
  simp [-List.filterMap_map, -List.map_map, -List.map_set, -List.map_append, -List.any_map, -List.any_append, -List.all_map, -List.all_append, -List.map_take, -List.map_drop, -List.map_tail, -List.map_reverse, -List.map_dropLast, sat_nx, sat_rt, sat_bk, sat_ct, sat_if, osat_ok, Kn_at, sat_nil, sat_cons, sat_for, ForK_at, ev_lcK, LcK_t, LcK_l, LcK_lo, LcK_et, LcK_el, LcK_elo, RetK_at, NonK_at, evS.eq_1, evS.eq_2, evS.eq_3, evS.eq_4, evS.eq_5, evS.eq_6, evS.eq_7, evS.eq_8, evS.eq_9, evS.eq_10, evS.eq_11, evS.eq_12, evS.eq_15, evS.eq_16, evS.eq_17, evS.eq_18, evS.eq_19, evE.eq_1, evE.eq_2, evE.eq_3, evE.eq_4, evE.eq_5, evE.eq_6, evE.eq_7, evE.eq_8, evE.eq_9, evE.eq_10, evE.eq_11, evE.eq_12, evE.eq_13, evE.eq_14, evE.eq_15, evE.eq_16, evE.eq_17, evE.eq_18, evE.eq_19, evE.eq_21, evE.eq_22, evE.eq_23, evO, evL, evI, evC, opds, Opd.get, pq_add, pq_sub, pq_mul, pq_fdiv, pq_mod, pq_pow, pq_neg, pq_idx, pq_len, pq_tuple, pq_list, pq_rg1, pq_rg2, pq_sorted, pq_abs, pq_int1, pq_max2, pq_min2, pq_all, pq_sum1, pq_lindex, pq_repr, pq_cmp, pq_isT, isData, isTy, of_some, Option.map_some, bd_ok, fl_ok, asBool_bl, cmpT, ltT, argsOut, pNeg, callO, lend, giveBack, T.pure, T.fz, T.fzs, fzs_ils, eqT_int, eqT_bl, eqT_tp, eqT_lst, pLen_tp, pLen_lst, bT_name, bT_tup, bT_lst, bTs_nil, bTs_cons, Option.bind_some, setAll, wipeE, unwipe, len_ils, isLst, line, Int.natCast_inj, isKey, any_ils, inT_ils, eqT_nil, eqT_nn, ils_app, pure_ils, items, d24, b24, pAdd, e1, iter_tup]
  refine forG_each (St := fun env => ∃ d f, env = [some (.dct true (ils L) (ils (L.map m))), some (tp p), some (.int i), some (.int j), d, f]) (Good := fun u => ∀ v ∈ outL p i j, ¬ (m u = m v ∧ m u ≠ m z)) ⟨_, _, rfl⟩ ?_ ?_
  · rintro u hu e ⟨d, f, rfl⟩
    have e7 := pIdx_dct (o := true) (m := m) (em u hu)
    refine ⟨_, rfl, fun N hN => ?_⟩
    simp [-List.filterMap_map, -List.map_map, -List.map_set, -List.map_append, -List.any_map, -List.any_append, -List.all_map, -List.all_append, -List.map_take, -List.map_drop, -List.map_tail, -List.map_reverse, -List.map_dropLast, sat_nx, sat_rt, sat_bk, sat_ct, sat_if, osat_ok, Kn_at, sat_nil, sat_cons, sat_for, ForK_at, ev_lcK, LcK_t, LcK_l, LcK_lo, LcK_et, LcK_el, LcK_elo, RetK_at, NonK_at, evS.eq_1, evS.eq_2, evS.eq_3, evS.eq_4, evS.eq_5, evS.eq_6, evS.eq_7, evS.eq_8, evS.eq_9, evS.eq_10, evS.eq_11, evS.eq_12, evS.eq_15, evS.eq_16, evS.eq_17, evS.eq_18, evS.eq_19, evE.eq_1, evE.eq_2, evE.eq_3, evE.eq_4, evE.eq_5, evE.eq_6, evE.eq_7, evE.eq_8, evE.eq_9, evE.eq_10, evE.eq_11, evE.eq_12, evE.eq_13, evE.eq_14, evE.eq_15, evE.eq_16, evE.eq_17, evE.eq_18, evE.eq_19, evE.eq_21, evE.eq_22, evE.eq_23, evO, evL, evI, evC, opds, Opd.get, pq_add, pq_sub, pq_mul, pq_fdiv, pq_mod, pq_pow, pq_neg, pq_idx, pq_len, pq_tuple, pq_list, pq_rg1, pq_rg2, pq_sorted, pq_abs, pq_int1, pq_max2, pq_min2, pq_all, pq_sum1, pq_lindex, pq_repr, pq_cmp, pq_isT, isData, isTy, of_some, Option.map_some, bd_ok, fl_ok, asBool_bl, cmpT, ltT, argsOut, pNeg, callO, lend, giveBack, T.pure, T.fz, T.fzs, fzs_ils, eqT_int, eqT_bl, eqT_tp, eqT_lst, pLen_tp, pLen_lst, bT_name, bT_tup, bT_lst, bTs_nil, bTs_cons, Option.bind_some, setAll, wipeE, unwipe, len_ils, isLst, line, Int.natCast_inj, isKey, any_ils, inT_ils, eqT_nil, eqT_nn, ils_app, pure_ils, items, pAdd, e2, e3, e6, iter_lst]
    refine forG_each (St := fun env => ∃ f, env = [some (.dct true (ils L) (ils (L.map m))), some (tp p), some (.int i), some (.int j), some (.int u), f]) (Good := fun v => ¬ (m u = m v ∧ m u ≠ m z)) ⟨_, rfl⟩ ?_ ?_
    · rintro v hv e ⟨f, rfl⟩
      have e8 := pIdx_dct (o := true) (m := m) (eo v hv)
      refine ⟨_, rfl, fun N' hN' => ?_⟩
      by_cases q1 : m u = m v
      · by_cases q2 : m u = m z
        · simp [-List.filterMap_map, -List.map_map, -List.map_set, -List.map_append, -List.any_map, -List.any_append, -List.all_map, -List.all_append, -List.map_take, -List.map_drop, -List.map_tail, -List.map_reverse, -List.map_dropLast, sat_nx, sat_rt, sat_bk, sat_ct, sat_if, osat_ok, Kn_at, sat_nil, sat_cons, sat_for, ForK_at, ev_lcK, LcK_t, LcK_l, LcK_lo, LcK_et, LcK_el, LcK_elo, RetK_at, NonK_at, evS.eq_1, evS.eq_2, evS.eq_3, evS.eq_4, evS.eq_5, evS.eq_6, evS.eq_7, evS.eq_8, evS.eq_9, evS.eq_10, evS.eq_11, evS.eq_12, evS.eq_15, evS.eq_16, evS.eq_17, evS.eq_18, evS.eq_19, evE.eq_1, evE.eq_2, evE.eq_3, evE.eq_4, evE.eq_5, evE.eq_6, evE.eq_7, evE.eq_8, evE.eq_9, evE.eq_10, evE.eq_11, evE.eq_12, evE.eq_13, evE.eq_14, evE.eq_15, evE.eq_16, evE.eq_17, evE.eq_18, evE.eq_19, evE.eq_21, evE.eq_22, evE.eq_23, evO, evL, evI, evC, opds, Opd.get, pq_add, pq_sub, pq_mul, pq_fdiv, pq_mod, pq_pow, pq_neg, pq_idx, pq_len, pq_tuple, pq_list, pq_rg1, pq_rg2, pq_sorted, pq_abs, pq_int1, pq_max2, pq_min2, pq_all, pq_sum1, pq_lindex, pq_repr, pq_cmp, pq_isT, isData, isTy, of_some, Option.map_some, bd_ok, fl_ok, asBool_bl, cmpT, ltT, argsOut, pNeg, callO, lend, giveBack, T.pure, T.fz, T.fzs, fzs_ils, eqT_int, eqT_bl, eqT_tp, eqT_lst, pLen_tp, pLen_lst, bT_name, bT_tup, bT_lst, bTs_nil, bTs_cons, Option.bind_some, setAll, wipeE, unwipe, len_ils, isLst, line, Int.natCast_inj, isKey, any_ils, inT_ils, eqT_nil, eqT_nn, ils_app, pure_ils, items, e7, e8, q1, e4, e5, show m v = m z from q1 ▸ q2]
          exact hN' _ ⟨_, rfl⟩ fun q => q.2 q2
        · simp [-List.filterMap_map, -List.map_map, -List.map_set, -List.map_append, -List.any_map, -List.any_append, -List.all_map, -List.all_append, -List.map_take, -List.map_drop, -List.map_tail, -List.map_reverse, -List.map_dropLast, sat_nx, sat_rt, sat_bk, sat_ct, sat_if, osat_ok, Kn_at, sat_nil, sat_cons, sat_for, ForK_at, ev_lcK, LcK_t, LcK_l, LcK_lo, LcK_et, LcK_el, LcK_elo, RetK_at, NonK_at, evS.eq_1, evS.eq_2, evS.eq_3, evS.eq_4, evS.eq_5, evS.eq_6, evS.eq_7, evS.eq_8, evS.eq_9, evS.eq_10, evS.eq_11, evS.eq_12, evS.eq_15, evS.eq_16, evS.eq_17, evS.eq_18, evS.eq_19, evE.eq_1, evE.eq_2, evE.eq_3, evE.eq_4, evE.eq_5, evE.eq_6, evE.eq_7, evE.eq_8, evE.eq_9, evE.eq_10, evE.eq_11, evE.eq_12, evE.eq_13, evE.eq_14, evE.eq_15, evE.eq_16, evE.eq_17, evE.eq_18, evE.eq_19, evE.eq_21, evE.eq_22, evE.eq_23, evO, evL, evI, evC, opds, Opd.get, pq_add, pq_sub, pq_mul, pq_fdiv, pq_mod, pq_pow, pq_neg, pq_idx, pq_len, pq_tuple, pq_list, pq_rg1, pq_rg2, pq_sorted, pq_abs, pq_int1, pq_max2, pq_min2, pq_all, pq_sum1, pq_lindex, pq_repr, pq_cmp, pq_isT, isData, isTy, of_some, Option.map_some, bd_ok, fl_ok, asBool_bl, cmpT, ltT, argsOut, pNeg, callO, lend, giveBack, T.pure, T.fz, T.fzs, fzs_ils, eqT_int, eqT_bl, eqT_tp, eqT_lst, pLen_tp, pLen_lst, bT_name, bT_tup, bT_lst, bTs_nil, bTs_cons, Option.bind_some, setAll, wipeE, unwipe, len_ils, isLst, line, Int.natCast_inj, isKey, any_ils, inT_ils, eqT_nil, eqT_nn, ils_app, pure_ils, items, e7, e8, q1, e4, e5, show ¬ m v = m z from q1 ▸ q2]
          exact hQ _ _ ⟨rfl, .inr ⟨u, v, rfl, hu, hv, q1, q2⟩⟩
      · simp [-List.filterMap_map, -List.map_map, -List.map_set, -List.map_append, -List.any_map, -List.any_append, -List.all_map, -List.all_append, -List.map_take, -List.map_drop, -List.map_tail, -List.map_reverse, -List.map_dropLast, sat_nx, sat_rt, sat_bk, sat_ct, sat_if, osat_ok, Kn_at, sat_nil, sat_cons, sat_for, ForK_at, ev_lcK, LcK_t, LcK_l, LcK_lo, LcK_et, LcK_el, LcK_elo, RetK_at, NonK_at, evS.eq_1, evS.eq_2, evS.eq_3, evS.eq_4, evS.eq_5, evS.eq_6, evS.eq_7, evS.eq_8, evS.eq_9, evS.eq_10, evS.eq_11, evS.eq_12, evS.eq_15, evS.eq_16, evS.eq_17, evS.eq_18, evS.eq_19, evE.eq_1, evE.eq_2, evE.eq_3, evE.eq_4, evE.eq_5, evE.eq_6, evE.eq_7, evE.eq_8, evE.eq_9, evE.eq_10, evE.eq_11, evE.eq_12, evE.eq_13, evE.eq_14, evE.eq_15, evE.eq_16, evE.eq_17, evE.eq_18, evE.eq_19, evE.eq_21, evE.eq_22, evE.eq_23, evO, evL, evI, evC, opds, Opd.get, pq_add, pq_sub, pq_mul, pq_fdiv, pq_mod, pq_pow, pq_neg, pq_idx, pq_len, pq_tuple, pq_list, pq_rg1, pq_rg2, pq_sorted, pq_abs, pq_int1, pq_max2, pq_min2, pq_all, pq_sum1, pq_lindex, pq_repr, pq_cmp, pq_isT, isData, isTy, of_some, Option.map_some, bd_ok, fl_ok, asBool_bl, cmpT, ltT, argsOut, pNeg, callO, lend, giveBack, T.pure, T.fz, T.fzs, fzs_ils, eqT_int, eqT_bl, eqT_tp, eqT_lst, pLen_tp, pLen_lst, bT_name, bT_tup, bT_lst, bTs_nil, bTs_cons, Option.bind_some, setAll, wipeE, unwipe, len_ils, isLst, line, Int.natCast_inj, isKey, any_ils, inT_ils, eqT_nil, eqT_nn, ils_app, pure_ils, items, e7, e8, q1]
        exact hN' _ ⟨_, rfl⟩ fun q => q1 q.1
    · rintro e ⟨f, rfl⟩ hJ
      simp [-List.filterMap_map, -List.map_map, -List.map_set, -List.map_append, -List.any_map, -List.any_append, -List.all_map, -List.all_append, -List.map_take, -List.map_drop, -List.map_tail, -List.map_reverse, -List.map_dropLast, sat_nx, sat_rt, sat_bk, sat_ct, sat_if, osat_ok, Kn_at, sat_nil, sat_cons, sat_for, ForK_at, ev_lcK, LcK_t, LcK_l, LcK_lo, LcK_et, LcK_el, LcK_elo, RetK_at, NonK_at, evS.eq_1, evS.eq_2, evS.eq_3, evS.eq_4, evS.eq_5, evS.eq_6, evS.eq_7, evS.eq_8, evS.eq_9, evS.eq_10, evS.eq_11, evS.eq_12, evS.eq_15, evS.eq_16, evS.eq_17, evS.eq_18, evS.eq_19, evE.eq_1, evE.eq_2, evE.eq_3, evE.eq_4, evE.eq_5, evE.eq_6, evE.eq_7, evE.eq_8, evE.eq_9, evE.eq_10, evE.eq_11, evE.eq_12, evE.eq_13, evE.eq_14, evE.eq_15, evE.eq_16, evE.eq_17, evE.eq_18, evE.eq_19, evE.eq_21, evE.eq_22, evE.eq_23, evO, evL, evI, evC, opds, Opd.get, pq_add, pq_sub, pq_mul, pq_fdiv, pq_mod, pq_pow, pq_neg, pq_idx, pq_len, pq_tuple, pq_list, pq_rg1, pq_rg2, pq_sorted, pq_abs, pq_int1, pq_max2, pq_min2, pq_all, pq_sum1, pq_lindex, pq_repr, pq_cmp, pq_isT, isData, isTy, of_some, Option.map_some, bd_ok, fl_ok, asBool_bl, cmpT, ltT, argsOut, pNeg, callO, lend, giveBack, T.pure, T.fz, T.fzs, fzs_ils, eqT_int, eqT_bl, eqT_tp, eqT_lst, pLen_tp, pLen_lst, bT_name, bT_tup, bT_lst, bTs_nil, bTs_cons, Option.bind_some, setAll, wipeE, unwipe, len_ils, isLst, line, Int.natCast_inj, isKey, any_ils, inT_ils, eqT_nil, eqT_nn, ils_app, pure_ils, items]
      exact hN _ ⟨_, _, rfl⟩ hJ
  · rintro e ⟨d, f, rfl⟩ hI
    simp [-List.filterMap_map, -List.map_map, -List.map_set, -List.map_append, -List.any_map, -List.any_append, -List.all_map, -List.all_append, -List.map_take, -List.map_drop, -List.map_tail, -List.map_reverse, -List.map_dropLast, sat_nx, sat_rt, sat_bk, sat_ct, sat_if, osat_ok, Kn_at, sat_nil, sat_cons, sat_for, ForK_at, ev_lcK, LcK_t, LcK_l, LcK_lo, LcK_et, LcK_el, LcK_elo, RetK_at, NonK_at, evS.eq_1, evS.eq_2, evS.eq_3, evS.eq_4, evS.eq_5, evS.eq_6, evS.eq_7, evS.eq_8, evS.eq_9, evS.eq_10, evS.eq_11, evS.eq_12, evS.eq_15, evS.eq_16, evS.eq_17, evS.eq_18, evS.eq_19, evE.eq_1, evE.eq_2, evE.eq_3, evE.eq_4, evE.eq_5, evE.eq_6, evE.eq_7, evE.eq_8, evE.eq_9, evE.eq_10, evE.eq_11, evE.eq_12, evE.eq_13, evE.eq_14, evE.eq_15, evE.eq_16, evE.eq_17, evE.eq_18, evE.eq_19, evE.eq_21, evE.eq_22, evE.eq_23, evO, evL, evI, evC, opds, Opd.get, pq_add, pq_sub, pq_mul, pq_fdiv, pq_mod, pq_pow, pq_neg, pq_idx, pq_len, pq_tuple, pq_list, pq_rg1, pq_rg2, pq_sorted, pq_abs, pq_int1, pq_max2, pq_min2, pq_all, pq_sum1, pq_lindex, pq_repr, pq_cmp, pq_isT, isData, isTy, of_some, Option.map_some, bd_ok, fl_ok, asBool_bl, cmpT, ltT, argsOut, pNeg, callO, lend, giveBack, T.pure, T.fz, T.fzs, fzs_ils, eqT_int, eqT_bl, eqT_tp, eqT_lst, pLen_tp, pLen_lst, bT_name, bT_tup, bT_lst, bTs_nil, bTs_cons, Option.bind_some, setAll, wipeE, unwipe, len_ils, isLst, line, Int.natCast_inj, isKey, any_ils, inT_ils, eqT_nil, eqT_nn, ils_app, pure_ils, items]
    exact hQ _ _ ⟨rfl, .inl ⟨rfl, hI⟩⟩
end
end K91
end
section
set_option Elab.async false
set_option maxRecDepth 100000
set_option linter.all false
/-! W91h: walks: cross_reason, reason_for. -/
open Ev
namespace K91
section
variable {w k n : Nat}
def CrossAt (a c : Pm.Pm n) (x i j : Nat) : Prop := Pm.Pm.O a (Pm.it c.f i x) (Pm.it c.f j x) → ∀ u, i < u → u < j → ∀ v, v < c.per x → (v < i ∨ j < v) → Pm.Pm.O a (Pm.it c.f u x) (Pm.it c.f v x) → Pm.Pm.O a (Pm.it c.f u x) (Pm.it c.f i x)
theorem mid_iff {c : Pm.Pm n} {x i j u : Nat} (hj : j < c.per x) : u ∈ midL (c.ring x) i j ↔ ∃ l, i < l ∧ l < j ∧ Pm.it c.f l x = u := by
  unfold midL
  rw [List.mem_iff_getElem?]
  constructor
  · rintro ⟨r, hr⟩
    rw [List.getElem?_take] at hr
    split at hr
    · rw [List.getElem?_drop] at hr
      have hlt := (List.getElem?_eq_some_iff.mp hr).1
      rw [Pm.Pm.ring_len] at hlt
      rw [c.ring_get hlt] at hr
      exact ⟨i + 1 + r, by omega, by omega, Option.some.inj hr⟩
    · cases hr
  · rintro ⟨l, h1, h2, rfl⟩
    refine ⟨l - (i + 1), ?_⟩
    rw [List.getElem?_take, if_pos (by omega), List.getElem?_drop, show i + 1 + (l - (i + 1)) = l by omega, c.ring_get (by omega)]
theorem out_iff {c : Pm.Pm n} {x i j v : Nat} (hi : i < c.per x) : v ∈ outL (c.ring x) i j ↔ ∃ l, l < c.per x ∧ (l < i ∨ j < l) ∧ Pm.it c.f l x = v := by
  unfold outL
  rw [List.mem_append, List.mem_iff_getElem?, List.mem_iff_getElem?]
  constructor
  · rintro (⟨r, hr⟩ | ⟨r, hr⟩)
    · rw [List.getElem?_drop] at hr
      have hlt := (List.getElem?_eq_some_iff.mp hr).1
      rw [Pm.Pm.ring_len] at hlt
      rw [c.ring_get hlt] at hr
      exact ⟨j + 1 + r, hlt, by omega, Option.some.inj hr⟩
    · rw [List.getElem?_take] at hr
      split at hr
      · rename_i q
        rw [c.ring_get (by omega)] at hr
        exact ⟨r, by omega, by omega, Option.some.inj hr⟩
      · cases hr
  · rintro ⟨l, h1, h2, rfl⟩
    rcases h2 with h2 | h2
    · right
      exact ⟨l, by rw [List.getElem?_take, if_pos h2, c.ring_get h1]⟩
    · left
      exact ⟨l - (j + 1), by rw [List.getElem?_drop, show j + 1 + (l - (j + 1)) = l by omega, c.ring_get h1]⟩
theorem crs_at {a c : Pm.Pm n} {x i j : Nat} {t : T} (hx : x < n) (hij : i < j) (hj : j < c.per x) (o : Pm.Pm.O a (Pm.it c.f i x) (Pm.it c.f j x)) (h : CrsQ (c.ring x) a.hd i j (Pm.it c.f i x) t) :
    (t = .non ∧ CrossAt a c x i j) ∨ (∃ u v : Nat, t = .tup [.int u, .int v] ∧ ¬ CrossAt a c x i j) := by
  rcases h with ⟨h1, h2⟩ | ⟨u, v, h1, hu, hv, h3, h4⟩
  · left
    refine ⟨h1, fun _ u hu1 hu2 v hv1 hv2 ov => ?_⟩
    have := h2 (Pm.it c.f u x) ((mid_iff hj).mpr ⟨u, hu1, hu2, rfl⟩) (Pm.it c.f v x) ((out_iff (by omega)).mpr ⟨v, hv1, hv2, rfl⟩)
    have e := (Pm.Pm.hd_eq (c.it_lt hx u) (c.it_lt hx v)).mpr ov
    apply Classical.byContradiction
    intro no
    exact this ⟨e, fun q => no ((Pm.Pm.hd_eq (c.it_lt hx u) (c.it_lt hx i)).mp q)⟩
  · right
    refine ⟨u, v, h1, fun hC => ?_⟩
    obtain ⟨l, l1, l2, rfl⟩ := (mid_iff hj).mp hu
    obtain ⟨r, r1, r2, rfl⟩ := (out_iff (by omega)).mp hv
    have := hC o l l1 l2 r r1 r2 ((Pm.Pm.hd_eq (c.it_lt hx l) (c.it_lt hx r)).mp h3)
    exact h4 ((Pm.Pm.hd_eq (c.it_lt hx l) (c.it_lt hx i)).mpr this)
theorem pIdx_t0 (a b : T) : pIdx (.tup [a, b]) (.int 0) = some a := rfl
theorem pIdx_t1 (a b : T) : pIdx (.tup [a, b]) (.int 1) = some b := rfl
theorem q23 (hw : 20 ≤ w) (h : 7 ≤ k) (a c : Pm.Pm n) (h1 : 1 ≤ n) (hn : n ≤ 12) : ∃ t as, callK P w k 23 [tq a, tq c] = .ok t as ∧ as = [tq a, tq c] ∧ Rsn t (Pm.Pm.CrossL a c) := by
  refine callK_by (d := d23) _ rfl (by omega) rfl fun Q hQ => ?_
  have s1 := q7 (w := w) (k := k - 1) hw (by omega) a h1 hn
  have s2 := q7 (w := w) (k := k - 1) hw (by omega) c h1 hn
  simp [-List.filterMap_map, -List.map_map, -List.map_set, -List.map_append, -List.any_map, -List.any_append, -List.all_map, -List.all_append, -List.map_take, -List.map_drop, -List.map_tail, -List.map_reverse, -List.map_dropLast, sat_nx, sat_rt, sat_bk, sat_ct, sat_if, osat_ok, Kn_at, sat_nil, sat_cons, sat_for, ForK_at, ev_lcK, LcK_t, LcK_l, LcK_lo, LcK_et, LcK_el, LcK_elo, RetK_at, NonK_at, evS.eq_1, evS.eq_2, evS.eq_3, evS.eq_4, evS.eq_5, evS.eq_6, evS.eq_7, evS.eq_8, evS.eq_9, evS.eq_10, evS.eq_11, evS.eq_12, evS.eq_15, evS.eq_16, evS.eq_17, evS.eq_18, evS.eq_19, evE.eq_1, evE.eq_2, evE.eq_3, evE.eq_4, evE.eq_5, evE.eq_6, evE.eq_7, evE.eq_8, evE.eq_9, evE.eq_10, evE.eq_11, evE.eq_12, evE.eq_13, evE.eq_14, evE.eq_15, evE.eq_16, evE.eq_17, evE.eq_18, evE.eq_19, evE.eq_21, evE.eq_22, evE.eq_23, evO, evL, evI, evC, opds, Opd.get, pq_add, pq_sub, pq_mul, pq_fdiv, pq_mod, pq_pow, pq_neg, pq_idx, pq_len, pq_tuple, pq_list, pq_rg1, pq_rg2, pq_sorted, pq_abs, pq_int1, pq_max2, pq_min2, pq_all, pq_sum1, pq_lindex, pq_repr, pq_cmp, pq_isT, isData, isTy, of_some, Option.map_some, bd_ok, fl_ok, asBool_bl, cmpT, ltT, argsOut, pNeg, callO, lend, giveBack, T.pure, T.fz, T.fzs, fzs_ils, eqT_int, eqT_bl, eqT_tp, eqT_lst, pLen_tp, pLen_lst, bT_name, bT_tup, bT_lst, bTs_nil, bTs_cons, Option.bind_some, setAll, wipeE, unwipe, len_ils, isLst, line, Int.natCast_inj, isKey, any_ils, inT_ils, eqT_nil, eqT_nn, ils_app, pure_ils, items, d23, b23, pk7, s1, iter_tup, tps_rings]
  refine forG_map (I := fun i env => ∃ (L : List Nat) (b c1 : Option T), env = [some (tq a), some (tq c), some (.dct true (ils L) (ils (L.map a.hd))), b, c1, none, none, none, none] ∧ L.Nodup ∧ ∀ y, y ∈ L ↔ ∃ j, ∃ hj : j < a.heads.length, j < i ∧ y ∈ a.ring a.heads[j]) ⟨[], _, _, rfl, List.nodup_nil, fun y => by simp⟩ ?_ ?_
  · rintro i hi e ⟨L, b, c1, rfl, hnd, hL⟩
    have hx := head_at a hi
    have hm := List.getElem_mem hi
    have hnot : ∀ y, y ∈ a.ring a.heads[i] → y ∉ L := fun y hy hyL => by
      obtain ⟨j, hj, hji, hy2⟩ := (hL y).mp hyL
      have hne : a.heads[j] ≠ a.heads[i] := fun e => by
        have := nodup_at ((a.heads_sorted).imp (fun h => Nat.ne_of_lt h)) e
        omega
      exact Pm.Pm.ring_apart (List.getElem_mem hj) hm hne y hy2 hy
    have hL' : ∀ L' : List Nat, (∀ y, y ∈ L' ↔ y ∈ L ∨ y ∈ a.ring a.heads[i]) → ∀ y, y ∈ L' ↔ ∃ j, ∃ hj : j < a.heads.length, j < i + 1 ∧ y ∈ a.ring a.heads[j] := by
      intro L' h' y
      rw [h', hL]
      constructor
      · rintro (⟨j, hj, h1, h2⟩ | h2)
        · exact ⟨j, hj, by omega, h2⟩
        · exact ⟨i, hi, by omega, h2⟩
      · rintro ⟨j, hj, h1, h2⟩
        by_cases q : j = i
        · subst q; exact .inr h2
        · exact .inl ⟨j, hj, by omega, h2⟩
    have hLn : ∀ y ∈ L, y < n := fun y hy => by
      obtain ⟨j, hj, _, hy2⟩ := (hL y).mp hy
      exact Pm.Pm.ring_lt (head_at a hj) hy2
    generalize a.heads[i] = x at hx hm hnot hL'
    refine ⟨_, rfl, fun N hN => ?_⟩
    have s3 := pIdx_ring0 a hx
    simp [-List.filterMap_map, -List.map_map, -List.map_set, -List.map_append, -List.any_map, -List.any_append, -List.all_map, -List.all_append, -List.map_take, -List.map_drop, -List.map_tail, -List.map_reverse, -List.map_dropLast, sat_nx, sat_rt, sat_bk, sat_ct, sat_if, osat_ok, Kn_at, sat_nil, sat_cons, sat_for, ForK_at, ev_lcK, LcK_t, LcK_l, LcK_lo, LcK_et, LcK_el, LcK_elo, RetK_at, NonK_at, evS.eq_1, evS.eq_2, evS.eq_3, evS.eq_4, evS.eq_5, evS.eq_6, evS.eq_7, evS.eq_8, evS.eq_9, evS.eq_10, evS.eq_11, evS.eq_12, evS.eq_15, evS.eq_16, evS.eq_17, evS.eq_18, evS.eq_19, evE.eq_1, evE.eq_2, evE.eq_3, evE.eq_4, evE.eq_5, evE.eq_6, evE.eq_7, evE.eq_8, evE.eq_9, evE.eq_10, evE.eq_11, evE.eq_12, evE.eq_13, evE.eq_14, evE.eq_15, evE.eq_16, evE.eq_17, evE.eq_18, evE.eq_19, evE.eq_21, evE.eq_22, evE.eq_23, evO, evL, evI, evC, opds, Opd.get, pq_add, pq_sub, pq_mul, pq_fdiv, pq_mod, pq_pow, pq_neg, pq_idx, pq_len, pq_tuple, pq_list, pq_rg1, pq_rg2, pq_sorted, pq_abs, pq_int1, pq_max2, pq_min2, pq_all, pq_sum1, pq_lindex, pq_repr, pq_cmp, pq_isT, isData, isTy, of_some, Option.map_some, bd_ok, fl_ok, asBool_bl, cmpT, ltT, argsOut, pNeg, callO, lend, giveBack, T.pure, T.fz, T.fzs, fzs_ils, eqT_int, eqT_bl, eqT_tp, eqT_lst, pLen_tp, pLen_lst, bT_name, bT_tup, bT_lst, bTs_nil, bTs_cons, Option.bind_some, setAll, wipeE, unwipe, len_ils, isLst, line, Int.natCast_inj, isKey, any_ils, inT_ils, eqT_nil, eqT_nn, ils_app, pure_ils, items, iter_tup]
    have hrn := a.ring_nodup hx
    refine forG_map (I := fun l env => ∃ d, env = [some (tq a), some (tq c), some (.dct true (ils (L ++ (a.ring x).take l)) (ils ((L ++ (a.ring x).take l).map a.hd))), some (tp (a.ring x)), d, none, none, none, none]) ⟨c1, by simp⟩ ?_ ?_
    · rintro l hl e ⟨d, rfl⟩
      have hy : (a.ring x)[l] ∈ a.ring x := List.getElem_mem hl
      have e1 : (a.ring x)[l] ∉ L ++ (a.ring x).take l := by
        rw [List.mem_append]
        rintro (q | q)
        · exact hnot _ hy q
        · obtain ⟨r, hr, e⟩ := List.getElem_of_mem q
          rw [List.getElem_take] at e
          rw [List.length_take] at hr
          have := nodup_at hrn e
          omega
      have e2 : (a.ring x).take (l + 1) = (a.ring x).take l ++ [(a.ring x)[l]] := by
        rw [List.take_add_one, List.getElem?_eq_getElem hl]; rfl
      have e3 : a.hd (a.ring x)[l] = x := Pm.Pm.hd_of hm ((Pm.Pm.mem_ring hx).mp hy)
      generalize (a.ring x)[l] = y at hy e1 e2 e3
      refine ⟨_, rfl, fun N' hN' => ?_⟩
      have e4 := keyIx_none e1
      have hnd2 : (L ++ (a.ring x).take l).Nodup := by
        refine List.nodup_append.mpr ⟨hnd, List.Nodup.sublist (List.take_sublist _ _) hrn, fun u hu v hv e => ?_⟩
        subst e
        exact hnot u (List.mem_of_mem_take hv) hu
      have e5 := Pm.pig n _ (fun u hu => by
        rcases List.mem_append.mp hu with hu | hu
        · exact hLn u hu
        · exact Pm.Pm.ring_lt hx (List.mem_of_mem_take hu)) hnd2
      have e6 : L.length + min l (a.ring x).length < 16777216 := by
        rw [List.length_append, List.length_take] at e5
        omega
      simp [-List.filterMap_map, -List.map_map, -List.map_set, -List.map_append, -List.any_map, -List.any_append, -List.all_map, -List.all_append, -List.map_take, -List.map_drop, -List.map_tail, -List.map_reverse, -List.map_dropLast, sat_nx, sat_rt, sat_bk, sat_ct, sat_if, osat_ok, Kn_at, sat_nil, sat_cons, sat_for, ForK_at, ev_lcK, LcK_t, LcK_l, LcK_lo, LcK_et, LcK_el, LcK_elo, RetK_at, NonK_at, evS.eq_1, evS.eq_2, evS.eq_3, evS.eq_4, evS.eq_5, evS.eq_6, evS.eq_7, evS.eq_8, evS.eq_9, evS.eq_10, evS.eq_11, evS.eq_12, evS.eq_15, evS.eq_16, evS.eq_17, evS.eq_18, evS.eq_19, evE.eq_1, evE.eq_2, evE.eq_3, evE.eq_4, evE.eq_5, evE.eq_6, evE.eq_7, evE.eq_8, evE.eq_9, evE.eq_10, evE.eq_11, evE.eq_12, evE.eq_13, evE.eq_14, evE.eq_15, evE.eq_16, evE.eq_17, evE.eq_18, evE.eq_19, evE.eq_21, evE.eq_22, evE.eq_23, evO, evL, evI, evC, opds, Opd.get, pq_add, pq_sub, pq_mul, pq_fdiv, pq_mod, pq_pow, pq_neg, pq_idx, pq_len, pq_tuple, pq_list, pq_rg1, pq_rg2, pq_sorted, pq_abs, pq_int1, pq_max2, pq_min2, pq_all, pq_sum1, pq_lindex, pq_repr, pq_cmp, pq_isT, isData, isTy, of_some, Option.map_some, bd_ok, fl_ok, asBool_bl, cmpT, ltT, argsOut, pNeg, callO, lend, giveBack, T.pure, T.fz, T.fzs, fzs_ils, eqT_int, eqT_bl, eqT_tp, eqT_lst, pLen_tp, pLen_lst, bT_name, bT_tup, bT_lst, bTs_nil, bTs_cons, Option.bind_some, setAll, wipeE, unwipe, len_ils, isLst, line, Int.natCast_inj, isKey, any_ils, inT_ils, eqT_nil, eqT_nn, ils_app, pure_ils, items, setIxS, setIxT, s3, e4, e6]
      refine hN' _ ⟨some (.int y), ?_⟩
      have e7 : (L ++ (a.ring x).take (l + 1)).map a.hd = (L ++ (a.ring x).take l).map a.hd ++ [x] := by
        rw [e2, ← List.append_assoc]
        refine (List.map_append (l₂ := [y])).trans ?_
        show _ ++ [a.hd y] = _
        rw [e3]
      rw [e7, e2, ← List.append_assoc, ← app_ils, ← app_ils]
    · rintro e ⟨d, rfl⟩
      simp [-List.filterMap_map, -List.map_map, -List.map_set, -List.map_append, -List.any_map, -List.any_append, -List.all_map, -List.all_append, -List.map_take, -List.map_drop, -List.map_tail, -List.map_reverse, -List.map_dropLast, sat_nx, sat_rt, sat_bk, sat_ct, sat_if, osat_ok, Kn_at, sat_nil, sat_cons, sat_for, ForK_at, ev_lcK, LcK_t, LcK_l, LcK_lo, LcK_et, LcK_el, LcK_elo, RetK_at, NonK_at, evS.eq_1, evS.eq_2, evS.eq_3, evS.eq_4, evS.eq_5, evS.eq_6, evS.eq_7, evS.eq_8, evS.eq_9, evS.eq_10, evS.eq_11, evS.eq_12, evS.eq_15, evS.eq_16, evS.eq_17, evS.eq_18, evS.eq_19, evE.eq_1, evE.eq_2, evE.eq_3, evE.eq_4, evE.eq_5, evE.eq_6, evE.eq_7, evE.eq_8, evE.eq_9, evE.eq_10, evE.eq_11, evE.eq_12, evE.eq_13, evE.eq_14, evE.eq_15, evE.eq_16, evE.eq_17, evE.eq_18, evE.eq_19, evE.eq_21, evE.eq_22, evE.eq_23, evO, evL, evI, evC, opds, Opd.get, pq_add, pq_sub, pq_mul, pq_fdiv, pq_mod, pq_pow, pq_neg, pq_idx, pq_len, pq_tuple, pq_list, pq_rg1, pq_rg2, pq_sorted, pq_abs, pq_int1, pq_max2, pq_min2, pq_all, pq_sum1, pq_lindex, pq_repr, pq_cmp, pq_isT, isData, isTy, of_some, Option.map_some, bd_ok, fl_ok, asBool_bl, cmpT, ltT, argsOut, pNeg, callO, lend, giveBack, T.pure, T.fz, T.fzs, fzs_ils, eqT_int, eqT_bl, eqT_tp, eqT_lst, pLen_tp, pLen_lst, bT_name, bT_tup, bT_lst, bTs_nil, bTs_cons, Option.bind_some, setAll, wipeE, unwipe, len_ils, isLst, line, Int.natCast_inj, isKey, any_ils, inT_ils, eqT_nil, eqT_nn, ils_app, pure_ils, items, List.take_length]
      refine hN _ ⟨_, _, _, rfl, List.nodup_append.mpr ⟨hnd, hrn, fun u hu v hv e => ?_⟩, hL' _ fun y => List.mem_append⟩
      subst e
      exact hnot u hv hu
  · rintro e ⟨L, b, c1, rfl, hnd, hL⟩
    have hLn : ∀ y, y < n → y ∈ L := fun y hy => by
      obtain ⟨x, hx, o⟩ := a.head_of hy
      obtain ⟨j, hj, e⟩ := List.getElem_of_mem hx
      refine (hL y).mpr ⟨j, hj, hj, ?_⟩
      rw [e]
      exact (Pm.Pm.mem_ring (Pm.Pm.mem_heads.mp hx).1).mpr o
    simp [-List.filterMap_map, -List.map_map, -List.map_set, -List.map_append, -List.any_map, -List.any_append, -List.all_map, -List.all_append, -List.map_take, -List.map_drop, -List.map_tail, -List.map_reverse, -List.map_dropLast, sat_nx, sat_rt, sat_bk, sat_ct, sat_if, osat_ok, Kn_at, sat_nil, sat_cons, sat_for, ForK_at, ev_lcK, LcK_t, LcK_l, LcK_lo, LcK_et, LcK_el, LcK_elo, RetK_at, NonK_at, evS.eq_1, evS.eq_2, evS.eq_3, evS.eq_4, evS.eq_5, evS.eq_6, evS.eq_7, evS.eq_8, evS.eq_9, evS.eq_10, evS.eq_11, evS.eq_12, evS.eq_15, evS.eq_16, evS.eq_17, evS.eq_18, evS.eq_19, evE.eq_1, evE.eq_2, evE.eq_3, evE.eq_4, evE.eq_5, evE.eq_6, evE.eq_7, evE.eq_8, evE.eq_9, evE.eq_10, evE.eq_11, evE.eq_12, evE.eq_13, evE.eq_14, evE.eq_15, evE.eq_16, evE.eq_17, evE.eq_18, evE.eq_19, evE.eq_21, evE.eq_22, evE.eq_23, evO, evL, evI, evC, opds, Opd.get, pq_add, pq_sub, pq_mul, pq_fdiv, pq_mod, pq_pow, pq_neg, pq_idx, pq_len, pq_tuple, pq_list, pq_rg1, pq_rg2, pq_sorted, pq_abs, pq_int1, pq_max2, pq_min2, pq_all, pq_sum1, pq_lindex, pq_repr, pq_cmp, pq_isT, isData, isTy, of_some, Option.map_some, bd_ok, fl_ok, asBool_bl, cmpT, ltT, argsOut, pNeg, callO, lend, giveBack, T.pure, T.fz, T.fzs, fzs_ils, eqT_int, eqT_bl, eqT_tp, eqT_lst, pLen_tp, pLen_lst, bT_name, bT_tup, bT_lst, bTs_nil, bTs_cons, Option.bind_some, setAll, wipeE, unwipe, len_ils, isLst, line, Int.natCast_inj, isKey, any_ils, inT_ils, eqT_nil, eqT_nn, ils_app, pure_ils, items, pk7, s2, iter_tup, tps_rings]
    refine forG_each (St := fun env => ∃ (b c1 d1 d2 d3 d4 : Option T), env = [some (tq a), some (tq c), some (.dct true (ils L) (ils (L.map a.hd))), b, c1, d1, d2, d3, d4]) (Good := fun x => ∀ i j, i < j → j < c.per x → CrossAt a c x i j) ⟨_, _, _, _, _, _, rfl⟩ ?_ ?_
    · rintro x hx e ⟨b, c1, d1, d2, d3, d4, rfl⟩
      have hxn := (Pm.Pm.mem_heads.mp hx).1
      have hrl : (c.ring x).length = c.per x := Pm.Pm.ring_len c x
      have hper := c.per_le hxn
      refine ⟨_, rfl, fun N hN => ?_⟩
      simp [-List.filterMap_map, -List.map_map, -List.map_set, -List.map_append, -List.any_map, -List.any_append, -List.all_map, -List.all_append, -List.map_take, -List.map_drop, -List.map_tail, -List.map_reverse, -List.map_dropLast, sat_nx, sat_rt, sat_bk, sat_ct, sat_if, osat_ok, Kn_at, sat_nil, sat_cons, sat_for, ForK_at, ev_lcK, LcK_t, LcK_l, LcK_lo, LcK_et, LcK_el, LcK_elo, RetK_at, NonK_at, evS.eq_1, evS.eq_2, evS.eq_3, evS.eq_4, evS.eq_5, evS.eq_6, evS.eq_7, evS.eq_8, evS.eq_9, evS.eq_10, evS.eq_11, evS.eq_12, evS.eq_15, evS.eq_16, evS.eq_17, evS.eq_18, evS.eq_19, evE.eq_1, evE.eq_2, evE.eq_3, evE.eq_4, evE.eq_5, evE.eq_6, evE.eq_7, evE.eq_8, evE.eq_9, evE.eq_10, evE.eq_11, evE.eq_12, evE.eq_13, evE.eq_14, evE.eq_15, evE.eq_16, evE.eq_17, evE.eq_18, evE.eq_19, evE.eq_21, evE.eq_22, evE.eq_23, evO, evL, evI, evC, opds, Opd.get, pq_add, pq_sub, pq_mul, pq_fdiv, pq_mod, pq_pow, pq_neg, pq_idx, pq_len, pq_tuple, pq_list, pq_rg1, pq_rg2, pq_sorted, pq_abs, pq_int1, pq_max2, pq_min2, pq_all, pq_sum1, pq_lindex, pq_repr, pq_cmp, pq_isT, isData, isTy, of_some, Option.map_some, bd_ok, fl_ok, asBool_bl, cmpT, ltT, argsOut, pNeg, callO, lend, giveBack, T.pure, T.fz, T.fzs, fzs_ils, eqT_int, eqT_bl, eqT_tp, eqT_lst, pLen_tp, pLen_lst, bT_name, bT_tup, bT_lst, bTs_nil, bTs_cons, Option.bind_some, setAll, wipeE, unwipe, len_ils, isLst, line, Int.natCast_inj, isKey, any_ils, inT_ils, eqT_nil, eqT_nn, ils_app, pure_ils, items, hrl, iter_rg1 (show c.per x < 1000000 by omega)]
      refine forG_each (St := fun env => ∃ (b c1 d2 d3 d4 : Option T), env = [some (tq a), some (tq c), some (.dct true (ils L) (ils (L.map a.hd))), b, c1, some (tp (c.ring x)), d2, d3, d4]) (Good := fun i => ∀ j, i < j → j < c.per x → CrossAt a c x i j) ⟨_, _, _, _, _, rfl⟩ ?_ ?_
      · rintro i hi e ⟨b, c1, d2, d3, d4, rfl⟩
        rw [List.mem_range] at hi
        refine ⟨_, rfl, fun N' hN' => ?_⟩
        simp [-List.filterMap_map, -List.map_map, -List.map_set, -List.map_append, -List.any_map, -List.any_append, -List.all_map, -List.all_append, -List.map_take, -List.map_drop, -List.map_tail, -List.map_reverse, -List.map_dropLast, sat_nx, sat_rt, sat_bk, sat_ct, sat_if, osat_ok, Kn_at, sat_nil, sat_cons, sat_for, ForK_at, ev_lcK, LcK_t, LcK_l, LcK_lo, LcK_et, LcK_el, LcK_elo, RetK_at, NonK_at, evS.eq_1, evS.eq_2, evS.eq_3, evS.eq_4, evS.eq_5, evS.eq_6, evS.eq_7, evS.eq_8, evS.eq_9, evS.eq_10, evS.eq_11, evS.eq_12, evS.eq_15, evS.eq_16, evS.eq_17, evS.eq_18, evS.eq_19, evE.eq_1, evE.eq_2, evE.eq_3, evE.eq_4, evE.eq_5, evE.eq_6, evE.eq_7, evE.eq_8, evE.eq_9, evE.eq_10, evE.eq_11, evE.eq_12, evE.eq_13, evE.eq_14, evE.eq_15, evE.eq_16, evE.eq_17, evE.eq_18, evE.eq_19, evE.eq_21, evE.eq_22, evE.eq_23, evO, evL, evI, evC, opds, Opd.get, pq_add, pq_sub, pq_mul, pq_fdiv, pq_mod, pq_pow, pq_neg, pq_idx, pq_len, pq_tuple, pq_list, pq_rg1, pq_rg2, pq_sorted, pq_abs, pq_int1, pq_max2, pq_min2, pq_all, pq_sum1, pq_lindex, pq_repr, pq_cmp, pq_isT, isData, isTy, of_some, Option.map_some, bd_ok, fl_ok, asBool_bl, cmpT, ltT, argsOut, pNeg, callO, lend, giveBack, T.pure, T.fz, T.fzs, fzs_ils, eqT_int, eqT_bl, eqT_tp, eqT_lst, pLen_tp, pLen_lst, bT_name, bT_tup, bT_lst, bTs_nil, bTs_cons, Option.bind_some, setAll, wipeE, unwipe, len_ils, isLst, line, Int.natCast_inj, isKey, any_ils, inT_ils, eqT_nil, eqT_nn, ils_app, pure_ils, items, hrl, pAdd, iter_rg2p (show i + 1 < 1000000 by omega) (show c.per x < 1000000 by omega)]
        refine forG_each (St := fun env => ∃ (b c1 d3 d4 : Option T), env = [some (tq a), some (tq c), some (.dct true (ils L) (ils (L.map a.hd))), b, c1, some (tp (c.ring x)), some (.int i), d3, d4]) (Good := fun j => CrossAt a c x i j) ⟨_, _, _, _, rfl⟩ ?_ ?_
        · rintro j hj e ⟨b, c1, d3, d4, rfl⟩
          rw [List.mem_range'] at hj
          obtain ⟨r, hr, hj⟩ := hj
          have hij : i < j := by omega
          have hjp : j < c.per x := by omega
          refine ⟨_, rfl, fun N3 hN3 => ?_⟩
          have hi1 := c.it_lt hxn i
          have hj1 := c.it_lt hxn j
          have e1 := pIdx_tp (p := c.ring x) (i := i) (by omega)
          have e2 := pIdx_tp (p := c.ring x) (i := j) (by omega)
          rw [Pm.Pm.ring_at] at e1 e2
          have e3 := pIdx_dct (o := true) (m := a.hd) (hLn _ hi1)
          have e4 := pIdx_dct (o := true) (m := a.hd) (hLn _ hj1)
          by_cases q : a.hd (Pm.it c.f i x) = a.hd (Pm.it c.f j x)
          · have o := (Pm.Pm.hd_eq hi1 hj1).mp q
            obtain ⟨t, as, s3, rfl, hC⟩ := q24 (w := w) (k := k - 1) (by omega) (L := L) (p := c.ring x) (m := a.hd) (i := i) (j := j) (by omega) hij (by omega) (fun y hy => hLn y (Pm.Pm.ring_lt hxn hy)) (Pm.Pm.ring_at c x _)
            rcases crs_at hxn hij hjp o hC with ⟨rfl, h2⟩ | ⟨u, v, rfl, h2⟩
            · simp [-List.filterMap_map, -List.map_map, -List.map_set, -List.map_append, -List.any_map, -List.any_append, -List.all_map, -List.all_append, -List.map_take, -List.map_drop, -List.map_tail, -List.map_reverse, -List.map_dropLast, sat_nx, sat_rt, sat_bk, sat_ct, sat_if, osat_ok, Kn_at, sat_nil, sat_cons, sat_for, ForK_at, ev_lcK, LcK_t, LcK_l, LcK_lo, LcK_et, LcK_el, LcK_elo, RetK_at, NonK_at, evS.eq_1, evS.eq_2, evS.eq_3, evS.eq_4, evS.eq_5, evS.eq_6, evS.eq_7, evS.eq_8, evS.eq_9, evS.eq_10, evS.eq_11, evS.eq_12, evS.eq_15, evS.eq_16, evS.eq_17, evS.eq_18, evS.eq_19, evE.eq_1, evE.eq_2, evE.eq_3, evE.eq_4, evE.eq_5, evE.eq_6, evE.eq_7, evE.eq_8, evE.eq_9, evE.eq_10, evE.eq_11, evE.eq_12, evE.eq_13, evE.eq_14, evE.eq_15, evE.eq_16, evE.eq_17, evE.eq_18, evE.eq_19, evE.eq_21, evE.eq_22, evE.eq_23, evO, evL, evI, evC, opds, Opd.get, pq_add, pq_sub, pq_mul, pq_fdiv, pq_mod, pq_pow, pq_neg, pq_idx, pq_len, pq_tuple, pq_list, pq_rg1, pq_rg2, pq_sorted, pq_abs, pq_int1, pq_max2, pq_min2, pq_all, pq_sum1, pq_lindex, pq_repr, pq_cmp, pq_isT, isData, isTy, of_some, Option.map_some, bd_ok, fl_ok, asBool_bl, cmpT, ltT, argsOut, pNeg, callO, lend, giveBack, T.pure, T.fz, T.fzs, fzs_ils, eqT_int, eqT_bl, eqT_tp, eqT_lst, pLen_tp, pLen_lst, bT_name, bT_tup, bT_lst, bTs_nil, bTs_cons, Option.bind_some, setAll, wipeE, unwipe, len_ils, isLst, line, Int.natCast_inj, isKey, any_ils, inT_ils, eqT_nil, eqT_nn, ils_app, pure_ils, items, e1, e2, e3, e4, q, pk24, s3]
              exact hN3 _ ⟨_, _, _, _, rfl⟩ h2
            · simp [-List.filterMap_map, -List.map_map, -List.map_set, -List.map_append, -List.any_map, -List.any_append, -List.all_map, -List.all_append, -List.map_take, -List.map_drop, -List.map_tail, -List.map_reverse, -List.map_dropLast, sat_nx, sat_rt, sat_bk, sat_ct, sat_if, osat_ok, Kn_at, sat_nil, sat_cons, sat_for, ForK_at, ev_lcK, LcK_t, LcK_l, LcK_lo, LcK_et, LcK_el, LcK_elo, RetK_at, NonK_at, evS.eq_1, evS.eq_2, evS.eq_3, evS.eq_4, evS.eq_5, evS.eq_6, evS.eq_7, evS.eq_8, evS.eq_9, evS.eq_10, evS.eq_11, evS.eq_12, evS.eq_15, evS.eq_16, evS.eq_17, evS.eq_18, evS.eq_19, evE.eq_1, evE.eq_2, evE.eq_3, evE.eq_4, evE.eq_5, evE.eq_6, evE.eq_7, evE.eq_8, evE.eq_9, evE.eq_10, evE.eq_11, evE.eq_12, evE.eq_13, evE.eq_14, evE.eq_15, evE.eq_16, evE.eq_17, evE.eq_18, evE.eq_19, evE.eq_21, evE.eq_22, evE.eq_23, evO, evL, evI, evC, opds, Opd.get, pq_add, pq_sub, pq_mul, pq_fdiv, pq_mod, pq_pow, pq_neg, pq_idx, pq_len, pq_tuple, pq_list, pq_rg1, pq_rg2, pq_sorted, pq_abs, pq_int1, pq_max2, pq_min2, pq_all, pq_sum1, pq_lindex, pq_repr, pq_cmp, pq_isT, isData, isTy, of_some, Option.map_some, bd_ok, fl_ok, asBool_bl, cmpT, ltT, argsOut, pNeg, callO, lend, giveBack, T.pure, T.fz, T.fzs, fzs_ils, eqT_int, eqT_bl, eqT_tp, eqT_lst, pLen_tp, pLen_lst, bT_name, bT_tup, bT_lst, bTs_nil, bTs_cons, Option.bind_some, setAll, wipeE, unwipe, len_ils, isLst, line, Int.natCast_inj, isKey, any_ils, inT_ils, eqT_nil, eqT_nn, ils_app, pure_ils, items, e1, e2, e3, e4, q, pk24, s3, pIdx_t0, pIdx_t1]
              exact hQ _ _ ⟨rfl, .inr ⟨⟨_, rfl⟩, fun hA => h2 fun o u hu1 hu2 v hv1 hv2 => hA x hx i j hij hjp o u hu1 hu2 v hv1 hv2⟩⟩
          · simp [-List.filterMap_map, -List.map_map, -List.map_set, -List.map_append, -List.any_map, -List.any_append, -List.all_map, -List.all_append, -List.map_take, -List.map_drop, -List.map_tail, -List.map_reverse, -List.map_dropLast, sat_nx, sat_rt, sat_bk, sat_ct, sat_if, osat_ok, Kn_at, sat_nil, sat_cons, sat_for, ForK_at, ev_lcK, LcK_t, LcK_l, LcK_lo, LcK_et, LcK_el, LcK_elo, RetK_at, NonK_at, evS.eq_1, evS.eq_2, evS.eq_3, evS.eq_4, evS.eq_5, evS.eq_6, evS.eq_7, evS.eq_8, evS.eq_9, evS.eq_10, evS.eq_11, evS.eq_12, evS.eq_15, evS.eq_16, evS.eq_17, evS.eq_18, evS.eq_19, evE.eq_1, evE.eq_2, evE.eq_3, evE.eq_4, evE.eq_5, evE.eq_6, evE.eq_7, evE.eq_8, evE.eq_9, evE.eq_10, evE.eq_11, evE.eq_12, evE.eq_13, evE.eq_14, evE.eq_15, evE.eq_16, evE.eq_17, evE.eq_18, evE.eq_19, evE.eq_21, evE.eq_22, evE.eq_23, evO, evL, evI, evC, opds, Opd.get, pq_add, pq_sub, pq_mul, pq_fdiv, pq_mod, pq_pow, pq_neg, pq_idx, pq_len, pq_tuple, pq_list, pq_rg1, pq_rg2, pq_sorted, pq_abs, pq_int1, pq_max2, pq_min2, pq_all, pq_sum1, pq_lindex, pq_repr, pq_cmp, pq_isT, isData, isTy, of_some, Option.map_some, bd_ok, fl_ok, asBool_bl, cmpT, ltT, argsOut, pNeg, callO, lend, giveBack, T.pure, T.fz, T.fzs, fzs_ils, eqT_int, eqT_bl, eqT_tp, eqT_lst, pLen_tp, pLen_lst, bT_name, bT_tup, bT_lst, bTs_nil, bTs_cons, Option.bind_some, setAll, wipeE, unwipe, len_ils, isLst, line, Int.natCast_inj, isKey, any_ils, inT_ils, eqT_nil, eqT_nn, ils_app, pure_ils, items, e1, e2, e3, e4, q]
            exact hN3 _ ⟨_, _, _, _, rfl⟩ fun o => absurd ((Pm.Pm.hd_eq hi1 hj1).mpr o) q
        · rintro e ⟨b, c1, d3, d4, rfl⟩ hG
          simp [-List.filterMap_map, -List.map_map, -List.map_set, -List.map_append, -List.any_map, -List.any_append, -List.all_map, -List.all_append, -List.map_take, -List.map_drop, -List.map_tail, -List.map_reverse, -List.map_dropLast, sat_nx, sat_rt, sat_bk, sat_ct, sat_if, osat_ok, Kn_at, sat_nil, sat_cons, sat_for, ForK_at, ev_lcK, LcK_t, LcK_l, LcK_lo, LcK_et, LcK_el, LcK_elo, RetK_at, NonK_at, evS.eq_1, evS.eq_2, evS.eq_3, evS.eq_4, evS.eq_5, evS.eq_6, evS.eq_7, evS.eq_8, evS.eq_9, evS.eq_10, evS.eq_11, evS.eq_12, evS.eq_15, evS.eq_16, evS.eq_17, evS.eq_18, evS.eq_19, evE.eq_1, evE.eq_2, evE.eq_3, evE.eq_4, evE.eq_5, evE.eq_6, evE.eq_7, evE.eq_8, evE.eq_9, evE.eq_10, evE.eq_11, evE.eq_12, evE.eq_13, evE.eq_14, evE.eq_15, evE.eq_16, evE.eq_17, evE.eq_18, evE.eq_19, evE.eq_21, evE.eq_22, evE.eq_23, evO, evL, evI, evC, opds, Opd.get, pq_add, pq_sub, pq_mul, pq_fdiv, pq_mod, pq_pow, pq_neg, pq_idx, pq_len, pq_tuple, pq_list, pq_rg1, pq_rg2, pq_sorted, pq_abs, pq_int1, pq_max2, pq_min2, pq_all, pq_sum1, pq_lindex, pq_repr, pq_cmp, pq_isT, isData, isTy, of_some, Option.map_some, bd_ok, fl_ok, asBool_bl, cmpT, ltT, argsOut, pNeg, callO, lend, giveBack, T.pure, T.fz, T.fzs, fzs_ils, eqT_int, eqT_bl, eqT_tp, eqT_lst, pLen_tp, pLen_lst, bT_name, bT_tup, bT_lst, bTs_nil, bTs_cons, Option.bind_some, setAll, wipeE, unwipe, len_ils, isLst, line, Int.natCast_inj, isKey, any_ils, inT_ils, eqT_nil, eqT_nn, ils_app, pure_ils, items]
          refine hN' _ ⟨_, _, _, _, _, rfl⟩ fun j hij hj => hG j ?_
          rw [List.mem_range']
          exact ⟨j - (i + 1), by omega, by omega⟩
      · rintro e ⟨b, c1, d2, d3, d4, rfl⟩ hG
        simp [-List.filterMap_map, -List.map_map, -List.map_set, -List.map_append, -List.any_map, -List.any_append, -List.all_map, -List.all_append, -List.map_take, -List.map_drop, -List.map_tail, -List.map_reverse, -List.map_dropLast, sat_nx, sat_rt, sat_bk, sat_ct, sat_if, osat_ok, Kn_at, sat_nil, sat_cons, sat_for, ForK_at, ev_lcK, LcK_t, LcK_l, LcK_lo, LcK_et, LcK_el, LcK_elo, RetK_at, NonK_at, evS.eq_1, evS.eq_2, evS.eq_3, evS.eq_4, evS.eq_5, evS.eq_6, evS.eq_7, evS.eq_8, evS.eq_9, evS.eq_10, evS.eq_11, evS.eq_12, evS.eq_15, evS.eq_16, evS.eq_17, evS.eq_18, evS.eq_19, evE.eq_1, evE.eq_2, evE.eq_3, evE.eq_4, evE.eq_5, evE.eq_6, evE.eq_7, evE.eq_8, evE.eq_9, evE.eq_10, evE.eq_11, evE.eq_12, evE.eq_13, evE.eq_14, evE.eq_15, evE.eq_16, evE.eq_17, evE.eq_18, evE.eq_19, evE.eq_21, evE.eq_22, evE.eq_23, evO, evL, evI, evC, opds, Opd.get, pq_add, pq_sub, pq_mul, pq_fdiv, pq_mod, pq_pow, pq_neg, pq_idx, pq_len, pq_tuple, pq_list, pq_rg1, pq_rg2, pq_sorted, pq_abs, pq_int1, pq_max2, pq_min2, pq_all, pq_sum1, pq_lindex, pq_repr, pq_cmp, pq_isT, isData, isTy, of_some, Option.map_some, bd_ok, fl_ok, asBool_bl, cmpT, ltT, argsOut, pNeg, callO, lend, giveBack, T.pure, T.fz, T.fzs, fzs_ils, eqT_int, eqT_bl, eqT_tp, eqT_lst, pLen_tp, pLen_lst, bT_name, bT_tup, bT_lst, bTs_nil, bTs_cons, Option.bind_some, setAll, wipeE, unwipe, len_ils, isLst, line, Int.natCast_inj, isKey, any_ils, inT_ils, eqT_nil, eqT_nn, ils_app, pure_ils, items]
        exact hN _ ⟨_, _, _, _, _, _, rfl⟩ fun i j hij hj => hG i (List.mem_range.mpr (by omega)) j hij hj
    · rintro e ⟨b, c1, d1, d2, d3, d4, rfl⟩ hG
      simp [-List.filterMap_map, -List.map_map, -List.map_set, -List.map_append, -List.any_map, -List.any_append, -List.all_map, -List.all_append, -List.map_take, -List.map_drop, -List.map_tail, -List.map_reverse, -List.map_dropLast, sat_nx, sat_rt, sat_bk, sat_ct, sat_if, osat_ok, Kn_at, sat_nil, sat_cons, sat_for, ForK_at, ev_lcK, LcK_t, LcK_l, LcK_lo, LcK_et, LcK_el, LcK_elo, RetK_at, NonK_at, evS.eq_1, evS.eq_2, evS.eq_3, evS.eq_4, evS.eq_5, evS.eq_6, evS.eq_7, evS.eq_8, evS.eq_9, evS.eq_10, evS.eq_11, evS.eq_12, evS.eq_15, evS.eq_16, evS.eq_17, evS.eq_18, evS.eq_19, evE.eq_1, evE.eq_2, evE.eq_3, evE.eq_4, evE.eq_5, evE.eq_6, evE.eq_7, evE.eq_8, evE.eq_9, evE.eq_10, evE.eq_11, evE.eq_12, evE.eq_13, evE.eq_14, evE.eq_15, evE.eq_16, evE.eq_17, evE.eq_18, evE.eq_19, evE.eq_21, evE.eq_22, evE.eq_23, evO, evL, evI, evC, opds, Opd.get, pq_add, pq_sub, pq_mul, pq_fdiv, pq_mod, pq_pow, pq_neg, pq_idx, pq_len, pq_tuple, pq_list, pq_rg1, pq_rg2, pq_sorted, pq_abs, pq_int1, pq_max2, pq_min2, pq_all, pq_sum1, pq_lindex, pq_repr, pq_cmp, pq_isT, isData, isTy, of_some, Option.map_some, bd_ok, fl_ok, asBool_bl, cmpT, ltT, argsOut, pNeg, callO, lend, giveBack, T.pure, T.fz, T.fzs, fzs_ils, eqT_int, eqT_bl, eqT_tp, eqT_lst, pLen_tp, pLen_lst, bT_name, bT_tup, bT_lst, bTs_nil, bTs_cons, Option.bind_some, setAll, wipeE, unwipe, len_ils, isLst, line, Int.natCast_inj, isKey, any_ils, inT_ils, eqT_nil, eqT_nn, ils_app, pure_ils, items]
      exact hQ _ _ ⟨rfl, .inl ⟨rfl, fun x hx i j hij hj o u hu1 hu2 v hv1 hv2 => hG x hx i j hij hj o u hu1 hu2 v hv1 hv2⟩⟩
theorem q25 (hw : 20 ≤ w) (h : 8 ≤ k) (a c : Pm.Pm n) (h1 : 1 ≤ n) (hn : n ≤ 12) : ∃ t as, callK P w k 25 [tq a, tq c] = .ok t as ∧ as = [tq a, tq c] ∧ Rsn t (Pm.Pm.Lies a c) := by
  refine callK_by (d := d25) _ rfl (by omega) rfl fun Q hQ => ?_
  rw [Pm.Pm.lies_prog] at hQ
  obtain ⟨t1, as1, s1, rfl, r1⟩ := q21 (w := w) (k := k - 1) hw (by omega) a c h1 hn
  rcases r1 with ⟨rfl, hA⟩ | ⟨⟨ts, rfl⟩, hA⟩
  · obtain ⟨t2, as2, s2, rfl, r2⟩ := q22 (w := w) (k := k - 1) hw (by omega) a c h1 hn hA
    rcases r2 with ⟨rfl, hR⟩ | ⟨⟨ts, rfl⟩, hR⟩
    · obtain ⟨t3, as3, s3, rfl, r3⟩ := q23 (w := w) (k := k - 1) hw (by omega) a c h1 hn
      simp [-List.filterMap_map, -List.map_map, -List.map_set, -List.map_append, -List.any_map, -List.any_append, -List.all_map, -List.all_append, -List.map_take, -List.map_drop, -List.map_tail, -List.map_reverse, -List.map_dropLast, sat_nx, sat_rt, sat_bk, sat_ct, sat_if, osat_ok, Kn_at, sat_nil, sat_cons, sat_for, ForK_at, ev_lcK, LcK_t, LcK_l, LcK_lo, LcK_et, LcK_el, LcK_elo, RetK_at, NonK_at, evS.eq_1, evS.eq_2, evS.eq_3, evS.eq_4, evS.eq_5, evS.eq_6, evS.eq_7, evS.eq_8, evS.eq_9, evS.eq_10, evS.eq_11, evS.eq_12, evS.eq_15, evS.eq_16, evS.eq_17, evS.eq_18, evS.eq_19, evE.eq_1, evE.eq_2, evE.eq_3, evE.eq_4, evE.eq_5, evE.eq_6, evE.eq_7, evE.eq_8, evE.eq_9, evE.eq_10, evE.eq_11, evE.eq_12, evE.eq_13, evE.eq_14, evE.eq_15, evE.eq_16, evE.eq_17, evE.eq_18, evE.eq_19, evE.eq_21, evE.eq_22, evE.eq_23, evO, evL, evI, evC, opds, Opd.get, pq_add, pq_sub, pq_mul, pq_fdiv, pq_mod, pq_pow, pq_neg, pq_idx, pq_len, pq_tuple, pq_list, pq_rg1, pq_rg2, pq_sorted, pq_abs, pq_int1, pq_max2, pq_min2, pq_all, pq_sum1, pq_lindex, pq_repr, pq_cmp, pq_isT, isData, isTy, of_some, Option.map_some, bd_ok, fl_ok, asBool_bl, cmpT, ltT, argsOut, pNeg, callO, lend, giveBack, T.pure, T.fz, T.fzs, fzs_ils, eqT_int, eqT_bl, eqT_tp, eqT_lst, pLen_tp, pLen_lst, bT_name, bT_tup, bT_lst, bTs_nil, bTs_cons, Option.bind_some, setAll, wipeE, unwipe, len_ils, isLst, line, Int.natCast_inj, isKey, any_ils, inT_ils, eqT_nil, eqT_nn, ils_app, pure_ils, items, d25, b25, pk21, pk22, pk23, s1, s2, s3]
      refine hQ _ _ ⟨rfl, ?_⟩
      rcases r3 with ⟨rfl, hC⟩ | ⟨ht, hC⟩
      · exact .inl ⟨rfl, hA, hR, hC⟩
      · exact .inr ⟨ht, fun q => hC q.2.2⟩
    · simp [-List.filterMap_map, -List.map_map, -List.map_set, -List.map_append, -List.any_map, -List.any_append, -List.all_map, -List.all_append, -List.map_take, -List.map_drop, -List.map_tail, -List.map_reverse, -List.map_dropLast, sat_nx, sat_rt, sat_bk, sat_ct, sat_if, osat_ok, Kn_at, sat_nil, sat_cons, sat_for, ForK_at, ev_lcK, LcK_t, LcK_l, LcK_lo, LcK_et, LcK_el, LcK_elo, RetK_at, NonK_at, evS.eq_1, evS.eq_2, evS.eq_3, evS.eq_4, evS.eq_5, evS.eq_6, evS.eq_7, evS.eq_8, evS.eq_9, evS.eq_10, evS.eq_11, evS.eq_12, evS.eq_15, evS.eq_16, evS.eq_17, evS.eq_18, evS.eq_19, evE.eq_1, evE.eq_2, evE.eq_3, evE.eq_4, evE.eq_5, evE.eq_6, evE.eq_7, evE.eq_8, evE.eq_9, evE.eq_10, evE.eq_11, evE.eq_12, evE.eq_13, evE.eq_14, evE.eq_15, evE.eq_16, evE.eq_17, evE.eq_18, evE.eq_19, evE.eq_21, evE.eq_22, evE.eq_23, evO, evL, evI, evC, opds, Opd.get, pq_add, pq_sub, pq_mul, pq_fdiv, pq_mod, pq_pow, pq_neg, pq_idx, pq_len, pq_tuple, pq_list, pq_rg1, pq_rg2, pq_sorted, pq_abs, pq_int1, pq_max2, pq_min2, pq_all, pq_sum1, pq_lindex, pq_repr, pq_cmp, pq_isT, isData, isTy, of_some, Option.map_some, bd_ok, fl_ok, asBool_bl, cmpT, ltT, argsOut, pNeg, callO, lend, giveBack, T.pure, T.fz, T.fzs, fzs_ils, eqT_int, eqT_bl, eqT_tp, eqT_lst, pLen_tp, pLen_lst, bT_name, bT_tup, bT_lst, bTs_nil, bTs_cons, Option.bind_some, setAll, wipeE, unwipe, len_ils, isLst, line, Int.natCast_inj, isKey, any_ils, inT_ils, eqT_nil, eqT_nn, ils_app, pure_ils, items, d25, b25, pk21, pk22, pk23, s1, s2]
      exact hQ _ _ ⟨rfl, .inr ⟨⟨_, rfl⟩, fun q => hR q.2.1⟩⟩
  · simp [-List.filterMap_map, -List.map_map, -List.map_set, -List.map_append, -List.any_map, -List.any_append, -List.all_map, -List.all_append, -List.map_take, -List.map_drop, -List.map_tail, -List.map_reverse, -List.map_dropLast, sat_nx, sat_rt, sat_bk, sat_ct, sat_if, osat_ok, Kn_at, sat_nil, sat_cons, sat_for, ForK_at, ev_lcK, LcK_t, LcK_l, LcK_lo, LcK_et, LcK_el, LcK_elo, RetK_at, NonK_at, evS.eq_1, evS.eq_2, evS.eq_3, evS.eq_4, evS.eq_5, evS.eq_6, evS.eq_7, evS.eq_8, evS.eq_9, evS.eq_10, evS.eq_11, evS.eq_12, evS.eq_15, evS.eq_16, evS.eq_17, evS.eq_18, evS.eq_19, evE.eq_1, evE.eq_2, evE.eq_3, evE.eq_4, evE.eq_5, evE.eq_6, evE.eq_7, evE.eq_8, evE.eq_9, evE.eq_10, evE.eq_11, evE.eq_12, evE.eq_13, evE.eq_14, evE.eq_15, evE.eq_16, evE.eq_17, evE.eq_18, evE.eq_19, evE.eq_21, evE.eq_22, evE.eq_23, evO, evL, evI, evC, opds, Opd.get, pq_add, pq_sub, pq_mul, pq_fdiv, pq_mod, pq_pow, pq_neg, pq_idx, pq_len, pq_tuple, pq_list, pq_rg1, pq_rg2, pq_sorted, pq_abs, pq_int1, pq_max2, pq_min2, pq_all, pq_sum1, pq_lindex, pq_repr, pq_cmp, pq_isT, isData, isTy, of_some, Option.map_some, bd_ok, fl_ok, asBool_bl, cmpT, ltT, argsOut, pNeg, callO, lend, giveBack, T.pure, T.fz, T.fzs, fzs_ils, eqT_int, eqT_bl, eqT_tp, eqT_lst, pLen_tp, pLen_lst, bT_name, bT_tup, bT_lst, bTs_nil, bTs_cons, Option.bind_some, setAll, wipeE, unwipe, len_ils, isLst, line, Int.natCast_inj, isKey, any_ils, inT_ils, eqT_nil, eqT_nn, ils_app, pure_ils, items, d25, b25, pk21, pk22, pk23, s1]
    exact hQ _ _ ⟨rfl, .inr ⟨⟨_, rfl⟩, fun q => hA q.1⟩⟩
theorem q26 (hw : 20 ≤ w) (h : 9 ≤ k) (a c : Pm.Pm n) (h1 : 1 ≤ n) (hn : n ≤ 12) : ∃ t as, callK P w k 26 [tq a, tq c] = .ok t as ∧ as = [tq a, tq c] ∧ Rsn t (Pm.Pm.Lies a c) := by
  refine callK_by (d := d26) _ rfl (by omega) rfl fun Q hQ => ?_
  have s1 := q15 (w := w) (k := k - 1) (by omega) a c h1 hn
  obtain ⟨t1, as1, s2, rfl, r1⟩ := q25 (w := w) (k := k - 1) hw (by omega) a c h1 hn
  simp [-List.filterMap_map, -List.map_map, -List.map_set, -List.map_append, -List.any_map, -List.any_append, -List.all_map, -List.all_append, -List.map_take, -List.map_drop, -List.map_tail, -List.map_reverse, -List.map_dropLast, sat_nx, sat_rt, sat_bk, sat_ct, sat_if, osat_ok, Kn_at, sat_nil, sat_cons, sat_for, ForK_at, ev_lcK, LcK_t, LcK_l, LcK_lo, LcK_et, LcK_el, LcK_elo, RetK_at, NonK_at, evS.eq_1, evS.eq_2, evS.eq_3, evS.eq_4, evS.eq_5, evS.eq_6, evS.eq_7, evS.eq_8, evS.eq_9, evS.eq_10, evS.eq_11, evS.eq_12, evS.eq_15, evS.eq_16, evS.eq_17, evS.eq_18, evS.eq_19, evE.eq_1, evE.eq_2, evE.eq_3, evE.eq_4, evE.eq_5, evE.eq_6, evE.eq_7, evE.eq_8, evE.eq_9, evE.eq_10, evE.eq_11, evE.eq_12, evE.eq_13, evE.eq_14, evE.eq_15, evE.eq_16, evE.eq_17, evE.eq_18, evE.eq_19, evE.eq_21, evE.eq_22, evE.eq_23, evO, evL, evI, evC, opds, Opd.get, pq_add, pq_sub, pq_mul, pq_fdiv, pq_mod, pq_pow, pq_neg, pq_idx, pq_len, pq_tuple, pq_list, pq_rg1, pq_rg2, pq_sorted, pq_abs, pq_int1, pq_max2, pq_min2, pq_all, pq_sum1, pq_lindex, pq_repr, pq_cmp, pq_isT, isData, isTy, of_some, Option.map_some, bd_ok, fl_ok, asBool_bl, cmpT, ltT, argsOut, pNeg, callO, lend, giveBack, T.pure, T.fz, T.fzs, fzs_ils, eqT_int, eqT_bl, eqT_tp, eqT_lst, pLen_tp, pLen_lst, bT_name, bT_tup, bT_lst, bTs_nil, bTs_cons, Option.bind_some, setAll, wipeE, unwipe, len_ils, isLst, line, Int.natCast_inj, isKey, any_ils, inT_ils, eqT_nil, eqT_nn, ils_app, pure_ils, items, d26, b26, pk15, pk25, s1, s2]
  exact hQ _ _ ⟨rfl, r1⟩
end
end K91
end
section
set_option Elab.async false
set_option maxRecDepth 100000
set_option linter.all false
/-! W91i: walks: dice. -/
open Ev
namespace K91
section
variable {w k n : Nat}
def Dice (D : T) : Prop := ∃ l m c : Int, D = .lst true [.int l, .int m, .int c] ∧ 0 ≤ l ∧ 0 ≤ m ∧ 0 ≤ c
theorem pIdx_l3 (o : Bool) (l m c : Int) : pIdx (.lst o [.int l, .int m, .int c]) (.int 0) = some (.int l) ∧ pIdx (.lst o [.int l, .int m, .int c]) (.int 1) = some (.int m) ∧ pIdx (.lst o [.int l, .int m, .int c]) (.int 2) = some (.int c) := ⟨rfl, rfl, rfl⟩
theorem mul_left {i j : Int} (h1 : -18446744073709551616 < i) (h2 : i < 18446744073709551616) : mulOk i j = true := by
  unfold mulOk
  rw [decide_eq_true h1, decide_eq_true h2]
  rfl
theorem mul_right {i j : Int} (h1 : -18446744073709551616 < j) (h2 : j < 18446744073709551616) : mulOk i j = true := by
  unfold mulOk
  rw [decide_eq_true h1, decide_eq_true h2]
  simp
theorem mo1 (j : Int) : mulOk 49979687 j = true := mul_left (by decide) (by decide)
theorem mo2 (j : Int) : mulOk 89 j = true := mul_left (by decide) (by decide)
theorem mo3 (j : Int) : mulOk j 6972593 = true := mul_right (by decide) (by decide)
theorem mo4 (j : Int) : mulOk j 53 = true := mul_right (by decide) (by decide)
theorem mo5 (j : Int) : mulOk 1019 j = true := mul_left (by decide) (by decide)
theorem mo6 (j : Int) : mulOk 41 j = true := mul_left (by decide) (by decide)
theorem mo7 (j : Int) : mulOk 79 j = true := mul_left (by decide) (by decide)
theorem mo8 (x j : Int) : mulOk (x % 2305843009213693613) j = true := mul_left (by have := Int.emod_nonneg x (show (2305843009213693613 : Int) ≠ 0 by decide); omega) (by have := Int.emod_lt_of_pos x (show (0 : Int) < 2305843009213693613 by decide); omega)
theorem sm0 : small 0 = true := rfl
theorem sm2 : small 2 = true := rfl
theorem px0 : pIx 3 0 = some 0 := rfl
theorem px2 : pIx 3 2 = some 2 := rfl
theorem log_nat {n : Nat} (h : n ≤ 1000000) : n.log2 ≤ 8000 := by
  by_cases q : n = 0
  · subst q; decide
  · have : n.log2 < 20 := (Nat.log2_lt q).mpr (by omega)
    omega
theorem emod_nat (X : Int) {n : Nat} (h : 0 < n) : ∃ r : Nat, X % (n : Int) = (r : Int) ∧ r < n := by
  have h1 := Int.emod_nonneg X (show (n : Int) ≠ 0 by omega)
  have h2 := Int.emod_lt_of_pos X (show (0 : Int) < n by omega)
  exact ⟨(X % (n : Int)).toNat, by omega, by omega⟩
theorem q28 (h : 1 ≤ k) {D : T} (hD : Dice D) {n : Nat} (h0 : 0 < n) (hn : n ≤ 1000000) : ∃ t as, callK P w k 28 [D, .int n] = .ok t as ∧ ∃ (r : Nat) (D' : T), t = .int r ∧ as = [D', .int n] ∧ r < n ∧ Dice D' := by
  obtain ⟨l, m, c, rfl, hl, hm, hc⟩ := hD
  refine callK_by (d := d28) _ rfl (by omega) rfl fun Q hQ => ?_
  have hQ' : ∀ (X : Int) (D' : T), Dice D' → Q (.int (X % (n : Int))) [D', .int n] := fun X D' hD' => by
    obtain ⟨r, e, hr⟩ := emod_nat X h0
    rw [e]
    exact hQ _ _ ⟨r, D', rfl, rfl, hr, hD'⟩
  obtain ⟨e1, e2, e3⟩ := pIdx_l3 true l m c
  obtain ⟨e4, e5, e6⟩ := pIdx_l3 true l m (c + 1)
  have h1 := log_nat hn
  by_cases q : 0 < l
  · simp [-List.filterMap_map, -List.map_map, -List.map_set, -List.map_append, -List.any_map, -List.any_append, -List.all_map, -List.all_append, -List.map_take, -List.map_drop, -List.map_tail, -List.map_reverse, -List.map_dropLast, sat_nx, sat_rt, sat_bk, sat_ct, sat_if, osat_ok, Kn_at, sat_nil, sat_cons, sat_for, ForK_at, ev_lcK, LcK_t, LcK_l, LcK_lo, LcK_et, LcK_el, LcK_elo, RetK_at, NonK_at, evS.eq_1, evS.eq_2, evS.eq_3, evS.eq_4, evS.eq_5, evS.eq_6, evS.eq_7, evS.eq_8, evS.eq_9, evS.eq_10, evS.eq_11, evS.eq_12, evS.eq_15, evS.eq_16, evS.eq_17, evS.eq_18, evS.eq_19, evE.eq_1, evE.eq_2, evE.eq_3, evE.eq_4, evE.eq_5, evE.eq_6, evE.eq_7, evE.eq_8, evE.eq_9, evE.eq_10, evE.eq_11, evE.eq_12, evE.eq_13, evE.eq_14, evE.eq_15, evE.eq_16, evE.eq_17, evE.eq_18, evE.eq_19, evE.eq_21, evE.eq_22, evE.eq_23, evO, evL, evI, evC, opds, Opd.get, pq_add, pq_sub, pq_mul, pq_fdiv, pq_mod, pq_pow, pq_neg, pq_idx, pq_len, pq_tuple, pq_list, pq_rg1, pq_rg2, pq_sorted, pq_abs, pq_int1, pq_max2, pq_min2, pq_all, pq_sum1, pq_lindex, pq_repr, pq_cmp, pq_isT, isData, isTy, of_some, Option.map_some, bd_ok, fl_ok, asBool_bl, cmpT, ltT, argsOut, pNeg, callO, lend, giveBack, T.pure, T.fz, T.fzs, fzs_ils, eqT_int, eqT_bl, eqT_tp, eqT_lst, pLen_tp, pLen_lst, bT_name, bT_tup, bT_lst, bTs_nil, bTs_cons, Option.bind_some, setAll, wipeE, unwipe, len_ils, isLst, line, Int.natCast_inj, isKey, any_ils, inT_ils, eqT_nil, eqT_nn, ils_app, pure_ils, items, setIxS, setIxT, d28, b28, e1, q, pInt, pMod, pDiv, h0, h1, sm0, px0]
    exact hQ' _ _ ⟨_, _, _, rfl, Int.ediv_nonneg hl (by omega), hm, hc⟩
  · simp [-List.filterMap_map, -List.map_map, -List.map_set, -List.map_append, -List.any_map, -List.any_append, -List.all_map, -List.all_append, -List.map_take, -List.map_drop, -List.map_tail, -List.map_reverse, -List.map_dropLast, sat_nx, sat_rt, sat_bk, sat_ct, sat_if, osat_ok, Kn_at, sat_nil, sat_cons, sat_for, ForK_at, ev_lcK, LcK_t, LcK_l, LcK_lo, LcK_et, LcK_el, LcK_elo, RetK_at, NonK_at, evS.eq_1, evS.eq_2, evS.eq_3, evS.eq_4, evS.eq_5, evS.eq_6, evS.eq_7, evS.eq_8, evS.eq_9, evS.eq_10, evS.eq_11, evS.eq_12, evS.eq_15, evS.eq_16, evS.eq_17, evS.eq_18, evS.eq_19, evE.eq_1, evE.eq_2, evE.eq_3, evE.eq_4, evE.eq_5, evE.eq_6, evE.eq_7, evE.eq_8, evE.eq_9, evE.eq_10, evE.eq_11, evE.eq_12, evE.eq_13, evE.eq_14, evE.eq_15, evE.eq_16, evE.eq_17, evE.eq_18, evE.eq_19, evE.eq_21, evE.eq_22, evE.eq_23, evO, evL, evI, evC, opds, Opd.get, pq_add, pq_sub, pq_mul, pq_fdiv, pq_mod, pq_pow, pq_neg, pq_idx, pq_len, pq_tuple, pq_list, pq_rg1, pq_rg2, pq_sorted, pq_abs, pq_int1, pq_max2, pq_min2, pq_all, pq_sum1, pq_lindex, pq_repr, pq_cmp, pq_isT, isData, isTy, of_some, Option.map_some, bd_ok, fl_ok, asBool_bl, cmpT, ltT, argsOut, pNeg, callO, lend, giveBack, T.pure, T.fz, T.fzs, fzs_ils, eqT_int, eqT_bl, eqT_tp, eqT_lst, pLen_tp, pLen_lst, bT_name, bT_tup, bT_lst, bTs_nil, bTs_cons, Option.bind_some, setAll, wipeE, unwipe, len_ils, isLst, line, Int.natCast_inj, isKey, any_ils, inT_ils, eqT_nil, eqT_nn, ils_app, pure_ils, items, setIxS, setIxT, d28, b28, e1, e3, q, pInt, pMod, pDiv, pAdd, pMul, h0, h1, sm2, px2, e4, e5, e6, mo1, mo2, mo3, mo8, log_nat (show 131072 ≤ 1000000 by omega)]
    exact hQ' _ _ ⟨_, _, _, rfl, hl, hm, by omega⟩
theorem pw15 : pPow (.int 10) (.int 15) = some (.int 1000000000000000) := by
  have : Nat.log2 10 ≤ 1000 := by decide +kernel
  simp [pPow, this]
theorem pw60 : pPow (.int 10) (.int 60) = some (.int 1000000000000000000000000000000000000000000000000000000000000) := by
  have : Nat.log2 10 ≤ 1000 := by decide +kernel
  simp [pPow, this]
theorem mo9 : mulOk 1000000000000000000000000000000000000000000000000000000000000 1000000000000000000000000000000000000000000000000000000000000 = true := by decide +kernel
theorem q27 (h : 1 ≤ k) (ns : List Int) {s : Nat} (hs : s ≤ 1000) : ∃ t as, callK P w k 27 [scr ns, .int s] = .ok t as ∧ as = [scr ns, .int s] ∧ Dice t := by
  refine callK_by (d := d27) _ rfl (by omega) rfl fun Q hQ => ?_
  have hQ' : ∀ x y z : Int, 0 ≤ x → 0 ≤ y → 0 ≤ z → Q (.lst true [.int x, .int y, .int z]) [scr ns, .int s] := fun x y z hx hy hz => hQ _ _ ⟨rfl, x, y, z, rfl, hx, hy, hz⟩
  have e0 : pLen (scr ns) = some (.int (ns.length : Nat)) := by
    show some (T.int ((ns.map T.int).length : Int)) = _
    rw [List.length_map]
  by_cases q : s < ns.length
  · have q' : (s : Int) < (ns.length : Int) := by omega
    have e1 : pIdx (scr ns) (.int s) = some (.int ns[s]) := by
      unfold pIdx
      simp only [List.length_map, pIx_nat q, Option.bind_some, List.getElem?_map, List.getElem?_eq_getElem q, Option.map_some]
      rfl
    generalize ns[s] = cell at e1
    simp [-List.filterMap_map, -List.map_map, -List.map_set, -List.map_append, -List.any_map, -List.any_append, -List.all_map, -List.all_append, -List.map_take, -List.map_drop, -List.map_tail, -List.map_reverse, -List.map_dropLast, sat_nx, sat_rt, sat_bk, sat_ct, sat_if, osat_ok, Kn_at, sat_nil, sat_cons, sat_for, ForK_at, ev_lcK, LcK_t, LcK_l, LcK_lo, LcK_et, LcK_el, LcK_elo, RetK_at, NonK_at, evS.eq_1, evS.eq_2, evS.eq_3, evS.eq_4, evS.eq_5, evS.eq_6, evS.eq_7, evS.eq_8, evS.eq_9, evS.eq_10, evS.eq_11, evS.eq_12, evS.eq_15, evS.eq_16, evS.eq_17, evS.eq_18, evS.eq_19, evE.eq_1, evE.eq_2, evE.eq_3, evE.eq_4, evE.eq_5, evE.eq_6, evE.eq_7, evE.eq_8, evE.eq_9, evE.eq_10, evE.eq_11, evE.eq_12, evE.eq_13, evE.eq_14, evE.eq_15, evE.eq_16, evE.eq_17, evE.eq_18, evE.eq_19, evE.eq_21, evE.eq_22, evE.eq_23, evO, evL, evI, evC, opds, Opd.get, pq_add, pq_sub, pq_mul, pq_fdiv, pq_mod, pq_pow, pq_neg, pq_idx, pq_len, pq_tuple, pq_list, pq_rg1, pq_rg2, pq_sorted, pq_abs, pq_int1, pq_max2, pq_min2, pq_all, pq_sum1, pq_lindex, pq_repr, pq_cmp, pq_isT, isData, isTy, of_some, Option.map_some, bd_ok, fl_ok, asBool_bl, cmpT, ltT, argsOut, pNeg, callO, lend, giveBack, T.pure, T.fz, T.fzs, fzs_ils, eqT_int, eqT_bl, eqT_tp, eqT_lst, pLen_tp, pLen_lst, bT_name, bT_tup, bT_lst, bTs_nil, bTs_cons, Option.bind_some, setAll, wipeE, unwipe, len_ils, isLst, line, Int.natCast_inj, isKey, any_ils, inT_ils, eqT_nil, eqT_nn, ils_app, pure_ils, items, d27, b27, e0, e1, q', pInt, pAbs, pMax, pSub, pMod, pMul, pAdd, pw15, pw60, mo4, mo5, mo6, mo9]
    refine hQ' _ _ _ (Int.emod_nonneg _ (by decide)) ?_ (by decide)
    split <;> omega
  · have q' : ¬ (s : Int) < (ns.length : Int) := by omega
    simp [-List.filterMap_map, -List.map_map, -List.map_set, -List.map_append, -List.any_map, -List.any_append, -List.all_map, -List.all_append, -List.map_take, -List.map_drop, -List.map_tail, -List.map_reverse, -List.map_dropLast, sat_nx, sat_rt, sat_bk, sat_ct, sat_if, osat_ok, Kn_at, sat_nil, sat_cons, sat_for, ForK_at, ev_lcK, LcK_t, LcK_l, LcK_lo, LcK_et, LcK_el, LcK_elo, RetK_at, NonK_at, evS.eq_1, evS.eq_2, evS.eq_3, evS.eq_4, evS.eq_5, evS.eq_6, evS.eq_7, evS.eq_8, evS.eq_9, evS.eq_10, evS.eq_11, evS.eq_12, evS.eq_15, evS.eq_16, evS.eq_17, evS.eq_18, evS.eq_19, evE.eq_1, evE.eq_2, evE.eq_3, evE.eq_4, evE.eq_5, evE.eq_6, evE.eq_7, evE.eq_8, evE.eq_9, evE.eq_10, evE.eq_11, evE.eq_12, evE.eq_13, evE.eq_14, evE.eq_15, evE.eq_16, evE.eq_17, evE.eq_18, evE.eq_19, evE.eq_21, evE.eq_22, evE.eq_23, evO, evL, evI, evC, opds, Opd.get, pq_add, pq_sub, pq_mul, pq_fdiv, pq_mod, pq_pow, pq_neg, pq_idx, pq_len, pq_tuple, pq_list, pq_rg1, pq_rg2, pq_sorted, pq_abs, pq_int1, pq_max2, pq_min2, pq_all, pq_sum1, pq_lindex, pq_repr, pq_cmp, pq_isT, isData, isTy, of_some, Option.map_some, bd_ok, fl_ok, asBool_bl, cmpT, ltT, argsOut, pNeg, callO, lend, giveBack, T.pure, T.fz, T.fzs, fzs_ils, eqT_int, eqT_bl, eqT_tp, eqT_lst, pLen_tp, pLen_lst, bT_name, bT_tup, bT_lst, bTs_nil, bTs_cons, Option.bind_some, setAll, wipeE, unwipe, len_ils, isLst, line, Int.natCast_inj, isKey, any_ils, inT_ils, eqT_nil, eqT_nn, ils_app, pure_ils, items, d27, b27, e0, q', pInt, pAbs, pMax, pSub, pMod, pMul, pAdd, pw15, pw60, mo4, mo5, mo6, mo7, mo9]
    refine hQ' _ _ _ (Int.emod_nonneg _ (by decide)) ?_ (by decide)
    split <;> omega
theorem q29 (h : 2 ≤ k) {D I : T} (hD : Dice D) {n : Nat} (h0 : 0 < n) (hn : n ≤ 1000000) (hI : pLen I = some (.int n)) (hp : I.pure = true ∨ ∃ ts, I = .lst true ts) {Good : T → Prop} (hG : ∀ i, i < n → ∃ t, pIdx I (.int (i : Nat)) = some t ∧ Good t) : ∃ t as, callK P w k 29 [D, I] = .ok t as ∧ ∃ D', as = [D', I] ∧ Dice D' ∧ Good t := by
  refine callK_by (d := d29) _ rfl (by omega) rfl fun Q hQ => ?_
  obtain ⟨t, as, s1, r, D', rfl, rfl, hr, hD'⟩ := q28 (w := w) (k := k - 1) (by omega) hD h0 hn
  obtain ⟨t, e1, ht⟩ := hG r hr
  have hq := hQ t [D', I] ⟨D', rfl, hD', ht⟩
  obtain ⟨l, m, c, rfl, _⟩ := hD
  simp [-List.filterMap_map, -List.map_map, -List.map_set, -List.map_append, -List.any_map, -List.any_append, -List.all_map, -List.all_append, -List.map_take, -List.map_drop, -List.map_tail, -List.map_reverse, -List.map_dropLast, sat_nx, sat_rt, sat_bk, sat_ct, sat_if, osat_ok, Kn_at, sat_nil, sat_cons, sat_for, ForK_at, ev_lcK, LcK_t, LcK_l, LcK_lo, LcK_et, LcK_el, LcK_elo, RetK_at, NonK_at, evS.eq_1, evS.eq_2, evS.eq_3, evS.eq_4, evS.eq_5, evS.eq_6, evS.eq_7, evS.eq_8, evS.eq_9, evS.eq_10, evS.eq_11, evS.eq_12, evS.eq_15, evS.eq_16, evS.eq_17, evS.eq_18, evS.eq_19, evE.eq_1, evE.eq_2, evE.eq_3, evE.eq_4, evE.eq_5, evE.eq_6, evE.eq_7, evE.eq_8, evE.eq_9, evE.eq_10, evE.eq_11, evE.eq_12, evE.eq_13, evE.eq_14, evE.eq_15, evE.eq_16, evE.eq_17, evE.eq_18, evE.eq_19, evE.eq_21, evE.eq_22, evE.eq_23, evO, evL, evI, evC, opds, Opd.get, pq_add, pq_sub, pq_mul, pq_fdiv, pq_mod, pq_pow, pq_neg, pq_idx, pq_len, pq_tuple, pq_list, pq_rg1, pq_rg2, pq_sorted, pq_abs, pq_int1, pq_max2, pq_min2, pq_all, pq_sum1, pq_lindex, pq_repr, pq_cmp, pq_isT, isData, isTy, of_some, Option.map_some, bd_ok, fl_ok, asBool_bl, cmpT, ltT, argsOut, pNeg, callO, lend, giveBack, T.pure, T.fz, T.fzs, fzs_ils, eqT_int, eqT_bl, eqT_tp, eqT_lst, pLen_tp, pLen_lst, bT_name, bT_tup, bT_lst, bTs_nil, bTs_cons, Option.bind_some, setAll, wipeE, unwipe, len_ils, isLst, line, Int.natCast_inj, isKey, any_ils, inT_ils, eqT_nil, eqT_nn, ils_app, pure_ils, items, d29, b29, pk28, s1, e1, hI]
  exact hq
theorem erase_ils (L : List Nat) (r : Nat) : (ils L).eraseIdx r = ils (L.eraseIdx r) := by
  refine List.ext_getElem? fun i => ?_
  rw [List.getElem?_map, List.getElem?_eraseIdx, List.getElem?_eraseIdx]
  split
  · rw [List.getElem?_map]
  · rw [List.getElem?_map]
theorem erase_perm : ∀ (L : List Nat) (r : Nat) (h : r < L.length), (L[r] :: L.eraseIdx r).Perm L
  | x :: L, 0, _ => .refl _
  | x :: L, r + 1, h => by
    have h' : r < L.length := by simpa using h
    have ih := erase_perm L r h'
    show (L[r] :: x :: L.eraseIdx r).Perm _
    exact (List.Perm.swap x L[r] _).trans (ih.cons x)
theorem q30 (h : 2 ≤ k) {D I : T} (hD : Dice D) {p : List Nat} (hp : p.length ≤ 1000) (hI1 : pList I = some (.lst true (ils p))) (hI2 : pLen I = some (.int p.length)) : ∃ t as, callK P w k 30 [D, I] = .ok t as ∧ ∃ D' p', as = [D', I] ∧ Dice D' ∧ t = .lst true (ils p') ∧ p'.Perm p := by
  refine callK_by (d := d30) _ rfl (by omega) rfl fun Q hQ => ?_
  simp [-List.filterMap_map, -List.map_map, -List.map_set, -List.map_append, -List.any_map, -List.any_append, -List.all_map, -List.all_append, -List.map_take, -List.map_drop, -List.map_tail, -List.map_reverse, -List.map_dropLast, sat_nx, sat_rt, sat_bk, sat_ct, sat_if, osat_ok, Kn_at, sat_nil, sat_cons, sat_for, ForK_at, ev_lcK, LcK_t, LcK_l, LcK_lo, LcK_et, LcK_el, LcK_elo, RetK_at, NonK_at, evS.eq_1, evS.eq_2, evS.eq_3, evS.eq_4, evS.eq_5, evS.eq_6, evS.eq_7, evS.eq_8, evS.eq_9, evS.eq_10, evS.eq_11, evS.eq_12, evS.eq_15, evS.eq_16, evS.eq_17, evS.eq_18, evS.eq_19, evE.eq_1, evE.eq_2, evE.eq_3, evE.eq_4, evE.eq_5, evE.eq_6, evE.eq_7, evE.eq_8, evE.eq_9, evE.eq_10, evE.eq_11, evE.eq_12, evE.eq_13, evE.eq_14, evE.eq_15, evE.eq_16, evE.eq_17, evE.eq_18, evE.eq_19, evE.eq_21, evE.eq_22, evE.eq_23, evO, evL, evI, evC, opds, Opd.get, pq_add, pq_sub, pq_mul, pq_fdiv, pq_mod, pq_pow, pq_neg, pq_idx, pq_len, pq_tuple, pq_list, pq_rg1, pq_rg2, pq_sorted, pq_abs, pq_int1, pq_max2, pq_min2, pq_all, pq_sum1, pq_lindex, pq_repr, pq_cmp, pq_isT, isData, isTy, of_some, Option.map_some, bd_ok, fl_ok, asBool_bl, cmpT, ltT, argsOut, pNeg, callO, lend, giveBack, T.pure, T.fz, T.fzs, fzs_ils, eqT_int, eqT_bl, eqT_tp, eqT_lst, pLen_tp, pLen_lst, bT_name, bT_tup, bT_lst, bTs_nil, bTs_cons, Option.bind_some, setAll, wipeE, unwipe, len_ils, isLst, line, Int.natCast_inj, isKey, any_ils, inT_ils, eqT_nil, eqT_nn, ils_app, pure_ils, items, d30, b30, hI1, hI2, iter_rg1 (show p.length < 1000000 by omega)]
  refine forG_map (I := fun i env => ∃ D' L F a, env = [some D', some I, some (.lst true (ils L)), some (.lst true (ils F)), a] ∧ Dice D' ∧ (F ++ L).Perm p ∧ F.length = i) ⟨D, p, [], none, rfl, hD, .refl _, rfl⟩ ?_ ?_
  · rintro i hi e ⟨D1, L, F, a, rfl, hD1, hperm, hF⟩
    rw [List.length_range] at hi
    have hlen := hperm.length_eq
    rw [List.length_append] at hlen
    refine ⟨_, rfl, fun N hN => ?_⟩
    obtain ⟨t, as, s1, r, D2, rfl, rfl, hr, hD2⟩ := q28 (w := w) (k := k - 1) (by omega) hD1 (show 0 < L.length by omega) (by omega)
    have hN' := fun (e1 : (F ++ [L[r]] ++ L.eraseIdx r).Perm p) => hN [some D2, some I, some (.lst true (ils (L.eraseIdx r))), some (.lst true (ils (F ++ [L[r]]))), some (.int (i : Nat))] ⟨D2, L.eraseIdx r, F ++ [L[r]], _, rfl, hD2, e1, by rw [List.length_append, hF]; rfl⟩
    have e1 := small_nat (y := r) (by omega)
    have e2 := pIx_nat hr
    have e3 := at_ils hr
    have e4 : F.length < 16777216 := by omega
    obtain ⟨l, m, c, rfl, _⟩ := hD1
    simp [-List.filterMap_map, -List.map_map, -List.map_set, -List.map_append, -List.any_map, -List.any_append, -List.all_map, -List.all_append, -List.map_take, -List.map_drop, -List.map_tail, -List.map_reverse, -List.map_dropLast, sat_nx, sat_rt, sat_bk, sat_ct, sat_if, osat_ok, Kn_at, sat_nil, sat_cons, sat_for, ForK_at, ev_lcK, LcK_t, LcK_l, LcK_lo, LcK_et, LcK_el, LcK_elo, RetK_at, NonK_at, evS.eq_1, evS.eq_2, evS.eq_3, evS.eq_4, evS.eq_5, evS.eq_6, evS.eq_7, evS.eq_8, evS.eq_9, evS.eq_10, evS.eq_11, evS.eq_12, evS.eq_15, evS.eq_16, evS.eq_17, evS.eq_18, evS.eq_19, evE.eq_1, evE.eq_2, evE.eq_3, evE.eq_4, evE.eq_5, evE.eq_6, evE.eq_7, evE.eq_8, evE.eq_9, evE.eq_10, evE.eq_11, evE.eq_12, evE.eq_13, evE.eq_14, evE.eq_15, evE.eq_16, evE.eq_17, evE.eq_18, evE.eq_19, evE.eq_21, evE.eq_22, evE.eq_23, evO, evL, evI, evC, opds, Opd.get, pq_add, pq_sub, pq_mul, pq_fdiv, pq_mod, pq_pow, pq_neg, pq_idx, pq_len, pq_tuple, pq_list, pq_rg1, pq_rg2, pq_sorted, pq_abs, pq_int1, pq_max2, pq_min2, pq_all, pq_sum1, pq_lindex, pq_repr, pq_cmp, pq_isT, isData, isTy, of_some, Option.map_some, bd_ok, fl_ok, asBool_bl, cmpT, ltT, argsOut, pNeg, callO, lend, giveBack, T.pure, T.fz, T.fzs, fzs_ils, eqT_int, eqT_bl, eqT_tp, eqT_lst, pLen_tp, pLen_lst, bT_name, bT_tup, bT_lst, bTs_nil, bTs_cons, Option.bind_some, setAll, wipeE, unwipe, len_ils, isLst, line, Int.natCast_inj, isKey, any_ils, inT_ils, eqT_nil, eqT_nn, ils_app, pure_ils, items, pk28, s1, e1, e2, e3, e4, erase_ils, app_ils]
    refine hN' ?_
    rw [List.append_assoc]
    refine List.Perm.trans (List.Perm.append_left F ?_) hperm
    exact erase_perm L r hr
  · rintro e ⟨D1, L, F, a, rfl, hD1, hperm, hF⟩
    rw [List.length_range] at hF
    have hlen := hperm.length_eq
    rw [List.length_append] at hlen
    have : L = [] := List.eq_nil_of_length_eq_zero (by omega)
    subst this
    rw [List.append_nil] at hperm
    simp [-List.filterMap_map, -List.map_map, -List.map_set, -List.map_append, -List.any_map, -List.any_append, -List.all_map, -List.all_append, -List.map_take, -List.map_drop, -List.map_tail, -List.map_reverse, -List.map_dropLast, sat_nx, sat_rt, sat_bk, sat_ct, sat_if, osat_ok, Kn_at, sat_nil, sat_cons, sat_for, ForK_at, ev_lcK, LcK_t, LcK_l, LcK_lo, LcK_et, LcK_el, LcK_elo, RetK_at, NonK_at, evS.eq_1, evS.eq_2, evS.eq_3, evS.eq_4, evS.eq_5, evS.eq_6, evS.eq_7, evS.eq_8, evS.eq_9, evS.eq_10, evS.eq_11, evS.eq_12, evS.eq_15, evS.eq_16, evS.eq_17, evS.eq_18, evS.eq_19, evE.eq_1, evE.eq_2, evE.eq_3, evE.eq_4, evE.eq_5, evE.eq_6, evE.eq_7, evE.eq_8, evE.eq_9, evE.eq_10, evE.eq_11, evE.eq_12, evE.eq_13, evE.eq_14, evE.eq_15, evE.eq_16, evE.eq_17, evE.eq_18, evE.eq_19, evE.eq_21, evE.eq_22, evE.eq_23, evO, evL, evI, evC, opds, Opd.get, pq_add, pq_sub, pq_mul, pq_fdiv, pq_mod, pq_pow, pq_neg, pq_idx, pq_len, pq_tuple, pq_list, pq_rg1, pq_rg2, pq_sorted, pq_abs, pq_int1, pq_max2, pq_min2, pq_all, pq_sum1, pq_lindex, pq_repr, pq_cmp, pq_isT, isData, isTy, of_some, Option.map_some, bd_ok, fl_ok, asBool_bl, cmpT, ltT, argsOut, pNeg, callO, lend, giveBack, T.pure, T.fz, T.fzs, fzs_ils, eqT_int, eqT_bl, eqT_tp, eqT_lst, pLen_tp, pLen_lst, bT_name, bT_tup, bT_lst, bTs_nil, bTs_cons, Option.bind_some, setAll, wipeE, unwipe, len_ils, isLst, line, Int.natCast_inj, isKey, any_ils, inT_ils, eqT_nil, eqT_nn, ils_app, pure_ils, items]
    exact hQ _ _ ⟨D1, F, rfl, hD1, rfl, hperm⟩
end
end K91
end
section
set_option Elab.async false
set_option maxRecDepth 100000
set_option linter.all false
/-! W91j: walks: the law's deeds and rings. -/
open Ev
namespace K91
section
variable {w k n : Nat}
theorem ring_eq {a : Pm.Pm n} {i : Nat} (hi : i < n) (hw : 20 ≤ w) : True := trivial
theorem q38 (h : 1 ≤ k) (a : Pm.Pm n) (hn : n ≤ 12) {x : Nat} (hx : x < n) : callK P w k 38 [tq a, .int x] = .ok (.lst true (ils (a.ring x))) [tq a, .int x] := by
  refine callK_is (d := d38) rfl (by omega) rfl ?_
  have hp := a.per_pos hx
  have hl := a.per_le hx
  simp [-List.filterMap_map, -List.map_map, -List.map_set, -List.map_append, -List.any_map, -List.any_append, -List.all_map, -List.all_append, -List.map_take, -List.map_drop, -List.map_tail, -List.map_reverse, -List.map_dropLast, sat_nx, sat_rt, sat_bk, sat_ct, sat_if, osat_ok, Kn_at, sat_nil, sat_cons, sat_for, ForK_at, ev_lcK, LcK_t, LcK_l, LcK_lo, LcK_et, LcK_el, LcK_elo, RetK_at, NonK_at, evS.eq_1, evS.eq_2, evS.eq_3, evS.eq_4, evS.eq_5, evS.eq_6, evS.eq_7, evS.eq_8, evS.eq_9, evS.eq_10, evS.eq_11, evS.eq_12, evS.eq_15, evS.eq_16, evS.eq_17, evS.eq_18, evS.eq_19, evE.eq_1, evE.eq_2, evE.eq_3, evE.eq_4, evE.eq_5, evE.eq_6, evE.eq_7, evE.eq_8, evE.eq_9, evE.eq_10, evE.eq_11, evE.eq_12, evE.eq_13, evE.eq_14, evE.eq_15, evE.eq_16, evE.eq_17, evE.eq_18, evE.eq_19, evE.eq_21, evE.eq_22, evE.eq_23, evO, evL, evI, evC, opds, Opd.get, pq_add, pq_sub, pq_mul, pq_fdiv, pq_mod, pq_pow, pq_neg, pq_idx, pq_len, pq_tuple, pq_list, pq_rg1, pq_rg2, pq_sorted, pq_abs, pq_int1, pq_max2, pq_min2, pq_all, pq_sum1, pq_lindex, pq_repr, pq_cmp, pq_isT, isData, isTy, of_some, Option.map_some, bd_ok, fl_ok, asBool_bl, cmpT, ltT, argsOut, pNeg, callO, lend, giveBack, T.pure, T.fz, T.fzs, fzs_ils, eqT_int, eqT_bl, eqT_tp, eqT_lst, pLen_tp, pLen_lst, bT_name, bT_tup, bT_lst, bTs_nil, bTs_cons, Option.bind_some, setAll, wipeE, unwipe, len_ils, isLst, line, Int.natCast_inj, isKey, any_ils, inT_ils, eqT_nil, eqT_nn, ils_app, pure_ils, items, d38, b38, lsOf_len, iter_rg1 (show n < 1000000 by omega)]
  refine forG_brk (I := fun j env => ∃ b, env = [some (tq a), some (.int x), some (.lst true (ils (rt a x (j + 1)))), b] ∧ j + 1 ≤ a.per x) (J := fun env => ∃ b, env = [some (tq a), some (.int x), some (.lst true (ils (a.ring x))), b]) ⟨none, by simp [rt, Pm.it], hp⟩ ?_ ?_ ?_
  · rintro j hj0 e ⟨b, rfl, hj⟩
    refine ⟨_, rfl, fun N J hN hJ => ?_⟩
    have hlen : (rt a x (j + 1)).length = j + 1 := rt_len
    have e1 : pIdx (.lst true (ils (rt a x (j + 1)))) (.int (-1)) = some (.int (Pm.it a.f j x : Nat)) := by
      rw [pIdx_last (by omega)]
      simp [rt, rt_len]
    have e2 := pIdx_tq a (a.it_lt hx j)
    have e3 : a.f (Pm.it a.f j x) = Pm.it a.f (j + 1) x := rfl
    rw [e3] at e2
    have hlin : (rt a x (j + 1)).length < line := by rw [hlen]; show _ < 16777216; omega
    by_cases q : j + 1 = a.per x
    · have e4 : Pm.it a.f (j + 1) x = x := by rw [q, a.per_back hx]
      simp [-List.filterMap_map, -List.map_map, -List.map_set, -List.map_append, -List.any_map, -List.any_append, -List.all_map, -List.all_append, -List.map_take, -List.map_drop, -List.map_tail, -List.map_reverse, -List.map_dropLast, sat_nx, sat_rt, sat_bk, sat_ct, sat_if, osat_ok, Kn_at, sat_nil, sat_cons, sat_for, ForK_at, ev_lcK, LcK_t, LcK_l, LcK_lo, LcK_et, LcK_el, LcK_elo, RetK_at, NonK_at, evS.eq_1, evS.eq_2, evS.eq_3, evS.eq_4, evS.eq_5, evS.eq_6, evS.eq_7, evS.eq_8, evS.eq_9, evS.eq_10, evS.eq_11, evS.eq_12, evS.eq_15, evS.eq_16, evS.eq_17, evS.eq_18, evS.eq_19, evE.eq_1, evE.eq_2, evE.eq_3, evE.eq_4, evE.eq_5, evE.eq_6, evE.eq_7, evE.eq_8, evE.eq_9, evE.eq_10, evE.eq_11, evE.eq_12, evE.eq_13, evE.eq_14, evE.eq_15, evE.eq_16, evE.eq_17, evE.eq_18, evE.eq_19, evE.eq_21, evE.eq_22, evE.eq_23, evO, evL, evI, evC, opds, Opd.get, pq_add, pq_sub, pq_mul, pq_fdiv, pq_mod, pq_pow, pq_neg, pq_idx, pq_len, pq_tuple, pq_list, pq_rg1, pq_rg2, pq_sorted, pq_abs, pq_int1, pq_max2, pq_min2, pq_all, pq_sum1, pq_lindex, pq_repr, pq_cmp, pq_isT, isData, isTy, of_some, Option.map_some, bd_ok, fl_ok, asBool_bl, cmpT, ltT, argsOut, pNeg, callO, lend, giveBack, T.pure, T.fz, T.fzs, fzs_ils, eqT_int, eqT_bl, eqT_tp, eqT_lst, pLen_tp, pLen_lst, bT_name, bT_tup, bT_lst, bTs_nil, bTs_cons, Option.bind_some, setAll, wipeE, unwipe, len_ils, isLst, line, Int.natCast_inj, isKey, any_ils, inT_ils, eqT_nil, eqT_nn, ils_app, pure_ils, items, e1, e2, e4]
      exact hJ _ ⟨_, by rw [q, rt_ring]⟩
    · have e4 : ¬ Pm.it a.f (j + 1) x = x := (a.per_spec hx).2.2.2 (j + 1) (by omega) (by omega)
      simp [-List.filterMap_map, -List.map_map, -List.map_set, -List.map_append, -List.any_map, -List.any_append, -List.all_map, -List.all_append, -List.map_take, -List.map_drop, -List.map_tail, -List.map_reverse, -List.map_dropLast, sat_nx, sat_rt, sat_bk, sat_ct, sat_if, osat_ok, Kn_at, sat_nil, sat_cons, sat_for, ForK_at, ev_lcK, LcK_t, LcK_l, LcK_lo, LcK_et, LcK_el, LcK_elo, RetK_at, NonK_at, evS.eq_1, evS.eq_2, evS.eq_3, evS.eq_4, evS.eq_5, evS.eq_6, evS.eq_7, evS.eq_8, evS.eq_9, evS.eq_10, evS.eq_11, evS.eq_12, evS.eq_15, evS.eq_16, evS.eq_17, evS.eq_18, evS.eq_19, evE.eq_1, evE.eq_2, evE.eq_3, evE.eq_4, evE.eq_5, evE.eq_6, evE.eq_7, evE.eq_8, evE.eq_9, evE.eq_10, evE.eq_11, evE.eq_12, evE.eq_13, evE.eq_14, evE.eq_15, evE.eq_16, evE.eq_17, evE.eq_18, evE.eq_19, evE.eq_21, evE.eq_22, evE.eq_23, evO, evL, evI, evC, opds, Opd.get, pq_add, pq_sub, pq_mul, pq_fdiv, pq_mod, pq_pow, pq_neg, pq_idx, pq_len, pq_tuple, pq_list, pq_rg1, pq_rg2, pq_sorted, pq_abs, pq_int1, pq_max2, pq_min2, pq_all, pq_sum1, pq_lindex, pq_repr, pq_cmp, pq_isT, isData, isTy, of_some, Option.map_some, bd_ok, fl_ok, asBool_bl, cmpT, ltT, argsOut, pNeg, callO, lend, giveBack, T.pure, T.fz, T.fzs, fzs_ils, eqT_int, eqT_bl, eqT_tp, eqT_lst, pLen_tp, pLen_lst, bT_name, bT_tup, bT_lst, bTs_nil, bTs_cons, Option.bind_some, setAll, wipeE, unwipe, len_ils, isLst, line, Int.natCast_inj, isKey, any_ils, inT_ils, eqT_nil, eqT_nn, ils_app, pure_ils, items, e1, e2, e4, hlin, app_ils]
      exact hN _ ⟨_, by rw [← rt_succ], by omega⟩
  · rintro e ⟨b, rfl, hj⟩
    rw [List.length_range] at hj
    omega
  · rintro e ⟨b, rfl⟩
    simp [-List.filterMap_map, -List.map_map, -List.map_set, -List.map_append, -List.any_map, -List.any_append, -List.all_map, -List.all_append, -List.map_take, -List.map_drop, -List.map_tail, -List.map_reverse, -List.map_dropLast, sat_nx, sat_rt, sat_bk, sat_ct, sat_if, osat_ok, Kn_at, sat_nil, sat_cons, sat_for, ForK_at, ev_lcK, LcK_t, LcK_l, LcK_lo, LcK_et, LcK_el, LcK_elo, RetK_at, NonK_at, evS.eq_1, evS.eq_2, evS.eq_3, evS.eq_4, evS.eq_5, evS.eq_6, evS.eq_7, evS.eq_8, evS.eq_9, evS.eq_10, evS.eq_11, evS.eq_12, evS.eq_15, evS.eq_16, evS.eq_17, evS.eq_18, evS.eq_19, evE.eq_1, evE.eq_2, evE.eq_3, evE.eq_4, evE.eq_5, evE.eq_6, evE.eq_7, evE.eq_8, evE.eq_9, evE.eq_10, evE.eq_11, evE.eq_12, evE.eq_13, evE.eq_14, evE.eq_15, evE.eq_16, evE.eq_17, evE.eq_18, evE.eq_19, evE.eq_21, evE.eq_22, evE.eq_23, evO, evL, evI, evC, opds, Opd.get, pq_add, pq_sub, pq_mul, pq_fdiv, pq_mod, pq_pow, pq_neg, pq_idx, pq_len, pq_tuple, pq_list, pq_rg1, pq_rg2, pq_sorted, pq_abs, pq_int1, pq_max2, pq_min2, pq_all, pq_sum1, pq_lindex, pq_repr, pq_cmp, pq_isT, isData, isTy, of_some, Option.map_some, bd_ok, fl_ok, asBool_bl, cmpT, ltT, argsOut, pNeg, callO, lend, giveBack, T.pure, T.fz, T.fzs, fzs_ils, eqT_int, eqT_bl, eqT_tp, eqT_lst, pLen_tp, pLen_lst, bT_name, bT_tup, bT_lst, bTs_nil, bTs_cons, Option.bind_some, setAll, wipeE, unwipe, len_ils, isLst, line, Int.natCast_inj, isKey, any_ils, inT_ils, eqT_nil, eqT_nn, ils_app, pure_ils, items]
theorem q32 (h : 1 ≤ k) (a : Pm.Pm n) (hn : n ≤ 12) : callK P w k 32 [tq a] = .ok (.lst true (tps a.rings)) [tq a] := by
  refine callK_is (d := d32) rfl (by omega) rfl ?_
  simp [-List.filterMap_map, -List.map_map, -List.map_set, -List.map_append, -List.any_map, -List.any_append, -List.all_map, -List.all_append, -List.map_take, -List.map_drop, -List.map_tail, -List.map_reverse, -List.map_dropLast, sat_nx, sat_rt, sat_bk, sat_ct, sat_if, osat_ok, Kn_at, sat_nil, sat_cons, sat_for, ForK_at, ev_lcK, LcK_t, LcK_l, LcK_lo, LcK_et, LcK_el, LcK_elo, RetK_at, NonK_at, evS.eq_1, evS.eq_2, evS.eq_3, evS.eq_4, evS.eq_5, evS.eq_6, evS.eq_7, evS.eq_8, evS.eq_9, evS.eq_10, evS.eq_11, evS.eq_12, evS.eq_15, evS.eq_16, evS.eq_17, evS.eq_18, evS.eq_19, evE.eq_1, evE.eq_2, evE.eq_3, evE.eq_4, evE.eq_5, evE.eq_6, evE.eq_7, evE.eq_8, evE.eq_9, evE.eq_10, evE.eq_11, evE.eq_12, evE.eq_13, evE.eq_14, evE.eq_15, evE.eq_16, evE.eq_17, evE.eq_18, evE.eq_19, evE.eq_21, evE.eq_22, evE.eq_23, evO, evL, evI, evC, opds, Opd.get, pq_add, pq_sub, pq_mul, pq_fdiv, pq_mod, pq_pow, pq_neg, pq_idx, pq_len, pq_tuple, pq_list, pq_rg1, pq_rg2, pq_sorted, pq_abs, pq_int1, pq_max2, pq_min2, pq_all, pq_sum1, pq_lindex, pq_repr, pq_cmp, pq_isT, isData, isTy, of_some, Option.map_some, bd_ok, fl_ok, asBool_bl, cmpT, ltT, argsOut, pNeg, callO, lend, giveBack, T.pure, T.fz, T.fzs, fzs_ils, eqT_int, eqT_bl, eqT_tp, eqT_lst, pLen_tp, pLen_lst, bT_name, bT_tup, bT_lst, bTs_nil, bTs_cons, Option.bind_some, setAll, wipeE, unwipe, len_ils, isLst, line, Int.natCast_inj, isKey, any_ils, inT_ils, eqT_nil, eqT_nn, ils_app, pure_ils, items, d32, b32, lsOf_len, iter_rg1 (show n < 1000000 by omega)]
  refine forG_map (I := fun i env => ∃ (L : List Nat) (b c1 d : Option T), env = [some (tq a), some (.lst true (tps (ru a i))), some (.lst true (ils L)), b, c1, d] ∧ L.Nodup ∧ (∀ y, y ∈ L ↔ ∃ j, j < i ∧ Pm.Pm.O a j y)) ⟨[], none, none, none, rfl, List.nodup_nil, fun y => by simp⟩ ?_ ?_
  · rintro i hi e ⟨L, b, c1, d, rfl, hnd, hL⟩
    rw [List.length_range] at hi
    rw [List.getElem_range]
    refine ⟨_, rfl, fun N hN => ?_⟩
    have hLn : ∀ y ∈ L, y < n := fun y hy => by
      obtain ⟨j, hj, o⟩ := (hL y).mp hy
      exact o.lt (by omega)
    have hiL : Pm.Pm.Mn a i ↔ i ∉ L := by rw [mn_iff_seen hi, hL]
    simp [-List.filterMap_map, -List.map_map, -List.map_set, -List.map_append, -List.any_map, -List.any_append, -List.all_map, -List.all_append, -List.map_take, -List.map_drop, -List.map_tail, -List.map_reverse, -List.map_dropLast, sat_nx, sat_rt, sat_bk, sat_ct, sat_if, osat_ok, Kn_at, sat_nil, sat_cons, sat_for, ForK_at, ev_lcK, LcK_t, LcK_l, LcK_lo, LcK_et, LcK_el, LcK_elo, RetK_at, NonK_at, evS.eq_1, evS.eq_2, evS.eq_3, evS.eq_4, evS.eq_5, evS.eq_6, evS.eq_7, evS.eq_8, evS.eq_9, evS.eq_10, evS.eq_11, evS.eq_12, evS.eq_15, evS.eq_16, evS.eq_17, evS.eq_18, evS.eq_19, evE.eq_1, evE.eq_2, evE.eq_3, evE.eq_4, evE.eq_5, evE.eq_6, evE.eq_7, evE.eq_8, evE.eq_9, evE.eq_10, evE.eq_11, evE.eq_12, evE.eq_13, evE.eq_14, evE.eq_15, evE.eq_16, evE.eq_17, evE.eq_18, evE.eq_19, evE.eq_21, evE.eq_22, evE.eq_23, evO, evL, evI, evC, opds, Opd.get, pq_add, pq_sub, pq_mul, pq_fdiv, pq_mod, pq_pow, pq_neg, pq_idx, pq_len, pq_tuple, pq_list, pq_rg1, pq_rg2, pq_sorted, pq_abs, pq_int1, pq_max2, pq_min2, pq_all, pq_sum1, pq_lindex, pq_repr, pq_cmp, pq_isT, isData, isTy, of_some, Option.map_some, bd_ok, fl_ok, asBool_bl, cmpT, ltT, argsOut, pNeg, callO, lend, giveBack, T.pure, T.fz, T.fzs, fzs_ils, eqT_int, eqT_bl, eqT_tp, eqT_lst, pLen_tp, pLen_lst, bT_name, bT_tup, bT_lst, bTs_nil, bTs_cons, Option.bind_some, setAll, wipeE, unwipe, len_ils, isLst, line, Int.natCast_inj, isKey, any_ils, inT_ils, eqT_nil, eqT_nn, ils_app, pure_ils, items, lsOf_len, iter_rg1 (show n < 1000000 by omega)]
    have hpp := a.per_pos hi
    have hpl := a.per_le hi
    refine forG_brk (I := fun j env => ∃ b, env = [some (tq a), some (.lst true (tps (ru a i))), some (.lst true (ils (L ++ rt a i j))), some (.int (Pm.it a.f j i : Nat)), some (.lst true (ils (rt a i j))), b] ∧ j ≤ a.per i ∧ (i ∈ L → j = 0) ∧ (L ++ rt a i j).Nodup)
      (J := fun env => ∃ X b c1, env = [some (tq a), some (.lst true (tps (ru a i))), some (.lst true (ils (L ++ X))), b, some (.lst true (ils X)), c1] ∧ ((i ∈ L ∧ X = []) ∨ (i ∉ L ∧ X = a.ring i ∧ (L ++ X).Nodup))) ⟨d, by simp [rt, Pm.it], Nat.zero_le _, fun _ => rfl, by simpa [rt] using hnd⟩ ?_ ?_ ?_
    · rintro j hjn e ⟨b, rfl, hj, hj0, hnd2⟩
      rw [List.length_range] at hjn
      refine ⟨_, rfl, fun N' J hN' hJ => ?_⟩
      have hx := a.it_lt hi j
      have hin : ∀ y ∈ L ++ rt a i j, y < n := fun y hy => by
        rcases List.mem_append.mp hy with hy | hy
        · exact hLn y hy
        · obtain ⟨l, _, rfl⟩ := mem_rt.mp hy
          exact a.it_lt hi l
      have hlen := Pm.pig n _ hin hnd2
      by_cases hseen : i ∈ L
      · have := hj0 hseen
        subst this
        have e1 : i ∈ L ++ rt a i 0 := List.mem_append_left _ hseen
        simp [-List.filterMap_map, -List.map_map, -List.map_set, -List.map_append, -List.any_map, -List.any_append, -List.all_map, -List.all_append, -List.map_take, -List.map_drop, -List.map_tail, -List.map_reverse, -List.map_dropLast, sat_nx, sat_rt, sat_bk, sat_ct, sat_if, osat_ok, Kn_at, sat_nil, sat_cons, sat_for, ForK_at, ev_lcK, LcK_t, LcK_l, LcK_lo, LcK_et, LcK_el, LcK_elo, RetK_at, NonK_at, evS.eq_1, evS.eq_2, evS.eq_3, evS.eq_4, evS.eq_5, evS.eq_6, evS.eq_7, evS.eq_8, evS.eq_9, evS.eq_10, evS.eq_11, evS.eq_12, evS.eq_15, evS.eq_16, evS.eq_17, evS.eq_18, evS.eq_19, evE.eq_1, evE.eq_2, evE.eq_3, evE.eq_4, evE.eq_5, evE.eq_6, evE.eq_7, evE.eq_8, evE.eq_9, evE.eq_10, evE.eq_11, evE.eq_12, evE.eq_13, evE.eq_14, evE.eq_15, evE.eq_16, evE.eq_17, evE.eq_18, evE.eq_19, evE.eq_21, evE.eq_22, evE.eq_23, evO, evL, evI, evC, opds, Opd.get, pq_add, pq_sub, pq_mul, pq_fdiv, pq_mod, pq_pow, pq_neg, pq_idx, pq_len, pq_tuple, pq_list, pq_rg1, pq_rg2, pq_sorted, pq_abs, pq_int1, pq_max2, pq_min2, pq_all, pq_sum1, pq_lindex, pq_repr, pq_cmp, pq_isT, isData, isTy, of_some, Option.map_some, bd_ok, fl_ok, asBool_bl, cmpT, ltT, argsOut, pNeg, callO, lend, giveBack, T.pure, T.fz, T.fzs, fzs_ils, eqT_int, eqT_bl, eqT_tp, eqT_lst, pLen_tp, pLen_lst, bT_name, bT_tup, bT_lst, bTs_nil, bTs_cons, Option.bind_some, setAll, wipeE, unwipe, len_ils, isLst, line, Int.natCast_inj, isKey, any_ils, inT_ils, eqT_nil, eqT_nn, ils_app, pure_ils, items, Pm.it, e1]
        exact hJ _ ⟨rt a i 0, _, _, rfl, .inl ⟨hseen, rfl⟩⟩
      · by_cases hper : j = a.per i
        · subst hper
          have e1 : Pm.it a.f (a.per i) i ∈ L ++ rt a i (a.per i) := by
            rw [a.per_back hi]
            exact List.mem_append_right _ (mem_rt.mpr ⟨0, hpp, rfl⟩)
          simp [-List.filterMap_map, -List.map_map, -List.map_set, -List.map_append, -List.any_map, -List.any_append, -List.all_map, -List.all_append, -List.map_take, -List.map_drop, -List.map_tail, -List.map_reverse, -List.map_dropLast, sat_nx, sat_rt, sat_bk, sat_ct, sat_if, osat_ok, Kn_at, sat_nil, sat_cons, sat_for, ForK_at, ev_lcK, LcK_t, LcK_l, LcK_lo, LcK_et, LcK_el, LcK_elo, RetK_at, NonK_at, evS.eq_1, evS.eq_2, evS.eq_3, evS.eq_4, evS.eq_5, evS.eq_6, evS.eq_7, evS.eq_8, evS.eq_9, evS.eq_10, evS.eq_11, evS.eq_12, evS.eq_15, evS.eq_16, evS.eq_17, evS.eq_18, evS.eq_19, evE.eq_1, evE.eq_2, evE.eq_3, evE.eq_4, evE.eq_5, evE.eq_6, evE.eq_7, evE.eq_8, evE.eq_9, evE.eq_10, evE.eq_11, evE.eq_12, evE.eq_13, evE.eq_14, evE.eq_15, evE.eq_16, evE.eq_17, evE.eq_18, evE.eq_19, evE.eq_21, evE.eq_22, evE.eq_23, evO, evL, evI, evC, opds, Opd.get, pq_add, pq_sub, pq_mul, pq_fdiv, pq_mod, pq_pow, pq_neg, pq_idx, pq_len, pq_tuple, pq_list, pq_rg1, pq_rg2, pq_sorted, pq_abs, pq_int1, pq_max2, pq_min2, pq_all, pq_sum1, pq_lindex, pq_repr, pq_cmp, pq_isT, isData, isTy, of_some, Option.map_some, bd_ok, fl_ok, asBool_bl, cmpT, ltT, argsOut, pNeg, callO, lend, giveBack, T.pure, T.fz, T.fzs, fzs_ils, eqT_int, eqT_bl, eqT_tp, eqT_lst, pLen_tp, pLen_lst, bT_name, bT_tup, bT_lst, bTs_nil, bTs_cons, Option.bind_some, setAll, wipeE, unwipe, len_ils, isLst, line, Int.natCast_inj, isKey, any_ils, inT_ils, eqT_nil, eqT_nn, ils_app, pure_ils, items, e1]
          exact hJ _ ⟨rt a i (a.per i), _, _, rfl, .inr ⟨hseen, rfl, hnd2⟩⟩
        · have hjp : j < a.per i := by omega
          have hno : Pm.it a.f j i ∉ L ++ rt a i j := by
            intro hm
            rcases List.mem_append.mp hm with hm | hm
            · obtain ⟨l, hl, o⟩ := (hL _).mp hm
              exact hseen ((hL i).mpr ⟨l, hl, o.trans (Pm.Pm.O.symm hi ⟨j, rfl⟩)⟩)
            · obtain ⟨l, hl, e⟩ := mem_rt.mp hm
              exact a.it_ne hi hl hjp e
          have e4 : L.length + (rt a i j).length < 16777216 := by rw [← List.length_append]; omega
          have e5 : (rt a i j).length < 16777216 := by omega
          have e6 := pIdx_tq a hx
          have e7 : a.f (Pm.it a.f j i) = Pm.it a.f (j + 1) i := rfl
          rw [e7] at e6
          simp [-List.filterMap_map, -List.map_map, -List.map_set, -List.map_append, -List.any_map, -List.any_append, -List.all_map, -List.all_append, -List.map_take, -List.map_drop, -List.map_tail, -List.map_reverse, -List.map_dropLast, sat_nx, sat_rt, sat_bk, sat_ct, sat_if, osat_ok, Kn_at, sat_nil, sat_cons, sat_for, ForK_at, ev_lcK, LcK_t, LcK_l, LcK_lo, LcK_et, LcK_el, LcK_elo, RetK_at, NonK_at, evS.eq_1, evS.eq_2, evS.eq_3, evS.eq_4, evS.eq_5, evS.eq_6, evS.eq_7, evS.eq_8, evS.eq_9, evS.eq_10, evS.eq_11, evS.eq_12, evS.eq_15, evS.eq_16, evS.eq_17, evS.eq_18, evS.eq_19, evE.eq_1, evE.eq_2, evE.eq_3, evE.eq_4, evE.eq_5, evE.eq_6, evE.eq_7, evE.eq_8, evE.eq_9, evE.eq_10, evE.eq_11, evE.eq_12, evE.eq_13, evE.eq_14, evE.eq_15, evE.eq_16, evE.eq_17, evE.eq_18, evE.eq_19, evE.eq_21, evE.eq_22, evE.eq_23, evO, evL, evI, evC, opds, Opd.get, pq_add, pq_sub, pq_mul, pq_fdiv, pq_mod, pq_pow, pq_neg, pq_idx, pq_len, pq_tuple, pq_list, pq_rg1, pq_rg2, pq_sorted, pq_abs, pq_int1, pq_max2, pq_min2, pq_all, pq_sum1, pq_lindex, pq_repr, pq_cmp, pq_isT, isData, isTy, of_some, Option.map_some, bd_ok, fl_ok, asBool_bl, cmpT, ltT, argsOut, pNeg, callO, lend, giveBack, T.pure, T.fz, T.fzs, fzs_ils, eqT_int, eqT_bl, eqT_tp, eqT_lst, pLen_tp, pLen_lst, bT_name, bT_tup, bT_lst, bTs_nil, bTs_cons, Option.bind_some, setAll, wipeE, unwipe, len_ils, isLst, line, Int.natCast_inj, isKey, any_ils, inT_ils, eqT_nil, eqT_nn, ils_app, pure_ils, items, hno, e4, e5, e6, app_ils]
          refine hN' _ ⟨_, by rw [rt_succ], by omega, fun q => absurd q hseen, ?_⟩
          rw [rt_succ, ← List.append_assoc]
          refine List.nodup_append.mpr ⟨hnd2, by simp, fun y hy z hz => ?_⟩
          rw [List.mem_singleton] at hz
          subst hz
          exact fun e => hno (e ▸ hy)
    · rintro e ⟨b, rfl, hj, hj0, hnd2⟩
      rw [List.length_range] at hj hj0 hnd2 ⊢
      have hseen : i ∉ L := fun q => by have := hj0 q; omega
      have e : a.per i = n := by omega
      exact ⟨rt a i n, _, _, rfl, .inr ⟨hseen, (congrArg (rt a i) e.symm).trans (rt_ring a i), hnd2⟩⟩
    · rintro e ⟨X, b, c1, rfl, ⟨hseen, rfl⟩ | ⟨hseen, rfl, hnd2⟩⟩
      · simp [-List.filterMap_map, -List.map_map, -List.map_set, -List.map_append, -List.any_map, -List.any_append, -List.all_map, -List.all_append, -List.map_take, -List.map_drop, -List.map_tail, -List.map_reverse, -List.map_dropLast, sat_nx, sat_rt, sat_bk, sat_ct, sat_if, osat_ok, Kn_at, sat_nil, sat_cons, sat_for, ForK_at, ev_lcK, LcK_t, LcK_l, LcK_lo, LcK_et, LcK_el, LcK_elo, RetK_at, NonK_at, evS.eq_1, evS.eq_2, evS.eq_3, evS.eq_4, evS.eq_5, evS.eq_6, evS.eq_7, evS.eq_8, evS.eq_9, evS.eq_10, evS.eq_11, evS.eq_12, evS.eq_15, evS.eq_16, evS.eq_17, evS.eq_18, evS.eq_19, evE.eq_1, evE.eq_2, evE.eq_3, evE.eq_4, evE.eq_5, evE.eq_6, evE.eq_7, evE.eq_8, evE.eq_9, evE.eq_10, evE.eq_11, evE.eq_12, evE.eq_13, evE.eq_14, evE.eq_15, evE.eq_16, evE.eq_17, evE.eq_18, evE.eq_19, evE.eq_21, evE.eq_22, evE.eq_23, evO, evL, evI, evC, opds, Opd.get, pq_add, pq_sub, pq_mul, pq_fdiv, pq_mod, pq_pow, pq_neg, pq_idx, pq_len, pq_tuple, pq_list, pq_rg1, pq_rg2, pq_sorted, pq_abs, pq_int1, pq_max2, pq_min2, pq_all, pq_sum1, pq_lindex, pq_repr, pq_cmp, pq_isT, isData, isTy, of_some, Option.map_some, bd_ok, fl_ok, asBool_bl, cmpT, ltT, argsOut, pNeg, callO, lend, giveBack, T.pure, T.fz, T.fzs, fzs_ils, eqT_int, eqT_bl, eqT_tp, eqT_lst, pLen_tp, pLen_lst, bT_name, bT_tup, bT_lst, bTs_nil, bTs_cons, Option.bind_some, setAll, wipeE, unwipe, len_ils, isLst, line, Int.natCast_inj, isKey, any_ils, inT_ils, eqT_nil, eqT_nn, ils_app, pure_ils, items]
        refine hN _ ⟨L, _, _, _, by rw [ru_no (fun q => hiL.mp q hseen)], hnd, fun y => ?_⟩
        rw [hL]
        constructor
        · rintro ⟨j, hj, o⟩; exact ⟨j, by omega, o⟩
        · rintro ⟨j, hj, o⟩
          by_cases q : j = i
          · subst q
            obtain ⟨l, hl, o2⟩ := (hL j).mp hseen
            exact ⟨l, hl, o2.trans o⟩
          · exact ⟨j, by omega, o⟩
      · have e2 : ¬ a.ring i = [] := fun e => by
          have := congrArg List.length e
          rw [Pm.Pm.ring_len] at this
          simp only [List.length_nil] at this
          omega
        have e3 := ru_len a i
        have e4 : (ru a i).length < 16777216 := by omega
        simp [-List.filterMap_map, -List.map_map, -List.map_set, -List.map_append, -List.any_map, -List.any_append, -List.all_map, -List.all_append, -List.map_take, -List.map_drop, -List.map_tail, -List.map_reverse, -List.map_dropLast, sat_nx, sat_rt, sat_bk, sat_ct, sat_if, osat_ok, Kn_at, sat_nil, sat_cons, sat_for, ForK_at, ev_lcK, LcK_t, LcK_l, LcK_lo, LcK_et, LcK_el, LcK_elo, RetK_at, NonK_at, evS.eq_1, evS.eq_2, evS.eq_3, evS.eq_4, evS.eq_5, evS.eq_6, evS.eq_7, evS.eq_8, evS.eq_9, evS.eq_10, evS.eq_11, evS.eq_12, evS.eq_15, evS.eq_16, evS.eq_17, evS.eq_18, evS.eq_19, evE.eq_1, evE.eq_2, evE.eq_3, evE.eq_4, evE.eq_5, evE.eq_6, evE.eq_7, evE.eq_8, evE.eq_9, evE.eq_10, evE.eq_11, evE.eq_12, evE.eq_13, evE.eq_14, evE.eq_15, evE.eq_16, evE.eq_17, evE.eq_18, evE.eq_19, evE.eq_21, evE.eq_22, evE.eq_23, evO, evL, evI, evC, opds, Opd.get, pq_add, pq_sub, pq_mul, pq_fdiv, pq_mod, pq_pow, pq_neg, pq_idx, pq_len, pq_tuple, pq_list, pq_rg1, pq_rg2, pq_sorted, pq_abs, pq_int1, pq_max2, pq_min2, pq_all, pq_sum1, pq_lindex, pq_repr, pq_cmp, pq_isT, isData, isTy, of_some, Option.map_some, bd_ok, fl_ok, asBool_bl, cmpT, ltT, argsOut, pNeg, callO, lend, giveBack, T.pure, T.fz, T.fzs, fzs_ils, eqT_int, eqT_bl, eqT_tp, eqT_lst, pLen_tp, pLen_lst, bT_name, bT_tup, bT_lst, bTs_nil, bTs_cons, Option.bind_some, setAll, wipeE, unwipe, len_ils, isLst, line, Int.natCast_inj, isKey, any_ils, inT_ils, eqT_nil, eqT_nn, ils_app, pure_ils, items, e2, pTuple_lst, e4, app_tps]
        refine hN _ ⟨_, _, _, _, by rw [ru_yes (hiL.mpr hseen)], hnd2, fun y => ?_⟩
        rw [List.mem_append, hL, Pm.Pm.mem_ring hi]
        constructor
        · rintro (⟨j, hj, o⟩ | o)
          · exact ⟨j, by omega, o⟩
          · exact ⟨i, by omega, o⟩
        · rintro ⟨j, hj, o⟩
          by_cases q : j = i
          · subst q; exact .inr o
          · exact .inl ⟨j, by omega, o⟩
  · rintro e ⟨L, b, c1, d, rfl, hnd, hL⟩
    simp [-List.filterMap_map, -List.map_map, -List.map_set, -List.map_append, -List.any_map, -List.any_append, -List.all_map, -List.all_append, -List.map_take, -List.map_drop, -List.map_tail, -List.map_reverse, -List.map_dropLast, sat_nx, sat_rt, sat_bk, sat_ct, sat_if, osat_ok, Kn_at, sat_nil, sat_cons, sat_for, ForK_at, ev_lcK, LcK_t, LcK_l, LcK_lo, LcK_et, LcK_el, LcK_elo, RetK_at, NonK_at, evS.eq_1, evS.eq_2, evS.eq_3, evS.eq_4, evS.eq_5, evS.eq_6, evS.eq_7, evS.eq_8, evS.eq_9, evS.eq_10, evS.eq_11, evS.eq_12, evS.eq_15, evS.eq_16, evS.eq_17, evS.eq_18, evS.eq_19, evE.eq_1, evE.eq_2, evE.eq_3, evE.eq_4, evE.eq_5, evE.eq_6, evE.eq_7, evE.eq_8, evE.eq_9, evE.eq_10, evE.eq_11, evE.eq_12, evE.eq_13, evE.eq_14, evE.eq_15, evE.eq_16, evE.eq_17, evE.eq_18, evE.eq_19, evE.eq_21, evE.eq_22, evE.eq_23, evO, evL, evI, evC, opds, Opd.get, pq_add, pq_sub, pq_mul, pq_fdiv, pq_mod, pq_pow, pq_neg, pq_idx, pq_len, pq_tuple, pq_list, pq_rg1, pq_rg2, pq_sorted, pq_abs, pq_int1, pq_max2, pq_min2, pq_all, pq_sum1, pq_lindex, pq_repr, pq_cmp, pq_isT, isData, isTy, of_some, Option.map_some, bd_ok, fl_ok, asBool_bl, cmpT, ltT, argsOut, pNeg, callO, lend, giveBack, T.pure, T.fz, T.fzs, fzs_ils, eqT_int, eqT_bl, eqT_tp, eqT_lst, pLen_tp, pLen_lst, bT_name, bT_tup, bT_lst, bTs_nil, bTs_cons, Option.bind_some, setAll, wipeE, unwipe, len_ils, isLst, line, Int.natCast_inj, isKey, any_ils, inT_ils, eqT_nil, eqT_nn, ils_app, pure_ils, items, ru_all]
theorem q37 (h : 2 ≤ k) (a : Pm.Pm n) (hn : n ≤ 12) : callK P w k 37 [tq a] = .ok (.int (Pm.Pm.len a : Nat)) [tq a] := by
  refine callK_is (d := d37) rfl (by omega) rfl ?_
  have s2 := q32 (w := w) (k := k - 1) (by omega) a hn
  simp [-List.filterMap_map, -List.map_map, -List.map_set, -List.map_append, -List.any_map, -List.any_append, -List.all_map, -List.all_append, -List.map_take, -List.map_drop, -List.map_tail, -List.map_reverse, -List.map_dropLast, sat_nx, sat_rt, sat_bk, sat_ct, sat_if, osat_ok, Kn_at, sat_nil, sat_cons, sat_for, ForK_at, ev_lcK, LcK_t, LcK_l, LcK_lo, LcK_et, LcK_el, LcK_elo, RetK_at, NonK_at, evS.eq_1, evS.eq_2, evS.eq_3, evS.eq_4, evS.eq_5, evS.eq_6, evS.eq_7, evS.eq_8, evS.eq_9, evS.eq_10, evS.eq_11, evS.eq_12, evS.eq_15, evS.eq_16, evS.eq_17, evS.eq_18, evS.eq_19, evE.eq_1, evE.eq_2, evE.eq_3, evE.eq_4, evE.eq_5, evE.eq_6, evE.eq_7, evE.eq_8, evE.eq_9, evE.eq_10, evE.eq_11, evE.eq_12, evE.eq_13, evE.eq_14, evE.eq_15, evE.eq_16, evE.eq_17, evE.eq_18, evE.eq_19, evE.eq_21, evE.eq_22, evE.eq_23, evO, evL, evI, evC, opds, Opd.get, pq_add, pq_sub, pq_mul, pq_fdiv, pq_mod, pq_pow, pq_neg, pq_idx, pq_len, pq_tuple, pq_list, pq_rg1, pq_rg2, pq_sorted, pq_abs, pq_int1, pq_max2, pq_min2, pq_all, pq_sum1, pq_lindex, pq_repr, pq_cmp, pq_isT, isData, isTy, of_some, Option.map_some, bd_ok, fl_ok, asBool_bl, cmpT, ltT, argsOut, pNeg, callO, lend, giveBack, T.pure, T.fz, T.fzs, fzs_ils, eqT_int, eqT_bl, eqT_tp, eqT_lst, pLen_tp, pLen_lst, bT_name, bT_tup, bT_lst, bTs_nil, bTs_cons, Option.bind_some, setAll, wipeE, unwipe, len_ils, isLst, line, Int.natCast_inj, isKey, any_ils, inT_ils, eqT_nil, eqT_nn, ils_app, pure_ils, items, d37, b37, pk32, s2, pLen_tps, pSub, pm_len, lsOf_len]
end
end K91
end
section
set_option Elab.async false
set_option maxRecDepth 100000
set_option linter.all false
/-! W91k: walks: the law's deeds of exchanges. -/
open Ev
namespace K91
section
variable {w k n : Nat}
def stp (e : Nat × Nat) : T := .tup [.int e.1, .int e.2, .str [97]]
def prt (e : Nat × Nat) : T := .tup [.int e.1, .int e.2]
theorem fzs_map {X : Type} (g : X → T) (hg : ∀ x, (g x).fz = g x) : ∀ l : List X, T.fzs (l.map g) = l.map g
  | [] => rfl
  | x :: l => by
    show (g x).fz :: T.fzs (l.map g) = _
    rw [hg, fzs_map g hg l]; rfl
theorem lsOf_one : lsOf (Pm.Pm.one n) = List.range n := by
  unfold lsOf
  exact List.map_id _
theorem lsOf_swap (p : Pm.Pm n) {x y : Nat} (hx : x < n) (hy : y < n) : ((lsOf p).set x (p.f y)).set y (p.f x) = lsOf (p.cutT (x, y)) := by
  unfold Pm.Pm.cutT
  rw [dif_pos ⟨hx, hy⟩]
  refine List.ext_getElem (by rw [List.length_set, List.length_set, lsOf_len, lsOf_len]) fun z h1 h2 => ?_
  rw [lsOf_at]
  rw [List.getElem_set, List.getElem_set]
  by_cases q1 : y = z
  · subst q1
    rw [if_pos rfl, Pm.Pm.cut_y]
  · rw [if_neg q1]
    by_cases q2 : x = z
    · subst q2
      rw [if_pos rfl, Pm.Pm.cut_x]
    · rw [if_neg q2, Pm.Pm.cut_ne (fun e => q2 e.symm) (fun e => q1 e.symm), lsOf_at]
theorem cuts_take {p : Pm.Pm n} {l : List (Nat × Nat)} {i : Nat} (h : i < l.length) : p.cuts (l.take (i + 1)) = (p.cuts (l.take i)).cutT l[i] := by
  rw [List.take_add_one, List.getElem?_eq_getElem h, Pm.Pm.cuts_app]
  rfl
theorem mul_zero_list (n : Nat) (h : n ≤ 1000) : pMul (.lst true [.int 0]) (.int n) = some (.lst true (ils (List.replicate n 0))) := by
  have h1 : decide (0 ≤ (n : Int)) = true := decide_eq_true (by omega)
  have h2 : decide ((n : Int) ≤ 1000) = true := decide_eq_true (by omega)
  have e : (List.replicate n [T.int 0]).flatten = ils (List.replicate n 0) := by
    clear h h1 h2
    induction n with
    | zero => rfl
    | succ n ih => rw [List.replicate_succ, List.replicate_succ, List.flatten_cons, ih]; rfl
  simp [pMul, h1, h2, T.pure, e, -List.flatten_replicate_singleton]
theorem q31 (h : 1 ≤ k) (hn : n ≤ 12) (l : List (Nat × Nat)) (hl : ∀ e ∈ l, e.1 < n ∧ e.2 < n) : callK P w k 31 [.int n, .lst true (l.map stp)] = .ok (tq ((Pm.Pm.one n).cuts l).inv) [.int n, .lst false (l.map stp)] := by
  refine callK_is (d := d31) rfl (by omega) rfl ?_
  have e0 : pRg1 (.int n) = some (.lst true (ils (lsOf (Pm.Pm.one n)))) := by rw [lsOf_one]; exact pRg1_nat (by omega)
  have e1 := fzs_map stp (fun _ => rfl) l
  simp [-List.filterMap_map, -List.map_map, -List.map_set, -List.map_append, -List.any_map, -List.any_append, -List.all_map, -List.all_append, -List.map_take, -List.map_drop, -List.map_tail, -List.map_reverse, -List.map_dropLast, sat_nx, sat_rt, sat_bk, sat_ct, sat_if, osat_ok, Kn_at, sat_nil, sat_cons, sat_for, ForK_at, ev_lcK, LcK_t, LcK_l, LcK_lo, LcK_et, LcK_el, LcK_elo, RetK_at, NonK_at, evS.eq_1, evS.eq_2, evS.eq_3, evS.eq_4, evS.eq_5, evS.eq_6, evS.eq_7, evS.eq_8, evS.eq_9, evS.eq_10, evS.eq_11, evS.eq_12, evS.eq_15, evS.eq_16, evS.eq_17, evS.eq_18, evS.eq_19, evE.eq_1, evE.eq_2, evE.eq_3, evE.eq_4, evE.eq_5, evE.eq_6, evE.eq_7, evE.eq_8, evE.eq_9, evE.eq_10, evE.eq_11, evE.eq_12, evE.eq_13, evE.eq_14, evE.eq_15, evE.eq_16, evE.eq_17, evE.eq_18, evE.eq_19, evE.eq_21, evE.eq_22, evE.eq_23, evO, evL, evI, evC, opds, Opd.get, pq_add, pq_sub, pq_mul, pq_fdiv, pq_mod, pq_pow, pq_neg, pq_idx, pq_len, pq_tuple, pq_list, pq_rg1, pq_rg2, pq_sorted, pq_abs, pq_int1, pq_max2, pq_min2, pq_all, pq_sum1, pq_lindex, pq_repr, pq_cmp, pq_isT, isData, isTy, of_some, Option.map_some, bd_ok, fl_ok, asBool_bl, cmpT, ltT, argsOut, pNeg, callO, lend, giveBack, T.pure, T.fz, T.fzs, fzs_ils, eqT_int, eqT_bl, eqT_tp, eqT_lst, pLen_tp, pLen_lst, bT_name, bT_tup, bT_lst, bTs_nil, bTs_cons, Option.bind_some, setAll, wipeE, unwipe, len_ils, isLst, line, Int.natCast_inj, isKey, any_ils, inT_ils, eqT_nil, eqT_nn, ils_app, pure_ils, items, d31, b31, e0, e1, iter_lst]
  refine forG_map (I := fun i env => ∃ a b c, env = [some (.int n), some (.lst false (l.map stp)), some (.lst true (ils (lsOf ((Pm.Pm.one n).cuts (l.take i))))), a, b, c, none, none]) ⟨none, none, none, rfl⟩ ?_ ?_
  · rintro i hi e ⟨a, b, c, rfl⟩
    obtain ⟨hx, hy⟩ := hl _ (List.getElem_mem hi)
    have hc := cuts_take (p := Pm.Pm.one n) hi
    generalize l[i] = e at hx hy hc
    obtain ⟨x, y⟩ := e
    refine ⟨_, rfl, fun N hN => ?_⟩
    generalize (Pm.Pm.one n).cuts (l.take i) = p at hc
    have hlp := lsOf_len p
    have s1 := pIdx_lst (o := true) (p := lsOf p) (i := x) (by omega)
    have s2 := pIdx_lst (o := true) (p := lsOf p) (i := y) (by omega)
    rw [lsOf_at] at s1 s2
    have s3 := small_nat (y := x) (by omega)
    have s4 := small_nat (y := y) (by omega)
    have s5 := pIx_nat (n := n) (i := x) hx
    have s6 := pIx_nat (n := n) (i := y) hy
    simp [-List.filterMap_map, -List.map_map, -List.map_set, -List.map_append, -List.any_map, -List.any_append, -List.all_map, -List.all_append, -List.map_take, -List.map_drop, -List.map_tail, -List.map_reverse, -List.map_dropLast, sat_nx, sat_rt, sat_bk, sat_ct, sat_if, osat_ok, Kn_at, sat_nil, sat_cons, sat_for, ForK_at, ev_lcK, LcK_t, LcK_l, LcK_lo, LcK_et, LcK_el, LcK_elo, RetK_at, NonK_at, evS.eq_1, evS.eq_2, evS.eq_3, evS.eq_4, evS.eq_5, evS.eq_6, evS.eq_7, evS.eq_8, evS.eq_9, evS.eq_10, evS.eq_11, evS.eq_12, evS.eq_15, evS.eq_16, evS.eq_17, evS.eq_18, evS.eq_19, evE.eq_1, evE.eq_2, evE.eq_3, evE.eq_4, evE.eq_5, evE.eq_6, evE.eq_7, evE.eq_8, evE.eq_9, evE.eq_10, evE.eq_11, evE.eq_12, evE.eq_13, evE.eq_14, evE.eq_15, evE.eq_16, evE.eq_17, evE.eq_18, evE.eq_19, evE.eq_21, evE.eq_22, evE.eq_23, evO, evL, evI, evC, opds, Opd.get, pq_add, pq_sub, pq_mul, pq_fdiv, pq_mod, pq_pow, pq_neg, pq_idx, pq_len, pq_tuple, pq_list, pq_rg1, pq_rg2, pq_sorted, pq_abs, pq_int1, pq_max2, pq_min2, pq_all, pq_sum1, pq_lindex, pq_repr, pq_cmp, pq_isT, isData, isTy, of_some, Option.map_some, bd_ok, fl_ok, asBool_bl, cmpT, ltT, argsOut, pNeg, callO, lend, giveBack, T.pure, T.fz, T.fzs, fzs_ils, eqT_int, eqT_bl, eqT_tp, eqT_lst, pLen_tp, pLen_lst, bT_name, bT_tup, bT_lst, bTs_nil, bTs_cons, Option.bind_some, setAll, wipeE, unwipe, len_ils, isLst, line, Int.natCast_inj, isKey, any_ils, inT_ils, eqT_nil, eqT_nn, ils_app, pure_ils, items, setIxS, setIxT, s1, s2, s3, s4, s5, s6, lsOf_len, set_ils, lsOf_swap p hx hy]
    exact hN _ ⟨_, _, _, by rw [hc]⟩
  · rintro e ⟨a, b, c, rfl⟩
    rw [List.take_length]
    generalize (Pm.Pm.one n).cuts l = p
    have e2 := mul_zero_list n (by omega)
    simp [-List.filterMap_map, -List.map_map, -List.map_set, -List.map_append, -List.any_map, -List.any_append, -List.all_map, -List.all_append, -List.map_take, -List.map_drop, -List.map_tail, -List.map_reverse, -List.map_dropLast, sat_nx, sat_rt, sat_bk, sat_ct, sat_if, osat_ok, Kn_at, sat_nil, sat_cons, sat_for, ForK_at, ev_lcK, LcK_t, LcK_l, LcK_lo, LcK_et, LcK_el, LcK_elo, RetK_at, NonK_at, evS.eq_1, evS.eq_2, evS.eq_3, evS.eq_4, evS.eq_5, evS.eq_6, evS.eq_7, evS.eq_8, evS.eq_9, evS.eq_10, evS.eq_11, evS.eq_12, evS.eq_15, evS.eq_16, evS.eq_17, evS.eq_18, evS.eq_19, evE.eq_1, evE.eq_2, evE.eq_3, evE.eq_4, evE.eq_5, evE.eq_6, evE.eq_7, evE.eq_8, evE.eq_9, evE.eq_10, evE.eq_11, evE.eq_12, evE.eq_13, evE.eq_14, evE.eq_15, evE.eq_16, evE.eq_17, evE.eq_18, evE.eq_19, evE.eq_21, evE.eq_22, evE.eq_23, evO, evL, evI, evC, opds, Opd.get, pq_add, pq_sub, pq_mul, pq_fdiv, pq_mod, pq_pow, pq_neg, pq_idx, pq_len, pq_tuple, pq_list, pq_rg1, pq_rg2, pq_sorted, pq_abs, pq_int1, pq_max2, pq_min2, pq_all, pq_sum1, pq_lindex, pq_repr, pq_cmp, pq_isT, isData, isTy, of_some, Option.map_some, bd_ok, fl_ok, asBool_bl, cmpT, ltT, argsOut, pNeg, callO, lend, giveBack, T.pure, T.fz, T.fzs, fzs_ils, eqT_int, eqT_bl, eqT_tp, eqT_lst, pLen_tp, pLen_lst, bT_name, bT_tup, bT_lst, bTs_nil, bTs_cons, Option.bind_some, setAll, wipeE, unwipe, len_ils, isLst, line, Int.natCast_inj, isKey, any_ils, inT_ils, eqT_nil, eqT_nn, ils_app, pure_ils, items, e2, iter_rg1 (show n < 1000000 by omega)]
    refine forG_map (I := fun i env => ∃ (F : List Nat) (d : Option T), env = [some (.int n), some (.lst false (l.map stp)), some (.lst true (ils (lsOf p))), a, b, c, some (.lst true (ils F)), d] ∧ F.length = n ∧ ∀ j, j < n → j < i → F[p.f j]? = some j) ⟨List.replicate n 0, none, by simp, List.length_replicate, fun j _ h => absurd h (Nat.not_lt_zero j)⟩ ?_ ?_
    · rintro i hi e ⟨F, d, rfl, hF, hj⟩
      rw [List.length_range] at hi
      rw [List.getElem_range]
      refine ⟨_, rfl, fun N hN => ?_⟩
      have hp := p.lt hi
      have s1 := pIdx_lst (o := true) (p := lsOf p) (i := i) (by rw [lsOf_len]; exact hi)
      rw [lsOf_at] at s1
      have s2 := small_nat (y := p.f i) (by omega)
      have s3 := pIx_nat (n := F.length) (i := p.f i) (by omega)
      simp [-List.filterMap_map, -List.map_map, -List.map_set, -List.map_append, -List.any_map, -List.any_append, -List.all_map, -List.all_append, -List.map_take, -List.map_drop, -List.map_tail, -List.map_reverse, -List.map_dropLast, sat_nx, sat_rt, sat_bk, sat_ct, sat_if, osat_ok, Kn_at, sat_nil, sat_cons, sat_for, ForK_at, ev_lcK, LcK_t, LcK_l, LcK_lo, LcK_et, LcK_el, LcK_elo, RetK_at, NonK_at, evS.eq_1, evS.eq_2, evS.eq_3, evS.eq_4, evS.eq_5, evS.eq_6, evS.eq_7, evS.eq_8, evS.eq_9, evS.eq_10, evS.eq_11, evS.eq_12, evS.eq_15, evS.eq_16, evS.eq_17, evS.eq_18, evS.eq_19, evE.eq_1, evE.eq_2, evE.eq_3, evE.eq_4, evE.eq_5, evE.eq_6, evE.eq_7, evE.eq_8, evE.eq_9, evE.eq_10, evE.eq_11, evE.eq_12, evE.eq_13, evE.eq_14, evE.eq_15, evE.eq_16, evE.eq_17, evE.eq_18, evE.eq_19, evE.eq_21, evE.eq_22, evE.eq_23, evO, evL, evI, evC, opds, Opd.get, pq_add, pq_sub, pq_mul, pq_fdiv, pq_mod, pq_pow, pq_neg, pq_idx, pq_len, pq_tuple, pq_list, pq_rg1, pq_rg2, pq_sorted, pq_abs, pq_int1, pq_max2, pq_min2, pq_all, pq_sum1, pq_lindex, pq_repr, pq_cmp, pq_isT, isData, isTy, of_some, Option.map_some, bd_ok, fl_ok, asBool_bl, cmpT, ltT, argsOut, pNeg, callO, lend, giveBack, T.pure, T.fz, T.fzs, fzs_ils, eqT_int, eqT_bl, eqT_tp, eqT_lst, pLen_tp, pLen_lst, bT_name, bT_tup, bT_lst, bTs_nil, bTs_cons, Option.bind_some, setAll, wipeE, unwipe, len_ils, isLst, line, Int.natCast_inj, isKey, any_ils, inT_ils, eqT_nil, eqT_nn, ils_app, pure_ils, items, setIxS, setIxT, s1, s2, s3, set_ils]
      refine hN _ ⟨F.set (p.f i) i, _, rfl, by rw [List.length_set]; exact hF, fun j hjn hji => ?_⟩
      by_cases q : j = i
      · subst q
        rw [List.getElem?_set_self (by omega)]
      · rw [List.getElem?_set_ne (fun e => q (p.inj e).symm)]
        exact hj j hjn (by omega)
    · rintro e ⟨F, d, rfl, hF, hj⟩
      rw [List.length_range] at hj
      have eF : F = lsOf p.inv := by
        refine List.ext_getElem? fun y => ?_
        by_cases hy : y < n
        · have h1 : p.g y < n := p.inv.lt hy
          have := hj (p.g y) h1 h1
          rw [p.fg] at this
          rw [this]
          unfold lsOf
          rw [List.getElem?_map, List.getElem?_range hy]
          rfl
        · rw [List.getElem?_eq_none (by omega), List.getElem?_eq_none (by rw [lsOf_len]; omega)]
      subst eF
      simp [-List.filterMap_map, -List.map_map, -List.map_set, -List.map_append, -List.any_map, -List.any_append, -List.all_map, -List.all_append, -List.map_take, -List.map_drop, -List.map_tail, -List.map_reverse, -List.map_dropLast, sat_nx, sat_rt, sat_bk, sat_ct, sat_if, osat_ok, Kn_at, sat_nil, sat_cons, sat_for, ForK_at, ev_lcK, LcK_t, LcK_l, LcK_lo, LcK_et, LcK_el, LcK_elo, RetK_at, NonK_at, evS.eq_1, evS.eq_2, evS.eq_3, evS.eq_4, evS.eq_5, evS.eq_6, evS.eq_7, evS.eq_8, evS.eq_9, evS.eq_10, evS.eq_11, evS.eq_12, evS.eq_15, evS.eq_16, evS.eq_17, evS.eq_18, evS.eq_19, evE.eq_1, evE.eq_2, evE.eq_3, evE.eq_4, evE.eq_5, evE.eq_6, evE.eq_7, evE.eq_8, evE.eq_9, evE.eq_10, evE.eq_11, evE.eq_12, evE.eq_13, evE.eq_14, evE.eq_15, evE.eq_16, evE.eq_17, evE.eq_18, evE.eq_19, evE.eq_21, evE.eq_22, evE.eq_23, evO, evL, evI, evC, opds, Opd.get, pq_add, pq_sub, pq_mul, pq_fdiv, pq_mod, pq_pow, pq_neg, pq_idx, pq_len, pq_tuple, pq_list, pq_rg1, pq_rg2, pq_sorted, pq_abs, pq_int1, pq_max2, pq_min2, pq_all, pq_sum1, pq_lindex, pq_repr, pq_cmp, pq_isT, isData, isTy, of_some, Option.map_some, bd_ok, fl_ok, asBool_bl, cmpT, ltT, argsOut, pNeg, callO, lend, giveBack, T.pure, T.fz, T.fzs, fzs_ils, eqT_int, eqT_bl, eqT_tp, eqT_lst, pLen_tp, pLen_lst, bT_name, bT_tup, bT_lst, bTs_nil, bTs_cons, Option.bind_some, setAll, wipeE, unwipe, len_ils, isLst, line, Int.natCast_inj, isKey, any_ils, inT_ils, eqT_nil, eqT_nn, ils_app, pure_ils, items, pTuple_lst]
theorem q33 (h : 1 ≤ k) (l : List (Nat × Nat)) (hl : l.length ≤ 1000) : callK P w k 33 [.tup (l.map prt)] = .ok (.lst true (l.map stp)) [.tup (l.map prt)] := by
  refine callK_is (d := d33) rfl (by omega) rfl ?_
  simp [-List.filterMap_map, -List.map_map, -List.map_set, -List.map_append, -List.any_map, -List.any_append, -List.all_map, -List.all_append, -List.map_take, -List.map_drop, -List.map_tail, -List.map_reverse, -List.map_dropLast, sat_nx, sat_rt, sat_bk, sat_ct, sat_if, osat_ok, Kn_at, sat_nil, sat_cons, sat_for, ForK_at, ev_lcK, LcK_t, LcK_l, LcK_lo, LcK_et, LcK_el, LcK_elo, RetK_at, NonK_at, evS.eq_1, evS.eq_2, evS.eq_3, evS.eq_4, evS.eq_5, evS.eq_6, evS.eq_7, evS.eq_8, evS.eq_9, evS.eq_10, evS.eq_11, evS.eq_12, evS.eq_15, evS.eq_16, evS.eq_17, evS.eq_18, evS.eq_19, evE.eq_1, evE.eq_2, evE.eq_3, evE.eq_4, evE.eq_5, evE.eq_6, evE.eq_7, evE.eq_8, evE.eq_9, evE.eq_10, evE.eq_11, evE.eq_12, evE.eq_13, evE.eq_14, evE.eq_15, evE.eq_16, evE.eq_17, evE.eq_18, evE.eq_19, evE.eq_21, evE.eq_22, evE.eq_23, evO, evL, evI, evC, opds, Opd.get, pq_add, pq_sub, pq_mul, pq_fdiv, pq_mod, pq_pow, pq_neg, pq_idx, pq_len, pq_tuple, pq_list, pq_rg1, pq_rg2, pq_sorted, pq_abs, pq_int1, pq_max2, pq_min2, pq_all, pq_sum1, pq_lindex, pq_repr, pq_cmp, pq_isT, isData, isTy, of_some, Option.map_some, bd_ok, fl_ok, asBool_bl, cmpT, ltT, argsOut, pNeg, callO, lend, giveBack, T.pure, T.fz, T.fzs, fzs_ils, eqT_int, eqT_bl, eqT_tp, eqT_lst, pLen_tp, pLen_lst, bT_name, bT_tup, bT_lst, bTs_nil, bTs_cons, Option.bind_some, setAll, wipeE, unwipe, len_ils, isLst, line, Int.natCast_inj, isKey, any_ils, inT_ils, eqT_nil, eqT_nn, ils_app, pure_ils, items, d33, b33, iter_tup]
  rw [lcG_map stp (by show _ ≤ 16777216; omega) (fun e he => ⟨_, rfl, by simp [-List.filterMap_map, -List.map_map, -List.map_set, -List.map_append, -List.any_map, -List.any_append, -List.all_map, -List.all_append, -List.map_take, -List.map_drop, -List.map_tail, -List.map_reverse, -List.map_dropLast, sat_nx, sat_rt, sat_bk, sat_ct, sat_if, osat_ok, Kn_at, sat_nil, sat_cons, sat_for, ForK_at, ev_lcK, LcK_t, LcK_l, LcK_lo, LcK_et, LcK_el, LcK_elo, RetK_at, NonK_at, evS.eq_1, evS.eq_2, evS.eq_3, evS.eq_4, evS.eq_5, evS.eq_6, evS.eq_7, evS.eq_8, evS.eq_9, evS.eq_10, evS.eq_11, evS.eq_12, evS.eq_15, evS.eq_16, evS.eq_17, evS.eq_18, evS.eq_19, evE.eq_1, evE.eq_2, evE.eq_3, evE.eq_4, evE.eq_5, evE.eq_6, evE.eq_7, evE.eq_8, evE.eq_9, evE.eq_10, evE.eq_11, evE.eq_12, evE.eq_13, evE.eq_14, evE.eq_15, evE.eq_16, evE.eq_17, evE.eq_18, evE.eq_19, evE.eq_21, evE.eq_22, evE.eq_23, evO, evL, evI, evC, opds, Opd.get, pq_add, pq_sub, pq_mul, pq_fdiv, pq_mod, pq_pow, pq_neg, pq_idx, pq_len, pq_tuple, pq_list, pq_rg1, pq_rg2, pq_sorted, pq_abs, pq_int1, pq_max2, pq_min2, pq_all, pq_sum1, pq_lindex, pq_repr, pq_cmp, pq_isT, isData, isTy, of_some, Option.map_some, bd_ok, fl_ok, asBool_bl, cmpT, ltT, argsOut, pNeg, callO, lend, giveBack, T.pure, T.fz, T.fzs, fzs_ils, eqT_int, eqT_bl, eqT_tp, eqT_lst, pLen_tp, pLen_lst, bT_name, bT_tup, bT_lst, bTs_nil, bTs_cons, Option.bind_some, setAll, wipeE, unwipe, len_ils, isLst, line, Int.natCast_inj, isKey, any_ils, inT_ils, eqT_nil, eqT_nn, ils_app, pure_ils, items, stp, prt]⟩)]
  simp [-List.filterMap_map, -List.map_map, -List.map_set, -List.map_append, -List.any_map, -List.any_append, -List.all_map, -List.all_append, -List.map_take, -List.map_drop, -List.map_tail, -List.map_reverse, -List.map_dropLast, sat_nx, sat_rt, sat_bk, sat_ct, sat_if, osat_ok, Kn_at, sat_nil, sat_cons, sat_for, ForK_at, ev_lcK, LcK_t, LcK_l, LcK_lo, LcK_et, LcK_el, LcK_elo, RetK_at, NonK_at, evS.eq_1, evS.eq_2, evS.eq_3, evS.eq_4, evS.eq_5, evS.eq_6, evS.eq_7, evS.eq_8, evS.eq_9, evS.eq_10, evS.eq_11, evS.eq_12, evS.eq_15, evS.eq_16, evS.eq_17, evS.eq_18, evS.eq_19, evE.eq_1, evE.eq_2, evE.eq_3, evE.eq_4, evE.eq_5, evE.eq_6, evE.eq_7, evE.eq_8, evE.eq_9, evE.eq_10, evE.eq_11, evE.eq_12, evE.eq_13, evE.eq_14, evE.eq_15, evE.eq_16, evE.eq_17, evE.eq_18, evE.eq_19, evE.eq_21, evE.eq_22, evE.eq_23, evO, evL, evI, evC, opds, Opd.get, pq_add, pq_sub, pq_mul, pq_fdiv, pq_mod, pq_pow, pq_neg, pq_idx, pq_len, pq_tuple, pq_list, pq_rg1, pq_rg2, pq_sorted, pq_abs, pq_int1, pq_max2, pq_min2, pq_all, pq_sum1, pq_lindex, pq_repr, pq_cmp, pq_isT, isData, isTy, of_some, Option.map_some, bd_ok, fl_ok, asBool_bl, cmpT, ltT, argsOut, pNeg, callO, lend, giveBack, T.pure, T.fz, T.fzs, fzs_ils, eqT_int, eqT_bl, eqT_tp, eqT_lst, pLen_tp, pLen_lst, bT_name, bT_tup, bT_lst, bTs_nil, bTs_cons, Option.bind_some, setAll, wipeE, unwipe, len_ils, isLst, line, Int.natCast_inj, isKey, any_ils, inT_ils, eqT_nil, eqT_nn, ils_app, pure_ils, items]
theorem q34 (h : 2 ≤ k) (hn : n ≤ 12) (l : List (Nat × Nat)) (hl : ∀ e ∈ l, e.1 < n ∧ e.2 < n) (hl2 : l.length ≤ 1000) : callK P w k 34 [.int n, .tup (l.map prt)] = .ok (tq ((Pm.Pm.one n).cuts l).inv) [.int n, .tup (l.map prt)] := by
  refine callK_is (d := d34) rfl (by omega) rfl ?_
  have s1 := q33 (w := w) (k := k - 1) (by omega) l hl2
  have s2 := q31 (w := w) (k := k - 1) (by omega) hn l hl
  simp [-List.filterMap_map, -List.map_map, -List.map_set, -List.map_append, -List.any_map, -List.any_append, -List.all_map, -List.all_append, -List.map_take, -List.map_drop, -List.map_tail, -List.map_reverse, -List.map_dropLast, sat_nx, sat_rt, sat_bk, sat_ct, sat_if, osat_ok, Kn_at, sat_nil, sat_cons, sat_for, ForK_at, ev_lcK, LcK_t, LcK_l, LcK_lo, LcK_et, LcK_el, LcK_elo, RetK_at, NonK_at, evS.eq_1, evS.eq_2, evS.eq_3, evS.eq_4, evS.eq_5, evS.eq_6, evS.eq_7, evS.eq_8, evS.eq_9, evS.eq_10, evS.eq_11, evS.eq_12, evS.eq_15, evS.eq_16, evS.eq_17, evS.eq_18, evS.eq_19, evE.eq_1, evE.eq_2, evE.eq_3, evE.eq_4, evE.eq_5, evE.eq_6, evE.eq_7, evE.eq_8, evE.eq_9, evE.eq_10, evE.eq_11, evE.eq_12, evE.eq_13, evE.eq_14, evE.eq_15, evE.eq_16, evE.eq_17, evE.eq_18, evE.eq_19, evE.eq_21, evE.eq_22, evE.eq_23, evO, evL, evI, evC, opds, Opd.get, pq_add, pq_sub, pq_mul, pq_fdiv, pq_mod, pq_pow, pq_neg, pq_idx, pq_len, pq_tuple, pq_list, pq_rg1, pq_rg2, pq_sorted, pq_abs, pq_int1, pq_max2, pq_min2, pq_all, pq_sum1, pq_lindex, pq_repr, pq_cmp, pq_isT, isData, isTy, of_some, Option.map_some, bd_ok, fl_ok, asBool_bl, cmpT, ltT, argsOut, pNeg, callO, lend, giveBack, T.pure, T.fz, T.fzs, fzs_ils, eqT_int, eqT_bl, eqT_tp, eqT_lst, pLen_tp, pLen_lst, bT_name, bT_tup, bT_lst, bTs_nil, bTs_cons, Option.bind_some, setAll, wipeE, unwipe, len_ils, isLst, line, Int.natCast_inj, isKey, any_ils, inT_ils, eqT_nil, eqT_nn, ils_app, pure_ils, items, d34, b34, pk31, pk33, s1, s2]
/-- round -/
def rot (n : Nat) : Pm.Pm n where
  f := fun x => if x < n then (x + 1) % n else x
  g := fun x => if x < n then (x + (n - 1)) % n else x
  gf := fun x => by
    by_cases h : x < n
    · have h1 : (x + 1) % n < n := Nat.mod_lt _ (by omega)
      simp only [h, h1, if_true]
      by_cases q : x + 1 = n
      · rw [q, Nat.mod_self, Nat.zero_add, Nat.mod_eq_of_lt (by omega)]; omega
      · rw [Nat.mod_eq_of_lt (show x + 1 < n by omega), show x + 1 + (n - 1) = x + n by omega, Nat.add_mod_right, Nat.mod_eq_of_lt h]
    · simp only [h, if_false]
  fg := fun x => by
    by_cases h : x < n
    · have h1 : (x + (n - 1)) % n < n := Nat.mod_lt _ (by omega)
      simp only [h, h1, if_true]
      rw [Nat.mod_add_mod, show x + (n - 1) + 1 = x + n by omega, Nat.add_mod_right, Nat.mod_eq_of_lt h]
    · simp only [h, if_false]
  fix := fun x h => by simp only [show ¬ x < n by omega, if_false]
theorem q35 (h : 1 ≤ k) (h1 : 1 ≤ n) (hn : n ≤ 12) : callK P w k 35 [.int n] = .ok (tq (rot n)) [.int n] := by
  refine callK_is (d := d35) rfl (by omega) rfl ?_
  simp [-List.filterMap_map, -List.map_map, -List.map_set, -List.map_append, -List.any_map, -List.any_append, -List.all_map, -List.all_append, -List.map_take, -List.map_drop, -List.map_tail, -List.map_reverse, -List.map_dropLast, sat_nx, sat_rt, sat_bk, sat_ct, sat_if, osat_ok, Kn_at, sat_nil, sat_cons, sat_for, ForK_at, ev_lcK, LcK_t, LcK_l, LcK_lo, LcK_et, LcK_el, LcK_elo, RetK_at, NonK_at, evS.eq_1, evS.eq_2, evS.eq_3, evS.eq_4, evS.eq_5, evS.eq_6, evS.eq_7, evS.eq_8, evS.eq_9, evS.eq_10, evS.eq_11, evS.eq_12, evS.eq_15, evS.eq_16, evS.eq_17, evS.eq_18, evS.eq_19, evE.eq_1, evE.eq_2, evE.eq_3, evE.eq_4, evE.eq_5, evE.eq_6, evE.eq_7, evE.eq_8, evE.eq_9, evE.eq_10, evE.eq_11, evE.eq_12, evE.eq_13, evE.eq_14, evE.eq_15, evE.eq_16, evE.eq_17, evE.eq_18, evE.eq_19, evE.eq_21, evE.eq_22, evE.eq_23, evO, evL, evI, evC, opds, Opd.get, pq_add, pq_sub, pq_mul, pq_fdiv, pq_mod, pq_pow, pq_neg, pq_idx, pq_len, pq_tuple, pq_list, pq_rg1, pq_rg2, pq_sorted, pq_abs, pq_int1, pq_max2, pq_min2, pq_all, pq_sum1, pq_lindex, pq_repr, pq_cmp, pq_isT, isData, isTy, of_some, Option.map_some, bd_ok, fl_ok, asBool_bl, cmpT, ltT, argsOut, pNeg, callO, lend, giveBack, T.pure, T.fz, T.fzs, fzs_ils, eqT_int, eqT_bl, eqT_tp, eqT_lst, pLen_tp, pLen_lst, bT_name, bT_tup, bT_lst, bTs_nil, bTs_cons, Option.bind_some, setAll, wipeE, unwipe, len_ils, isLst, line, Int.natCast_inj, isKey, any_ils, inT_ils, eqT_nil, eqT_nn, ils_app, pure_ils, items, d35, b35, LcK_r (show n < 1000000 by omega)]
  rw [lcG_map (fun x : Nat => T.int ((rot n).f x : Nat)) (by rw [List.length_range]; show _ ≤ 16777216; omega) (fun x hx => by
    have hx := List.mem_range.mp hx
    have e : (T.int (((x : Int) + 1) % (n : Int))) = T.int ((rot n).f x : Nat) := by
      show _ = T.int ((if x < n then (x + 1) % n else x : Nat) : Nat)
      rw [if_pos hx, Int.natCast_emod]
      simp
    have h0 : 0 < n := h1
    refine ⟨_, rfl, ?_⟩
    simp [-List.filterMap_map, -List.map_map, -List.map_set, -List.map_append, -List.any_map, -List.any_append, -List.all_map, -List.all_append, -List.map_take, -List.map_drop, -List.map_tail, -List.map_reverse, -List.map_dropLast, sat_nx, sat_rt, sat_bk, sat_ct, sat_if, osat_ok, Kn_at, sat_nil, sat_cons, sat_for, ForK_at, ev_lcK, LcK_t, LcK_l, LcK_lo, LcK_et, LcK_el, LcK_elo, RetK_at, NonK_at, evS.eq_1, evS.eq_2, evS.eq_3, evS.eq_4, evS.eq_5, evS.eq_6, evS.eq_7, evS.eq_8, evS.eq_9, evS.eq_10, evS.eq_11, evS.eq_12, evS.eq_15, evS.eq_16, evS.eq_17, evS.eq_18, evS.eq_19, evE.eq_1, evE.eq_2, evE.eq_3, evE.eq_4, evE.eq_5, evE.eq_6, evE.eq_7, evE.eq_8, evE.eq_9, evE.eq_10, evE.eq_11, evE.eq_12, evE.eq_13, evE.eq_14, evE.eq_15, evE.eq_16, evE.eq_17, evE.eq_18, evE.eq_19, evE.eq_21, evE.eq_22, evE.eq_23, evO, evL, evI, evC, opds, Opd.get, pq_add, pq_sub, pq_mul, pq_fdiv, pq_mod, pq_pow, pq_neg, pq_idx, pq_len, pq_tuple, pq_list, pq_rg1, pq_rg2, pq_sorted, pq_abs, pq_int1, pq_max2, pq_min2, pq_all, pq_sum1, pq_lindex, pq_repr, pq_cmp, pq_isT, isData, isTy, of_some, Option.map_some, bd_ok, fl_ok, asBool_bl, cmpT, ltT, argsOut, pNeg, callO, lend, giveBack, T.pure, T.fz, T.fzs, fzs_ils, eqT_int, eqT_bl, eqT_tp, eqT_lst, pLen_tp, pLen_lst, bT_name, bT_tup, bT_lst, bTs_nil, bTs_cons, Option.bind_some, setAll, wipeE, unwipe, len_ils, isLst, line, Int.natCast_inj, isKey, any_ils, inT_ils, eqT_nil, eqT_nn, ils_app, pure_ils, items, pAdd, pMod, h0]
    exact T.int.inj e)]
  have e : ((List.range n).map fun x : Nat => T.int ((rot n).f x : Nat)) = ils (lsOf (rot n)) := by
    show _ = List.map _ (List.map _ _)
    rw [List.map_map]; rfl
  rw [e]
  simp [-List.filterMap_map, -List.map_map, -List.map_set, -List.map_append, -List.any_map, -List.any_append, -List.all_map, -List.all_append, -List.map_take, -List.map_drop, -List.map_tail, -List.map_reverse, -List.map_dropLast, sat_nx, sat_rt, sat_bk, sat_ct, sat_if, osat_ok, Kn_at, sat_nil, sat_cons, sat_for, ForK_at, ev_lcK, LcK_t, LcK_l, LcK_lo, LcK_et, LcK_el, LcK_elo, RetK_at, NonK_at, evS.eq_1, evS.eq_2, evS.eq_3, evS.eq_4, evS.eq_5, evS.eq_6, evS.eq_7, evS.eq_8, evS.eq_9, evS.eq_10, evS.eq_11, evS.eq_12, evS.eq_15, evS.eq_16, evS.eq_17, evS.eq_18, evS.eq_19, evE.eq_1, evE.eq_2, evE.eq_3, evE.eq_4, evE.eq_5, evE.eq_6, evE.eq_7, evE.eq_8, evE.eq_9, evE.eq_10, evE.eq_11, evE.eq_12, evE.eq_13, evE.eq_14, evE.eq_15, evE.eq_16, evE.eq_17, evE.eq_18, evE.eq_19, evE.eq_21, evE.eq_22, evE.eq_23, evO, evL, evI, evC, opds, Opd.get, pq_add, pq_sub, pq_mul, pq_fdiv, pq_mod, pq_pow, pq_neg, pq_idx, pq_len, pq_tuple, pq_list, pq_rg1, pq_rg2, pq_sorted, pq_abs, pq_int1, pq_max2, pq_min2, pq_all, pq_sum1, pq_lindex, pq_repr, pq_cmp, pq_isT, isData, isTy, of_some, Option.map_some, bd_ok, fl_ok, asBool_bl, cmpT, ltT, argsOut, pNeg, callO, lend, giveBack, T.pure, T.fz, T.fzs, fzs_ils, eqT_int, eqT_bl, eqT_tp, eqT_lst, pLen_tp, pLen_lst, bT_name, bT_tup, bT_lst, bTs_nil, bTs_cons, Option.bind_some, setAll, wipeE, unwipe, len_ils, isLst, line, Int.natCast_inj, isKey, any_ils, inT_ils, eqT_nil, eqT_nn, ils_app, pure_ils, items, pTuple_lst]
end
end K91
end
section
set_option Elab.async false
set_option maxRecDepth 100000
set_option linter.all false
/-! W91l: walks: drawn least tuples. -/
open Ev
namespace K91
section
variable {w k n : Nat}
theorem O_it {a : Pm.Pm n} {x y z : Nat} (hx : x < n) (h1 : y ∈ a.ring x) (h2 : z ∈ a.ring x) : Pm.Pm.O a y z := (((Pm.Pm.mem_ring hx).mp h1).symm hx).trans ((Pm.Pm.mem_ring hx).mp h2)
theorem two_srt {p p' : List Nat} (hp : p'.Perm p) (hnd : p.Nodup) (hl : 2 ≤ p.length) : ∃ x y, srt (p'.take 2) = [x, y] ∧ x ∈ p ∧ y ∈ p ∧ x ≠ y := by
  have h1 := srt_perm (p'.take 2)
  have hl' := hp.length_eq
  have hlen := h1.length_eq
  rw [List.length_take, show min 2 p'.length = 2 by omega] at hlen
  have hnd2 : (srt (p'.take 2)).Nodup := h1.nodup_iff.mpr (List.Nodup.sublist (List.take_sublist _ _) (hp.nodup_iff.mpr hnd))
  have hm : ∀ z ∈ srt (p'.take 2), z ∈ p := fun z hz => hp.mem_iff.mp (List.mem_of_mem_take (h1.mem_iff.mp hz))
  generalize srt (p'.take 2) = q at hlen hnd2 hm
  rcases q with _ | ⟨x, _ | ⟨y, _ | ⟨z, r⟩⟩⟩
  · simp at hlen
  · simp at hlen
  · refine ⟨x, y, rfl, hm x (by simp), hm y (by simp), ?_⟩
    simp at hnd2
    exact hnd2
  · simp at hlen
theorem q36 (h : 4 ≤ k) (a : Pm.Pm n) (hn : n ≤ 12) {D : T} (hD : Dice D) : ∃ t as, callK P w k 36 [D, tq a] = .ok t as ∧ ∃ (D' : T) (l : List (Nat × Nat)), as = [D', tq a] ∧ Dice D' ∧ t = .tup (l.map prt) ∧ (∀ e ∈ l, e.1 < n ∧ e.2 < n) ∧ l.length = Pm.Pm.len a ∧ ∀ j, j ≤ l.length → Pm.Pm.len (a.cuts (l.take j)) + j = Pm.Pm.len a := by
  refine callK_by (d := d36) _ rfl (by omega) rfl fun Q hQ => ?_
  have s1 := q32 (w := w) (k := k - 1) (by omega) a hn
  have hlen : Pm.Pm.len a ≤ n := by unfold Pm.Pm.len; omega
  simp [-List.filterMap_map, -List.map_map, -List.map_set, -List.map_append, -List.any_map, -List.any_append, -List.all_map, -List.all_append, -List.map_take, -List.map_drop, -List.map_tail, -List.map_reverse, -List.map_dropLast, sat_nx, sat_rt, sat_bk, sat_ct, sat_if, osat_ok, Kn_at, sat_nil, sat_cons, sat_for, ForK_at, ev_lcK, LcK_t, LcK_l, LcK_lo, LcK_et, LcK_el, LcK_elo, RetK_at, NonK_at, evS.eq_1, evS.eq_2, evS.eq_3, evS.eq_4, evS.eq_5, evS.eq_6, evS.eq_7, evS.eq_8, evS.eq_9, evS.eq_10, evS.eq_11, evS.eq_12, evS.eq_15, evS.eq_16, evS.eq_17, evS.eq_18, evS.eq_19, evE.eq_1, evE.eq_2, evE.eq_3, evE.eq_4, evE.eq_5, evE.eq_6, evE.eq_7, evE.eq_8, evE.eq_9, evE.eq_10, evE.eq_11, evE.eq_12, evE.eq_13, evE.eq_14, evE.eq_15, evE.eq_16, evE.eq_17, evE.eq_18, evE.eq_19, evE.eq_21, evE.eq_22, evE.eq_23, evO, evL, evI, evC, opds, Opd.get, pq_add, pq_sub, pq_mul, pq_fdiv, pq_mod, pq_pow, pq_neg, pq_idx, pq_len, pq_tuple, pq_list, pq_rg1, pq_rg2, pq_sorted, pq_abs, pq_int1, pq_max2, pq_min2, pq_all, pq_sum1, pq_lindex, pq_repr, pq_cmp, pq_isT, isData, isTy, of_some, Option.map_some, bd_ok, fl_ok, asBool_bl, cmpT, ltT, argsOut, pNeg, callO, lend, giveBack, T.pure, T.fz, T.fzs, fzs_ils, eqT_int, eqT_bl, eqT_tp, eqT_lst, pLen_tp, pLen_lst, bT_name, bT_tup, bT_lst, bTs_nil, bTs_cons, Option.bind_some, setAll, wipeE, unwipe, len_ils, isLst, line, Int.natCast_inj, isKey, any_ils, inT_ils, eqT_nil, eqT_nn, ils_app, pure_ils, items, d36, b36, pk32, s1, lsOf_len, pLen_tps, pSub, pm_len, iter_rg1 (show Pm.Pm.len a < 1000000 by omega)]
  refine forG_map (I := fun i env => ∃ (D' : T) (l : List (Nat × Nat)) (b r x6 x7 x8 : Option T), env = [some D', some (tq a), some (.lst true (l.map prt)), some (tq (a.cuts l)), b, r, x6, x7, x8] ∧ (r = none ∨ ∃ p, r = some (tp p)) ∧ Dice D' ∧ (∀ e ∈ l, e.1 < n ∧ e.2 < n) ∧ l.length = i ∧ ∀ j, j ≤ l.length → Pm.Pm.len (a.cuts (l.take j)) + j = Pm.Pm.len a) ⟨D, [], none, none, none, none, none, rfl, .inl rfl, hD, fun e he => by simp at he, rfl, fun j hj => by
    have : j = 0 := by simpa using hj
    subst this
    rfl⟩ ?_ ?_
  · rintro i hi e ⟨D1, l, b, r, x6, x7, x8, rfl, hr, hD1, hb, hll, hcl⟩
    rw [List.length_range] at hi
    refine ⟨_, rfl, fun N hN => ?_⟩
    have hc1 := hcl l.length (Nat.le_refl _)
    rw [List.take_length] at hc1
    have hN' : ∀ (D2 : T) (x y : Nat) (b r x6 x7 x8 : Option T), (r = none ∨ ∃ p, r = some (tp p)) → Dice D2 → x < n → Pm.Pm.O (a.cuts l) x y → x ≠ y → N [some D2, some (tq a), some (.lst true (l.map prt ++ [prt (x, y)])), some (tq ((a.cuts l).cutT (x, y))), b, r, x6, x7, x8] := by
      intro D2 x y b r x6 x7 x8 hr2 hD2 hx o hne
      have e1 : a.cuts (l ++ [(x, y)]) = (a.cuts l).cutT (x, y) := Pm.Pm.cuts_app a l [(x, y)]
      refine hN _ ⟨D2, l ++ [(x, y)], b, r, x6, x7, x8, by rw [e1, List.map_append]; rfl, hr2, hD2, fun e he => ?_, by rw [List.length_append, hll]; rfl, fun j hj => ?_⟩
      · rcases List.mem_append.mp he with he | he
        · exact hb e he
        · rw [List.mem_singleton] at he
          subst he
          exact ⟨hx, o.lt hx⟩
      · rw [List.length_append, List.length_singleton] at hj
        by_cases q : j ≤ l.length
        · rw [List.take_append_of_le_length q]
          exact hcl j q
        · have : j = l.length + 1 := by omega
          subst this
          rw [List.take_of_length_le (by rw [List.length_append, List.length_singleton]; exact Nat.le_refl _), e1]
          have := Pm.Pm.len_cutT hx o hne
          omega
    have hl0 : 0 < Pm.Pm.len (a.cuts l) := by omega
    have hllen : l.length < 16777216 := by omega
    generalize a.cuts l = q at hN' hl0
    have s2 := q32 (w := w) (k := k - 1) (by omega) q hn
    -- the rings with more than one place
    have hsel : (q.rings.filterMap fun r => if 1 < r.length then some (tp r) else none) = tps (q.rings.filter fun r => decide (1 < r.length)) := by
      exact filterMap_if tp (fun r : List Nat => 1 < r.length) _
    obtain ⟨x0, hx0, hp0⟩ := Pm.Pm.long_ring hl0
    have hmem : ∀ r ∈ q.rings.filter (fun r => decide (1 < r.length)), ∃ x, x < n ∧ r = q.ring x ∧ 2 ≤ r.length := by
      intro r hr
      rw [List.mem_filter, decide_eq_true_iff] at hr
      obtain ⟨x, hx, e⟩ := List.mem_map.mp hr.1
      exact ⟨x, (Pm.Pm.mem_heads.mp hx).1, e.symm, hr.2⟩
    have hne : q.ring x0 ∈ q.rings.filter (fun r => decide (1 < r.length)) := by
      rw [List.mem_filter, decide_eq_true_iff, Pm.Pm.ring_len]
      exact ⟨List.mem_map_of_mem hx0, hp0⟩
    have hrl : q.rings.length ≤ n := by rw [Pm.Pm.rings_len]; exact Pm.Pm.cyc_le q
    have hfl := List.length_filter_le (fun r : List Nat => decide (1 < r.length)) q.rings
    generalize hrs : q.rings.filter (fun r => decide (1 < r.length)) = rs at hsel hmem hne hfl
    have hpos : 0 < rs.length := List.length_pos_of_mem hne
    obtain ⟨t, as, s3, D2, rfl, hD2, rr, hrr, rfl⟩ := q29 (w := w) (k := k - 1) (by omega) hD1 (I := .lst true (tps rs)) hpos (by omega) (pLen_tps true rs) (.inr ⟨_, rfl⟩) (Good := fun t => ∃ r ∈ rs, t = tp r) (fun i hi => ⟨tp rs[i], by
      unfold pIdx
      simp only [len_tps, pIx_nat hi, Option.bind_some, List.getElem?_map, List.getElem?_eq_getElem hi, Option.map_some]
      rfl, rs[i], List.getElem_mem hi, rfl⟩)
    obtain ⟨x, hx, hre, hr2⟩ := hmem rr hrr
    have hrlen : rr.length ≤ 12 := by rw [hre, Pm.Pm.ring_len]; have := q.per_le hx; omega
    obtain ⟨t, as, s4, D3, p', rfl, hD3, rfl, hp'⟩ := q30 (w := w) (k := k - 1) (by omega) hD2 (I := .lst true (ils rr)) (p := rr) (by omega) (pList_lst true rr) (pLen_lst true rr)
    obtain ⟨y, z, e2, hy, hz, hyz⟩ := two_srt hp' (hre ▸ q.ring_nodup hx) hr2
    have e3 : slice (.lst true (ils p')) none (some 2) = some (.lst true (ils (p'.take 2))) := slice_to_lst (o := true) (p := p') (i := 2) (by have := hp'.length_eq; omega)
    have oyz : Pm.Pm.O q y z := O_it hx (hre ▸ hy) (hre ▸ hz)
    have hyn : y < n := Pm.Pm.ring_lt hx (hre ▸ hy)
    have hzn := oyz.lt hyn
    have f1 := pIdx_tq q hyn
    have f2 := pIdx_tq q hzn
    have f3 := small_nat (y := y) (by omega)
    have f4 := small_nat (y := z) (by omega)
    have f5 := pIx_nat (n := n) (i := y) hyn
    have f6 := pIx_nat (n := n) (i := z) hzn
    have f7 := lsOf_swap q hyn hzn
    have f8 := fzs_tps q.rings
    have hD1' := hD1
    obtain ⟨l1, m1, c1, rfl, _⟩ := hD1'
    have lc : ∀ r0 : Option T, (r0 = none ∨ ∃ p, r0 = some (tp p)) → LcG ⟨fun g => (P g).elim [] fun x => x.keep, callK P w (k - 1)⟩ (.var 5) (.name 5) [5] (.cons (.pr (.cmp .gt) (.cons (.pr .len (.cons (.var 5) .nil)) (.cons (.int 1) .nil))) .nil) (tps q.rings) [some (.lst true [.int l1, .int m1, .int c1]), some (tq a), some (.lst true (l.map prt)), some (tq q), some (.int i), r0, x6, x7, x8] = .ok (.lst true (tps rs)) [some (.lst true [.int l1, .int m1, .int c1]), some (tq a), some (.lst true (l.map prt)), some (tq q), some (.int i), r0, x6, x7, x8] := by
      intro r0 hr0
      rw [lcG_gen (fun r : List Nat => if 1 < r.length then some (tp r) else none) (by show _ ≤ 16777216; omega) (fun r hr => by
        refine ⟨_, rfl, ?_⟩
        by_cases h1 : 1 < r.length
        · have h1' : (1 : Int) < r.length := by omega
          simp [-List.filterMap_map, -List.map_map, -List.map_set, -List.map_append, -List.any_map, -List.any_append, -List.all_map, -List.all_append, -List.map_take, -List.map_drop, -List.map_tail, -List.map_reverse, -List.map_dropLast, sat_nx, sat_rt, sat_bk, sat_ct, sat_if, osat_ok, Kn_at, sat_nil, sat_cons, sat_for, ForK_at, ev_lcK, LcK_t, LcK_l, LcK_lo, LcK_et, LcK_el, LcK_elo, RetK_at, NonK_at, evS.eq_1, evS.eq_2, evS.eq_3, evS.eq_4, evS.eq_5, evS.eq_6, evS.eq_7, evS.eq_8, evS.eq_9, evS.eq_10, evS.eq_11, evS.eq_12, evS.eq_15, evS.eq_16, evS.eq_17, evS.eq_18, evS.eq_19, evE.eq_1, evE.eq_2, evE.eq_3, evE.eq_4, evE.eq_5, evE.eq_6, evE.eq_7, evE.eq_8, evE.eq_9, evE.eq_10, evE.eq_11, evE.eq_12, evE.eq_13, evE.eq_14, evE.eq_15, evE.eq_16, evE.eq_17, evE.eq_18, evE.eq_19, evE.eq_21, evE.eq_22, evE.eq_23, evO, evL, evI, evC, opds, Opd.get, pq_add, pq_sub, pq_mul, pq_fdiv, pq_mod, pq_pow, pq_neg, pq_idx, pq_len, pq_tuple, pq_list, pq_rg1, pq_rg2, pq_sorted, pq_abs, pq_int1, pq_max2, pq_min2, pq_all, pq_sum1, pq_lindex, pq_repr, pq_cmp, pq_isT, isData, isTy, of_some, Option.map_some, bd_ok, fl_ok, asBool_bl, cmpT, ltT, argsOut, pNeg, callO, lend, giveBack, T.pure, T.fz, T.fzs, fzs_ils, eqT_int, eqT_bl, eqT_tp, eqT_lst, pLen_tp, pLen_lst, bT_name, bT_tup, bT_lst, bTs_nil, bTs_cons, Option.bind_some, setAll, wipeE, unwipe, len_ils, isLst, line, Int.natCast_inj, isKey, any_ils, inT_ils, eqT_nil, eqT_nn, ils_app, pure_ils, items, h1, h1']
        · have h1' : ¬ (1 : Int) < r.length := by omega
          simp [-List.filterMap_map, -List.map_map, -List.map_set, -List.map_append, -List.any_map, -List.any_append, -List.all_map, -List.all_append, -List.map_take, -List.map_drop, -List.map_tail, -List.map_reverse, -List.map_dropLast, sat_nx, sat_rt, sat_bk, sat_ct, sat_if, osat_ok, Kn_at, sat_nil, sat_cons, sat_for, ForK_at, ev_lcK, LcK_t, LcK_l, LcK_lo, LcK_et, LcK_el, LcK_elo, RetK_at, NonK_at, evS.eq_1, evS.eq_2, evS.eq_3, evS.eq_4, evS.eq_5, evS.eq_6, evS.eq_7, evS.eq_8, evS.eq_9, evS.eq_10, evS.eq_11, evS.eq_12, evS.eq_15, evS.eq_16, evS.eq_17, evS.eq_18, evS.eq_19, evE.eq_1, evE.eq_2, evE.eq_3, evE.eq_4, evE.eq_5, evE.eq_6, evE.eq_7, evE.eq_8, evE.eq_9, evE.eq_10, evE.eq_11, evE.eq_12, evE.eq_13, evE.eq_14, evE.eq_15, evE.eq_16, evE.eq_17, evE.eq_18, evE.eq_19, evE.eq_21, evE.eq_22, evE.eq_23, evO, evL, evI, evC, opds, Opd.get, pq_add, pq_sub, pq_mul, pq_fdiv, pq_mod, pq_pow, pq_neg, pq_idx, pq_len, pq_tuple, pq_list, pq_rg1, pq_rg2, pq_sorted, pq_abs, pq_int1, pq_max2, pq_min2, pq_all, pq_sum1, pq_lindex, pq_repr, pq_cmp, pq_isT, isData, isTy, of_some, Option.map_some, bd_ok, fl_ok, asBool_bl, cmpT, ltT, argsOut, pNeg, callO, lend, giveBack, T.pure, T.fz, T.fzs, fzs_ils, eqT_int, eqT_bl, eqT_tp, eqT_lst, pLen_tp, pLen_lst, bT_name, bT_tup, bT_lst, bTs_nil, bTs_cons, Option.bind_some, setAll, wipeE, unwipe, len_ils, isLst, line, Int.natCast_inj, isKey, any_ils, inT_ils, eqT_nil, eqT_nn, ils_app, pure_ils, items, h1, h1']), hsel]
      rcases hr0 with rfl | ⟨p0, rfl⟩
      · simp [-List.filterMap_map, -List.map_map, -List.map_set, -List.map_append, -List.any_map, -List.any_append, -List.all_map, -List.all_append, -List.map_take, -List.map_drop, -List.map_tail, -List.map_reverse, -List.map_dropLast, sat_nx, sat_rt, sat_bk, sat_ct, sat_if, osat_ok, Kn_at, sat_nil, sat_cons, sat_for, ForK_at, ev_lcK, LcK_t, LcK_l, LcK_lo, LcK_et, LcK_el, LcK_elo, RetK_at, NonK_at, evS.eq_1, evS.eq_2, evS.eq_3, evS.eq_4, evS.eq_5, evS.eq_6, evS.eq_7, evS.eq_8, evS.eq_9, evS.eq_10, evS.eq_11, evS.eq_12, evS.eq_15, evS.eq_16, evS.eq_17, evS.eq_18, evS.eq_19, evE.eq_1, evE.eq_2, evE.eq_3, evE.eq_4, evE.eq_5, evE.eq_6, evE.eq_7, evE.eq_8, evE.eq_9, evE.eq_10, evE.eq_11, evE.eq_12, evE.eq_13, evE.eq_14, evE.eq_15, evE.eq_16, evE.eq_17, evE.eq_18, evE.eq_19, evE.eq_21, evE.eq_22, evE.eq_23, evO, evL, evI, evC, opds, Opd.get, pq_add, pq_sub, pq_mul, pq_fdiv, pq_mod, pq_pow, pq_neg, pq_idx, pq_len, pq_tuple, pq_list, pq_rg1, pq_rg2, pq_sorted, pq_abs, pq_int1, pq_max2, pq_min2, pq_all, pq_sum1, pq_lindex, pq_repr, pq_cmp, pq_isT, isData, isTy, of_some, Option.map_some, bd_ok, fl_ok, asBool_bl, cmpT, ltT, argsOut, pNeg, callO, lend, giveBack, T.pure, T.fz, T.fzs, fzs_ils, eqT_int, eqT_bl, eqT_tp, eqT_lst, pLen_tp, pLen_lst, bT_name, bT_tup, bT_lst, bTs_nil, bTs_cons, Option.bind_some, setAll, wipeE, unwipe, len_ils, isLst, line, Int.natCast_inj, isKey, any_ils, inT_ils, eqT_nil, eqT_nn, ils_app, pure_ils, items]
      · simp [-List.filterMap_map, -List.map_map, -List.map_set, -List.map_append, -List.any_map, -List.any_append, -List.all_map, -List.all_append, -List.map_take, -List.map_drop, -List.map_tail, -List.map_reverse, -List.map_dropLast, sat_nx, sat_rt, sat_bk, sat_ct, sat_if, osat_ok, Kn_at, sat_nil, sat_cons, sat_for, ForK_at, ev_lcK, LcK_t, LcK_l, LcK_lo, LcK_et, LcK_el, LcK_elo, RetK_at, NonK_at, evS.eq_1, evS.eq_2, evS.eq_3, evS.eq_4, evS.eq_5, evS.eq_6, evS.eq_7, evS.eq_8, evS.eq_9, evS.eq_10, evS.eq_11, evS.eq_12, evS.eq_15, evS.eq_16, evS.eq_17, evS.eq_18, evS.eq_19, evE.eq_1, evE.eq_2, evE.eq_3, evE.eq_4, evE.eq_5, evE.eq_6, evE.eq_7, evE.eq_8, evE.eq_9, evE.eq_10, evE.eq_11, evE.eq_12, evE.eq_13, evE.eq_14, evE.eq_15, evE.eq_16, evE.eq_17, evE.eq_18, evE.eq_19, evE.eq_21, evE.eq_22, evE.eq_23, evO, evL, evI, evC, opds, Opd.get, pq_add, pq_sub, pq_mul, pq_fdiv, pq_mod, pq_pow, pq_neg, pq_idx, pq_len, pq_tuple, pq_list, pq_rg1, pq_rg2, pq_sorted, pq_abs, pq_int1, pq_max2, pq_min2, pq_all, pq_sum1, pq_lindex, pq_repr, pq_cmp, pq_isT, isData, isTy, of_some, Option.map_some, bd_ok, fl_ok, asBool_bl, cmpT, ltT, argsOut, pNeg, callO, lend, giveBack, T.pure, T.fz, T.fzs, fzs_ils, eqT_int, eqT_bl, eqT_tp, eqT_lst, pLen_tp, pLen_lst, bT_name, bT_tup, bT_lst, bTs_nil, bTs_cons, Option.bind_some, setAll, wipeE, unwipe, len_ils, isLst, line, Int.natCast_inj, isKey, any_ils, inT_ils, eqT_nil, eqT_nn, ils_app, pure_ils, items]
    have lcx := lc r hr
    have hN3 := hN' D3 y z (some (.int i)) (some (tp rr)) (some (.int y)) (some (.int z)) (some (.lst true (ils (lsOf (q.cutT (y, z)))))) (.inr ⟨_, rfl⟩) hD3 hyn oyz hyz
    have hD2' := hD2
    obtain ⟨l2, m2, c2, rfl, _⟩ := hD2'
    have hD3' := hD3
    obtain ⟨l3, m3, c3, rfl, _⟩ := hD3'
    simp [-List.filterMap_map, -List.map_map, -List.map_set, -List.map_append, -List.any_map, -List.any_append, -List.all_map, -List.all_append, -List.map_take, -List.map_drop, -List.map_tail, -List.map_reverse, -List.map_dropLast, sat_nx, sat_rt, sat_bk, sat_ct, sat_if, osat_ok, Kn_at, sat_nil, sat_cons, sat_for, ForK_at, ev_lcK, LcK_t, LcK_l, LcK_lo, LcK_et, LcK_el, LcK_elo, RetK_at, NonK_at, evS.eq_1, evS.eq_2, evS.eq_3, evS.eq_4, evS.eq_5, evS.eq_6, evS.eq_7, evS.eq_8, evS.eq_9, evS.eq_10, evS.eq_11, evS.eq_12, evS.eq_15, evS.eq_16, evS.eq_17, evS.eq_18, evS.eq_19, evE.eq_1, evE.eq_2, evE.eq_3, evE.eq_4, evE.eq_5, evE.eq_6, evE.eq_7, evE.eq_8, evE.eq_9, evE.eq_10, evE.eq_11, evE.eq_12, evE.eq_13, evE.eq_14, evE.eq_15, evE.eq_16, evE.eq_17, evE.eq_18, evE.eq_19, evE.eq_21, evE.eq_22, evE.eq_23, evO, evL, evI, evC, opds, Opd.get, pq_add, pq_sub, pq_mul, pq_fdiv, pq_mod, pq_pow, pq_neg, pq_idx, pq_len, pq_tuple, pq_list, pq_rg1, pq_rg2, pq_sorted, pq_abs, pq_int1, pq_max2, pq_min2, pq_all, pq_sum1, pq_lindex, pq_repr, pq_cmp, pq_isT, isData, isTy, of_some, Option.map_some, bd_ok, fl_ok, asBool_bl, cmpT, ltT, argsOut, pNeg, callO, lend, giveBack, T.pure, T.fz, T.fzs, fzs_ils, eqT_int, eqT_bl, eqT_tp, eqT_lst, pLen_tp, pLen_lst, bT_name, bT_tup, bT_lst, bTs_nil, bTs_cons, Option.bind_some, setAll, wipeE, unwipe, len_ils, isLst, line, Int.natCast_inj, isKey, any_ils, inT_ils, eqT_nil, eqT_nn, ils_app, pure_ils, items, setIxS, setIxT, pk32, s2, f8, lcx, pk29, s3, pList_tp, pk30, s4, e3, pSorted_lst, e2, hllen, f1, f2, f3, f4, f5, f6, f7, lsOf_len, set_ils, pTuple_lst]
    exact hN3
  · rintro e ⟨D1, l, b, r, x6, x7, x8, rfl, hr, hD1, hb, hll, hcl⟩
    rw [List.length_range] at hll
    have e1 : (l.map prt).all T.pure = true := by
      rw [List.all_eq_true]
      intro t ht
      obtain ⟨e, _, rfl⟩ := List.mem_map.mp ht
      rfl
    have e2 : pTuple (.lst true (l.map prt)) = some (.tup (l.map prt)) := by
      show (if (l.map prt).all T.pure = true then some (T.tup (l.map prt)) else none) = _
      rw [if_pos e1]
    simp [-List.filterMap_map, -List.map_map, -List.map_set, -List.map_append, -List.any_map, -List.any_append, -List.all_map, -List.all_append, -List.map_take, -List.map_drop, -List.map_tail, -List.map_reverse, -List.map_dropLast, sat_nx, sat_rt, sat_bk, sat_ct, sat_if, osat_ok, Kn_at, sat_nil, sat_cons, sat_for, ForK_at, ev_lcK, LcK_t, LcK_l, LcK_lo, LcK_et, LcK_el, LcK_elo, RetK_at, NonK_at, evS.eq_1, evS.eq_2, evS.eq_3, evS.eq_4, evS.eq_5, evS.eq_6, evS.eq_7, evS.eq_8, evS.eq_9, evS.eq_10, evS.eq_11, evS.eq_12, evS.eq_15, evS.eq_16, evS.eq_17, evS.eq_18, evS.eq_19, evE.eq_1, evE.eq_2, evE.eq_3, evE.eq_4, evE.eq_5, evE.eq_6, evE.eq_7, evE.eq_8, evE.eq_9, evE.eq_10, evE.eq_11, evE.eq_12, evE.eq_13, evE.eq_14, evE.eq_15, evE.eq_16, evE.eq_17, evE.eq_18, evE.eq_19, evE.eq_21, evE.eq_22, evE.eq_23, evO, evL, evI, evC, opds, Opd.get, pq_add, pq_sub, pq_mul, pq_fdiv, pq_mod, pq_pow, pq_neg, pq_idx, pq_len, pq_tuple, pq_list, pq_rg1, pq_rg2, pq_sorted, pq_abs, pq_int1, pq_max2, pq_min2, pq_all, pq_sum1, pq_lindex, pq_repr, pq_cmp, pq_isT, isData, isTy, of_some, Option.map_some, bd_ok, fl_ok, asBool_bl, cmpT, ltT, argsOut, pNeg, callO, lend, giveBack, T.pure, T.fz, T.fzs, fzs_ils, eqT_int, eqT_bl, eqT_tp, eqT_lst, pLen_tp, pLen_lst, bT_name, bT_tup, bT_lst, bTs_nil, bTs_cons, Option.bind_some, setAll, wipeE, unwipe, len_ils, isLst, line, Int.natCast_inj, isKey, any_ils, inT_ils, eqT_nil, eqT_nn, ils_app, pure_ils, items, e2]
    exact hQ _ _ ⟨D1, l, rfl, hD1, rfl, hb, hll, hcl⟩
end
end K91
end
section
set_option Elab.async false
set_option maxRecDepth 100000
set_option linter.all false
/-! W91m: walks: the law's look at rings. -/
open Ev
namespace K91
section
variable {w k n : Nat}
theorem q42 (h : 5 ≤ k) (c : Pm.Pm n) (hn : n ≤ 12) {D : T} (hD : Dice D) : ∃ t as, callK P w k 42 [D, tq c] = .ok t as ∧ ∃ (D' : T) (b : Pm.Pm n), as = [D', tq c] ∧ Dice D' ∧ t = tq b ∧ Pm.Pm.Lies b c := by
  refine callK_by (d := d42) _ rfl (by omega) rfl fun Q hQ => ?_
  obtain ⟨t, as, s1, D1, l, rfl, hD1, rfl, hb, hl, hcl⟩ := q36 (w := w) (k := k - 1) (by omega) c hn hD
  have hlen : Pm.Pm.len c ≤ n := by unfold Pm.Pm.len; omega
  obtain ⟨t, as, s2, r, D2, rfl, rfl, hr, hD2⟩ := q28 (w := w) (k := k - 1) (by omega) hD1 (n := l.length + 1) (by omega) (by omega)
  have s2 : callK P w (k - 1) 28 [D1, .int ((l.length : Int) + 1)] = .ok (.int r) [D2, .int ((l.length : Int) + 1)] := s2
  have s3 := q34 (w := w) (k := k - 1) (by omega) hn (l.take r) (fun e he => hb e (List.mem_of_mem_take he)) (by rw [List.length_take]; omega)
  have hL : Pm.Pm.Lies ((Pm.Pm.one n).cuts (l.take r)).inv c := Pm.Pm.first_lies (by
    have := hcl r (by omega)
    rw [List.length_take, show min r l.length = r by omega]
    exact this)
  have hq := hQ _ _ ⟨D2, _, rfl, hD2, rfl, hL⟩
  have e1 := slice_to_map (g := prt) (l := l) (i := r) (by omega)
  have e2 : pLen (.tup (l.map prt)) = some (.int l.length) := by
    show some (T.int ((l.map prt).length : Int)) = _
    rw [List.length_map]
  obtain ⟨l0, m0, c0, rfl, _⟩ := hD
  obtain ⟨l1, m1, c1, rfl, _⟩ := hD1
  obtain ⟨l2, m2, c2, rfl, _⟩ := hD2
  simp [-List.filterMap_map, -List.map_map, -List.map_set, -List.map_append, -List.any_map, -List.any_append, -List.all_map, -List.all_append, -List.map_take, -List.map_drop, -List.map_tail, -List.map_reverse, -List.map_dropLast, sat_nx, sat_rt, sat_bk, sat_ct, sat_if, osat_ok, Kn_at, sat_nil, sat_cons, sat_for, ForK_at, ev_lcK, LcK_t, LcK_l, LcK_lo, LcK_et, LcK_el, LcK_elo, RetK_at, NonK_at, evS.eq_1, evS.eq_2, evS.eq_3, evS.eq_4, evS.eq_5, evS.eq_6, evS.eq_7, evS.eq_8, evS.eq_9, evS.eq_10, evS.eq_11, evS.eq_12, evS.eq_15, evS.eq_16, evS.eq_17, evS.eq_18, evS.eq_19, evE.eq_1, evE.eq_2, evE.eq_3, evE.eq_4, evE.eq_5, evE.eq_6, evE.eq_7, evE.eq_8, evE.eq_9, evE.eq_10, evE.eq_11, evE.eq_12, evE.eq_13, evE.eq_14, evE.eq_15, evE.eq_16, evE.eq_17, evE.eq_18, evE.eq_19, evE.eq_21, evE.eq_22, evE.eq_23, evO, evL, evI, evC, opds, Opd.get, pq_add, pq_sub, pq_mul, pq_fdiv, pq_mod, pq_pow, pq_neg, pq_idx, pq_len, pq_tuple, pq_list, pq_rg1, pq_rg2, pq_sorted, pq_abs, pq_int1, pq_max2, pq_min2, pq_all, pq_sum1, pq_lindex, pq_repr, pq_cmp, pq_isT, isData, isTy, of_some, Option.map_some, bd_ok, fl_ok, asBool_bl, cmpT, ltT, argsOut, pNeg, callO, lend, giveBack, T.pure, T.fz, T.fzs, fzs_ils, eqT_int, eqT_bl, eqT_tp, eqT_lst, pLen_tp, pLen_lst, bT_name, bT_tup, bT_lst, bTs_nil, bTs_cons, Option.bind_some, setAll, wipeE, unwipe, len_ils, isLst, line, Int.natCast_inj, isKey, any_ils, inT_ils, eqT_nil, eqT_nn, ils_app, pure_ils, items, d42, b42, pk36, s1, pk34, pk28, e2, pAdd, s2, e1, lsOf_len, s3]
  exact hq
/-- where a row of booleans changes, round -/
def nb (M : List Bool) (i : Nat) : Bool := M.getD i false != M.getD (if i = 0 then M.length - 1 else i - 1) false
theorem chg_cnt : ∀ (M : List Bool) (a : Bool), ((List.range M.length).filter fun i => M.getD i false != (a :: M).getD i false).length = Pm.chg a M
  | [], a => rfl
  | b :: M, a => by
    rw [List.length_cons, List.range_succ_eq_map, List.filter_cons, List.filter_map]
    have ih := chg_cnt M b
    have e : ((fun i => (b :: M).getD i false != (a :: b :: M).getD i false) ∘ Nat.succ) = fun i => M.getD i false != (b :: M).getD i false := by
      funext i
      simp
    rw [e]
    unfold Pm.chg
    rw [← ih]
    by_cases q : b = a
    · subst q
      simp
    · have : (b != a) = true := by simpa using q
      simp [this, q]
      omega
theorem nb_cnt (M : List Bool) : ((List.range M.length).filter (nb M)).length = Pm.chg (M.getD (M.length - 1) false) M := by
  rw [← chg_cnt]
  congr 1
  refine List.filter_congr fun i hi => ?_
  unfold nb
  by_cases q : i = 0
  · subst q; simp
  · obtain ⟨j, rfl⟩ : ∃ j, i = j + 1 := ⟨i - 1, by omega⟩
    simp
theorem meet_cnt {A B H : List Nat} (hd : ∀ x ∈ A, x ∉ B) : 2 < ((List.range (Pm.marks A B H).length).filter (nb (Pm.marks A B H))).length ↔ Pm.Meet A B H := by
  rw [nb_cnt, ← Pm.four_marks hd]
  generalize Pm.marks A B H = M
  by_cases q : M = []
  · subst q
    simp [Pm.chg]
  · obtain ⟨M', a, rfl⟩ : ∃ M' a, M = M' ++ [a] := ⟨M.dropLast, M.getLast q, (List.dropLast_concat_getLast q).symm⟩
    have : (M' ++ [a]).getD ((M' ++ [a]).length - 1) false = a := by simp
    rw [this, Pm.chg_four]
abbrev bls (M : List Bool) : List T := M.map T.bl
theorem pIdx_bls {o : Bool} {M : List Bool} {i : Nat} (h : i < M.length) : pIdx (.lst o (bls M)) (.int i) = some (.bl (M.getD i false)) := by
  unfold pIdx
  simp only [List.length_map, pIx_nat h, Option.bind_some, List.getElem?_map, List.getElem?_eq_getElem h, Option.map_some]
  rw [List.getD_eq_getElem?_getD, List.getElem?_eq_getElem h]
  rfl
theorem pIdx_blm {o : Bool} {M : List Bool} {i : Nat} (h : i < M.length) : pIdx (.lst o (bls M)) (.int ((i : Int) - 1)) = some (.bl (M.getD (if i = 0 then M.length - 1 else i - 1) false)) := by
  by_cases q : i = 0
  · subst q
    rw [if_pos rfl]
    unfold pIdx
    have h1 : M.length - 1 < M.length := by omega
    have e : pIx (bls M).length (((0 : Nat) : Int) - 1) = some (M.length - 1) := by
      rw [List.length_map]
      exact pIx_last (by omega)
    simp only [e, Option.bind_some, List.getElem?_map, List.getElem?_eq_getElem h1, Option.map_some]
    rw [List.getD_eq_getElem?_getD, List.getElem?_eq_getElem h1]
    rfl
  · rw [if_neg q, show (i : Int) - 1 = ((i - 1 : Nat) : Int) by omega]
    exact pIdx_bls (by omega)
theorem fz_ils (o : Bool) (H : List Nat) : (T.lst o (ils H)).fz = .lst false (ils H) := by
  cases o
  · rfl
  · show T.lst false (T.fzs (ils H)) = _
    rw [fzs_ils]
open Classical in
theorem q39 (h : 1 ≤ k) {A B H : List Nat} (hd : ∀ x ∈ A, x ∉ B) (hH : H.length ≤ 12) : callK P w k 39 [tp A, tp B, .lst false (ils H)] = .ok (.bl (decide (Pm.Meet A B H))) [tp A, tp B, .lst false (ils H)] := by
  refine callK_is (d := d39) rfl (by omega) rfl ?_
  simp [-List.filterMap_map, -List.map_map, -List.map_set, -List.map_append, -List.any_map, -List.any_append, -List.all_map, -List.all_append, -List.map_take, -List.map_drop, -List.map_tail, -List.map_reverse, -List.map_dropLast, sat_nx, sat_rt, sat_bk, sat_ct, sat_if, osat_ok, Kn_at, sat_nil, sat_cons, sat_for, ForK_at, ev_lcK, LcK_t, LcK_l, LcK_lo, LcK_et, LcK_el, LcK_elo, RetK_at, NonK_at, evS.eq_1, evS.eq_2, evS.eq_3, evS.eq_4, evS.eq_5, evS.eq_6, evS.eq_7, evS.eq_8, evS.eq_9, evS.eq_10, evS.eq_11, evS.eq_12, evS.eq_15, evS.eq_16, evS.eq_17, evS.eq_18, evS.eq_19, evE.eq_1, evE.eq_2, evE.eq_3, evE.eq_4, evE.eq_5, evE.eq_6, evE.eq_7, evE.eq_8, evE.eq_9, evE.eq_10, evE.eq_11, evE.eq_12, evE.eq_13, evE.eq_14, evE.eq_15, evE.eq_16, evE.eq_17, evE.eq_18, evE.eq_19, evE.eq_21, evE.eq_22, evE.eq_23, evO, evL, evI, evC, opds, Opd.get, pq_add, pq_sub, pq_mul, pq_fdiv, pq_mod, pq_pow, pq_neg, pq_idx, pq_len, pq_tuple, pq_list, pq_rg1, pq_rg2, pq_sorted, pq_abs, pq_int1, pq_max2, pq_min2, pq_all, pq_sum1, pq_lindex, pq_repr, pq_cmp, pq_isT, isData, isTy, of_some, Option.map_some, bd_ok, fl_ok, asBool_bl, cmpT, ltT, argsOut, pNeg, callO, lend, giveBack, T.pure, T.fz, T.fzs, fzs_ils, eqT_int, eqT_bl, eqT_tp, eqT_lst, pLen_tp, pLen_lst, bT_name, bT_tup, bT_lst, bTs_nil, bTs_cons, Option.bind_some, setAll, wipeE, unwipe, len_ils, isLst, line, Int.natCast_inj, isKey, any_ils, inT_ils, eqT_nil, eqT_nn, ils_app, pure_ils, items, d39, b39]
  rw [lcG_gen (fun p : Nat => if (decide (p ∈ A) || decide (p ∈ B)) = true then some (T.bl (decide (p ∈ A))) else none) (by show _ ≤ 16777216; omega) (fun p hp => by
    refine ⟨_, rfl, ?_⟩
    by_cases h1 : p ∈ A
    · simp [-List.filterMap_map, -List.map_map, -List.map_set, -List.map_append, -List.any_map, -List.any_append, -List.all_map, -List.all_append, -List.map_take, -List.map_drop, -List.map_tail, -List.map_reverse, -List.map_dropLast, sat_nx, sat_rt, sat_bk, sat_ct, sat_if, osat_ok, Kn_at, sat_nil, sat_cons, sat_for, ForK_at, ev_lcK, LcK_t, LcK_l, LcK_lo, LcK_et, LcK_el, LcK_elo, RetK_at, NonK_at, evS.eq_1, evS.eq_2, evS.eq_3, evS.eq_4, evS.eq_5, evS.eq_6, evS.eq_7, evS.eq_8, evS.eq_9, evS.eq_10, evS.eq_11, evS.eq_12, evS.eq_15, evS.eq_16, evS.eq_17, evS.eq_18, evS.eq_19, evE.eq_1, evE.eq_2, evE.eq_3, evE.eq_4, evE.eq_5, evE.eq_6, evE.eq_7, evE.eq_8, evE.eq_9, evE.eq_10, evE.eq_11, evE.eq_12, evE.eq_13, evE.eq_14, evE.eq_15, evE.eq_16, evE.eq_17, evE.eq_18, evE.eq_19, evE.eq_21, evE.eq_22, evE.eq_23, evO, evL, evI, evC, opds, Opd.get, pq_add, pq_sub, pq_mul, pq_fdiv, pq_mod, pq_pow, pq_neg, pq_idx, pq_len, pq_tuple, pq_list, pq_rg1, pq_rg2, pq_sorted, pq_abs, pq_int1, pq_max2, pq_min2, pq_all, pq_sum1, pq_lindex, pq_repr, pq_cmp, pq_isT, isData, isTy, of_some, Option.map_some, bd_ok, fl_ok, asBool_bl, cmpT, ltT, argsOut, pNeg, callO, lend, giveBack, T.pure, T.fz, T.fzs, fzs_ils, eqT_int, eqT_bl, eqT_tp, eqT_lst, pLen_tp, pLen_lst, bT_name, bT_tup, bT_lst, bTs_nil, bTs_cons, Option.bind_some, setAll, wipeE, unwipe, len_ils, isLst, line, Int.natCast_inj, isKey, any_ils, inT_ils, eqT_nil, eqT_nn, ils_app, pure_ils, items, h1]
    · by_cases h2 : p ∈ B
      · simp [-List.filterMap_map, -List.map_map, -List.map_set, -List.map_append, -List.any_map, -List.any_append, -List.all_map, -List.all_append, -List.map_take, -List.map_drop, -List.map_tail, -List.map_reverse, -List.map_dropLast, sat_nx, sat_rt, sat_bk, sat_ct, sat_if, osat_ok, Kn_at, sat_nil, sat_cons, sat_for, ForK_at, ev_lcK, LcK_t, LcK_l, LcK_lo, LcK_et, LcK_el, LcK_elo, RetK_at, NonK_at, evS.eq_1, evS.eq_2, evS.eq_3, evS.eq_4, evS.eq_5, evS.eq_6, evS.eq_7, evS.eq_8, evS.eq_9, evS.eq_10, evS.eq_11, evS.eq_12, evS.eq_15, evS.eq_16, evS.eq_17, evS.eq_18, evS.eq_19, evE.eq_1, evE.eq_2, evE.eq_3, evE.eq_4, evE.eq_5, evE.eq_6, evE.eq_7, evE.eq_8, evE.eq_9, evE.eq_10, evE.eq_11, evE.eq_12, evE.eq_13, evE.eq_14, evE.eq_15, evE.eq_16, evE.eq_17, evE.eq_18, evE.eq_19, evE.eq_21, evE.eq_22, evE.eq_23, evO, evL, evI, evC, opds, Opd.get, pq_add, pq_sub, pq_mul, pq_fdiv, pq_mod, pq_pow, pq_neg, pq_idx, pq_len, pq_tuple, pq_list, pq_rg1, pq_rg2, pq_sorted, pq_abs, pq_int1, pq_max2, pq_min2, pq_all, pq_sum1, pq_lindex, pq_repr, pq_cmp, pq_isT, isData, isTy, of_some, Option.map_some, bd_ok, fl_ok, asBool_bl, cmpT, ltT, argsOut, pNeg, callO, lend, giveBack, T.pure, T.fz, T.fzs, fzs_ils, eqT_int, eqT_bl, eqT_tp, eqT_lst, pLen_tp, pLen_lst, bT_name, bT_tup, bT_lst, bTs_nil, bTs_cons, Option.bind_some, setAll, wipeE, unwipe, len_ils, isLst, line, Int.natCast_inj, isKey, any_ils, inT_ils, eqT_nil, eqT_nn, ils_app, pure_ils, items, h1, h2]
      · simp [-List.filterMap_map, -List.map_map, -List.map_set, -List.map_append, -List.any_map, -List.any_append, -List.all_map, -List.all_append, -List.map_take, -List.map_drop, -List.map_tail, -List.map_reverse, -List.map_dropLast, sat_nx, sat_rt, sat_bk, sat_ct, sat_if, osat_ok, Kn_at, sat_nil, sat_cons, sat_for, ForK_at, ev_lcK, LcK_t, LcK_l, LcK_lo, LcK_et, LcK_el, LcK_elo, RetK_at, NonK_at, evS.eq_1, evS.eq_2, evS.eq_3, evS.eq_4, evS.eq_5, evS.eq_6, evS.eq_7, evS.eq_8, evS.eq_9, evS.eq_10, evS.eq_11, evS.eq_12, evS.eq_15, evS.eq_16, evS.eq_17, evS.eq_18, evS.eq_19, evE.eq_1, evE.eq_2, evE.eq_3, evE.eq_4, evE.eq_5, evE.eq_6, evE.eq_7, evE.eq_8, evE.eq_9, evE.eq_10, evE.eq_11, evE.eq_12, evE.eq_13, evE.eq_14, evE.eq_15, evE.eq_16, evE.eq_17, evE.eq_18, evE.eq_19, evE.eq_21, evE.eq_22, evE.eq_23, evO, evL, evI, evC, opds, Opd.get, pq_add, pq_sub, pq_mul, pq_fdiv, pq_mod, pq_pow, pq_neg, pq_idx, pq_len, pq_tuple, pq_list, pq_rg1, pq_rg2, pq_sorted, pq_abs, pq_int1, pq_max2, pq_min2, pq_all, pq_sum1, pq_lindex, pq_repr, pq_cmp, pq_isT, isData, isTy, of_some, Option.map_some, bd_ok, fl_ok, asBool_bl, cmpT, ltT, argsOut, pNeg, callO, lend, giveBack, T.pure, T.fz, T.fzs, fzs_ils, eqT_int, eqT_bl, eqT_tp, eqT_lst, pLen_tp, pLen_lst, bT_name, bT_tup, bT_lst, bTs_nil, bTs_cons, Option.bind_some, setAll, wipeE, unwipe, len_ils, isLst, line, Int.natCast_inj, isKey, any_ils, inT_ils, eqT_nil, eqT_nn, ils_app, pure_ils, items, h1, h2])]
  rw [filterMap_if (fun p : Nat => T.bl (decide (p ∈ A))) (fun p => (decide (p ∈ A) || decide (p ∈ B)) = true)]
  have e1 : ((H.filter fun p => decide ((decide (p ∈ A) || decide (p ∈ B)) = true)).map fun p : Nat => T.bl (decide (p ∈ A))) = bls (Pm.marks A B H) := by
    unfold Pm.marks bls
    rw [List.map_map]
    congr 1
    refine List.filter_congr fun x _ => ?_
    simp
  rw [e1]
  have hm : (Pm.marks A B H).length ≤ 12 := by
    unfold Pm.marks
    rw [List.length_map]
    exact Nat.le_trans (List.length_filter_le _ _) hH
  have hmc := meet_cnt (H := H) hd
  generalize Pm.marks A B H = M at hm hmc
  have e2 : ∀ o, pLen (.lst o (bls M)) = some (.int M.length) := fun o => by
    show some (T.int ((M.map T.bl).length : Int)) = _
    rw [List.length_map]
  simp [-List.filterMap_map, -List.map_map, -List.map_set, -List.map_append, -List.any_map, -List.any_append, -List.all_map, -List.all_append, -List.map_take, -List.map_drop, -List.map_tail, -List.map_reverse, -List.map_dropLast, sat_nx, sat_rt, sat_bk, sat_ct, sat_if, osat_ok, Kn_at, sat_nil, sat_cons, sat_for, ForK_at, ev_lcK, LcK_t, LcK_l, LcK_lo, LcK_et, LcK_el, LcK_elo, RetK_at, NonK_at, evS.eq_1, evS.eq_2, evS.eq_3, evS.eq_4, evS.eq_5, evS.eq_6, evS.eq_7, evS.eq_8, evS.eq_9, evS.eq_10, evS.eq_11, evS.eq_12, evS.eq_15, evS.eq_16, evS.eq_17, evS.eq_18, evS.eq_19, evE.eq_1, evE.eq_2, evE.eq_3, evE.eq_4, evE.eq_5, evE.eq_6, evE.eq_7, evE.eq_8, evE.eq_9, evE.eq_10, evE.eq_11, evE.eq_12, evE.eq_13, evE.eq_14, evE.eq_15, evE.eq_16, evE.eq_17, evE.eq_18, evE.eq_19, evE.eq_21, evE.eq_22, evE.eq_23, evO, evL, evI, evC, opds, Opd.get, pq_add, pq_sub, pq_mul, pq_fdiv, pq_mod, pq_pow, pq_neg, pq_idx, pq_len, pq_tuple, pq_list, pq_rg1, pq_rg2, pq_sorted, pq_abs, pq_int1, pq_max2, pq_min2, pq_all, pq_sum1, pq_lindex, pq_repr, pq_cmp, pq_isT, isData, isTy, of_some, Option.map_some, bd_ok, fl_ok, asBool_bl, cmpT, ltT, argsOut, pNeg, callO, lend, giveBack, T.pure, T.fz, T.fzs, fzs_ils, eqT_int, eqT_bl, eqT_tp, eqT_lst, pLen_tp, pLen_lst, bT_name, bT_tup, bT_lst, bTs_nil, bTs_cons, Option.bind_some, setAll, wipeE, unwipe, len_ils, isLst, line, Int.natCast_inj, isKey, any_ils, inT_ils, eqT_nil, eqT_nn, ils_app, pure_ils, items, e2, LcK_r (show M.length < 1000000 by omega)]
  rw [lcG_gen (fun i : Nat => if nb M i = true then some (T.int (i : Nat)) else none) (by rw [List.length_range]; show _ ≤ 16777216; omega) (fun i hi => by
    have hi := List.mem_range.mp hi
    have f1 := pIdx_bls (o := true) hi
    have f2 := pIdx_blm (o := true) hi
    refine ⟨_, rfl, ?_⟩
    have f3 : nb M i = !(M.getD i false == M.getD (if i = 0 then M.length - 1 else i - 1) false) := rfl
    generalize M.getD i false = x at f1 f3
    generalize M.getD (if i = 0 then M.length - 1 else i - 1) false = y at f2 f3
    simp [-List.filterMap_map, -List.map_map, -List.map_set, -List.map_append, -List.any_map, -List.any_append, -List.all_map, -List.all_append, -List.map_take, -List.map_drop, -List.map_tail, -List.map_reverse, -List.map_dropLast, sat_nx, sat_rt, sat_bk, sat_ct, sat_if, osat_ok, Kn_at, sat_nil, sat_cons, sat_for, ForK_at, ev_lcK, LcK_t, LcK_l, LcK_lo, LcK_et, LcK_el, LcK_elo, RetK_at, NonK_at, evS.eq_1, evS.eq_2, evS.eq_3, evS.eq_4, evS.eq_5, evS.eq_6, evS.eq_7, evS.eq_8, evS.eq_9, evS.eq_10, evS.eq_11, evS.eq_12, evS.eq_15, evS.eq_16, evS.eq_17, evS.eq_18, evS.eq_19, evE.eq_1, evE.eq_2, evE.eq_3, evE.eq_4, evE.eq_5, evE.eq_6, evE.eq_7, evE.eq_8, evE.eq_9, evE.eq_10, evE.eq_11, evE.eq_12, evE.eq_13, evE.eq_14, evE.eq_15, evE.eq_16, evE.eq_17, evE.eq_18, evE.eq_19, evE.eq_21, evE.eq_22, evE.eq_23, evO, evL, evI, evC, opds, Opd.get, pq_add, pq_sub, pq_mul, pq_fdiv, pq_mod, pq_pow, pq_neg, pq_idx, pq_len, pq_tuple, pq_list, pq_rg1, pq_rg2, pq_sorted, pq_abs, pq_int1, pq_max2, pq_min2, pq_all, pq_sum1, pq_lindex, pq_repr, pq_cmp, pq_isT, isData, isTy, of_some, Option.map_some, bd_ok, fl_ok, asBool_bl, cmpT, ltT, argsOut, pNeg, callO, lend, giveBack, T.pure, T.fz, T.fzs, fzs_ils, eqT_int, eqT_bl, eqT_tp, eqT_lst, pLen_tp, pLen_lst, bT_name, bT_tup, bT_lst, bTs_nil, bTs_cons, Option.bind_some, setAll, wipeE, unwipe, len_ils, isLst, line, Int.natCast_inj, isKey, any_ils, inT_ils, eqT_nil, eqT_nn, ils_app, pure_ils, items, pSub, f1, f2, f3]
    by_cases q : x = y <;> simp [q])]
  rw [filterMap_if (fun i : Nat => T.int (i : Nat)) (fun i => nb M i = true)]
  have e3 : (List.range M.length).filter (fun i => decide (nb M i = true)) = (List.range M.length).filter (nb M) := List.filter_congr fun x _ => by simp
  rw [e3]
  have e4 : pLen (.lst true (((List.range M.length).filter (nb M)).map fun i : Nat => T.int (i : Nat))) = some (.int ((List.range M.length).filter (nb M)).length) := pLen_lst true _
  generalize (List.range M.length).filter (nb M) = L at hmc e4
  simp [-List.filterMap_map, -List.map_map, -List.map_set, -List.map_append, -List.any_map, -List.any_append, -List.all_map, -List.all_append, -List.map_take, -List.map_drop, -List.map_tail, -List.map_reverse, -List.map_dropLast, sat_nx, sat_rt, sat_bk, sat_ct, sat_if, osat_ok, Kn_at, sat_nil, sat_cons, sat_for, ForK_at, ev_lcK, LcK_t, LcK_l, LcK_lo, LcK_et, LcK_el, LcK_elo, RetK_at, NonK_at, evS.eq_1, evS.eq_2, evS.eq_3, evS.eq_4, evS.eq_5, evS.eq_6, evS.eq_7, evS.eq_8, evS.eq_9, evS.eq_10, evS.eq_11, evS.eq_12, evS.eq_15, evS.eq_16, evS.eq_17, evS.eq_18, evS.eq_19, evE.eq_1, evE.eq_2, evE.eq_3, evE.eq_4, evE.eq_5, evE.eq_6, evE.eq_7, evE.eq_8, evE.eq_9, evE.eq_10, evE.eq_11, evE.eq_12, evE.eq_13, evE.eq_14, evE.eq_15, evE.eq_16, evE.eq_17, evE.eq_18, evE.eq_19, evE.eq_21, evE.eq_22, evE.eq_23, evO, evL, evI, evC, opds, Opd.get, pq_add, pq_sub, pq_mul, pq_fdiv, pq_mod, pq_pow, pq_neg, pq_idx, pq_len, pq_tuple, pq_list, pq_rg1, pq_rg2, pq_sorted, pq_abs, pq_int1, pq_max2, pq_min2, pq_all, pq_sum1, pq_lindex, pq_repr, pq_cmp, pq_isT, isData, isTy, of_some, Option.map_some, bd_ok, fl_ok, asBool_bl, cmpT, ltT, argsOut, pNeg, callO, lend, giveBack, T.pure, T.fz, T.fzs, fzs_ils, eqT_int, eqT_bl, eqT_tp, eqT_lst, pLen_tp, pLen_lst, bT_name, bT_tup, bT_lst, bTs_nil, bTs_cons, Option.bind_some, setAll, wipeE, unwipe, len_ils, isLst, line, Int.natCast_inj, isKey, any_ils, inT_ils, eqT_nil, eqT_nn, ils_app, pure_ils, items, e4, ← hmc]
  omega
open Classical in
theorem q40 (hw : 20 ≤ w) (h : 3 ≤ k) (a c : Pm.Pm n) (hn : n ≤ 12) : ∃ t as, callK P w k 40 [tq a, tq c] = .ok t as ∧ as = [tq a, tq c] ∧ ((t = .bl true ∧ Pm.Pm.Lies a c) ∨ (t = .bl false ∧ ¬ Pm.Pm.Lies a c)) := by
  refine callK_by (d := d40) _ rfl (by omega) rfl fun Q hQ => ?_
  rw [Pm.Pm.lies_law] at hQ
  have s1 := q32 (w := w) (k := k - 1) (by omega) a hn
  have f1 := fzs_tps a.rings
  have hrl : a.rings.length ≤ n := by rw [Pm.Pm.rings_len]; exact Pm.Pm.cyc_le a
  have hri : ∀ (i : Nat) (hi : i < a.rings.length), ∃ hi' : i < a.heads.length, a.rings[i] = a.ring a.heads[i] := fun i hi => by
    have : a.rings.length = a.heads.length := List.length_map _
    exact ⟨by omega, by simp [Pm.Pm.rings]⟩
  simp [-List.filterMap_map, -List.map_map, -List.map_set, -List.map_append, -List.any_map, -List.any_append, -List.all_map, -List.all_append, -List.map_take, -List.map_drop, -List.map_tail, -List.map_reverse, -List.map_dropLast, sat_nx, sat_rt, sat_bk, sat_ct, sat_if, osat_ok, Kn_at, sat_nil, sat_cons, sat_for, ForK_at, ev_lcK, LcK_t, LcK_l, LcK_lo, LcK_et, LcK_el, LcK_elo, RetK_at, NonK_at, evS.eq_1, evS.eq_2, evS.eq_3, evS.eq_4, evS.eq_5, evS.eq_6, evS.eq_7, evS.eq_8, evS.eq_9, evS.eq_10, evS.eq_11, evS.eq_12, evS.eq_15, evS.eq_16, evS.eq_17, evS.eq_18, evS.eq_19, evE.eq_1, evE.eq_2, evE.eq_3, evE.eq_4, evE.eq_5, evE.eq_6, evE.eq_7, evE.eq_8, evE.eq_9, evE.eq_10, evE.eq_11, evE.eq_12, evE.eq_13, evE.eq_14, evE.eq_15, evE.eq_16, evE.eq_17, evE.eq_18, evE.eq_19, evE.eq_21, evE.eq_22, evE.eq_23, evO, evL, evI, evC, opds, Opd.get, pq_add, pq_sub, pq_mul, pq_fdiv, pq_mod, pq_pow, pq_neg, pq_idx, pq_len, pq_tuple, pq_list, pq_rg1, pq_rg2, pq_sorted, pq_abs, pq_int1, pq_max2, pq_min2, pq_all, pq_sum1, pq_lindex, pq_repr, pq_cmp, pq_isT, isData, isTy, of_some, Option.map_some, bd_ok, fl_ok, asBool_bl, cmpT, ltT, argsOut, pNeg, callO, lend, giveBack, T.pure, T.fz, T.fzs, fzs_ils, eqT_int, eqT_bl, eqT_tp, eqT_lst, pLen_tp, pLen_lst, bT_name, bT_tup, bT_lst, bTs_nil, bTs_cons, Option.bind_some, setAll, wipeE, unwipe, len_ils, isLst, line, Int.natCast_inj, isKey, any_ils, inT_ils, eqT_nil, eqT_nn, ils_app, pure_ils, items, d40, b40, pk32, s1, f1, iter_enum_lst]
  refine forG_inv (I := fun i env => (∃ b r hm, env = [some (tq a), some (tq c), some (.lst false (tps a.rings)), b, r, hm, none, none]) ∧ ∀ j (hj : j < a.heads.length), j < i → ((c.ring a.heads[j]).filter fun y => decide (y ∈ a.ring a.heads[j])) = a.ring a.heads[j] ∧ ∀ l (hl : l < a.heads.length), l < j → a.heads[l] ∈ c.ring a.heads[j] → ¬ Pm.Meet (a.ring a.heads[j]) (a.ring a.heads[l]) (c.ring a.heads[j])) ⟨⟨none, none, none, rfl⟩, fun j _ h0 => absurd h0 (Nat.not_lt_zero j)⟩ ?_ ?_
  · rintro i t e ht ⟨⟨b, r, hm, rfl⟩, hI⟩
    obtain ⟨hi, rfl⟩ := enum_get_tps ht
    obtain ⟨hi', e1⟩ := hri i hi
    rw [e1]
    have hx := head_at a hi'
    have hxm := List.getElem_mem hi'
    have hlow : ∀ l (hl : l < a.heads.length), l < i → a.heads[l] < a.heads[i] := fun l hl hli => List.pairwise_iff_getElem.mp a.heads_sorted l i hl hi' hli
    have hnext : ∀ x, a.heads[i] = x → ((c.ring x).filter fun y => decide (y ∈ a.ring x)) = a.ring x → (∀ l (hl : l < a.heads.length), l < i → a.heads[l] ∈ c.ring x → ¬ Pm.Meet (a.ring x) (a.ring a.heads[l]) (c.ring x)) → ∀ j (hj : j < a.heads.length), j < i + 1 → ((c.ring a.heads[j]).filter fun y => decide (y ∈ a.ring a.heads[j])) = a.ring a.heads[j] ∧ ∀ l (hl : l < a.heads.length), l < j → a.heads[l] ∈ c.ring a.heads[j] → ¬ Pm.Meet (a.ring a.heads[j]) (a.ring a.heads[l]) (c.ring a.heads[j]) := by
      rintro x rfl h1 h2 j hj hji
      by_cases q : j = i
      · subst q; exact ⟨h1, h2⟩
      · exact hI j hj (by omega)
    generalize a.heads[i] = x at hx hxm hlow hnext
    have s2 := pIdx_ring0 a hx
    have s3 := q38 (w := w) (k := k - 1) (by omega) c hn hx
    have hcl : (c.ring x).length ≤ 12 := by rw [Pm.Pm.ring_len]; have := c.per_le hx; omega
    refine ⟨_, rfl, fun N hN => ?_⟩
    simp [-List.filterMap_map, -List.map_map, -List.map_set, -List.map_append, -List.any_map, -List.any_append, -List.all_map, -List.all_append, -List.map_take, -List.map_drop, -List.map_tail, -List.map_reverse, -List.map_dropLast, sat_nx, sat_rt, sat_bk, sat_ct, sat_if, osat_ok, Kn_at, sat_nil, sat_cons, sat_for, ForK_at, ev_lcK, LcK_t, LcK_l, LcK_lo, LcK_et, LcK_el, LcK_elo, RetK_at, NonK_at, evS.eq_1, evS.eq_2, evS.eq_3, evS.eq_4, evS.eq_5, evS.eq_6, evS.eq_7, evS.eq_8, evS.eq_9, evS.eq_10, evS.eq_11, evS.eq_12, evS.eq_15, evS.eq_16, evS.eq_17, evS.eq_18, evS.eq_19, evE.eq_1, evE.eq_2, evE.eq_3, evE.eq_4, evE.eq_5, evE.eq_6, evE.eq_7, evE.eq_8, evE.eq_9, evE.eq_10, evE.eq_11, evE.eq_12, evE.eq_13, evE.eq_14, evE.eq_15, evE.eq_16, evE.eq_17, evE.eq_18, evE.eq_19, evE.eq_21, evE.eq_22, evE.eq_23, evO, evL, evI, evC, opds, Opd.get, pq_add, pq_sub, pq_mul, pq_fdiv, pq_mod, pq_pow, pq_neg, pq_idx, pq_len, pq_tuple, pq_list, pq_rg1, pq_rg2, pq_sorted, pq_abs, pq_int1, pq_max2, pq_min2, pq_all, pq_sum1, pq_lindex, pq_repr, pq_cmp, pq_isT, isData, isTy, of_some, Option.map_some, bd_ok, fl_ok, asBool_bl, cmpT, ltT, argsOut, pNeg, callO, lend, giveBack, T.pure, T.fz, T.fzs, fzs_ils, eqT_int, eqT_bl, eqT_tp, eqT_lst, pLen_tp, pLen_lst, bT_name, bT_tup, bT_lst, bTs_nil, bTs_cons, Option.bind_some, setAll, wipeE, unwipe, len_ils, isLst, line, Int.natCast_inj, isKey, any_ils, inT_ils, eqT_nil, eqT_nn, ils_app, pure_ils, items, s2, pk38, s3]
    rw [lcG_gen (fun y : Nat => if y ∈ a.ring x then some (T.int (y : Nat)) else none) (by show _ ≤ 16777216; omega) (fun y hy => by
      refine ⟨_, rfl, ?_⟩
      by_cases h1 : y ∈ a.ring x
      · simp [-List.filterMap_map, -List.map_map, -List.map_set, -List.map_append, -List.any_map, -List.any_append, -List.all_map, -List.all_append, -List.map_take, -List.map_drop, -List.map_tail, -List.map_reverse, -List.map_dropLast, sat_nx, sat_rt, sat_bk, sat_ct, sat_if, osat_ok, Kn_at, sat_nil, sat_cons, sat_for, ForK_at, ev_lcK, LcK_t, LcK_l, LcK_lo, LcK_et, LcK_el, LcK_elo, RetK_at, NonK_at, evS.eq_1, evS.eq_2, evS.eq_3, evS.eq_4, evS.eq_5, evS.eq_6, evS.eq_7, evS.eq_8, evS.eq_9, evS.eq_10, evS.eq_11, evS.eq_12, evS.eq_15, evS.eq_16, evS.eq_17, evS.eq_18, evS.eq_19, evE.eq_1, evE.eq_2, evE.eq_3, evE.eq_4, evE.eq_5, evE.eq_6, evE.eq_7, evE.eq_8, evE.eq_9, evE.eq_10, evE.eq_11, evE.eq_12, evE.eq_13, evE.eq_14, evE.eq_15, evE.eq_16, evE.eq_17, evE.eq_18, evE.eq_19, evE.eq_21, evE.eq_22, evE.eq_23, evO, evL, evI, evC, opds, Opd.get, pq_add, pq_sub, pq_mul, pq_fdiv, pq_mod, pq_pow, pq_neg, pq_idx, pq_len, pq_tuple, pq_list, pq_rg1, pq_rg2, pq_sorted, pq_abs, pq_int1, pq_max2, pq_min2, pq_all, pq_sum1, pq_lindex, pq_repr, pq_cmp, pq_isT, isData, isTy, of_some, Option.map_some, bd_ok, fl_ok, asBool_bl, cmpT, ltT, argsOut, pNeg, callO, lend, giveBack, T.pure, T.fz, T.fzs, fzs_ils, eqT_int, eqT_bl, eqT_tp, eqT_lst, pLen_tp, pLen_lst, bT_name, bT_tup, bT_lst, bTs_nil, bTs_cons, Option.bind_some, setAll, wipeE, unwipe, len_ils, isLst, line, Int.natCast_inj, isKey, any_ils, inT_ils, eqT_nil, eqT_nn, ils_app, pure_ils, items, h1]
      · simp [-List.filterMap_map, -List.map_map, -List.map_set, -List.map_append, -List.any_map, -List.any_append, -List.all_map, -List.all_append, -List.map_take, -List.map_drop, -List.map_tail, -List.map_reverse, -List.map_dropLast, sat_nx, sat_rt, sat_bk, sat_ct, sat_if, osat_ok, Kn_at, sat_nil, sat_cons, sat_for, ForK_at, ev_lcK, LcK_t, LcK_l, LcK_lo, LcK_et, LcK_el, LcK_elo, RetK_at, NonK_at, evS.eq_1, evS.eq_2, evS.eq_3, evS.eq_4, evS.eq_5, evS.eq_6, evS.eq_7, evS.eq_8, evS.eq_9, evS.eq_10, evS.eq_11, evS.eq_12, evS.eq_15, evS.eq_16, evS.eq_17, evS.eq_18, evS.eq_19, evE.eq_1, evE.eq_2, evE.eq_3, evE.eq_4, evE.eq_5, evE.eq_6, evE.eq_7, evE.eq_8, evE.eq_9, evE.eq_10, evE.eq_11, evE.eq_12, evE.eq_13, evE.eq_14, evE.eq_15, evE.eq_16, evE.eq_17, evE.eq_18, evE.eq_19, evE.eq_21, evE.eq_22, evE.eq_23, evO, evL, evI, evC, opds, Opd.get, pq_add, pq_sub, pq_mul, pq_fdiv, pq_mod, pq_pow, pq_neg, pq_idx, pq_len, pq_tuple, pq_list, pq_rg1, pq_rg2, pq_sorted, pq_abs, pq_int1, pq_max2, pq_min2, pq_all, pq_sum1, pq_lindex, pq_repr, pq_cmp, pq_isT, isData, isTy, of_some, Option.map_some, bd_ok, fl_ok, asBool_bl, cmpT, ltT, argsOut, pNeg, callO, lend, giveBack, T.pure, T.fz, T.fzs, fzs_ils, eqT_int, eqT_bl, eqT_tp, eqT_lst, pLen_tp, pLen_lst, bT_name, bT_tup, bT_lst, bTs_nil, bTs_cons, Option.bind_some, setAll, wipeE, unwipe, len_ils, isLst, line, Int.natCast_inj, isKey, any_ils, inT_ils, eqT_nil, eqT_nn, ils_app, pure_ils, items, h1])]
    rw [filterMap_if (fun y : Nat => T.int (y : Nat)) (fun y => y ∈ a.ring x)]
    simp [-List.filterMap_map, -List.map_map, -List.map_set, -List.map_append, -List.any_map, -List.any_append, -List.all_map, -List.all_append, -List.map_take, -List.map_drop, -List.map_tail, -List.map_reverse, -List.map_dropLast, sat_nx, sat_rt, sat_bk, sat_ct, sat_if, osat_ok, Kn_at, sat_nil, sat_cons, sat_for, ForK_at, ev_lcK, LcK_t, LcK_l, LcK_lo, LcK_et, LcK_el, LcK_elo, RetK_at, NonK_at, evS.eq_1, evS.eq_2, evS.eq_3, evS.eq_4, evS.eq_5, evS.eq_6, evS.eq_7, evS.eq_8, evS.eq_9, evS.eq_10, evS.eq_11, evS.eq_12, evS.eq_15, evS.eq_16, evS.eq_17, evS.eq_18, evS.eq_19, evE.eq_1, evE.eq_2, evE.eq_3, evE.eq_4, evE.eq_5, evE.eq_6, evE.eq_7, evE.eq_8, evE.eq_9, evE.eq_10, evE.eq_11, evE.eq_12, evE.eq_13, evE.eq_14, evE.eq_15, evE.eq_16, evE.eq_17, evE.eq_18, evE.eq_19, evE.eq_21, evE.eq_22, evE.eq_23, evO, evL, evI, evC, opds, Opd.get, pq_add, pq_sub, pq_mul, pq_fdiv, pq_mod, pq_pow, pq_neg, pq_idx, pq_len, pq_tuple, pq_list, pq_rg1, pq_rg2, pq_sorted, pq_abs, pq_int1, pq_max2, pq_min2, pq_all, pq_sum1, pq_lindex, pq_repr, pq_cmp, pq_isT, isData, isTy, of_some, Option.map_some, bd_ok, fl_ok, asBool_bl, cmpT, ltT, argsOut, pNeg, callO, lend, giveBack, T.pure, T.fz, T.fzs, fzs_ils, eqT_int, eqT_bl, eqT_tp, eqT_lst, pLen_tp, pLen_lst, bT_name, bT_tup, bT_lst, bTs_nil, bTs_cons, Option.bind_some, setAll, wipeE, unwipe, len_ils, isLst, line, Int.natCast_inj, isKey, any_ils, inT_ils, eqT_nil, eqT_nn, ils_app, pure_ils, items, pList_tp]
    by_cases q1 : ((c.ring x).filter fun y => decide (y ∈ a.ring x)) = a.ring x
    · have f2 := slice_to_tps (o := false) (l := a.rings) (i := i) (by omega)
      have f3 := fzs_tps (a.rings.take i)
      simp [-List.filterMap_map, -List.map_map, -List.map_set, -List.map_append, -List.any_map, -List.any_append, -List.all_map, -List.all_append, -List.map_take, -List.map_drop, -List.map_tail, -List.map_reverse, -List.map_dropLast, sat_nx, sat_rt, sat_bk, sat_ct, sat_if, osat_ok, Kn_at, sat_nil, sat_cons, sat_for, ForK_at, ev_lcK, LcK_t, LcK_l, LcK_lo, LcK_et, LcK_el, LcK_elo, RetK_at, NonK_at, evS.eq_1, evS.eq_2, evS.eq_3, evS.eq_4, evS.eq_5, evS.eq_6, evS.eq_7, evS.eq_8, evS.eq_9, evS.eq_10, evS.eq_11, evS.eq_12, evS.eq_15, evS.eq_16, evS.eq_17, evS.eq_18, evS.eq_19, evE.eq_1, evE.eq_2, evE.eq_3, evE.eq_4, evE.eq_5, evE.eq_6, evE.eq_7, evE.eq_8, evE.eq_9, evE.eq_10, evE.eq_11, evE.eq_12, evE.eq_13, evE.eq_14, evE.eq_15, evE.eq_16, evE.eq_17, evE.eq_18, evE.eq_19, evE.eq_21, evE.eq_22, evE.eq_23, evO, evL, evI, evC, opds, Opd.get, pq_add, pq_sub, pq_mul, pq_fdiv, pq_mod, pq_pow, pq_neg, pq_idx, pq_len, pq_tuple, pq_list, pq_rg1, pq_rg2, pq_sorted, pq_abs, pq_int1, pq_max2, pq_min2, pq_all, pq_sum1, pq_lindex, pq_repr, pq_cmp, pq_isT, isData, isTy, of_some, Option.map_some, bd_ok, fl_ok, asBool_bl, cmpT, ltT, argsOut, pNeg, callO, lend, giveBack, T.pure, T.fz, T.fzs, fzs_ils, eqT_int, eqT_bl, eqT_tp, eqT_lst, pLen_tp, pLen_lst, bT_name, bT_tup, bT_lst, bTs_nil, bTs_cons, Option.bind_some, setAll, wipeE, unwipe, len_ils, isLst, line, Int.natCast_inj, isKey, any_ils, inT_ils, eqT_nil, eqT_nn, ils_app, pure_ils, items, q1, f2, f3]
      have hrt : ∀ r ∈ a.rings.take i, ∃ l, ∃ hl : l < a.heads.length, l < i ∧ r = a.ring a.heads[l] := by
        intro r hr
        obtain ⟨l, hl, e⟩ := List.getElem_of_mem hr
        rw [List.length_take] at hl
        rw [List.getElem_take] at e
        obtain ⟨hl', e2⟩ := hri l (by omega)
        exact ⟨l, hl', by omega, by rw [← e, e2]⟩
      have hg0 : ∀ l (hl : l < a.heads.length), (a.ring a.heads[l]).getD 0 0 = a.heads[l] := fun l hl => by
        rw [List.getD_eq_getElem?_getD, a.ring_zero (head_at a hl)]
        rfl
      rw [lcG_gen (fun r : List Nat => if r.getD 0 0 ∈ c.ring x ∧ Pm.Meet (a.ring x) r (c.ring x) then some (tp r) else none) (by rw [List.length_take]; show _ ≤ 16777216; omega) (fun r hr => by
        obtain ⟨l, hl, hli, rfl⟩ := hrt r hr
        have g1 := pIdx_ring0 a (head_at a hl)
        have g2 := hlow l hl hli
        have g3 := hg0 l hl
        rw [List.getD_eq_getElem?_getD] at g3
        have g4 := q39 (w := w) (k := k - 1) (by omega) (A := a.ring x) (B := a.ring a.heads[l]) (H := c.ring x) (Pm.Pm.ring_apart hxm (List.getElem_mem hl) (by omega)) hcl
        generalize a.heads[l] = x' at g1 g2 g3 g4
        refine ⟨_, rfl, ?_⟩
        by_cases h1 : x' ∈ c.ring x
        · by_cases h2 : Pm.Meet (a.ring x) (a.ring x') (c.ring x)
          · simp [-List.filterMap_map, -List.map_map, -List.map_set, -List.map_append, -List.any_map, -List.any_append, -List.all_map, -List.all_append, -List.map_take, -List.map_drop, -List.map_tail, -List.map_reverse, -List.map_dropLast, sat_nx, sat_rt, sat_bk, sat_ct, sat_if, osat_ok, Kn_at, sat_nil, sat_cons, sat_for, ForK_at, ev_lcK, LcK_t, LcK_l, LcK_lo, LcK_et, LcK_el, LcK_elo, RetK_at, NonK_at, evS.eq_1, evS.eq_2, evS.eq_3, evS.eq_4, evS.eq_5, evS.eq_6, evS.eq_7, evS.eq_8, evS.eq_9, evS.eq_10, evS.eq_11, evS.eq_12, evS.eq_15, evS.eq_16, evS.eq_17, evS.eq_18, evS.eq_19, evE.eq_1, evE.eq_2, evE.eq_3, evE.eq_4, evE.eq_5, evE.eq_6, evE.eq_7, evE.eq_8, evE.eq_9, evE.eq_10, evE.eq_11, evE.eq_12, evE.eq_13, evE.eq_14, evE.eq_15, evE.eq_16, evE.eq_17, evE.eq_18, evE.eq_19, evE.eq_21, evE.eq_22, evE.eq_23, evO, evL, evI, evC, opds, Opd.get, pq_add, pq_sub, pq_mul, pq_fdiv, pq_mod, pq_pow, pq_neg, pq_idx, pq_len, pq_tuple, pq_list, pq_rg1, pq_rg2, pq_sorted, pq_abs, pq_int1, pq_max2, pq_min2, pq_all, pq_sum1, pq_lindex, pq_repr, pq_cmp, pq_isT, isData, isTy, of_some, Option.map_some, bd_ok, fl_ok, asBool_bl, cmpT, ltT, argsOut, pNeg, callO, lend, giveBack, T.pure, T.fz, T.fzs, fzs_ils, eqT_int, eqT_bl, eqT_tp, eqT_lst, pLen_tp, pLen_lst, bT_name, bT_tup, bT_lst, bTs_nil, bTs_cons, Option.bind_some, setAll, wipeE, unwipe, len_ils, isLst, line, Int.natCast_inj, isKey, any_ils, inT_ils, eqT_nil, eqT_nn, ils_app, pure_ils, items, g1, h1, pk39, g4, h2, g3]
          · simp [-List.filterMap_map, -List.map_map, -List.map_set, -List.map_append, -List.any_map, -List.any_append, -List.all_map, -List.all_append, -List.map_take, -List.map_drop, -List.map_tail, -List.map_reverse, -List.map_dropLast, sat_nx, sat_rt, sat_bk, sat_ct, sat_if, osat_ok, Kn_at, sat_nil, sat_cons, sat_for, ForK_at, ev_lcK, LcK_t, LcK_l, LcK_lo, LcK_et, LcK_el, LcK_elo, RetK_at, NonK_at, evS.eq_1, evS.eq_2, evS.eq_3, evS.eq_4, evS.eq_5, evS.eq_6, evS.eq_7, evS.eq_8, evS.eq_9, evS.eq_10, evS.eq_11, evS.eq_12, evS.eq_15, evS.eq_16, evS.eq_17, evS.eq_18, evS.eq_19, evE.eq_1, evE.eq_2, evE.eq_3, evE.eq_4, evE.eq_5, evE.eq_6, evE.eq_7, evE.eq_8, evE.eq_9, evE.eq_10, evE.eq_11, evE.eq_12, evE.eq_13, evE.eq_14, evE.eq_15, evE.eq_16, evE.eq_17, evE.eq_18, evE.eq_19, evE.eq_21, evE.eq_22, evE.eq_23, evO, evL, evI, evC, opds, Opd.get, pq_add, pq_sub, pq_mul, pq_fdiv, pq_mod, pq_pow, pq_neg, pq_idx, pq_len, pq_tuple, pq_list, pq_rg1, pq_rg2, pq_sorted, pq_abs, pq_int1, pq_max2, pq_min2, pq_all, pq_sum1, pq_lindex, pq_repr, pq_cmp, pq_isT, isData, isTy, of_some, Option.map_some, bd_ok, fl_ok, asBool_bl, cmpT, ltT, argsOut, pNeg, callO, lend, giveBack, T.pure, T.fz, T.fzs, fzs_ils, eqT_int, eqT_bl, eqT_tp, eqT_lst, pLen_tp, pLen_lst, bT_name, bT_tup, bT_lst, bTs_nil, bTs_cons, Option.bind_some, setAll, wipeE, unwipe, len_ils, isLst, line, Int.natCast_inj, isKey, any_ils, inT_ils, eqT_nil, eqT_nn, ils_app, pure_ils, items, g1, h1, pk39, g4, h2, g3]
        · simp [-List.filterMap_map, -List.map_map, -List.map_set, -List.map_append, -List.any_map, -List.any_append, -List.all_map, -List.all_append, -List.map_take, -List.map_drop, -List.map_tail, -List.map_reverse, -List.map_dropLast, sat_nx, sat_rt, sat_bk, sat_ct, sat_if, osat_ok, Kn_at, sat_nil, sat_cons, sat_for, ForK_at, ev_lcK, LcK_t, LcK_l, LcK_lo, LcK_et, LcK_el, LcK_elo, RetK_at, NonK_at, evS.eq_1, evS.eq_2, evS.eq_3, evS.eq_4, evS.eq_5, evS.eq_6, evS.eq_7, evS.eq_8, evS.eq_9, evS.eq_10, evS.eq_11, evS.eq_12, evS.eq_15, evS.eq_16, evS.eq_17, evS.eq_18, evS.eq_19, evE.eq_1, evE.eq_2, evE.eq_3, evE.eq_4, evE.eq_5, evE.eq_6, evE.eq_7, evE.eq_8, evE.eq_9, evE.eq_10, evE.eq_11, evE.eq_12, evE.eq_13, evE.eq_14, evE.eq_15, evE.eq_16, evE.eq_17, evE.eq_18, evE.eq_19, evE.eq_21, evE.eq_22, evE.eq_23, evO, evL, evI, evC, opds, Opd.get, pq_add, pq_sub, pq_mul, pq_fdiv, pq_mod, pq_pow, pq_neg, pq_idx, pq_len, pq_tuple, pq_list, pq_rg1, pq_rg2, pq_sorted, pq_abs, pq_int1, pq_max2, pq_min2, pq_all, pq_sum1, pq_lindex, pq_repr, pq_cmp, pq_isT, isData, isTy, of_some, Option.map_some, bd_ok, fl_ok, asBool_bl, cmpT, ltT, argsOut, pNeg, callO, lend, giveBack, T.pure, T.fz, T.fzs, fzs_ils, eqT_int, eqT_bl, eqT_tp, eqT_lst, pLen_tp, pLen_lst, bT_name, bT_tup, bT_lst, bTs_nil, bTs_cons, Option.bind_some, setAll, wipeE, unwipe, len_ils, isLst, line, Int.natCast_inj, isKey, any_ils, inT_ils, eqT_nil, eqT_nn, ils_app, pure_ils, items, g1, h1, g3])]
      rw [filterMap_if (fun r : List Nat => tp r) (fun r => r.getD 0 0 ∈ c.ring x ∧ Pm.Meet (a.ring x) r (c.ring x))]
      have g5 := eqT_tps_nil true true ((a.rings.take i).filter fun r => decide (r.getD 0 0 ∈ c.ring x ∧ Pm.Meet (a.ring x) r (c.ring x)))
      by_cases q2 : (a.rings.take i).filter (fun r => decide (r.getD 0 0 ∈ c.ring x ∧ Pm.Meet (a.ring x) r (c.ring x))) = []
      · rw [q2]
        simp [-List.filterMap_map, -List.map_map, -List.map_set, -List.map_append, -List.any_map, -List.any_append, -List.all_map, -List.all_append, -List.map_take, -List.map_drop, -List.map_tail, -List.map_reverse, -List.map_dropLast, sat_nx, sat_rt, sat_bk, sat_ct, sat_if, osat_ok, Kn_at, sat_nil, sat_cons, sat_for, ForK_at, ev_lcK, LcK_t, LcK_l, LcK_lo, LcK_et, LcK_el, LcK_elo, RetK_at, NonK_at, evS.eq_1, evS.eq_2, evS.eq_3, evS.eq_4, evS.eq_5, evS.eq_6, evS.eq_7, evS.eq_8, evS.eq_9, evS.eq_10, evS.eq_11, evS.eq_12, evS.eq_15, evS.eq_16, evS.eq_17, evS.eq_18, evS.eq_19, evE.eq_1, evE.eq_2, evE.eq_3, evE.eq_4, evE.eq_5, evE.eq_6, evE.eq_7, evE.eq_8, evE.eq_9, evE.eq_10, evE.eq_11, evE.eq_12, evE.eq_13, evE.eq_14, evE.eq_15, evE.eq_16, evE.eq_17, evE.eq_18, evE.eq_19, evE.eq_21, evE.eq_22, evE.eq_23, evO, evL, evI, evC, opds, Opd.get, pq_add, pq_sub, pq_mul, pq_fdiv, pq_mod, pq_pow, pq_neg, pq_idx, pq_len, pq_tuple, pq_list, pq_rg1, pq_rg2, pq_sorted, pq_abs, pq_int1, pq_max2, pq_min2, pq_all, pq_sum1, pq_lindex, pq_repr, pq_cmp, pq_isT, isData, isTy, of_some, Option.map_some, bd_ok, fl_ok, asBool_bl, cmpT, ltT, argsOut, pNeg, callO, lend, giveBack, T.pure, T.fz, T.fzs, fzs_ils, eqT_int, eqT_bl, eqT_tp, eqT_lst, pLen_tp, pLen_lst, bT_name, bT_tup, bT_lst, bTs_nil, bTs_cons, Option.bind_some, setAll, wipeE, unwipe, len_ils, isLst, line, Int.natCast_inj, isKey, any_ils, inT_ils, eqT_nil, eqT_nn, ils_app, pure_ils, items]
        refine hN _ ⟨⟨_, _, _, rfl⟩, hnext x rfl q1 fun l hl hli hin hM => ?_⟩
        rw [List.filter_eq_nil_iff] at q2
        refine q2 (a.ring a.heads[l]) ?_ (decide_eq_true ⟨by rw [hg0]; exact hin, hM⟩)
        rw [List.mem_iff_getElem?]
        refine ⟨l, ?_⟩
        have hl2 : a.rings.length = a.heads.length := List.length_map _
        obtain ⟨_, e2⟩ := hri l (by omega)
        rw [List.getElem?_take, if_pos hli, List.getElem?_eq_getElem (by omega), e2]
      · have q3 := g5
        rw [decide_eq_false q2] at q3
        obtain ⟨r, hr⟩ := List.exists_mem_of_ne_nil _ q2
        rw [List.mem_filter, decide_eq_true_iff] at hr
        obtain ⟨l, hl, hli, rfl⟩ := hrt r hr.1
        have hbad := hQ (.bl false) _ ⟨rfl, .inr ⟨rfl, fun hA => hA.2 x hxm a.heads[l] (List.getElem_mem hl) (hlow l hl hli) (by have := hr.2.1; rwa [hg0] at this) hr.2.2⟩⟩
        generalize (a.rings.take i).filter (fun r => decide (r.getD 0 0 ∈ c.ring x ∧ Pm.Meet (a.ring x) r (c.ring x))) = F at q3
        simp [-List.filterMap_map, -List.map_map, -List.map_set, -List.map_append, -List.any_map, -List.any_append, -List.all_map, -List.all_append, -List.map_take, -List.map_drop, -List.map_tail, -List.map_reverse, -List.map_dropLast, sat_nx, sat_rt, sat_bk, sat_ct, sat_if, osat_ok, Kn_at, sat_nil, sat_cons, sat_for, ForK_at, ev_lcK, LcK_t, LcK_l, LcK_lo, LcK_et, LcK_el, LcK_elo, RetK_at, NonK_at, evS.eq_1, evS.eq_2, evS.eq_3, evS.eq_4, evS.eq_5, evS.eq_6, evS.eq_7, evS.eq_8, evS.eq_9, evS.eq_10, evS.eq_11, evS.eq_12, evS.eq_15, evS.eq_16, evS.eq_17, evS.eq_18, evS.eq_19, evE.eq_1, evE.eq_2, evE.eq_3, evE.eq_4, evE.eq_5, evE.eq_6, evE.eq_7, evE.eq_8, evE.eq_9, evE.eq_10, evE.eq_11, evE.eq_12, evE.eq_13, evE.eq_14, evE.eq_15, evE.eq_16, evE.eq_17, evE.eq_18, evE.eq_19, evE.eq_21, evE.eq_22, evE.eq_23, evO, evL, evI, evC, opds, Opd.get, pq_add, pq_sub, pq_mul, pq_fdiv, pq_mod, pq_pow, pq_neg, pq_idx, pq_len, pq_tuple, pq_list, pq_rg1, pq_rg2, pq_sorted, pq_abs, pq_int1, pq_max2, pq_min2, pq_all, pq_sum1, pq_lindex, pq_repr, pq_cmp, pq_isT, isData, isTy, of_some, Option.map_some, bd_ok, fl_ok, asBool_bl, cmpT, ltT, argsOut, pNeg, callO, lend, giveBack, T.pure, T.fz, T.fzs, fzs_ils, eqT_int, eqT_bl, eqT_tp, eqT_lst, pLen_tp, pLen_lst, bT_name, bT_tup, bT_lst, bTs_nil, bTs_cons, Option.bind_some, setAll, wipeE, unwipe, len_ils, isLst, line, Int.natCast_inj, isKey, any_ils, inT_ils, eqT_nil, eqT_nn, ils_app, pure_ils, items, q3]
        exact hbad
    · simp [-List.filterMap_map, -List.map_map, -List.map_set, -List.map_append, -List.any_map, -List.any_append, -List.all_map, -List.all_append, -List.map_take, -List.map_drop, -List.map_tail, -List.map_reverse, -List.map_dropLast, sat_nx, sat_rt, sat_bk, sat_ct, sat_if, osat_ok, Kn_at, sat_nil, sat_cons, sat_for, ForK_at, ev_lcK, LcK_t, LcK_l, LcK_lo, LcK_et, LcK_el, LcK_elo, RetK_at, NonK_at, evS.eq_1, evS.eq_2, evS.eq_3, evS.eq_4, evS.eq_5, evS.eq_6, evS.eq_7, evS.eq_8, evS.eq_9, evS.eq_10, evS.eq_11, evS.eq_12, evS.eq_15, evS.eq_16, evS.eq_17, evS.eq_18, evS.eq_19, evE.eq_1, evE.eq_2, evE.eq_3, evE.eq_4, evE.eq_5, evE.eq_6, evE.eq_7, evE.eq_8, evE.eq_9, evE.eq_10, evE.eq_11, evE.eq_12, evE.eq_13, evE.eq_14, evE.eq_15, evE.eq_16, evE.eq_17, evE.eq_18, evE.eq_19, evE.eq_21, evE.eq_22, evE.eq_23, evO, evL, evI, evC, opds, Opd.get, pq_add, pq_sub, pq_mul, pq_fdiv, pq_mod, pq_pow, pq_neg, pq_idx, pq_len, pq_tuple, pq_list, pq_rg1, pq_rg2, pq_sorted, pq_abs, pq_int1, pq_max2, pq_min2, pq_all, pq_sum1, pq_lindex, pq_repr, pq_cmp, pq_isT, isData, isTy, of_some, Option.map_some, bd_ok, fl_ok, asBool_bl, cmpT, ltT, argsOut, pNeg, callO, lend, giveBack, T.pure, T.fz, T.fzs, fzs_ils, eqT_int, eqT_bl, eqT_tp, eqT_lst, pLen_tp, pLen_lst, bT_name, bT_tup, bT_lst, bTs_nil, bTs_cons, Option.bind_some, setAll, wipeE, unwipe, len_ils, isLst, line, Int.natCast_inj, isKey, any_ils, inT_ils, eqT_nil, eqT_nn, ils_app, pure_ils, items, q1]
      exact hQ _ _ ⟨rfl, .inr ⟨rfl, fun hA => q1 (hA.1 x hxm)⟩⟩
  · rintro e ⟨⟨b, r, hm, rfl⟩, hI⟩
    rw [enum_len, len_tps] at hI
    have hl2 : a.rings.length = a.heads.length := List.length_map _
    simp [-List.filterMap_map, -List.map_map, -List.map_set, -List.map_append, -List.any_map, -List.any_append, -List.all_map, -List.all_append, -List.map_take, -List.map_drop, -List.map_tail, -List.map_reverse, -List.map_dropLast, sat_nx, sat_rt, sat_bk, sat_ct, sat_if, osat_ok, Kn_at, sat_nil, sat_cons, sat_for, ForK_at, ev_lcK, LcK_t, LcK_l, LcK_lo, LcK_et, LcK_el, LcK_elo, RetK_at, NonK_at, evS.eq_1, evS.eq_2, evS.eq_3, evS.eq_4, evS.eq_5, evS.eq_6, evS.eq_7, evS.eq_8, evS.eq_9, evS.eq_10, evS.eq_11, evS.eq_12, evS.eq_15, evS.eq_16, evS.eq_17, evS.eq_18, evS.eq_19, evE.eq_1, evE.eq_2, evE.eq_3, evE.eq_4, evE.eq_5, evE.eq_6, evE.eq_7, evE.eq_8, evE.eq_9, evE.eq_10, evE.eq_11, evE.eq_12, evE.eq_13, evE.eq_14, evE.eq_15, evE.eq_16, evE.eq_17, evE.eq_18, evE.eq_19, evE.eq_21, evE.eq_22, evE.eq_23, evO, evL, evI, evC, opds, Opd.get, pq_add, pq_sub, pq_mul, pq_fdiv, pq_mod, pq_pow, pq_neg, pq_idx, pq_len, pq_tuple, pq_list, pq_rg1, pq_rg2, pq_sorted, pq_abs, pq_int1, pq_max2, pq_min2, pq_all, pq_sum1, pq_lindex, pq_repr, pq_cmp, pq_isT, isData, isTy, of_some, Option.map_some, bd_ok, fl_ok, asBool_bl, cmpT, ltT, argsOut, pNeg, callO, lend, giveBack, T.pure, T.fz, T.fzs, fzs_ils, eqT_int, eqT_bl, eqT_tp, eqT_lst, pLen_tp, pLen_lst, bT_name, bT_tup, bT_lst, bTs_nil, bTs_cons, Option.bind_some, setAll, wipeE, unwipe, len_ils, isLst, line, Int.natCast_inj, isKey, any_ils, inT_ils, eqT_nil, eqT_nn, ils_app, pure_ils, items]
    refine hQ _ _ ⟨rfl, .inl ⟨rfl, fun x hx => ?_, fun x hx x' hx' hlt hin => ?_⟩⟩
    · obtain ⟨j, hj, e⟩ := List.getElem_of_mem hx
      subst e
      exact (hI j hj (by omega)).1
    · obtain ⟨j, hj, e⟩ := List.getElem_of_mem hx
      obtain ⟨l, hl, e'⟩ := List.getElem_of_mem hx'
      subst e e'
      refine (hI j hj (by omega)).2 l hl ?_ hin
      apply Classical.byContradiction
      intro q
      by_cases q2 : j = l
      · subst q2; omega
      · have := List.pairwise_iff_getElem.mp a.heads_sorted j l hj hl (by omega)
        omega
end
end K91
end
section
set_option Elab.async false
set_option maxRecDepth 100000
set_option linter.all false
/-! W91n: walks: right, law. -/
open Ev
namespace K91
section
variable {w k n : Nat}
theorem eqT_T : eqT (.str [84, 114, 117, 101]) (.str [84, 114, 117, 101]) = some true := by simp [eqT, data, eqB]
theorem eqT_F : eqT (.str [70, 97, 108, 115, 101]) (.str [70, 97, 108, 115, 101]) = some true := by simp [eqT, data, eqB]
theorem rest_mul (a c : Pm.Pm n) : (c.mul a.inv).mul a = c := Pm.Pm.rest_mul a c
open Classical in
theorem q41 (hw : 20 ≤ w) (h : 10 ≤ k) (a c : Pm.Pm n) (h1 : 1 ≤ n) (hn : n ≤ 12) {D : T} (hD : Dice D) : callK P w k 41 [D, tq a, tq c] = .ok (.bl true) [D, tq a, tq c] := by
  refine callK_is (d := d41) rfl (by omega) rfl ?_
  have s1 := q17 (w := w) (k := k - 1) (by omega) a c h1 hn
  have e1 := rest_mul a c
  have s2 := q9 (w := w) (k := k - 1) (by omega) a (c.mul a.inv) h1 hn
  rw [e1] at s2
  have s3 := q37 (w := w) (k := k - 1) (by omega) a hn
  have s4 := q37 (w := w) (k := k - 1) (by omega) c hn
  have s5 := q37 (w := w) (k := k - 1) (by omega) (c.mul a.inv) hn
  obtain ⟨t6, as6, s6, rfl, r6⟩ := q40 (w := w) (k := k - 1) hw (by omega) a c hn
  have s7 := q19 (w := w) (k := k - 1) hw (by omega) a c h1 hn
  obtain ⟨t8, as8, s8, rfl, r8⟩ := q26 (w := w) (k := k - 1) hw (by omega) a c h1 hn
  have s9 := q19 (w := w) (k := k - 1) hw (by omega) (c.mul a.inv) c h1 hn
  have s10 := q11 (w := w) (k := k - 1) (by omega) a h1 hn
  have s11 := q11 (w := w) (k := k - 1) (by omega) c h1 hn
  have s12 := q19 (w := w) (k := k - 1) hw (by omega) a.inv c.inv h1 hn
  have l1 := Pm.Pm.lies_rest a c
  have l2 := Pm.Pm.lies_back a c
  have l3 : Pm.Pm.Lies a c ↔ Pm.Pm.len a + Pm.Pm.len (c.mul a.inv) = Pm.Pm.len c := Iff.rfl
  have hf : ∀ x, (c.mul a.inv).f (a.f x) = c.f x := fun x => by rw [← congrArg (fun p => p.f x) e1]; rfl
  generalize hr : c.mul a.inv = r at s1 s2 s5 s9 l1 l3 hf
  obtain ⟨l0, m0, c0, rfl, _⟩ := hD
  simp [-List.filterMap_map, -List.map_map, -List.map_set, -List.map_append, -List.any_map, -List.any_append, -List.all_map, -List.all_append, -List.map_take, -List.map_drop, -List.map_tail, -List.map_reverse, -List.map_dropLast, sat_nx, sat_rt, sat_bk, sat_ct, sat_if, osat_ok, Kn_at, sat_nil, sat_cons, sat_for, ForK_at, ev_lcK, LcK_t, LcK_l, LcK_lo, LcK_et, LcK_el, LcK_elo, RetK_at, NonK_at, evS.eq_1, evS.eq_2, evS.eq_3, evS.eq_4, evS.eq_5, evS.eq_6, evS.eq_7, evS.eq_8, evS.eq_9, evS.eq_10, evS.eq_11, evS.eq_12, evS.eq_15, evS.eq_16, evS.eq_17, evS.eq_18, evS.eq_19, evE.eq_1, evE.eq_2, evE.eq_3, evE.eq_4, evE.eq_5, evE.eq_6, evE.eq_7, evE.eq_8, evE.eq_9, evE.eq_10, evE.eq_11, evE.eq_12, evE.eq_13, evE.eq_14, evE.eq_15, evE.eq_16, evE.eq_17, evE.eq_18, evE.eq_19, evE.eq_21, evE.eq_22, evE.eq_23, evO, evL, evI, evC, opds, Opd.get, pq_add, pq_sub, pq_mul, pq_fdiv, pq_mod, pq_pow, pq_neg, pq_idx, pq_len, pq_tuple, pq_list, pq_rg1, pq_rg2, pq_sorted, pq_abs, pq_int1, pq_max2, pq_min2, pq_all, pq_sum1, pq_lindex, pq_repr, pq_cmp, pq_isT, isData, isTy, of_some, Option.map_some, bd_ok, fl_ok, asBool_bl, cmpT, ltT, argsOut, pNeg, callO, lend, giveBack, T.pure, T.fz, T.fzs, fzs_ils, eqT_int, eqT_bl, eqT_tp, eqT_lst, pLen_tp, pLen_lst, bT_name, bT_tup, bT_lst, bTs_nil, bTs_cons, Option.bind_some, setAll, wipeE, unwipe, len_ils, isLst, line, Int.natCast_inj, isKey, any_ils, inT_ils, eqT_nil, eqT_nn, ils_app, pure_ils, items, d41, b41, pk17, s1, pTuple_tp, lsOf_len, LcK_r (show n < 1000000 by omega)]
  rw [lcG_map (fun x : Nat => T.int (c.f x : Nat)) (by rw [List.length_range]; show _ ≤ 16777216; omega) (fun x hx => by
    have hx := List.mem_range.mp hx
    have f1 := pIdx_tq a hx
    have f2 := pIdx_tq r (a.lt hx)
    rw [hf] at f2
    refine ⟨_, rfl, ?_⟩
    simp [-List.filterMap_map, -List.map_map, -List.map_set, -List.map_append, -List.any_map, -List.any_append, -List.all_map, -List.all_append, -List.map_take, -List.map_drop, -List.map_tail, -List.map_reverse, -List.map_dropLast, sat_nx, sat_rt, sat_bk, sat_ct, sat_if, osat_ok, Kn_at, sat_nil, sat_cons, sat_for, ForK_at, ev_lcK, LcK_t, LcK_l, LcK_lo, LcK_et, LcK_el, LcK_elo, RetK_at, NonK_at, evS.eq_1, evS.eq_2, evS.eq_3, evS.eq_4, evS.eq_5, evS.eq_6, evS.eq_7, evS.eq_8, evS.eq_9, evS.eq_10, evS.eq_11, evS.eq_12, evS.eq_15, evS.eq_16, evS.eq_17, evS.eq_18, evS.eq_19, evE.eq_1, evE.eq_2, evE.eq_3, evE.eq_4, evE.eq_5, evE.eq_6, evE.eq_7, evE.eq_8, evE.eq_9, evE.eq_10, evE.eq_11, evE.eq_12, evE.eq_13, evE.eq_14, evE.eq_15, evE.eq_16, evE.eq_17, evE.eq_18, evE.eq_19, evE.eq_21, evE.eq_22, evE.eq_23, evO, evL, evI, evC, opds, Opd.get, pq_add, pq_sub, pq_mul, pq_fdiv, pq_mod, pq_pow, pq_neg, pq_idx, pq_len, pq_tuple, pq_list, pq_rg1, pq_rg2, pq_sorted, pq_abs, pq_int1, pq_max2, pq_min2, pq_all, pq_sum1, pq_lindex, pq_repr, pq_cmp, pq_isT, isData, isTy, of_some, Option.map_some, bd_ok, fl_ok, asBool_bl, cmpT, ltT, argsOut, pNeg, callO, lend, giveBack, T.pure, T.fz, T.fzs, fzs_ils, eqT_int, eqT_bl, eqT_tp, eqT_lst, pLen_tp, pLen_lst, bT_name, bT_tup, bT_lst, bTs_nil, bTs_cons, Option.bind_some, setAll, wipeE, unwipe, len_ils, isLst, line, Int.natCast_inj, isKey, any_ils, inT_ils, eqT_nil, eqT_nn, ils_app, pure_ils, items, f1, f2])]
  have e2 : ((List.range n).map fun x : Nat => T.int (c.f x : Nat)) = ils (lsOf c) := by
    show _ = List.map _ (List.map _ _)
    rw [List.map_map]; rfl
  rw [e2]
  by_cases q : Pm.Pm.Lies a c
  · have q1 := l3.mp q
    have q1' : ((Pm.Pm.len a : Nat) : Int) + (Pm.Pm.len r : Nat) = (Pm.Pm.len c : Nat) := by omega
    have q2 := l1.mpr q
    have q3 := l2.mpr q
    rw [decide_eq_true q] at s7
    rw [decide_eq_true q2] at s9
    rw [decide_eq_true q3] at s12
    obtain rfl : t6 = .bl true := by rcases r6 with ⟨h, _⟩ | ⟨_, h⟩; exact h; exact absurd q h
    obtain rfl : t8 = .non := by rcases r8 with ⟨h, _⟩ | ⟨_, h⟩; exact h; exact absurd q h
    simp [-List.filterMap_map, -List.map_map, -List.map_set, -List.map_append, -List.any_map, -List.any_append, -List.all_map, -List.all_append, -List.map_take, -List.map_drop, -List.map_tail, -List.map_reverse, -List.map_dropLast, sat_nx, sat_rt, sat_bk, sat_ct, sat_if, osat_ok, Kn_at, sat_nil, sat_cons, sat_for, ForK_at, ev_lcK, LcK_t, LcK_l, LcK_lo, LcK_et, LcK_el, LcK_elo, RetK_at, NonK_at, evS.eq_1, evS.eq_2, evS.eq_3, evS.eq_4, evS.eq_5, evS.eq_6, evS.eq_7, evS.eq_8, evS.eq_9, evS.eq_10, evS.eq_11, evS.eq_12, evS.eq_15, evS.eq_16, evS.eq_17, evS.eq_18, evS.eq_19, evE.eq_1, evE.eq_2, evE.eq_3, evE.eq_4, evE.eq_5, evE.eq_6, evE.eq_7, evE.eq_8, evE.eq_9, evE.eq_10, evE.eq_11, evE.eq_12, evE.eq_13, evE.eq_14, evE.eq_15, evE.eq_16, evE.eq_17, evE.eq_18, evE.eq_19, evE.eq_21, evE.eq_22, evE.eq_23, evO, evL, evI, evC, opds, Opd.get, pq_add, pq_sub, pq_mul, pq_fdiv, pq_mod, pq_pow, pq_neg, pq_idx, pq_len, pq_tuple, pq_list, pq_rg1, pq_rg2, pq_sorted, pq_abs, pq_int1, pq_max2, pq_min2, pq_all, pq_sum1, pq_lindex, pq_repr, pq_cmp, pq_isT, isData, isTy, of_some, Option.map_some, bd_ok, fl_ok, asBool_bl, cmpT, ltT, argsOut, pNeg, callO, lend, giveBack, T.pure, T.fz, T.fzs, fzs_ils, eqT_int, eqT_bl, eqT_tp, eqT_lst, pLen_tp, pLen_lst, bT_name, bT_tup, bT_lst, bTs_nil, bTs_cons, Option.bind_some, setAll, wipeE, unwipe, len_ils, isLst, line, Int.natCast_inj, isKey, any_ils, inT_ils, eqT_nil, eqT_nn, ils_app, pure_ils, items, pList_tp, pk9, s2, pk37, s3, s4, s5, pAdd, q1', pk40, s6, pk19, s7, pRepr, eqT_T, pk26, s8, s9, pk11, s10, s11, s12]
  · have q1' : ¬ ((Pm.Pm.len a : Nat) : Int) + (Pm.Pm.len r : Nat) = (Pm.Pm.len c : Nat) := fun e => q (l3.mpr (by omega))
    have q2 : ¬ Pm.Pm.Lies r c := fun h => q (l1.mp h)
    have q3 : ¬ Pm.Pm.Lies a.inv c.inv := fun h => q (l2.mp h)
    rw [decide_eq_false q] at s7
    rw [decide_eq_false q2] at s9
    rw [decide_eq_false q3] at s12
    obtain rfl : t6 = .bl false := by rcases r6 with ⟨_, h⟩ | ⟨h, _⟩; exact absurd h q; exact h
    obtain ⟨ts, rfl⟩ : ∃ ts, t8 = .tup ts := by rcases r8 with ⟨_, h⟩ | ⟨h, _⟩; exact absurd h q; exact h
    simp [-List.filterMap_map, -List.map_map, -List.map_set, -List.map_append, -List.any_map, -List.any_append, -List.all_map, -List.all_append, -List.map_take, -List.map_drop, -List.map_tail, -List.map_reverse, -List.map_dropLast, sat_nx, sat_rt, sat_bk, sat_ct, sat_if, osat_ok, Kn_at, sat_nil, sat_cons, sat_for, ForK_at, ev_lcK, LcK_t, LcK_l, LcK_lo, LcK_et, LcK_el, LcK_elo, RetK_at, NonK_at, evS.eq_1, evS.eq_2, evS.eq_3, evS.eq_4, evS.eq_5, evS.eq_6, evS.eq_7, evS.eq_8, evS.eq_9, evS.eq_10, evS.eq_11, evS.eq_12, evS.eq_15, evS.eq_16, evS.eq_17, evS.eq_18, evS.eq_19, evE.eq_1, evE.eq_2, evE.eq_3, evE.eq_4, evE.eq_5, evE.eq_6, evE.eq_7, evE.eq_8, evE.eq_9, evE.eq_10, evE.eq_11, evE.eq_12, evE.eq_13, evE.eq_14, evE.eq_15, evE.eq_16, evE.eq_17, evE.eq_18, evE.eq_19, evE.eq_21, evE.eq_22, evE.eq_23, evO, evL, evI, evC, opds, Opd.get, pq_add, pq_sub, pq_mul, pq_fdiv, pq_mod, pq_pow, pq_neg, pq_idx, pq_len, pq_tuple, pq_list, pq_rg1, pq_rg2, pq_sorted, pq_abs, pq_int1, pq_max2, pq_min2, pq_all, pq_sum1, pq_lindex, pq_repr, pq_cmp, pq_isT, isData, isTy, of_some, Option.map_some, bd_ok, fl_ok, asBool_bl, cmpT, ltT, argsOut, pNeg, callO, lend, giveBack, T.pure, T.fz, T.fzs, fzs_ils, eqT_int, eqT_bl, eqT_tp, eqT_lst, pLen_tp, pLen_lst, bT_name, bT_tup, bT_lst, bTs_nil, bTs_cons, Option.bind_some, setAll, wipeE, unwipe, len_ils, isLst, line, Int.natCast_inj, isKey, any_ils, inT_ils, eqT_nil, eqT_nn, ils_app, pure_ils, items, pList_tp, pk9, s2, pk37, s3, s4, s5, pAdd, q1', pk40, s6, pk19, s7, pRepr, eqT_F, pk26, s8, s9, pk11, s10, s11, s12]
end
end K91
end
section
set_option Elab.async false
set_option maxRecDepth 100000
set_option linter.all false
/-! W91o: the law. -/
open Ev
namespace K91
theorem pMin_nat (a b : Nat) : pMin (.int a) (.int b) = some (.int (min a b : Nat)) := by
  show some (T.int (if (b : Int) < a then b else a)) = _
  congr 2
  split <;> omega
theorem pMax_nat (a b : Nat) : pMax (.int a) (.int b) = some (.int (max a b : Nat)) := by
  show some (T.int (if (b : Int) > a then b else a)) = _
  congr 2
  split <;> omega
def isB : CR → Bool → Bool
  | .ok (.bl b) [_, _], c => b == c
  | _, _ => false
theorem isB_ok {r : CR} {c : Bool} (h : isB r c = true) : ∃ x y, r = .ok (.bl c) [x, y] := by
  unfold isB at h
  split at h
  · have h := eq_of_beq h
    subst h
    exact ⟨_, _, rfl⟩
  · cases h
theorem fin1 : isB (callK P 100 59 19 [.tup [.int 2, .int 3, .int 0, .int 1], .tup [.int 1, .int 2, .int 3, .int 0]]) false = true := by decide +kernel
theorem fin2 : isB (callK P 100 59 19 [.tup [.int 1, .int 0, .int 3, .int 2], .tup [.int 1, .int 2, .int 3, .int 0]]) true = true := by decide +kernel
open Classical in
theorem law_k {w k : Nat} (hw : 20 ≤ w) (h : 14 ≤ k) (g1 : ∃ x y, callK P w (k - 1) 19 [.tup [.int 2, .int 3, .int 0, .int 1], .tup [.int 1, .int 2, .int 3, .int 0]] = .ok (.bl false) [x, y])
    (g2 : ∃ x y, callK P w (k - 1) 19 [.tup [.int 1, .int 0, .int 3, .int 2], .tup [.int 1, .int 2, .int 3, .int 0]] = .ok (.bl true) [x, y]) (ns : List Int) : ∃ t as, callK P w k 43 [scr ns] = .ok t as ∧ t = .bl true := by
  refine callK_by (d := d43) _ rfl (by omega) rfl fun Q hQ => ?_
  have e0 : pLen (scr ns) = some (.int (ns.length : Nat)) := by
    show some (T.int ((ns.map T.int).length : Int)) = _
    rw [List.length_map]
  have e1 : pMin (.int 5) (.int (ns.length : Nat)) = some (.int (min 5 ns.length : Nat)) := pMin_nat 5 _
  have e2 : pMax (.int 1) (.int (min 5 ns.length : Nat)) = some (.int (max 1 (min 5 ns.length) : Nat)) := pMax_nat 1 _
  have hm : max 1 (min 5 ns.length) ≤ 5 := by omega
  generalize min 5 ns.length = m0 at e1 e2 hm
  generalize max 1 m0 = m at e2 hm
  simp [-List.filterMap_map, -List.map_map, -List.map_set, -List.map_append, -List.any_map, -List.any_append, -List.all_map, -List.all_append, -List.map_take, -List.map_drop, -List.map_tail, -List.map_reverse, -List.map_dropLast, sat_nx, sat_rt, sat_bk, sat_ct, sat_if, osat_ok, Kn_at, sat_nil, sat_cons, sat_for, ForK_at, ev_lcK, LcK_t, LcK_l, LcK_lo, LcK_et, LcK_el, LcK_elo, RetK_at, NonK_at, evS.eq_1, evS.eq_2, evS.eq_3, evS.eq_4, evS.eq_5, evS.eq_6, evS.eq_7, evS.eq_8, evS.eq_9, evS.eq_10, evS.eq_11, evS.eq_12, evS.eq_15, evS.eq_16, evS.eq_17, evS.eq_18, evS.eq_19, evE.eq_1, evE.eq_2, evE.eq_3, evE.eq_4, evE.eq_5, evE.eq_6, evE.eq_7, evE.eq_8, evE.eq_9, evE.eq_10, evE.eq_11, evE.eq_12, evE.eq_13, evE.eq_14, evE.eq_15, evE.eq_16, evE.eq_17, evE.eq_18, evE.eq_19, evE.eq_21, evE.eq_22, evE.eq_23, evO, evL, evI, evC, opds, Opd.get, pq_add, pq_sub, pq_mul, pq_fdiv, pq_mod, pq_pow, pq_neg, pq_idx, pq_len, pq_tuple, pq_list, pq_rg1, pq_rg2, pq_sorted, pq_abs, pq_int1, pq_max2, pq_min2, pq_all, pq_sum1, pq_lindex, pq_repr, pq_cmp, pq_isT, isData, isTy, of_some, Option.map_some, bd_ok, fl_ok, asBool_bl, cmpT, ltT, argsOut, pNeg, callO, lend, giveBack, T.pure, T.fz, T.fzs, fzs_ils, eqT_int, eqT_bl, eqT_tp, eqT_lst, pLen_tp, pLen_lst, bT_name, bT_tup, bT_lst, bTs_nil, bTs_cons, Option.bind_some, setAll, wipeE, unwipe, len_ils, isLst, line, Int.natCast_inj, isKey, any_ils, inT_ils, eqT_nil, eqT_nn, ils_app, pure_ils, items, d43, b43, e0, e1, e2, iter_rg1 (show m < 1000000 by omega)]
  refine forG_each (St := fun env => ∃ b1 b2 b3 b4 b5 b6 b7 b8 b9 b10, env = [some (scr ns), b1, b2, b3, b4, b5, b6, b7, b8, b9, b10]) (Good := fun _ => True) ⟨_, _, _, _, _, _, _, _, _, _, rfl⟩ ?_ ?_
  · rintro s hs e ⟨b1, b2, b3, b4, b5, b6, b7, b8, b9, b10, rfl⟩
    have hs := List.mem_range.mp hs
    refine ⟨_, rfl, fun N hN => ?_⟩
    obtain ⟨D, as, s1, rfl, hD⟩ := q27 (w := w) (k := k - 1) (by omega) ns (s := s) (by omega)
    have it4 : iterT .rg1 [.int 4] = some (ils (List.range 4)) := iter_rg1 (n := 4) (by omega)
    simp [-List.filterMap_map, -List.map_map, -List.map_set, -List.map_append, -List.any_map, -List.any_append, -List.all_map, -List.all_append, -List.map_take, -List.map_drop, -List.map_tail, -List.map_reverse, -List.map_dropLast, sat_nx, sat_rt, sat_bk, sat_ct, sat_if, osat_ok, Kn_at, sat_nil, sat_cons, sat_for, ForK_at, ev_lcK, LcK_t, LcK_l, LcK_lo, LcK_et, LcK_el, LcK_elo, RetK_at, NonK_at, evS.eq_1, evS.eq_2, evS.eq_3, evS.eq_4, evS.eq_5, evS.eq_6, evS.eq_7, evS.eq_8, evS.eq_9, evS.eq_10, evS.eq_11, evS.eq_12, evS.eq_15, evS.eq_16, evS.eq_17, evS.eq_18, evS.eq_19, evE.eq_1, evE.eq_2, evE.eq_3, evE.eq_4, evE.eq_5, evE.eq_6, evE.eq_7, evE.eq_8, evE.eq_9, evE.eq_10, evE.eq_11, evE.eq_12, evE.eq_13, evE.eq_14, evE.eq_15, evE.eq_16, evE.eq_17, evE.eq_18, evE.eq_19, evE.eq_21, evE.eq_22, evE.eq_23, evO, evL, evI, evC, opds, Opd.get, pq_add, pq_sub, pq_mul, pq_fdiv, pq_mod, pq_pow, pq_neg, pq_idx, pq_len, pq_tuple, pq_list, pq_rg1, pq_rg2, pq_sorted, pq_abs, pq_int1, pq_max2, pq_min2, pq_all, pq_sum1, pq_lindex, pq_repr, pq_cmp, pq_isT, isData, isTy, of_some, Option.map_some, bd_ok, fl_ok, asBool_bl, cmpT, ltT, argsOut, pNeg, callO, lend, giveBack, T.pure, T.fz, T.fzs, fzs_ils, eqT_int, eqT_bl, eqT_tp, eqT_lst, pLen_tp, pLen_lst, bT_name, bT_tup, bT_lst, bTs_nil, bTs_cons, Option.bind_some, setAll, wipeE, unwipe, len_ils, isLst, line, Int.natCast_inj, isKey, any_ils, inT_ils, eqT_nil, eqT_nn, ils_app, pure_ils, items, pk27, s1, it4]
    refine forG_each (St := fun env => ∃ D b3 b4 b5 b6 b7 b8 b9 b10, env = [some (scr ns), some (.int s), some D, b3, b4, b5, b6, b7, b8, b9, b10] ∧ Dice D) (Good := fun _ => True) ⟨_, _, _, _, _, _, _, _, _, rfl, hD⟩ ?_ ?_
    · clear hD s1 D
      rintro tn ht e ⟨D, b3, b4, b5, b6, b7, b8, b9, b10, rfl, hD⟩
      refine ⟨_, rfl, fun N' hN' => ?_⟩
      -- places
      obtain ⟨t, as, s1, r, D1, rfl, rfl, hr, hD1⟩ := q28 (w := w) (k := k - 1) (by omega) hD (n := 7) (by omega) (by omega)
      have s1 : callK P w (k - 1) 28 [D, .int 7] = .ok (.int r) [D1, .int 7] := s1
      obtain ⟨t, as, s2, D2, rfl, hD2, n, hn1, hn, rfl⟩ := q29 (w := w) (k := k - 1) (by omega) hD1 (I := .lst true [.int (1 + r), .int 4, .int 5, .int 12]) (n := 4) (by omega) (by omega) rfl (.inr ⟨_, rfl⟩) (Good := fun t => ∃ n : Nat, 1 ≤ n ∧ n ≤ 12 ∧ t = .int n) (fun i hi => by
        have : i = 0 ∨ i = 1 ∨ i = 2 ∨ i = 3 := by omega
        rcases this with rfl | rfl | rfl | rfl
        · exact ⟨_, rfl, 1 + r, by omega, by omega, rfl⟩
        · exact ⟨_, rfl, 4, by omega, by omega, rfl⟩
        · exact ⟨_, rfl, 5, by omega, by omega, rfl⟩
        · exact ⟨_, rfl, 12, by omega, by omega, rfl⟩)
      have hrg := pRg1_nat (n := n) (by omega)
      have hlr : (List.range n).length = n := List.length_range
      -- whole, inner
      obtain ⟨t, as, s3, D3, p1, rfl, hD3, rfl, hp1⟩ := q30 (w := w) (k := k - 1) (by omega) hD2 (I := .lst true (ils (List.range n))) (p := List.range n) (by omega) (pList_lst true _) (pLen_lst true _)
      obtain ⟨t, as, s4, D4, p2, rfl, hD4, rfl, hp2⟩ := q30 (w := w) (k := k - 1) (by omega) hD3 (I := .lst true (ils (List.range n))) (p := List.range n) (by omega) (pList_lst true _) (pLen_lst true _)
      obtain ⟨c, rfl⟩ := perm_pm hp1 hn
      obtain ⟨a, rfl⟩ := perm_pm hp2 hn
      have s5 := q41 (w := w) (k := k - 1) (by omega) (by omega) a c hn1 hn hD4
      have s6 := q35 (w := w) (k := k - 1) (by omega) hn1 hn
      obtain ⟨c', hc'⟩ : ∃ c' : Pm.Pm n, c' = if (tn : Int) % 2 = 0 then rot n else c := ⟨_, rfl⟩
      obtain ⟨t, as, s7, D5, b, rfl, hD5, rfl, hL1⟩ := q42 (w := w) (k := k - 1) (by omega) c' hn hD4
      have s8 := q41 (w := w) (k := k - 1) (by omega) (by omega) b c' hn1 hn hD5
      have s9 := q19 (w := w) (k := k - 1) (by omega) (by omega) b c' hn1 hn
      rw [decide_eq_true hL1] at s9
      obtain ⟨t, as, s10, D6, b', rfl, hD6, rfl, hL2⟩ := q42 (w := w) (k := k - 1) (by omega) b hn hD5
      have s11 := q19 (w := w) (k := k - 1) (by omega) (by omega) b' b hn1 hn
      rw [decide_eq_true hL2] at s11
      have s12 := q19 (w := w) (k := k - 1) (by omega) (by omega) b' c' hn1 hn
      rw [decide_eq_true (Pm.Pm.lies_trans hL2 hL1)] at s12
      obtain ⟨t, as, s13, x, D7, rfl, rfl, hx, hD7⟩ := q28 (w := w) (k := k - 1) (by omega) hD6 (n := n) (by omega) (by omega)
      obtain ⟨t, as, s14, y, D8, rfl, rfl, hy, hD8⟩ := q28 (w := w) (k := k - 1) (by omega) hD7 (n := n) (by omega) (by omega)
      have s15 := q41 (w := w) (k := k - 1) (by omega) (by omega) (b.cutT (x, y)) c' hn1 hn hD8
      have f1 := pIdx_lst (o := true) (p := lsOf b) (i := x) (by rw [lsOf_len]; exact hx)
      have f2 := pIdx_lst (o := true) (p := lsOf b) (i := y) (by rw [lsOf_len]; exact hy)
      rw [lsOf_at] at f1 f2
      have f3 := small_nat (y := x) (by omega)
      have f4 := small_nat (y := y) (by omega)
      have f5 := pIx_nat (n := n) (i := x) hx
      have f6 := pIx_nat (n := n) (i := y) hy
      have f7 := lsOf_swap b hx hy
      have hN2 := fun b3 b4 b5 b6 b7 b8 b9 b10 => hN' [some (scr ns), some (.int s), some D8, b3, b4, b5, b6, b7, b8, b9, b10] ⟨_, _, _, _, _, _, _, _, _, rfl, hD8⟩ trivial
      obtain ⟨_, _, _, rfl, _⟩ := hD
      obtain ⟨_, _, _, rfl, _⟩ := hD1
      obtain ⟨_, _, _, rfl, _⟩ := hD2
      obtain ⟨_, _, _, rfl, _⟩ := hD3
      obtain ⟨_, _, _, rfl, _⟩ := hD4
      obtain ⟨_, _, _, rfl, _⟩ := hD5
      obtain ⟨_, _, _, rfl, _⟩ := hD6
      obtain ⟨_, _, _, rfl, _⟩ := hD7
      obtain ⟨_, _, _, rfl, _⟩ := hD8
      by_cases q : (tn : Int) % 2 = 0
      · rw [if_pos q] at hc'
        subst hc'
        simp [-List.filterMap_map, -List.map_map, -List.map_set, -List.map_append, -List.any_map, -List.any_append, -List.all_map, -List.all_append, -List.map_take, -List.map_drop, -List.map_tail, -List.map_reverse, -List.map_dropLast, sat_nx, sat_rt, sat_bk, sat_ct, sat_if, osat_ok, Kn_at, sat_nil, sat_cons, sat_for, ForK_at, ev_lcK, LcK_t, LcK_l, LcK_lo, LcK_et, LcK_el, LcK_elo, RetK_at, NonK_at, evS.eq_1, evS.eq_2, evS.eq_3, evS.eq_4, evS.eq_5, evS.eq_6, evS.eq_7, evS.eq_8, evS.eq_9, evS.eq_10, evS.eq_11, evS.eq_12, evS.eq_15, evS.eq_16, evS.eq_17, evS.eq_18, evS.eq_19, evE.eq_1, evE.eq_2, evE.eq_3, evE.eq_4, evE.eq_5, evE.eq_6, evE.eq_7, evE.eq_8, evE.eq_9, evE.eq_10, evE.eq_11, evE.eq_12, evE.eq_13, evE.eq_14, evE.eq_15, evE.eq_16, evE.eq_17, evE.eq_18, evE.eq_19, evE.eq_21, evE.eq_22, evE.eq_23, evO, evL, evI, evC, opds, Opd.get, pq_add, pq_sub, pq_mul, pq_fdiv, pq_mod, pq_pow, pq_neg, pq_idx, pq_len, pq_tuple, pq_list, pq_rg1, pq_rg2, pq_sorted, pq_abs, pq_int1, pq_max2, pq_min2, pq_all, pq_sum1, pq_lindex, pq_repr, pq_cmp, pq_isT, isData, isTy, of_some, Option.map_some, bd_ok, fl_ok, asBool_bl, cmpT, ltT, argsOut, pNeg, callO, lend, giveBack, T.pure, T.fz, T.fzs, fzs_ils, eqT_int, eqT_bl, eqT_tp, eqT_lst, pLen_tp, pLen_lst, bT_name, bT_tup, bT_lst, bTs_nil, bTs_cons, Option.bind_some, setAll, wipeE, unwipe, len_ils, isLst, line, Int.natCast_inj, isKey, any_ils, inT_ils, eqT_nil, eqT_nn, ils_app, pure_ils, items, setIxS, setIxT, pk28, s1, pAdd, pk29, s2, hrg, pk30, s3, s4, pTuple_lst, pk41, s5, pMod, q, pk35, s6, pk42, s7, s8, pk19, s9, s10, s11, s12, pList_tp, s13, s14, f1, f2, f3, f4, f5, f6, f7, lsOf_len, set_ils, s15]
        exact hN2 _ _ _ _ _ _ _ _
      · rw [if_neg q] at hc'
        subst hc'
        simp [-List.filterMap_map, -List.map_map, -List.map_set, -List.map_append, -List.any_map, -List.any_append, -List.all_map, -List.all_append, -List.map_take, -List.map_drop, -List.map_tail, -List.map_reverse, -List.map_dropLast, sat_nx, sat_rt, sat_bk, sat_ct, sat_if, osat_ok, Kn_at, sat_nil, sat_cons, sat_for, ForK_at, ev_lcK, LcK_t, LcK_l, LcK_lo, LcK_et, LcK_el, LcK_elo, RetK_at, NonK_at, evS.eq_1, evS.eq_2, evS.eq_3, evS.eq_4, evS.eq_5, evS.eq_6, evS.eq_7, evS.eq_8, evS.eq_9, evS.eq_10, evS.eq_11, evS.eq_12, evS.eq_15, evS.eq_16, evS.eq_17, evS.eq_18, evS.eq_19, evE.eq_1, evE.eq_2, evE.eq_3, evE.eq_4, evE.eq_5, evE.eq_6, evE.eq_7, evE.eq_8, evE.eq_9, evE.eq_10, evE.eq_11, evE.eq_12, evE.eq_13, evE.eq_14, evE.eq_15, evE.eq_16, evE.eq_17, evE.eq_18, evE.eq_19, evE.eq_21, evE.eq_22, evE.eq_23, evO, evL, evI, evC, opds, Opd.get, pq_add, pq_sub, pq_mul, pq_fdiv, pq_mod, pq_pow, pq_neg, pq_idx, pq_len, pq_tuple, pq_list, pq_rg1, pq_rg2, pq_sorted, pq_abs, pq_int1, pq_max2, pq_min2, pq_all, pq_sum1, pq_lindex, pq_repr, pq_cmp, pq_isT, isData, isTy, of_some, Option.map_some, bd_ok, fl_ok, asBool_bl, cmpT, ltT, argsOut, pNeg, callO, lend, giveBack, T.pure, T.fz, T.fzs, fzs_ils, eqT_int, eqT_bl, eqT_tp, eqT_lst, pLen_tp, pLen_lst, bT_name, bT_tup, bT_lst, bTs_nil, bTs_cons, Option.bind_some, setAll, wipeE, unwipe, len_ils, isLst, line, Int.natCast_inj, isKey, any_ils, inT_ils, eqT_nil, eqT_nn, ils_app, pure_ils, items, setIxS, setIxT, pk28, s1, pAdd, pk29, s2, hrg, pk30, s3, s4, pTuple_lst, pk41, s5, pMod, q, pk35, s6, pk42, s7, s8, pk19, s9, s10, s11, s12, pList_tp, s13, s14, f1, f2, f3, f4, f5, f6, f7, lsOf_len, set_ils, s15]
        exact hN2 _ _ _ _ _ _ _ _
    · rintro e ⟨D, b3, b4, b5, b6, b7, b8, b9, b10, rfl, hD⟩ _
      simp [-List.filterMap_map, -List.map_map, -List.map_set, -List.map_append, -List.any_map, -List.any_append, -List.all_map, -List.all_append, -List.map_take, -List.map_drop, -List.map_tail, -List.map_reverse, -List.map_dropLast, sat_nx, sat_rt, sat_bk, sat_ct, sat_if, osat_ok, Kn_at, sat_nil, sat_cons, sat_for, ForK_at, ev_lcK, LcK_t, LcK_l, LcK_lo, LcK_et, LcK_el, LcK_elo, RetK_at, NonK_at, evS.eq_1, evS.eq_2, evS.eq_3, evS.eq_4, evS.eq_5, evS.eq_6, evS.eq_7, evS.eq_8, evS.eq_9, evS.eq_10, evS.eq_11, evS.eq_12, evS.eq_15, evS.eq_16, evS.eq_17, evS.eq_18, evS.eq_19, evE.eq_1, evE.eq_2, evE.eq_3, evE.eq_4, evE.eq_5, evE.eq_6, evE.eq_7, evE.eq_8, evE.eq_9, evE.eq_10, evE.eq_11, evE.eq_12, evE.eq_13, evE.eq_14, evE.eq_15, evE.eq_16, evE.eq_17, evE.eq_18, evE.eq_19, evE.eq_21, evE.eq_22, evE.eq_23, evO, evL, evI, evC, opds, Opd.get, pq_add, pq_sub, pq_mul, pq_fdiv, pq_mod, pq_pow, pq_neg, pq_idx, pq_len, pq_tuple, pq_list, pq_rg1, pq_rg2, pq_sorted, pq_abs, pq_int1, pq_max2, pq_min2, pq_all, pq_sum1, pq_lindex, pq_repr, pq_cmp, pq_isT, isData, isTy, of_some, Option.map_some, bd_ok, fl_ok, asBool_bl, cmpT, ltT, argsOut, pNeg, callO, lend, giveBack, T.pure, T.fz, T.fzs, fzs_ils, eqT_int, eqT_bl, eqT_tp, eqT_lst, pLen_tp, pLen_lst, bT_name, bT_tup, bT_lst, bTs_nil, bTs_cons, Option.bind_some, setAll, wipeE, unwipe, len_ils, isLst, line, Int.natCast_inj, isKey, any_ils, inT_ils, eqT_nil, eqT_nn, ils_app, pure_ils, items]
      exact hN _ ⟨_, _, _, _, _, _, _, _, _, _, rfl⟩ trivial
  · rintro e ⟨b1, b2, b3, b4, b5, b6, b7, b8, b9, b10, rfl⟩ _
    obtain ⟨x1, y1, g1⟩ := g1
    obtain ⟨x2, y2, g2⟩ := g2
    simp [-List.filterMap_map, -List.map_map, -List.map_set, -List.map_append, -List.any_map, -List.any_append, -List.all_map, -List.all_append, -List.map_take, -List.map_drop, -List.map_tail, -List.map_reverse, -List.map_dropLast, sat_nx, sat_rt, sat_bk, sat_ct, sat_if, osat_ok, Kn_at, sat_nil, sat_cons, sat_for, ForK_at, ev_lcK, LcK_t, LcK_l, LcK_lo, LcK_et, LcK_el, LcK_elo, RetK_at, NonK_at, evS.eq_1, evS.eq_2, evS.eq_3, evS.eq_4, evS.eq_5, evS.eq_6, evS.eq_7, evS.eq_8, evS.eq_9, evS.eq_10, evS.eq_11, evS.eq_12, evS.eq_15, evS.eq_16, evS.eq_17, evS.eq_18, evS.eq_19, evE.eq_1, evE.eq_2, evE.eq_3, evE.eq_4, evE.eq_5, evE.eq_6, evE.eq_7, evE.eq_8, evE.eq_9, evE.eq_10, evE.eq_11, evE.eq_12, evE.eq_13, evE.eq_14, evE.eq_15, evE.eq_16, evE.eq_17, evE.eq_18, evE.eq_19, evE.eq_21, evE.eq_22, evE.eq_23, evO, evL, evI, evC, opds, Opd.get, pq_add, pq_sub, pq_mul, pq_fdiv, pq_mod, pq_pow, pq_neg, pq_idx, pq_len, pq_tuple, pq_list, pq_rg1, pq_rg2, pq_sorted, pq_abs, pq_int1, pq_max2, pq_min2, pq_all, pq_sum1, pq_lindex, pq_repr, pq_cmp, pq_isT, isData, isTy, of_some, Option.map_some, bd_ok, fl_ok, asBool_bl, cmpT, ltT, argsOut, pNeg, callO, lend, giveBack, T.pure, T.fz, T.fzs, fzs_ils, eqT_int, eqT_bl, eqT_tp, eqT_lst, pLen_tp, pLen_lst, bT_name, bT_tup, bT_lst, bTs_nil, bTs_cons, Option.bind_some, setAll, wipeE, unwipe, len_ils, isLst, line, Int.natCast_inj, isKey, any_ils, inT_ils, eqT_nil, eqT_nn, ils_app, pure_ils, items, pk19, g1, g2]
    exact hQ _ _ rfl
theorem law_ok : Ev.LawOk P 100 60 43 := fun ns _ => by
  obtain ⟨t, as, h1, rfl⟩ := law_k (w := 100) (k := 60) (by omega) (by omega) (isB_ok fin1) (isB_ok fin2) ns
  exact ⟨as, h1⟩
end K91
end
section
set_option Elab.async false
set_option linter.all false
set_option maxRecDepth 100000
namespace K91
open PySem PySem.Spec PyProof.Rows L2 Ev
def top (i : Nat) : Stmt := PySem.Challenge.pw_renamedown_k91_whole_deeds_that_lie_in_d.main.body.getD i (.Pass ⟨0, 0, 0, 0⟩)
theorem sc0 : FnScope ["value"] ["value"] (defScope (top 7)) := ⟨rfl, rfl, rfl, by decide +kernel, rfl, by decide +kernel, by decide +kernel⟩
theorem ck0 : chkSs (defS (top 7) ["value"]) nm (keptIx d0.keep) d0.body (defBody (top 7)) = true := by decide +kernel
theorem sc1 : FnScope ["value"] ["value"] (defScope (top 8)) := ⟨rfl, rfl, rfl, by decide +kernel, rfl, by decide +kernel, by decide +kernel⟩
theorem ck1 : chkSs (defS (top 8) ["value"]) nm (keptIx d1.keep) d1.body (defBody (top 8)) = true := by decide +kernel
theorem sc2 : FnScope ["value", "total", "place"] ["value", "total"] (defScope (top 10)) := ⟨rfl, rfl, rfl, by decide +kernel, rfl, by decide +kernel, by decide +kernel⟩
theorem ck2 : chkSs (defS (top 10) ["value", "total", "place"]) nm (keptIx d2.keep) d2.body (defBody (top 10)) = true := by decide +kernel
theorem sc3 : FnScope ["value"] ["value"] (defScope (top 11)) := ⟨rfl, rfl, rfl, by decide +kernel, rfl, by decide +kernel, by decide +kernel⟩
theorem ck3 : chkSs (defS (top 11) ["value"]) nm (keptIx d3.keep) d3.body (defBody (top 11)) = true := by decide +kernel
theorem sc4 : FnScope ["deed"] ["deed"] (defScope (top 12)) := ⟨rfl, rfl, rfl, by decide +kernel, rfl, by decide +kernel, by decide +kernel⟩
theorem ck4 : chkSs (defS (top 12) ["deed"]) nm (keptIx d4.keep) d4.body (defBody (top 12)) = true := by decide +kernel
theorem sc5 : FnScope ["one", "other"] ["one", "other"] (defScope (top 14)) := ⟨rfl, rfl, rfl, by decide +kernel, rfl, by decide +kernel, by decide +kernel⟩
theorem ck5 : chkSs (defS (top 14) ["one", "other"]) nm (keptIx d5.keep) d5.body (defBody (top 14)) = true := by decide +kernel
theorem sc6 : FnScope ["deed", "found", "seen", "first", "ring", "place"] ["deed"] (defScope (top 15)) := ⟨rfl, rfl, rfl, by decide +kernel, rfl, by decide +kernel, by decide +kernel⟩
theorem ck6 : chkSs (defS (top 15) ["deed", "found", "seen", "first", "ring", "place"]) nm (keptIx d6.keep) d6.body (defBody (top 15)) = true := by decide +kernel
theorem sc7 : FnScope ["deed"] ["deed"] (defScope (top 16)) := ⟨rfl, rfl, rfl, by decide +kernel, rfl, by decide +kernel, by decide +kernel⟩
theorem ck7 : chkSs (defS (top 16) ["deed"]) nm (keptIx d7.keep) d7.body (defBody (top 16)) = true := by decide +kernel
theorem sc8 : FnScope ["one", "other", "place"] ["one", "other"] (defScope (top 17)) := ⟨rfl, rfl, rfl, by decide +kernel, rfl, by decide +kernel, by decide +kernel⟩
theorem ck8 : chkSs (defS (top 17) ["one", "other", "place"]) nm (keptIx d8.keep) d8.body (defBody (top 17)) = true := by decide +kernel
theorem sc9 : FnScope ["one", "other"] ["one", "other"] (defScope (top 18)) := ⟨rfl, rfl, rfl, by decide +kernel, rfl, by decide +kernel, by decide +kernel⟩
theorem ck9 : chkSs (defS (top 18) ["one", "other"]) nm (keptIx d9.keep) d9.body (defBody (top 18)) = true := by decide +kernel
theorem sc10 : FnScope ["deed", "found", "one", "other"] ["deed"] (defScope (top 19)) := ⟨rfl, rfl, rfl, by decide +kernel, rfl, by decide +kernel, by decide +kernel⟩
theorem ck10 : chkSs (defS (top 19) ["deed", "found", "one", "other"]) nm (keptIx d10.keep) d10.body (defBody (top 19)) = true := by decide +kernel
theorem sc11 : FnScope ["deed"] ["deed"] (defScope (top 20)) := ⟨rfl, rfl, rfl, by decide +kernel, rfl, by decide +kernel, by decide +kernel⟩
theorem ck11 : chkSs (defS (top 20) ["deed"]) nm (keptIx d11.keep) d11.body (defBody (top 20)) = true := by decide +kernel
theorem sc12 : FnScope ["deed"] ["deed"] (defScope (top 21)) := ⟨rfl, rfl, rfl, by decide +kernel, rfl, by decide +kernel, by decide +kernel⟩
theorem ck12 : chkSs (defS (top 21) ["deed"]) nm (keptIx d12.keep) d12.body (defBody (top 21)) = true := by decide +kernel
theorem sc13 : FnScope ["deed"] ["deed"] (defScope (top 22)) := ⟨rfl, rfl, rfl, by decide +kernel, rfl, by decide +kernel, by decide +kernel⟩
theorem ck13 : chkSs (defS (top 22) ["deed"]) nm (keptIx d13.keep) d13.body (defBody (top 22)) = true := by decide +kernel
theorem sc14 : FnScope ["deed"] ["deed"] (defScope (top 27)) := ⟨rfl, rfl, rfl, by decide +kernel, rfl, by decide +kernel, by decide +kernel⟩
theorem ck14 : chkSs (defS (top 27) ["deed"]) nm (keptIx d14.keep) d14.body (defBody (top 27)) = true := by decide +kernel
theorem sc15 : FnScope ["inner", "whole"] ["inner", "whole"] (defScope (top 29)) := ⟨rfl, rfl, rfl, by decide +kernel, rfl, by decide +kernel, by decide +kernel⟩
theorem ck15 : chkSs (defS (top 29) ["inner", "whole"]) nm (keptIx d15.keep) d15.body (defBody (top 29)) = true := by decide +kernel
theorem sc16 : FnScope ["inner", "whole"] ["inner", "whole"] (defScope (top 30)) := ⟨rfl, rfl, rfl, by decide +kernel, rfl, by decide +kernel, by decide +kernel⟩
theorem ck16 : chkSs (defS (top 30) ["inner", "whole"]) nm (keptIx d16.keep) d16.body (defBody (top 30)) = true := by decide +kernel
theorem sc17 : FnScope ["inner", "whole"] ["inner", "whole"] (defScope (top 31)) := ⟨rfl, rfl, rfl, by decide +kernel, rfl, by decide +kernel, by decide +kernel⟩
theorem ck17 : chkSs (defS (top 31) ["inner", "whole"]) nm (keptIx d17.keep) d17.body (defBody (top 31)) = true := by decide +kernel
theorem sc18 : FnScope ["inner", "whole"] ["inner", "whole"] (defScope (top 32)) := ⟨rfl, rfl, rfl, by decide +kernel, rfl, by decide +kernel, by decide +kernel⟩
theorem ck18 : chkSs (defS (top 32) ["inner", "whole"]) nm (keptIx d18.keep) d18.body (defBody (top 32)) = true := by decide +kernel
theorem sc19 : FnScope ["inner", "whole"] ["inner", "whole"] (defScope (top 33)) := ⟨rfl, rfl, rfl, by decide +kernel, rfl, by decide +kernel, by decide +kernel⟩
theorem ck19 : chkSs (defS (top 33) ["inner", "whole"]) nm (keptIx d19.keep) d19.body (defBody (top 33)) = true := by decide +kernel
theorem sc20 : FnScope ["deed", "place", "found"] ["deed", "place"] (defScope (top 34)) := ⟨rfl, rfl, rfl, by decide +kernel, rfl, by decide +kernel, by decide +kernel⟩
theorem ck20 : chkSs (defS (top 34) ["deed", "place", "found"]) nm (keptIx d20.keep) d20.body (defBody (top 34)) = true := by decide +kernel
theorem sc21 : FnScope ["inner", "whole", "ring", "home", "place"] ["inner", "whole"] (defScope (top 35)) := ⟨rfl, rfl, rfl, by decide +kernel, rfl, by decide +kernel, by decide +kernel⟩
theorem ck21 : chkSs (defS (top 35) ["inner", "whole", "ring", "home", "place"]) nm (keptIx d21.keep) d21.body (defBody (top 35)) = true := by decide +kernel
theorem sc22 : FnScope ["inner", "whole", "ring", "home", "spots", "at", "place"] ["inner", "whole"] (defScope (top 36)) := ⟨rfl, rfl, rfl, by decide +kernel, rfl, by decide +kernel, by decide +kernel⟩
theorem ck22 : chkSs (defS (top 36) ["inner", "whole", "ring", "home", "spots", "at", "place"]) nm (keptIx d22.keep) d22.body (defBody (top 36)) = true := by decide +kernel
theorem sc23 : FnScope ["inner", "whole", "marks", "ring", "place", "home", "one", "other", "found"] ["inner", "whole"] (defScope (top 37)) := ⟨rfl, rfl, rfl, by decide +kernel, rfl, by decide +kernel, by decide +kernel⟩
theorem ck23 : chkSs (defS (top 37) ["inner", "whole", "marks", "ring", "place", "home", "one", "other", "found"]) nm (keptIx d23.keep) d23.body (defBody (top 37)) = true := by decide +kernel
theorem sc24 : FnScope ["marks", "home", "one", "other", "inner", "outer"] ["marks", "home", "one", "other"] (defScope (top 38)) := ⟨rfl, rfl, rfl, by decide +kernel, rfl, by decide +kernel, by decide +kernel⟩
theorem ck24 : chkSs (defS (top 38) ["marks", "home", "one", "other", "inner", "outer"]) nm (keptIx d24.keep) d24.body (defBody (top 38)) = true := by decide +kernel
theorem sc25 : FnScope ["inner", "whole", "found"] ["inner", "whole"] (defScope (top 39)) := ⟨rfl, rfl, rfl, by decide +kernel, rfl, by decide +kernel, by decide +kernel⟩
theorem ck25 : chkSs (defS (top 39) ["inner", "whole", "found"]) nm (keptIx d25.keep) d25.body (defBody (top 39)) = true := by decide +kernel
theorem sc26 : FnScope ["inner", "whole"] ["inner", "whole"] (defScope (top 40)) := ⟨rfl, rfl, rfl, by decide +kernel, rfl, by decide +kernel, by decide +kernel⟩
theorem ck26 : chkSs (defS (top 40) ["inner", "whole"]) nm (keptIx d26.keep) d26.body (defBody (top 40)) = true := by decide +kernel
theorem sc27 : FnScope ["script", "spot", "cell", "left"] ["script", "spot"] (defScope (top 42)) := ⟨rfl, rfl, rfl, by decide +kernel, rfl, by decide +kernel, by decide +kernel⟩
theorem ck27 : chkSs (defS (top 42) ["script", "spot", "cell", "left"]) nm (keptIx d27.keep) d27.body (defBody (top 42)) = true := by decide +kernel
theorem sc28 : FnScope ["dice", "total", "found", "one", "two"] ["dice", "total"] (defScope (top 43)) := ⟨rfl, rfl, rfl, by decide +kernel, rfl, by decide +kernel, by decide +kernel⟩
theorem ck28 : chkSs (defS (top 43) ["dice", "total", "found", "one", "two"]) nm (keptIx d28.keep) d28.body (defBody (top 43)) = true := by decide +kernel
theorem sc29 : FnScope ["dice", "items"] ["dice", "items"] (defScope (top 44)) := ⟨rfl, rfl, rfl, by decide +kernel, rfl, by decide +kernel, by decide +kernel⟩
theorem ck29 : chkSs (defS (top 44) ["dice", "items"]) nm (keptIx d29.keep) d29.body (defBody (top 44)) = true := by decide +kernel
theorem sc30 : FnScope ["dice", "items", "left", "found", "turn"] ["dice", "items"] (defScope (top 45)) := ⟨rfl, rfl, rfl, by decide +kernel, rfl, by decide +kernel, by decide +kernel⟩
theorem ck30 : chkSs (defS (top 45) ["dice", "items", "left", "found", "turn"]) nm (keptIx d30.keep) d30.body (defBody (top 45)) = true := by decide +kernel
theorem sc31 : FnScope ["places", "steps", "lies", "one", "other", "owner", "found", "place"] ["places", "steps"] (defScope (top 46)) := ⟨rfl, rfl, rfl, by decide +kernel, rfl, by decide +kernel, by decide +kernel⟩
theorem ck31 : chkSs (defS (top 46) ["places", "steps", "lies", "one", "other", "owner", "found", "place"]) nm (keptIx d31.keep) d31.body (defBody (top 46)) = true := by decide +kernel
theorem sc32 : FnScope ["deed", "found", "known", "place", "ring", "turn"] ["deed"] (defScope (top 47)) := ⟨rfl, rfl, rfl, by decide +kernel, rfl, by decide +kernel, by decide +kernel⟩
theorem ck32 : chkSs (defS (top 47) ["deed", "found", "known", "place", "ring", "turn"]) nm (keptIx d32.keep) d32.body (defBody (top 47)) = true := by decide +kernel
theorem sc33 : FnScope ["exchanges", "one", "other"] ["exchanges"] (defScope (top 48)) := ⟨rfl, rfl, rfl, by decide +kernel, rfl, by decide +kernel, by decide +kernel⟩
theorem ck33 : chkSs (defS (top 48) ["exchanges", "one", "other"]) nm (keptIx d33.keep) d33.body (defBody (top 48)) = true := by decide +kernel
theorem sc34 : FnScope ["places", "exchanges"] ["places", "exchanges"] (defScope (top 49)) := ⟨rfl, rfl, rfl, by decide +kernel, rfl, by decide +kernel, by decide +kernel⟩
theorem ck34 : chkSs (defS (top 49) ["places", "exchanges"]) nm (keptIx d34.keep) d34.body (defBody (top 49)) = true := by decide +kernel
theorem sc35 : FnScope ["places", "place"] ["places"] (defScope (top 50)) := ⟨rfl, rfl, rfl, by decide +kernel, rfl, by decide +kernel, by decide +kernel⟩
theorem ck35 : chkSs (defS (top 50) ["places", "place"]) nm (keptIx d35.keep) d35.body (defBody (top 50)) = true := by decide +kernel
theorem sc36 : FnScope ["dice", "deed", "found", "left", "turn", "ring", "one", "other", "ends"] ["dice", "deed"] (defScope (top 51)) := ⟨rfl, rfl, rfl, by decide +kernel, rfl, by decide +kernel, by decide +kernel⟩
theorem ck36 : chkSs (defS (top 51) ["dice", "deed", "found", "left", "turn", "ring", "one", "other", "ends"]) nm (keptIx d36.keep) d36.body (defBody (top 51)) = true := by decide +kernel
theorem sc37 : FnScope ["deed"] ["deed"] (defScope (top 52)) := ⟨rfl, rfl, rfl, by decide +kernel, rfl, by decide +kernel, by decide +kernel⟩
theorem ck37 : chkSs (defS (top 52) ["deed"]) nm (keptIx d37.keep) d37.body (defBody (top 52)) = true := by decide +kernel
theorem sc38 : FnScope ["deed", "place", "found", "turn"] ["deed", "place"] (defScope (top 53)) := ⟨rfl, rfl, rfl, by decide +kernel, rfl, by decide +kernel, by decide +kernel⟩
theorem ck38 : chkSs (defS (top 53) ["deed", "place", "found", "turn"]) nm (keptIx d38.keep) d38.body (defBody (top 53)) = true := by decide +kernel
theorem sc39 : FnScope ["one", "other", "home", "marks", "changes", "place", "at"] ["one", "other", "home"] (defScope (top 54)) := ⟨rfl, rfl, rfl, by decide +kernel, rfl, by decide +kernel, by decide +kernel⟩
theorem ck39 : chkSs (defS (top 54) ["one", "other", "home", "marks", "changes", "place", "at"]) nm (keptIx d39.keep) d39.body (defBody (top 54)) = true := by decide +kernel
theorem sc40 : FnScope ["inner", "whole", "rings", "at", "ring", "home", "place", "other"] ["inner", "whole"] (defScope (top 55)) := ⟨rfl, rfl, rfl, by decide +kernel, rfl, by decide +kernel, by decide +kernel⟩
theorem ck40 : chkSs (defS (top 55) ["inner", "whole", "rings", "at", "ring", "home", "place", "other"]) nm (keptIx d40.keep) d40.body (defBody (top 55)) = true := by decide +kernel
theorem sc41 : FnScope ["dice", "inner", "whole", "rest", "due", "place"] ["dice", "inner", "whole"] (defScope (top 56)) := ⟨rfl, rfl, rfl, by decide +kernel, rfl, by decide +kernel, by decide +kernel⟩
theorem ck41 : chkSs (defS (top 56) ["dice", "inner", "whole", "rest", "due", "place"]) nm (keptIx d41.keep) d41.body (defBody (top 56)) = true := by decide +kernel
theorem sc42 : FnScope ["dice", "whole", "some"] ["dice", "whole"] (defScope (top 57)) := ⟨rfl, rfl, rfl, by decide +kernel, rfl, by decide +kernel, by decide +kernel⟩
theorem ck42 : chkSs (defS (top 57) ["dice", "whole", "some"]) nm (keptIx d42.keep) d42.body (defBody (top 57)) = true := by decide +kernel
theorem sc43 : FnScope ["script", "spot", "dice", "turn", "places", "whole", "inner", "least", "ends", "one", "other"] ["script"] (defScope (top 58)) := ⟨rfl, rfl, rfl, by decide +kernel, rfl, by decide +kernel, by decide +kernel⟩
theorem ck43 : chkSs (defS (top 58) ["script", "spot", "dice", "turn", "places", "whole", "inner", "least", "ends", "one", "other"]) nm (keptIx d43.keep) d43.body (defBody (top 58)) = true := by decide +kernel
set_option maxHeartbeats 0 in
theorem all_mk {l : PySem.W.OpenLaw} {w : World} {K : PySem.W.Frag} {h : Heap} {mg : Str → Option Value} {n k : Nat} {fa f0 f1 f2 f3 f4 f5 f6 f7 f8 f9 f10 f11 f12 f13 f14 f15 f16 f17 f18 f19 f20 f21 f22 f23 f24 f25 f26 f27 f28 f29 f30 f31 f32 f33 f34 f35 f36 f37 f38 f39 f40 f41 f42 f43 : Addr} (hlaw : LawOk P n k 43) (X : K.In h) (G : h.Ns mainGlobals mg) (hfa : mg "law" = some (.ref fa))
    {od0 an0 od1 an1 od2 an2 od3 an3 od4 an4 od5 an5 od6 an6 od7 an7 od8 an8 od9 an9 od10 an10 od11 an11 od12 an12 od13 an13 od14 an14 od15 an15 od16 an16 od17 an17 od18 an18 od19 an19 od20 an20 od21 an21 od22 an22 od23 an23 od24 an24 od25 an25 od26 an26 od27 an27 od28 an28 od29 an29 od30 an30 od31 an31 od32 an32 od33 an33 od34 an34 od35 an35 od36 an36 od37 an37 od38 an38 od39 an39 od40 an40 od41 an41 od42 an42 od43 an43 : Option Addr} {sl0 sl1 sl2 sl3 sl4 sl5 sl6 sl7 sl8 sl9 sl10 sl11 sl12 sl13 sl14 sl15 sl16 sl17 sl18 sl19 sl20 sl21 sl22 sl23 sl24 sl25 sl26 sl27 sl28 sl29 sl30 sl31 sl32 sl33 sl34 sl35 sl36 sl37 sl38 sl39 sl40 sl41 sl42 sl43 : Array (Option Value)} {oc0 kV0 dc0 pm0 cd0 ct0 oc1 kV1 dc1 pm1 cd1 ct1 oc2 kV2 dc2 pm2 cd2 ct2 oc3 kV3 dc3 pm3 cd3 ct3 oc4 kV4 dc4 pm4 cd4 ct4 oc5 kV5 dc5 pm5 cd5 ct5 oc6 kV6 dc6 pm6 cd6 ct6 oc7 kV7 dc7 pm7 cd7 ct7 oc8 kV8 dc8 pm8 cd8 ct8 oc9 kV9 dc9 pm9 cd9 ct9 oc10 kV10 dc10 pm10 cd10 ct10 oc11 kV11 dc11 pm11 cd11 ct11 oc12 kV12 dc12 pm12 cd12 ct12 oc13 kV13 dc13 pm13 cd13 ct13 oc14 kV14 dc14 pm14 cd14 ct14 oc15 kV15 dc15 pm15 cd15 ct15 oc16 kV16 dc16 pm16 cd16 ct16 oc17 kV17 dc17 pm17 cd17 ct17 oc18 kV18 dc18 pm18 cd18 ct18 oc19 kV19 dc19 pm19 cd19 ct19 oc20 kV20 dc20 pm20 cd20 ct20 oc21 kV21 dc21 pm21 cd21 ct21 oc22 kV22 dc22 pm22 cd22 ct22 oc23 kV23 dc23 pm23 cd23 ct23 oc24 kV24 dc24 pm24 cd24 ct24 oc25 kV25 dc25 pm25 cd25 ct25 oc26 kV26 dc26 pm26 cd26 ct26 oc27 kV27 dc27 pm27 cd27 ct27 oc28 kV28 dc28 pm28 cd28 ct28 oc29 kV29 dc29 pm29 cd29 ct29 oc30 kV30 dc30 pm30 cd30 ct30 oc31 kV31 dc31 pm31 cd31 ct31 oc32 kV32 dc32 pm32 cd32 ct32 oc33 kV33 dc33 pm33 cd33 ct33 oc34 kV34 dc34 pm34 cd34 ct34 oc35 kV35 dc35 pm35 cd35 ct35 oc36 kV36 dc36 pm36 cd36 ct36 oc37 kV37 dc37 pm37 cd37 ct37 oc38 kV38 dc38 pm38 cd38 ct38 oc39 kV39 dc39 pm39 cd39 ct39 oc40 kV40 dc40 pm40 cd40 ct40 oc41 kV41 dc41 pm41 cd41 ct41 oc42 kV42 dc42 pm42 cd42 ct42 oc43 kV43 dc43 pm43 cd43 ct43 : Value}
    {tk0 tk1 tk2 tk3 tk4 : Tok}
    (a0 : PySem.W.nsIn K mainGlobals "is_integer" = some (some (.ref f0)))
    (a1 : PySem.W.nsIn K mainGlobals "is_count" = some (some (.ref f1)))
    (a2 : PySem.W.nsIn K mainGlobals "is_order" = some (some (.ref f2)))
    (a3 : PySem.W.nsIn K mainGlobals "is_deed" = some (some (.ref f3)))
    (a4 : PySem.W.nsIn K mainGlobals "require_deed" = some (some (.ref f14)))
    (a5 : PySem.W.nsIn K mainGlobals "require_deed_deeds" = some (some (.ref f4)))
    (a6 : PySem.W.nsIn K mainGlobals "require_same" = some (some (.ref f5)))
    (a7 : PySem.W.nsIn K mainGlobals "ring_list" = some (some (.ref f6)))
    (a8 : PySem.W.nsIn K mainGlobals "rings_of" = some (some (.ref f7)))
    (a9 : PySem.W.nsIn K mainGlobals "done_behind" = some (some (.ref f8)))
    (a10 : PySem.W.nsIn K mainGlobals "behind" = some (some (.ref f9)))
    (a11 : PySem.W.nsIn K mainGlobals "taken_back" = some (some (.ref f10)))
    (a12 : PySem.W.nsIn K mainGlobals "back_of" = some (some (.ref f11)))
    (a13 : PySem.W.nsIn K mainGlobals "least_steps_of" = some (some (.ref f12)))
    (a14 : PySem.W.nsIn K mainGlobals "least_steps" = some (some (.ref f13)))
    (a15 : PySem.W.nsIn K mainGlobals "require_deed_between" = some (some (.ref f14)))
    (a16 : PySem.W.nsIn K mainGlobals "require_both" = some (some (.ref f15)))
    (a17 : PySem.W.nsIn K mainGlobals "rest_between" = some (some (.ref f16)))
    (a18 : PySem.W.nsIn K mainGlobals "rest_of" = some (some (.ref f17)))
    (a19 : PySem.W.nsIn K mainGlobals "is_inner" = some (some (.ref f18)))
    (a20 : PySem.W.nsIn K mainGlobals "lies_in" = some (some (.ref f19)))
    (a21 : PySem.W.nsIn K mainGlobals "ring_with" = some (some (.ref f20)))
    (a22 : PySem.W.nsIn K mainGlobals "apart_reason" = some (some (.ref f21)))
    (a23 : PySem.W.nsIn K mainGlobals "round_reason" = some (some (.ref f22)))
    (a24 : PySem.W.nsIn K mainGlobals "cross_reason" = some (some (.ref f23)))
    (a25 : PySem.W.nsIn K mainGlobals "crossing" = some (some (.ref f24)))
    (a26 : PySem.W.nsIn K mainGlobals "reason_for" = some (some (.ref f25)))
    (a27 : PySem.W.nsIn K mainGlobals "any_apartness" = some (some (.ref f26)))
    (a28 : PySem.W.nsIn K mainGlobals "_law_dice" = some (some (.ref f27)))
    (a29 : PySem.W.nsIn K mainGlobals "_law_roll" = some (some (.ref f28)))
    (a30 : PySem.W.nsIn K mainGlobals "_law_pick" = some (some (.ref f29)))
    (a31 : PySem.W.nsIn K mainGlobals "_law_mixed" = some (some (.ref f30)))
    (a32 : PySem.W.nsIn K mainGlobals "_law_deed" = some (some (.ref f31)))
    (a33 : PySem.W.nsIn K mainGlobals "_law_rings" = some (some (.ref f32)))
    (a34 : PySem.W.nsIn K mainGlobals "_law_owned" = some (some (.ref f33)))
    (a35 : PySem.W.nsIn K mainGlobals "_law_tuple_deed" = some (some (.ref f34)))
    (a36 : PySem.W.nsIn K mainGlobals "_law_round" = some (some (.ref f35)))
    (a37 : PySem.W.nsIn K mainGlobals "_law_drawn_least" = some (some (.ref f36)))
    (a38 : PySem.W.nsIn K mainGlobals "_law_least" = some (some (.ref f37)))
    (a39 : PySem.W.nsIn K mainGlobals "_law_place_ring" = some (some (.ref f38)))
    (a40 : PySem.W.nsIn K mainGlobals "_law_do_meet" = some (some (.ref f39)))
    (a41 : PySem.W.nsIn K mainGlobals "_law_looks_right" = some (some (.ref f40)))
    (a42 : PySem.W.nsIn K mainGlobals "_law_right" = some (some (.ref f41)))
    (a43 : PySem.W.nsIn K mainGlobals "_law_first_part" = some (some (.ref f42)))
    (a44 : PySem.W.nsIn K mainGlobals "law" = some (some (.ref f43)))
    (l0 : K.lookup f0 = some ⟨oc0, od0, .func (PySem.W.fnOf "is_integer" "is_integer" (defArgs (top 7)) (defBody (top 7)) (defScope (top 7)) .none kV0 dc0 pm0 an0 cd0 ct0), sl0⟩) (c0 : PySem.W.codeIn K cd0 "is_integer" = true) (k0 : PySem.W.keepIn K (.ref f0) = true)
    (l1 : K.lookup f1 = some ⟨oc1, od1, .func (PySem.W.fnOf "is_count" "is_count" (defArgs (top 8)) (defBody (top 8)) (defScope (top 8)) .none kV1 dc1 pm1 an1 cd1 ct1), sl1⟩) (c1 : PySem.W.codeIn K cd1 "is_count" = true) (k1 : PySem.W.keepIn K (.ref f1) = true)
    (l2 : K.lookup f2 = some ⟨oc2, od2, .func (PySem.W.fnOf "is_order" "is_order" (defArgs (top 10)) (defBody (top 10)) (defScope (top 10)) .none kV2 dc2 pm2 an2 cd2 ct2), sl2⟩) (c2 : PySem.W.codeIn K cd2 "is_order" = true) (k2 : PySem.W.keepIn K (.ref f2) = true)
    (l3 : K.lookup f3 = some ⟨oc3, od3, .func (PySem.W.fnOf "is_deed" "is_deed" (defArgs (top 11)) (defBody (top 11)) (defScope (top 11)) .none kV3 dc3 pm3 an3 cd3 ct3), sl3⟩) (c3 : PySem.W.codeIn K cd3 "is_deed" = true) (k3 : PySem.W.keepIn K (.ref f3) = true)
    (l4 : K.lookup f4 = some ⟨oc4, od4, .func (PySem.W.fnOf "require_deed" "require_deed" (defArgs (top 12)) (defBody (top 12)) (defScope (top 12)) .none kV4 dc4 pm4 an4 cd4 ct4), sl4⟩) (c4 : PySem.W.codeIn K cd4 "require_deed" = true) (k4 : PySem.W.keepIn K (.ref f4) = true)
    (l5 : K.lookup f5 = some ⟨oc5, od5, .func (PySem.W.fnOf "require_same" "require_same" (defArgs (top 14)) (defBody (top 14)) (defScope (top 14)) .none kV5 dc5 pm5 an5 cd5 ct5), sl5⟩) (c5 : PySem.W.codeIn K cd5 "require_same" = true) (k5 : PySem.W.keepIn K (.ref f5) = true)
    (l6 : K.lookup f6 = some ⟨oc6, od6, .func (PySem.W.fnOf "ring_list" "ring_list" (defArgs (top 15)) (defBody (top 15)) (defScope (top 15)) .none kV6 dc6 pm6 an6 cd6 ct6), sl6⟩) (c6 : PySem.W.codeIn K cd6 "ring_list" = true) (k6 : PySem.W.keepIn K (.ref f6) = true)
    (l7 : K.lookup f7 = some ⟨oc7, od7, .func (PySem.W.fnOf "rings_of" "rings_of" (defArgs (top 16)) (defBody (top 16)) (defScope (top 16)) .none kV7 dc7 pm7 an7 cd7 ct7), sl7⟩) (c7 : PySem.W.codeIn K cd7 "rings_of" = true) (k7 : PySem.W.keepIn K (.ref f7) = true)
    (l8 : K.lookup f8 = some ⟨oc8, od8, .func (PySem.W.fnOf "done_behind" "done_behind" (defArgs (top 17)) (defBody (top 17)) (defScope (top 17)) .none kV8 dc8 pm8 an8 cd8 ct8), sl8⟩) (c8 : PySem.W.codeIn K cd8 "done_behind" = true) (k8 : PySem.W.keepIn K (.ref f8) = true)
    (l9 : K.lookup f9 = some ⟨oc9, od9, .func (PySem.W.fnOf "behind" "behind" (defArgs (top 18)) (defBody (top 18)) (defScope (top 18)) .none kV9 dc9 pm9 an9 cd9 ct9), sl9⟩) (c9 : PySem.W.codeIn K cd9 "behind" = true) (k9 : PySem.W.keepIn K (.ref f9) = true)
    (l10 : K.lookup f10 = some ⟨oc10, od10, .func (PySem.W.fnOf "taken_back" "taken_back" (defArgs (top 19)) (defBody (top 19)) (defScope (top 19)) .none kV10 dc10 pm10 an10 cd10 ct10), sl10⟩) (c10 : PySem.W.codeIn K cd10 "taken_back" = true) (k10 : PySem.W.keepIn K (.ref f10) = true)
    (l11 : K.lookup f11 = some ⟨oc11, od11, .func (PySem.W.fnOf "back_of" "back_of" (defArgs (top 20)) (defBody (top 20)) (defScope (top 20)) .none kV11 dc11 pm11 an11 cd11 ct11), sl11⟩) (c11 : PySem.W.codeIn K cd11 "back_of" = true) (k11 : PySem.W.keepIn K (.ref f11) = true)
    (l12 : K.lookup f12 = some ⟨oc12, od12, .func (PySem.W.fnOf "least_steps_of" "least_steps_of" (defArgs (top 21)) (defBody (top 21)) (defScope (top 21)) .none kV12 dc12 pm12 an12 cd12 ct12), sl12⟩) (c12 : PySem.W.codeIn K cd12 "least_steps_of" = true) (k12 : PySem.W.keepIn K (.ref f12) = true)
    (l13 : K.lookup f13 = some ⟨oc13, od13, .func (PySem.W.fnOf "least_steps" "least_steps" (defArgs (top 22)) (defBody (top 22)) (defScope (top 22)) .none kV13 dc13 pm13 an13 cd13 ct13), sl13⟩) (c13 : PySem.W.codeIn K cd13 "least_steps" = true) (k13 : PySem.W.keepIn K (.ref f13) = true)
    (l14 : K.lookup f14 = some ⟨oc14, od14, .func (PySem.W.fnOf "require_deed" "require_deed" (defArgs (top 27)) (defBody (top 27)) (defScope (top 27)) .none kV14 dc14 pm14 an14 cd14 ct14), sl14⟩) (c14 : PySem.W.codeIn K cd14 "require_deed" = true) (k14 : PySem.W.keepIn K (.ref f14) = true)
    (l15 : K.lookup f15 = some ⟨oc15, od15, .func (PySem.W.fnOf "require_both" "require_both" (defArgs (top 29)) (defBody (top 29)) (defScope (top 29)) .none kV15 dc15 pm15 an15 cd15 ct15), sl15⟩) (c15 : PySem.W.codeIn K cd15 "require_both" = true) (k15 : PySem.W.keepIn K (.ref f15) = true)
    (l16 : K.lookup f16 = some ⟨oc16, od16, .func (PySem.W.fnOf "rest_between" "rest_between" (defArgs (top 30)) (defBody (top 30)) (defScope (top 30)) .none kV16 dc16 pm16 an16 cd16 ct16), sl16⟩) (c16 : PySem.W.codeIn K cd16 "rest_between" = true) (k16 : PySem.W.keepIn K (.ref f16) = true)
    (l17 : K.lookup f17 = some ⟨oc17, od17, .func (PySem.W.fnOf "rest_of" "rest_of" (defArgs (top 31)) (defBody (top 31)) (defScope (top 31)) .none kV17 dc17 pm17 an17 cd17 ct17), sl17⟩) (c17 : PySem.W.codeIn K cd17 "rest_of" = true) (k17 : PySem.W.keepIn K (.ref f17) = true)
    (l18 : K.lookup f18 = some ⟨oc18, od18, .func (PySem.W.fnOf "is_inner" "is_inner" (defArgs (top 32)) (defBody (top 32)) (defScope (top 32)) .none kV18 dc18 pm18 an18 cd18 ct18), sl18⟩) (c18 : PySem.W.codeIn K cd18 "is_inner" = true) (k18 : PySem.W.keepIn K (.ref f18) = true)
    (l19 : K.lookup f19 = some ⟨oc19, od19, .func (PySem.W.fnOf "lies_in" "lies_in" (defArgs (top 33)) (defBody (top 33)) (defScope (top 33)) .none kV19 dc19 pm19 an19 cd19 ct19), sl19⟩) (c19 : PySem.W.codeIn K cd19 "lies_in" = true) (k19 : PySem.W.keepIn K (.ref f19) = true)
    (l20 : K.lookup f20 = some ⟨oc20, od20, .func (PySem.W.fnOf "ring_with" "ring_with" (defArgs (top 34)) (defBody (top 34)) (defScope (top 34)) .none kV20 dc20 pm20 an20 cd20 ct20), sl20⟩) (c20 : PySem.W.codeIn K cd20 "ring_with" = true) (k20 : PySem.W.keepIn K (.ref f20) = true)
    (l21 : K.lookup f21 = some ⟨oc21, od21, .func (PySem.W.fnOf "apart_reason" "apart_reason" (defArgs (top 35)) (defBody (top 35)) (defScope (top 35)) .none kV21 dc21 pm21 an21 cd21 ct21), sl21⟩) (c21 : PySem.W.codeIn K cd21 "apart_reason" = true) (k21 : PySem.W.keepIn K (.ref f21) = true)
    (l22 : K.lookup f22 = some ⟨oc22, od22, .func (PySem.W.fnOf "round_reason" "round_reason" (defArgs (top 36)) (defBody (top 36)) (defScope (top 36)) .none kV22 dc22 pm22 an22 cd22 ct22), sl22⟩) (c22 : PySem.W.codeIn K cd22 "round_reason" = true) (k22 : PySem.W.keepIn K (.ref f22) = true)
    (l23 : K.lookup f23 = some ⟨oc23, od23, .func (PySem.W.fnOf "cross_reason" "cross_reason" (defArgs (top 37)) (defBody (top 37)) (defScope (top 37)) .none kV23 dc23 pm23 an23 cd23 ct23), sl23⟩) (c23 : PySem.W.codeIn K cd23 "cross_reason" = true) (k23 : PySem.W.keepIn K (.ref f23) = true)
    (l24 : K.lookup f24 = some ⟨oc24, od24, .func (PySem.W.fnOf "crossing" "crossing" (defArgs (top 38)) (defBody (top 38)) (defScope (top 38)) .none kV24 dc24 pm24 an24 cd24 ct24), sl24⟩) (c24 : PySem.W.codeIn K cd24 "crossing" = true) (k24 : PySem.W.keepIn K (.ref f24) = true)
    (l25 : K.lookup f25 = some ⟨oc25, od25, .func (PySem.W.fnOf "reason_for" "reason_for" (defArgs (top 39)) (defBody (top 39)) (defScope (top 39)) .none kV25 dc25 pm25 an25 cd25 ct25), sl25⟩) (c25 : PySem.W.codeIn K cd25 "reason_for" = true) (k25 : PySem.W.keepIn K (.ref f25) = true)
    (l26 : K.lookup f26 = some ⟨oc26, od26, .func (PySem.W.fnOf "any_apartness" "any_apartness" (defArgs (top 40)) (defBody (top 40)) (defScope (top 40)) .none kV26 dc26 pm26 an26 cd26 ct26), sl26⟩) (c26 : PySem.W.codeIn K cd26 "any_apartness" = true) (k26 : PySem.W.keepIn K (.ref f26) = true)
    (l27 : K.lookup f27 = some ⟨oc27, od27, .func (PySem.W.fnOf "_law_dice" "_law_dice" (defArgs (top 42)) (defBody (top 42)) (defScope (top 42)) .none kV27 dc27 pm27 an27 cd27 ct27), sl27⟩) (c27 : PySem.W.codeIn K cd27 "_law_dice" = true) (k27 : PySem.W.keepIn K (.ref f27) = true)
    (l28 : K.lookup f28 = some ⟨oc28, od28, .func (PySem.W.fnOf "_law_roll" "_law_roll" (defArgs (top 43)) (defBody (top 43)) (defScope (top 43)) .none kV28 dc28 pm28 an28 cd28 ct28), sl28⟩) (c28 : PySem.W.codeIn K cd28 "_law_roll" = true) (k28 : PySem.W.keepIn K (.ref f28) = true)
    (l29 : K.lookup f29 = some ⟨oc29, od29, .func (PySem.W.fnOf "_law_pick" "_law_pick" (defArgs (top 44)) (defBody (top 44)) (defScope (top 44)) .none kV29 dc29 pm29 an29 cd29 ct29), sl29⟩) (c29 : PySem.W.codeIn K cd29 "_law_pick" = true) (k29 : PySem.W.keepIn K (.ref f29) = true)
    (l30 : K.lookup f30 = some ⟨oc30, od30, .func (PySem.W.fnOf "_law_mixed" "_law_mixed" (defArgs (top 45)) (defBody (top 45)) (defScope (top 45)) .none kV30 dc30 pm30 an30 cd30 ct30), sl30⟩) (c30 : PySem.W.codeIn K cd30 "_law_mixed" = true) (k30 : PySem.W.keepIn K (.ref f30) = true)
    (l31 : K.lookup f31 = some ⟨oc31, od31, .func (PySem.W.fnOf "_law_deed" "_law_deed" (defArgs (top 46)) (defBody (top 46)) (defScope (top 46)) .none kV31 dc31 pm31 an31 cd31 ct31), sl31⟩) (c31 : PySem.W.codeIn K cd31 "_law_deed" = true) (k31 : PySem.W.keepIn K (.ref f31) = true)
    (l32 : K.lookup f32 = some ⟨oc32, od32, .func (PySem.W.fnOf "_law_rings" "_law_rings" (defArgs (top 47)) (defBody (top 47)) (defScope (top 47)) .none kV32 dc32 pm32 an32 cd32 ct32), sl32⟩) (c32 : PySem.W.codeIn K cd32 "_law_rings" = true) (k32 : PySem.W.keepIn K (.ref f32) = true)
    (l33 : K.lookup f33 = some ⟨oc33, od33, .func (PySem.W.fnOf "_law_owned" "_law_owned" (defArgs (top 48)) (defBody (top 48)) (defScope (top 48)) .none kV33 dc33 pm33 an33 cd33 ct33), sl33⟩) (c33 : PySem.W.codeIn K cd33 "_law_owned" = true) (k33 : PySem.W.keepIn K (.ref f33) = true)
    (l34 : K.lookup f34 = some ⟨oc34, od34, .func (PySem.W.fnOf "_law_tuple_deed" "_law_tuple_deed" (defArgs (top 49)) (defBody (top 49)) (defScope (top 49)) .none kV34 dc34 pm34 an34 cd34 ct34), sl34⟩) (c34 : PySem.W.codeIn K cd34 "_law_tuple_deed" = true) (k34 : PySem.W.keepIn K (.ref f34) = true)
    (l35 : K.lookup f35 = some ⟨oc35, od35, .func (PySem.W.fnOf "_law_round" "_law_round" (defArgs (top 50)) (defBody (top 50)) (defScope (top 50)) .none kV35 dc35 pm35 an35 cd35 ct35), sl35⟩) (c35 : PySem.W.codeIn K cd35 "_law_round" = true) (k35 : PySem.W.keepIn K (.ref f35) = true)
    (l36 : K.lookup f36 = some ⟨oc36, od36, .func (PySem.W.fnOf "_law_drawn_least" "_law_drawn_least" (defArgs (top 51)) (defBody (top 51)) (defScope (top 51)) .none kV36 dc36 pm36 an36 cd36 ct36), sl36⟩) (c36 : PySem.W.codeIn K cd36 "_law_drawn_least" = true) (k36 : PySem.W.keepIn K (.ref f36) = true)
    (l37 : K.lookup f37 = some ⟨oc37, od37, .func (PySem.W.fnOf "_law_least" "_law_least" (defArgs (top 52)) (defBody (top 52)) (defScope (top 52)) .none kV37 dc37 pm37 an37 cd37 ct37), sl37⟩) (c37 : PySem.W.codeIn K cd37 "_law_least" = true) (k37 : PySem.W.keepIn K (.ref f37) = true)
    (l38 : K.lookup f38 = some ⟨oc38, od38, .func (PySem.W.fnOf "_law_place_ring" "_law_place_ring" (defArgs (top 53)) (defBody (top 53)) (defScope (top 53)) .none kV38 dc38 pm38 an38 cd38 ct38), sl38⟩) (c38 : PySem.W.codeIn K cd38 "_law_place_ring" = true) (k38 : PySem.W.keepIn K (.ref f38) = true)
    (l39 : K.lookup f39 = some ⟨oc39, od39, .func (PySem.W.fnOf "_law_do_meet" "_law_do_meet" (defArgs (top 54)) (defBody (top 54)) (defScope (top 54)) .none kV39 dc39 pm39 an39 cd39 ct39), sl39⟩) (c39 : PySem.W.codeIn K cd39 "_law_do_meet" = true) (k39 : PySem.W.keepIn K (.ref f39) = true)
    (l40 : K.lookup f40 = some ⟨oc40, od40, .func (PySem.W.fnOf "_law_looks_right" "_law_looks_right" (defArgs (top 55)) (defBody (top 55)) (defScope (top 55)) .none kV40 dc40 pm40 an40 cd40 ct40), sl40⟩) (c40 : PySem.W.codeIn K cd40 "_law_looks_right" = true) (k40 : PySem.W.keepIn K (.ref f40) = true)
    (l41 : K.lookup f41 = some ⟨oc41, od41, .func (PySem.W.fnOf "_law_right" "_law_right" (defArgs (top 56)) (defBody (top 56)) (defScope (top 56)) .none kV41 dc41 pm41 an41 cd41 ct41), sl41⟩) (c41 : PySem.W.codeIn K cd41 "_law_right" = true) (k41 : PySem.W.keepIn K (.ref f41) = true)
    (l42 : K.lookup f42 = some ⟨oc42, od42, .func (PySem.W.fnOf "_law_first_part" "_law_first_part" (defArgs (top 57)) (defBody (top 57)) (defScope (top 57)) .none kV42 dc42 pm42 an42 cd42 ct42), sl42⟩) (c42 : PySem.W.codeIn K cd42 "_law_first_part" = true) (k42 : PySem.W.keepIn K (.ref f42) = true)
    (l43 : K.lookup f43 = some ⟨oc43, od43, .func (PySem.W.fnOf "law" "law" (defArgs (top 58)) (defBody (top 58)) (defScope (top 58)) .none kV43 dc43 pm43 an43 cd43 ct43), sl43⟩) (c43 : PySem.W.codeIn K cd43 "law" = true) (k43 : PySem.W.keepIn K (.ref f43) = true)
    (v0 : PySem.W.nsIn K mainGlobals "APART" = some (some (.str "apart" tk0)))
    (v1 : PySem.W.nsIn K mainGlobals "CROSS" = some (some (.str "cross" tk1)))
    (v2 : PySem.W.nsIn K mainGlobals "LIMIT" = some (some (.int 100000000000000000000000000000000000000000000000000000000000000000000000000000000000000000000000000000000000000000000000000000000000000000000000000000000000000000000000000000000000000000000000000000000 tk2)))
    (v3 : PySem.W.nsIn K mainGlobals "MAX_PLACES" = some (some (.int 12 tk3)))
    (v4 : PySem.W.nsIn K mainGlobals "ROUND" = some (some (.str "round" tk4)))
    (z0 : PySem.W.nsIn K mainGlobals "abs" = some none)
    (z1 : PySem.W.nsIn K mainGlobals "all" = some none)
    (z2 : PySem.W.nsIn K mainGlobals "bool" = some none)
    (z3 : PySem.W.nsIn K mainGlobals "enumerate" = some none)
    (z4 : PySem.W.nsIn K mainGlobals "int" = some none)
    (z5 : PySem.W.nsIn K mainGlobals "isinstance" = some none)
    (z6 : PySem.W.nsIn K mainGlobals "len" = some none)
    (z7 : PySem.W.nsIn K mainGlobals "list" = some none)
    (z8 : PySem.W.nsIn K mainGlobals "max" = some none)
    (z9 : PySem.W.nsIn K mainGlobals "min" = some none)
    (z10 : PySem.W.nsIn K mainGlobals "range" = some none)
    (z11 : PySem.W.nsIn K mainGlobals "repr" = some none)
    (z12 : PySem.W.nsIn K mainGlobals "sorted" = some none)
    (z13 : PySem.W.nsIn K mainGlobals "tuple" = some none)
    : ∃ fd : FuncData, (∀ (s : Shared) (u : Value), BindsTo s fd ⟨[u], []⟩ [("script", u)]) ∧ ∀ base : Heap, K.In base → base.Ns mainGlobals mg → FnOk l.prog w K mg base (L2.CX l.prog w) k fa fd ["script"] (Ev.spLaw K) := by
  have e := hfa.symm.trans (PySem.W.mg_of X G a44)
  cases e
  let Gm : Ev.Gm := { K := K, fa := fun i => match i with | 0 => f0 | 1 => f1 | 2 => f2 | 3 => f3 | 4 => f4 | 5 => f5 | 6 => f6 | 7 => f7 | 8 => f8 | 9 => f9 | 10 => f10 | 11 => f11 | 12 => f12 | 13 => f13 | 14 => f14 | 15 => f15 | 16 => f16 | 17 => f17 | 18 => f18 | 19 => f19 | 20 => f20 | 21 => f21 | 22 => f22 | 23 => f23 | 24 => f24 | 25 => f25 | 26 => f26 | 27 => f27 | 28 => f28 | 29 => f29 | 30 => f30 | 31 => f31 | 32 => f32 | 33 => f33 | 34 => f34 | 35 => f35 | 36 => f36 | 37 => f37 | 38 => f38 | 39 => f39 | 40 => f40 | 41 => f41 | 42 => f42 | 43 => fa | _ => 0, ca := fun _ => 0, fld := fun _ => "" }
  have F0 := fun_mk (st := top 7) l0 c0 k0
  have b0 := F0.binds (ps := ["value"]) fun _ _ _ _ _ _ us hl => match us, hl with | [_], _ => rfl
  have D0 := df_mk (nm := nm) (G := Gm) (f := 0) (d := d0) rfl F0 b0 sc0 rfl rfl (by decide) ck0
  have F1 := fun_mk (st := top 8) l1 c1 k1
  have b1 := F1.binds (ps := ["value"]) fun _ _ _ _ _ _ us hl => match us, hl with | [_], _ => rfl
  have D1 := df_mk (nm := nm) (G := Gm) (f := 1) (d := d1) rfl F1 b1 sc1 rfl rfl (by decide) ck1
  have F2 := fun_mk (st := top 10) l2 c2 k2
  have b2 := F2.binds (ps := ["value", "total"]) fun _ _ _ _ _ _ us hl => match us, hl with | [_, _], _ => rfl
  have D2 := df_mk (nm := nm) (G := Gm) (f := 2) (d := d2) rfl F2 b2 sc2 rfl rfl (by decide) ck2
  have F3 := fun_mk (st := top 11) l3 c3 k3
  have b3 := F3.binds (ps := ["value"]) fun _ _ _ _ _ _ us hl => match us, hl with | [_], _ => rfl
  have D3 := df_mk (nm := nm) (G := Gm) (f := 3) (d := d3) rfl F3 b3 sc3 rfl rfl (by decide) ck3
  have F4 := fun_mk (st := top 12) l4 c4 k4
  have b4 := F4.binds (ps := ["deed"]) fun _ _ _ _ _ _ us hl => match us, hl with | [_], _ => rfl
  have D4 := df_mk (nm := nm) (G := Gm) (f := 4) (d := d4) rfl F4 b4 sc4 rfl rfl (by decide) ck4
  have F5 := fun_mk (st := top 14) l5 c5 k5
  have b5 := F5.binds (ps := ["one", "other"]) fun _ _ _ _ _ _ us hl => match us, hl with | [_, _], _ => rfl
  have D5 := df_mk (nm := nm) (G := Gm) (f := 5) (d := d5) rfl F5 b5 sc5 rfl rfl (by decide) ck5
  have F6 := fun_mk (st := top 15) l6 c6 k6
  have b6 := F6.binds (ps := ["deed"]) fun _ _ _ _ _ _ us hl => match us, hl with | [_], _ => rfl
  have D6 := df_mk (nm := nm) (G := Gm) (f := 6) (d := d6) rfl F6 b6 sc6 rfl rfl (by decide) ck6
  have F7 := fun_mk (st := top 16) l7 c7 k7
  have b7 := F7.binds (ps := ["deed"]) fun _ _ _ _ _ _ us hl => match us, hl with | [_], _ => rfl
  have D7 := df_mk (nm := nm) (G := Gm) (f := 7) (d := d7) rfl F7 b7 sc7 rfl rfl (by decide) ck7
  have F8 := fun_mk (st := top 17) l8 c8 k8
  have b8 := F8.binds (ps := ["one", "other"]) fun _ _ _ _ _ _ us hl => match us, hl with | [_, _], _ => rfl
  have D8 := df_mk (nm := nm) (G := Gm) (f := 8) (d := d8) rfl F8 b8 sc8 rfl rfl (by decide) ck8
  have F9 := fun_mk (st := top 18) l9 c9 k9
  have b9 := F9.binds (ps := ["one", "other"]) fun _ _ _ _ _ _ us hl => match us, hl with | [_, _], _ => rfl
  have D9 := df_mk (nm := nm) (G := Gm) (f := 9) (d := d9) rfl F9 b9 sc9 rfl rfl (by decide) ck9
  have F10 := fun_mk (st := top 19) l10 c10 k10
  have b10 := F10.binds (ps := ["deed"]) fun _ _ _ _ _ _ us hl => match us, hl with | [_], _ => rfl
  have D10 := df_mk (nm := nm) (G := Gm) (f := 10) (d := d10) rfl F10 b10 sc10 rfl rfl (by decide) ck10
  have F11 := fun_mk (st := top 20) l11 c11 k11
  have b11 := F11.binds (ps := ["deed"]) fun _ _ _ _ _ _ us hl => match us, hl with | [_], _ => rfl
  have D11 := df_mk (nm := nm) (G := Gm) (f := 11) (d := d11) rfl F11 b11 sc11 rfl rfl (by decide) ck11
  have F12 := fun_mk (st := top 21) l12 c12 k12
  have b12 := F12.binds (ps := ["deed"]) fun _ _ _ _ _ _ us hl => match us, hl with | [_], _ => rfl
  have D12 := df_mk (nm := nm) (G := Gm) (f := 12) (d := d12) rfl F12 b12 sc12 rfl rfl (by decide) ck12
  have F13 := fun_mk (st := top 22) l13 c13 k13
  have b13 := F13.binds (ps := ["deed"]) fun _ _ _ _ _ _ us hl => match us, hl with | [_], _ => rfl
  have D13 := df_mk (nm := nm) (G := Gm) (f := 13) (d := d13) rfl F13 b13 sc13 rfl rfl (by decide) ck13
  have F14 := fun_mk (st := top 27) l14 c14 k14
  have b14 := F14.binds (ps := ["deed"]) fun _ _ _ _ _ _ us hl => match us, hl with | [_], _ => rfl
  have D14 := df_mk (nm := nm) (G := Gm) (f := 14) (d := d14) rfl F14 b14 sc14 rfl rfl (by decide) ck14
  have F15 := fun_mk (st := top 29) l15 c15 k15
  have b15 := F15.binds (ps := ["inner", "whole"]) fun _ _ _ _ _ _ us hl => match us, hl with | [_, _], _ => rfl
  have D15 := df_mk (nm := nm) (G := Gm) (f := 15) (d := d15) rfl F15 b15 sc15 rfl rfl (by decide) ck15
  have F16 := fun_mk (st := top 30) l16 c16 k16
  have b16 := F16.binds (ps := ["inner", "whole"]) fun _ _ _ _ _ _ us hl => match us, hl with | [_, _], _ => rfl
  have D16 := df_mk (nm := nm) (G := Gm) (f := 16) (d := d16) rfl F16 b16 sc16 rfl rfl (by decide) ck16
  have F17 := fun_mk (st := top 31) l17 c17 k17
  have b17 := F17.binds (ps := ["inner", "whole"]) fun _ _ _ _ _ _ us hl => match us, hl with | [_, _], _ => rfl
  have D17 := df_mk (nm := nm) (G := Gm) (f := 17) (d := d17) rfl F17 b17 sc17 rfl rfl (by decide) ck17
  have F18 := fun_mk (st := top 32) l18 c18 k18
  have b18 := F18.binds (ps := ["inner", "whole"]) fun _ _ _ _ _ _ us hl => match us, hl with | [_, _], _ => rfl
  have D18 := df_mk (nm := nm) (G := Gm) (f := 18) (d := d18) rfl F18 b18 sc18 rfl rfl (by decide) ck18
  have F19 := fun_mk (st := top 33) l19 c19 k19
  have b19 := F19.binds (ps := ["inner", "whole"]) fun _ _ _ _ _ _ us hl => match us, hl with | [_, _], _ => rfl
  have D19 := df_mk (nm := nm) (G := Gm) (f := 19) (d := d19) rfl F19 b19 sc19 rfl rfl (by decide) ck19
  have F20 := fun_mk (st := top 34) l20 c20 k20
  have b20 := F20.binds (ps := ["deed", "place"]) fun _ _ _ _ _ _ us hl => match us, hl with | [_, _], _ => rfl
  have D20 := df_mk (nm := nm) (G := Gm) (f := 20) (d := d20) rfl F20 b20 sc20 rfl rfl (by decide) ck20
  have F21 := fun_mk (st := top 35) l21 c21 k21
  have b21 := F21.binds (ps := ["inner", "whole"]) fun _ _ _ _ _ _ us hl => match us, hl with | [_, _], _ => rfl
  have D21 := df_mk (nm := nm) (G := Gm) (f := 21) (d := d21) rfl F21 b21 sc21 rfl rfl (by decide) ck21
  have F22 := fun_mk (st := top 36) l22 c22 k22
  have b22 := F22.binds (ps := ["inner", "whole"]) fun _ _ _ _ _ _ us hl => match us, hl with | [_, _], _ => rfl
  have D22 := df_mk (nm := nm) (G := Gm) (f := 22) (d := d22) rfl F22 b22 sc22 rfl rfl (by decide) ck22
  have F23 := fun_mk (st := top 37) l23 c23 k23
  have b23 := F23.binds (ps := ["inner", "whole"]) fun _ _ _ _ _ _ us hl => match us, hl with | [_, _], _ => rfl
  have D23 := df_mk (nm := nm) (G := Gm) (f := 23) (d := d23) rfl F23 b23 sc23 rfl rfl (by decide) ck23
  have F24 := fun_mk (st := top 38) l24 c24 k24
  have b24 := F24.binds (ps := ["marks", "home", "one", "other"]) fun _ _ _ _ _ _ us hl => match us, hl with | [_, _, _, _], _ => rfl
  have D24 := df_mk (nm := nm) (G := Gm) (f := 24) (d := d24) rfl F24 b24 sc24 rfl rfl (by decide) ck24
  have F25 := fun_mk (st := top 39) l25 c25 k25
  have b25 := F25.binds (ps := ["inner", "whole"]) fun _ _ _ _ _ _ us hl => match us, hl with | [_, _], _ => rfl
  have D25 := df_mk (nm := nm) (G := Gm) (f := 25) (d := d25) rfl F25 b25 sc25 rfl rfl (by decide) ck25
  have F26 := fun_mk (st := top 40) l26 c26 k26
  have b26 := F26.binds (ps := ["inner", "whole"]) fun _ _ _ _ _ _ us hl => match us, hl with | [_, _], _ => rfl
  have D26 := df_mk (nm := nm) (G := Gm) (f := 26) (d := d26) rfl F26 b26 sc26 rfl rfl (by decide) ck26
  have F27 := fun_mk (st := top 42) l27 c27 k27
  have b27 := F27.binds (ps := ["script", "spot"]) fun _ _ _ _ _ _ us hl => match us, hl with | [_, _], _ => rfl
  have D27 := df_mk (nm := nm) (G := Gm) (f := 27) (d := d27) rfl F27 b27 sc27 rfl rfl (by decide) ck27
  have F28 := fun_mk (st := top 43) l28 c28 k28
  have b28 := F28.binds (ps := ["dice", "total"]) fun _ _ _ _ _ _ us hl => match us, hl with | [_, _], _ => rfl
  have D28 := df_mk (nm := nm) (G := Gm) (f := 28) (d := d28) rfl F28 b28 sc28 rfl rfl (by decide) ck28
  have F29 := fun_mk (st := top 44) l29 c29 k29
  have b29 := F29.binds (ps := ["dice", "items"]) fun _ _ _ _ _ _ us hl => match us, hl with | [_, _], _ => rfl
  have D29 := df_mk (nm := nm) (G := Gm) (f := 29) (d := d29) rfl F29 b29 sc29 rfl rfl (by decide) ck29
  have F30 := fun_mk (st := top 45) l30 c30 k30
  have b30 := F30.binds (ps := ["dice", "items"]) fun _ _ _ _ _ _ us hl => match us, hl with | [_, _], _ => rfl
  have D30 := df_mk (nm := nm) (G := Gm) (f := 30) (d := d30) rfl F30 b30 sc30 rfl rfl (by decide) ck30
  have F31 := fun_mk (st := top 46) l31 c31 k31
  have b31 := F31.binds (ps := ["places", "steps"]) fun _ _ _ _ _ _ us hl => match us, hl with | [_, _], _ => rfl
  have D31 := df_mk (nm := nm) (G := Gm) (f := 31) (d := d31) rfl F31 b31 sc31 rfl rfl (by decide) ck31
  have F32 := fun_mk (st := top 47) l32 c32 k32
  have b32 := F32.binds (ps := ["deed"]) fun _ _ _ _ _ _ us hl => match us, hl with | [_], _ => rfl
  have D32 := df_mk (nm := nm) (G := Gm) (f := 32) (d := d32) rfl F32 b32 sc32 rfl rfl (by decide) ck32
  have F33 := fun_mk (st := top 48) l33 c33 k33
  have b33 := F33.binds (ps := ["exchanges"]) fun _ _ _ _ _ _ us hl => match us, hl with | [_], _ => rfl
  have D33 := df_mk (nm := nm) (G := Gm) (f := 33) (d := d33) rfl F33 b33 sc33 rfl rfl (by decide) ck33
  have F34 := fun_mk (st := top 49) l34 c34 k34
  have b34 := F34.binds (ps := ["places", "exchanges"]) fun _ _ _ _ _ _ us hl => match us, hl with | [_, _], _ => rfl
  have D34 := df_mk (nm := nm) (G := Gm) (f := 34) (d := d34) rfl F34 b34 sc34 rfl rfl (by decide) ck34
  have F35 := fun_mk (st := top 50) l35 c35 k35
  have b35 := F35.binds (ps := ["places"]) fun _ _ _ _ _ _ us hl => match us, hl with | [_], _ => rfl
  have D35 := df_mk (nm := nm) (G := Gm) (f := 35) (d := d35) rfl F35 b35 sc35 rfl rfl (by decide) ck35
  have F36 := fun_mk (st := top 51) l36 c36 k36
  have b36 := F36.binds (ps := ["dice", "deed"]) fun _ _ _ _ _ _ us hl => match us, hl with | [_, _], _ => rfl
  have D36 := df_mk (nm := nm) (G := Gm) (f := 36) (d := d36) rfl F36 b36 sc36 rfl rfl (by decide) ck36
  have F37 := fun_mk (st := top 52) l37 c37 k37
  have b37 := F37.binds (ps := ["deed"]) fun _ _ _ _ _ _ us hl => match us, hl with | [_], _ => rfl
  have D37 := df_mk (nm := nm) (G := Gm) (f := 37) (d := d37) rfl F37 b37 sc37 rfl rfl (by decide) ck37
  have F38 := fun_mk (st := top 53) l38 c38 k38
  have b38 := F38.binds (ps := ["deed", "place"]) fun _ _ _ _ _ _ us hl => match us, hl with | [_, _], _ => rfl
  have D38 := df_mk (nm := nm) (G := Gm) (f := 38) (d := d38) rfl F38 b38 sc38 rfl rfl (by decide) ck38
  have F39 := fun_mk (st := top 54) l39 c39 k39
  have b39 := F39.binds (ps := ["one", "other", "home"]) fun _ _ _ _ _ _ us hl => match us, hl with | [_, _, _], _ => rfl
  have D39 := df_mk (nm := nm) (G := Gm) (f := 39) (d := d39) rfl F39 b39 sc39 rfl rfl (by decide) ck39
  have F40 := fun_mk (st := top 55) l40 c40 k40
  have b40 := F40.binds (ps := ["inner", "whole"]) fun _ _ _ _ _ _ us hl => match us, hl with | [_, _], _ => rfl
  have D40 := df_mk (nm := nm) (G := Gm) (f := 40) (d := d40) rfl F40 b40 sc40 rfl rfl (by decide) ck40
  have F41 := fun_mk (st := top 56) l41 c41 k41
  have b41 := F41.binds (ps := ["dice", "inner", "whole"]) fun _ _ _ _ _ _ us hl => match us, hl with | [_, _, _], _ => rfl
  have D41 := df_mk (nm := nm) (G := Gm) (f := 41) (d := d41) rfl F41 b41 sc41 rfl rfl (by decide) ck41
  have F42 := fun_mk (st := top 57) l42 c42 k42
  have b42 := F42.binds (ps := ["dice", "whole"]) fun _ _ _ _ _ _ us hl => match us, hl with | [_, _], _ => rfl
  have D42 := df_mk (nm := nm) (G := Gm) (f := 42) (d := d42) rfl F42 b42 sc42 rfl rfl (by decide) ck42
  have F43 := fun_mk (st := top 58) l43 c43 k43
  have b43 := F43.binds (ps := ["script"]) fun _ _ _ _ _ _ us hl => match us, hl with | [_], _ => rfl
  have D43 := df_mk (nm := nm) (G := Gm) (f := 43) (d := d43) rfl F43 b43 sc43 rfl rfl (by decide) ck43
  have pk : PgOk K mg nm Gm P := by
    refine pg_mk (h := h) rfl ?_ ?_ ?_ ?_
    · intro f d hd
      match f, hd with
      | 0, hd => cases hd; exact ⟨_, _, _, _, _, D0⟩
      | 1, hd => cases hd; exact ⟨_, _, _, _, _, D1⟩
      | 2, hd => cases hd; exact ⟨_, _, _, _, _, D2⟩
      | 3, hd => cases hd; exact ⟨_, _, _, _, _, D3⟩
      | 4, hd => cases hd; exact ⟨_, _, _, _, _, D4⟩
      | 5, hd => cases hd; exact ⟨_, _, _, _, _, D5⟩
      | 6, hd => cases hd; exact ⟨_, _, _, _, _, D6⟩
      | 7, hd => cases hd; exact ⟨_, _, _, _, _, D7⟩
      | 8, hd => cases hd; exact ⟨_, _, _, _, _, D8⟩
      | 9, hd => cases hd; exact ⟨_, _, _, _, _, D9⟩
      | 10, hd => cases hd; exact ⟨_, _, _, _, _, D10⟩
      | 11, hd => cases hd; exact ⟨_, _, _, _, _, D11⟩
      | 12, hd => cases hd; exact ⟨_, _, _, _, _, D12⟩
      | 13, hd => cases hd; exact ⟨_, _, _, _, _, D13⟩
      | 14, hd => cases hd; exact ⟨_, _, _, _, _, D14⟩
      | 15, hd => cases hd; exact ⟨_, _, _, _, _, D15⟩
      | 16, hd => cases hd; exact ⟨_, _, _, _, _, D16⟩
      | 17, hd => cases hd; exact ⟨_, _, _, _, _, D17⟩
      | 18, hd => cases hd; exact ⟨_, _, _, _, _, D18⟩
      | 19, hd => cases hd; exact ⟨_, _, _, _, _, D19⟩
      | 20, hd => cases hd; exact ⟨_, _, _, _, _, D20⟩
      | 21, hd => cases hd; exact ⟨_, _, _, _, _, D21⟩
      | 22, hd => cases hd; exact ⟨_, _, _, _, _, D22⟩
      | 23, hd => cases hd; exact ⟨_, _, _, _, _, D23⟩
      | 24, hd => cases hd; exact ⟨_, _, _, _, _, D24⟩
      | 25, hd => cases hd; exact ⟨_, _, _, _, _, D25⟩
      | 26, hd => cases hd; exact ⟨_, _, _, _, _, D26⟩
      | 27, hd => cases hd; exact ⟨_, _, _, _, _, D27⟩
      | 28, hd => cases hd; exact ⟨_, _, _, _, _, D28⟩
      | 29, hd => cases hd; exact ⟨_, _, _, _, _, D29⟩
      | 30, hd => cases hd; exact ⟨_, _, _, _, _, D30⟩
      | 31, hd => cases hd; exact ⟨_, _, _, _, _, D31⟩
      | 32, hd => cases hd; exact ⟨_, _, _, _, _, D32⟩
      | 33, hd => cases hd; exact ⟨_, _, _, _, _, D33⟩
      | 34, hd => cases hd; exact ⟨_, _, _, _, _, D34⟩
      | 35, hd => cases hd; exact ⟨_, _, _, _, _, D35⟩
      | 36, hd => cases hd; exact ⟨_, _, _, _, _, D36⟩
      | 37, hd => cases hd; exact ⟨_, _, _, _, _, D37⟩
      | 38, hd => cases hd; exact ⟨_, _, _, _, _, D38⟩
      | 39, hd => cases hd; exact ⟨_, _, _, _, _, D39⟩
      | 40, hd => cases hd; exact ⟨_, _, _, _, _, D40⟩
      | 41, hd => cases hd; exact ⟨_, _, _, _, _, D41⟩
      | 42, hd => cases hd; exact ⟨_, _, _, _, _, D42⟩
      | 43, hd => cases hd; exact ⟨_, _, _, _, _, D43⟩
      | f + 44, hd => cases hd
    · exact all_cons ⟨PySem.W.mg_of X G a0, rfl⟩ (all_cons ⟨PySem.W.mg_of X G a1, rfl⟩ (all_cons ⟨PySem.W.mg_of X G a2, rfl⟩ (all_cons ⟨PySem.W.mg_of X G a3, rfl⟩ (all_cons ⟨PySem.W.mg_of X G a4, rfl⟩ (all_cons ⟨PySem.W.mg_of X G a5, rfl⟩ (all_cons ⟨PySem.W.mg_of X G a6, rfl⟩ (all_cons ⟨PySem.W.mg_of X G a7, rfl⟩ (all_cons ⟨PySem.W.mg_of X G a8, rfl⟩ (all_cons ⟨PySem.W.mg_of X G a9, rfl⟩ (all_cons ⟨PySem.W.mg_of X G a10, rfl⟩ (all_cons ⟨PySem.W.mg_of X G a11, rfl⟩ (all_cons ⟨PySem.W.mg_of X G a12, rfl⟩ (all_cons ⟨PySem.W.mg_of X G a13, rfl⟩ (all_cons ⟨PySem.W.mg_of X G a14, rfl⟩ (all_cons ⟨PySem.W.mg_of X G a15, rfl⟩ (all_cons ⟨PySem.W.mg_of X G a16, rfl⟩ (all_cons ⟨PySem.W.mg_of X G a17, rfl⟩ (all_cons ⟨PySem.W.mg_of X G a18, rfl⟩ (all_cons ⟨PySem.W.mg_of X G a19, rfl⟩ (all_cons ⟨PySem.W.mg_of X G a20, rfl⟩ (all_cons ⟨PySem.W.mg_of X G a21, rfl⟩ (all_cons ⟨PySem.W.mg_of X G a22, rfl⟩ (all_cons ⟨PySem.W.mg_of X G a23, rfl⟩ (all_cons ⟨PySem.W.mg_of X G a24, rfl⟩ (all_cons ⟨PySem.W.mg_of X G a25, rfl⟩ (all_cons ⟨PySem.W.mg_of X G a26, rfl⟩ (all_cons ⟨PySem.W.mg_of X G a27, rfl⟩ (all_cons ⟨PySem.W.mg_of X G a28, rfl⟩ (all_cons ⟨PySem.W.mg_of X G a29, rfl⟩ (all_cons ⟨PySem.W.mg_of X G a30, rfl⟩ (all_cons ⟨PySem.W.mg_of X G a31, rfl⟩ (all_cons ⟨PySem.W.mg_of X G a32, rfl⟩ (all_cons ⟨PySem.W.mg_of X G a33, rfl⟩ (all_cons ⟨PySem.W.mg_of X G a34, rfl⟩ (all_cons ⟨PySem.W.mg_of X G a35, rfl⟩ (all_cons ⟨PySem.W.mg_of X G a36, rfl⟩ (all_cons ⟨PySem.W.mg_of X G a37, rfl⟩ (all_cons ⟨PySem.W.mg_of X G a38, rfl⟩ (all_cons ⟨PySem.W.mg_of X G a39, rfl⟩ (all_cons ⟨PySem.W.mg_of X G a40, rfl⟩ (all_cons ⟨PySem.W.mg_of X G a41, rfl⟩ (all_cons ⟨PySem.W.mg_of X G a42, rfl⟩ (all_cons ⟨PySem.W.mg_of X G a43, rfl⟩ (all_cons ⟨PySem.W.mg_of X G a44, rfl⟩ (all_nil)))))))))))))))))))))))))))))))))))))))))))))
    · exact all_cons (con_str (PySem.W.mg_of X G v0) (by decide +kernel)) (all_cons (con_str (PySem.W.mg_of X G v1) (by decide +kernel)) (all_cons (con_int (PySem.W.mg_of X G v2)) (all_cons (con_int (PySem.W.mg_of X G v3)) (all_cons (con_str (PySem.W.mg_of X G v4) (by decide +kernel)) (all_nil)))))
    · exact all_cons (PySem.W.mg_none_of X G z0) (all_cons (PySem.W.mg_none_of X G z1) (all_cons (PySem.W.mg_none_of X G z2) (all_cons (PySem.W.mg_none_of X G z3) (all_cons (PySem.W.mg_none_of X G z4) (all_cons (PySem.W.mg_none_of X G z5) (all_cons (PySem.W.mg_none_of X G z6) (all_cons (PySem.W.mg_none_of X G z7) (all_cons (PySem.W.mg_none_of X G z8) (all_cons (PySem.W.mg_none_of X G z9) (all_cons (PySem.W.mg_none_of X G z10) (all_cons (PySem.W.mg_none_of X G z11) (all_cons (PySem.W.mg_none_of X G z12) (all_cons (PySem.W.mg_none_of X G z13) (all_nil))))))))))))))
  exact ⟨_, fun s v => .of_eq rfl, fun base _ _ => law_fn pk (f := 43) rfl D43 hlaw⟩
end K91
end
section
set_option Elab.async false
set_option linter.all false
set_option maxRecDepth 100000
namespace K91
abbrev depth : Nat := 60
end K91
open PySem PySem.W PyProof.Rows
set_option maxRecDepth 100000 in
set_option maxHeartbeats 0 in
theorem PySem.Challenge.cw_renamedown_k91_whole_deeds_that_lie_in_d_holds : PySem.Challenge.rw_renamedown_k91_whole_deeds_that_lie_in_d.Holds := by
  w_on; o_law; k_head; (case hw => w_witness2)
  k_fill
  refine Ev.walk (l := PySem.Challenge.rw_renamedown_k91_whole_deeds_that_lie_in_d) (k := K91.depth) rfl rfl ⟨rfl, by decide, by decide⟩ (fun w h Y => PySem.W.kIn_of Y) ?F
  case F =>
    intro w mg fa h KX G hmg
    refine' K91.all_mk K91.law_ok KX G hmg ?a0 ?a1 ?a2 ?a3 ?a4 ?a5 ?a6 ?a7 ?a8 ?a9 ?a10 ?a11 ?a12 ?a13 ?a14 ?a15 ?a16 ?a17 ?a18 ?a19 ?a20 ?a21 ?a22 ?a23 ?a24 ?a25 ?a26 ?a27 ?a28 ?a29 ?a30 ?a31 ?a32 ?a33 ?a34 ?a35 ?a36 ?a37 ?a38 ?a39 ?a40 ?a41 ?a42 ?a43 ?a44 ?l0 ?c0 ?k0 ?l1 ?c1 ?k1 ?l2 ?c2 ?k2 ?l3 ?c3 ?k3 ?l4 ?c4 ?k4 ?l5 ?c5 ?k5 ?l6 ?c6 ?k6 ?l7 ?c7 ?k7 ?l8 ?c8 ?k8 ?l9 ?c9 ?k9 ?l10 ?c10 ?k10 ?l11 ?c11 ?k11 ?l12 ?c12 ?k12 ?l13 ?c13 ?k13 ?l14 ?c14 ?k14 ?l15 ?c15 ?k15 ?l16 ?c16 ?k16 ?l17 ?c17 ?k17 ?l18 ?c18 ?k18 ?l19 ?c19 ?k19 ?l20 ?c20 ?k20 ?l21 ?c21 ?k21 ?l22 ?c22 ?k22 ?l23 ?c23 ?k23 ?l24 ?c24 ?k24 ?l25 ?c25 ?k25 ?l26 ?c26 ?k26 ?l27 ?c27 ?k27 ?l28 ?c28 ?k28 ?l29 ?c29 ?k29 ?l30 ?c30 ?k30 ?l31 ?c31 ?k31 ?l32 ?c32 ?k32 ?l33 ?c33 ?k33 ?l34 ?c34 ?k34 ?l35 ?c35 ?k35 ?l36 ?c36 ?k36 ?l37 ?c37 ?k37 ?l38 ?c38 ?k38 ?l39 ?c39 ?k39 ?l40 ?c40 ?k40 ?l41 ?c41 ?k41 ?l42 ?c42 ?k42 ?l43 ?c43 ?k43 ?v0 ?v1 ?v2 ?v3 ?v4 ?z0 ?z1 ?z2 ?z3 ?z4 ?z5 ?z6 ?z7 ?z8 ?z9 ?z10 ?z11 ?z12 ?z13
    (case a0 => k_is); (case a1 => k_is); (case a2 => k_is); (case a3 => k_is); (case a4 => k_is); (case a5 => k_is)
    (case a6 => k_is); (case a7 => k_is); (case a8 => k_is); (case a9 => k_is); (case a10 => k_is); (case a11 => k_is)
    (case a12 => k_is); (case a13 => k_is); (case a14 => k_is); (case a15 => k_is); (case a16 => k_is); (case a17 => k_is)
    (case a18 => k_is); (case a19 => k_is); (case a20 => k_is); (case a21 => k_is); (case a22 => k_is); (case a23 => k_is)
    (case a24 => k_is); (case a25 => k_is); (case a26 => k_is); (case a27 => k_is); (case a28 => k_is); (case a29 => k_is)
    (case a30 => k_is); (case a31 => k_is); (case a32 => k_is); (case a33 => k_is); (case a34 => k_is); (case a35 => k_is)
    (case a36 => k_is); (case a37 => k_is); (case a38 => k_is); (case a39 => k_is); (case a40 => k_is); (case a41 => k_is)
    (case a42 => k_is); (case a43 => k_is); (case a44 => k_is); (case l0 => k_is); (case c0 => k_is); (case k0 => k_is)
    (case l1 => k_is); (case c1 => k_is); (case k1 => k_is); (case l2 => k_is); (case c2 => k_is); (case k2 => k_is)
    (case l3 => k_is); (case c3 => k_is); (case k3 => k_is); (case l4 => k_is); (case c4 => k_is); (case k4 => k_is)
    (case l5 => k_is); (case c5 => k_is); (case k5 => k_is); (case l6 => k_is); (case c6 => k_is); (case k6 => k_is)
    (case l7 => k_is); (case c7 => k_is); (case k7 => k_is); (case l8 => k_is); (case c8 => k_is); (case k8 => k_is)
    (case l9 => k_is); (case c9 => k_is); (case k9 => k_is); (case l10 => k_is); (case c10 => k_is); (case k10 => k_is)
    (case l11 => k_is); (case c11 => k_is); (case k11 => k_is); (case l12 => k_is); (case c12 => k_is); (case k12 => k_is)
    (case l13 => k_is); (case c13 => k_is); (case k13 => k_is); (case l14 => k_is); (case c14 => k_is); (case k14 => k_is)
    (case l15 => k_is); (case c15 => k_is); (case k15 => k_is); (case l16 => k_is); (case c16 => k_is); (case k16 => k_is)
    (case l17 => k_is); (case c17 => k_is); (case k17 => k_is); (case l18 => k_is); (case c18 => k_is); (case k18 => k_is)
    (case l19 => k_is); (case c19 => k_is); (case k19 => k_is); (case l20 => k_is); (case c20 => k_is); (case k20 => k_is)
    (case l21 => k_is); (case c21 => k_is); (case k21 => k_is); (case l22 => k_is); (case c22 => k_is); (case k22 => k_is)
    (case l23 => k_is); (case c23 => k_is); (case k23 => k_is); (case l24 => k_is); (case c24 => k_is); (case k24 => k_is)
    (case l25 => k_is); (case c25 => k_is); (case k25 => k_is); (case l26 => k_is); (case c26 => k_is); (case k26 => k_is)
    (case l27 => k_is); (case c27 => k_is); (case k27 => k_is); (case l28 => k_is); (case c28 => k_is); (case k28 => k_is)
    (case l29 => k_is); (case c29 => k_is); (case k29 => k_is); (case l30 => k_is); (case c30 => k_is); (case k30 => k_is)
    (case l31 => k_is); (case c31 => k_is); (case k31 => k_is); (case l32 => k_is); (case c32 => k_is); (case k32 => k_is)
    (case l33 => k_is); (case c33 => k_is); (case k33 => k_is); (case l34 => k_is); (case c34 => k_is); (case k34 => k_is)
    (case l35 => k_is); (case c35 => k_is); (case k35 => k_is); (case l36 => k_is); (case c36 => k_is); (case k36 => k_is)
    (case l37 => k_is); (case c37 => k_is); (case k37 => k_is); (case l38 => k_is); (case c38 => k_is); (case k38 => k_is)
    (case l39 => k_is); (case c39 => k_is); (case k39 => k_is); (case l40 => k_is); (case c40 => k_is); (case k40 => k_is)
    (case l41 => k_is); (case c41 => k_is); (case k41 => k_is); (case l42 => k_is); (case c42 => k_is); (case k42 => k_is)
    (case l43 => k_is); (case c43 => k_is); (case k43 => k_is); (case v0 => k_is); (case v1 => k_is); (case v2 => k_is)
    (case v3 => k_is); (case v4 => k_is); (case z0 => k_is); (case z1 => k_is); (case z2 => k_is); (case z3 => k_is)
    (case z4 => k_is); (case z5 => k_is); (case z6 => k_is); (case z7 => k_is); (case z8 => k_is); (case z9 => k_is)
    (case z10 => k_is); (case z11 => k_is); (case z12 => k_is); (case z13 => k_is)
end
