import PyProof.Rows.All
import Wide.All
import OpenK.AllK
import Wide.FinOn
import PyProof.EqAt
import PyProof.EqKinds
import PyProof.TupleCall
import HandS.ForMost
import HandS.ForExc
import HandS.IsInst
import HandS.TupAny
import HandS.SortInts
import HandS.Deep
import HandS.Conv
import HandS.Zip
import HandS.Style
import HandS.TupMul
import HandS.Ends
import PySem.Challenge.RW_beastriddles_k75_whole_crabs_housed_or_s
set_option Elab.async false
set_option linter.all false
set_option maxRecDepth 100000
set_option maxHeartbeats 4000000
/-! DP: a big-step reading of plain Python over data (PyData), on the hand layer. Part 1: data in the abstract heap, slots, outcomes. -/
namespace DP
open PySem PySem.Spec PyProof.Rows L2
abbrev D := PyData
abbrev Frag := PySem.W.Frag
def kD : Key → D
  | .inl i => .int i
  | .inr x => .str x

/-! ### data in a heap -/
/-- a list: one that is told, or one of the module's own -/
def LsK (K : Frag) (F : Hp) (a : Addr) (xs : List V) : Prop :=
  Rd F a (.lst xs) ∨ ∃ (its : List Value) (n : Nat), K.lookup a = some { cls := .type "list", data := .seq its.toArray n } ∧ Vals xs its ∧ its.length ≤ sizeLine
theorem LsK.sq {K : Frag} {F : Hp} {a : Addr} {xs : List V} (h : LsK K F a xs) : SqL K F a xs := by
  rcases h with h | ⟨its, n, h1, h2, h3⟩
  · exact .inl h
  · exact .inr ⟨_, its.toArray, n, h1, rfl, rfl, rfl, by rw [List.size_toArray]; exact h3, by simpa using h2⟩
mutual
inductive Rp (K : Frag) (F : Hp) : V → D → Prop
  | non : Rp K F .non .none
  | bl (b : Bool) : Rp K F (.bl b) (.bool b)
  | int (i : Int) : Rp K F (.int i) (.int i)
  | str (x : Str) : Rp K F (.str x) (.str x)
  | lst {a : Addr} {xs : List V} {ds : List D} : LsK K F a xs → Rps K F xs ds → xs.length ≤ sizeLine → Rp K F (.ref a) (.list ds)
  | tup {a : Addr} {xs : List V} {ds : List D} : SqT K F a xs → Rps K F xs ds → xs.length ≤ sizeLine → Rp K F (.ref a) (.tuple ds)
  | dic {a : Addr} {kvs : List (Key × V)} {ds : List (D × D)} : F a = some (.dK kvs) → Rpk K F kvs ds → Rp K F (.ref a) (.dict ds)
inductive Rps (K : Frag) (F : Hp) : List V → List D → Prop
  | nil : Rps K F [] []
  | cons {v : V} {vs : List V} {d : D} {ds : List D} : Rp K F v d → Rps K F vs ds → Rps K F (v :: vs) (d :: ds)
inductive Rpk (K : Frag) (F : Hp) : List (Key × V) → List (D × D) → Prop
  | nil : Rpk K F [] []
  | cons {k : Key} {v : V} {d : D} {kvs : List (Key × V)} {ds : List (D × D)} : Rp K F v d → Rpk K F kvs ds → Rpk K F ((k, v) :: kvs) ((kD k, d) :: ds)
end
section
variable {K : Frag} {F F' : Hp}
theorem Same.seqT {a : Addr} {xs : List V} (e : Same F F') (h : SqT K F a xs) : SqT K F' a xs := by
  rcases h with (h | ⟨o, h⟩) | h
  · exact .inl (.inl (e _ _ h))
  · exact .inl (.inr ⟨o, e _ _ h⟩)
  · exact .inr h
theorem Same.lsk {a : Addr} {xs : List V} (e : Same F F') (h : LsK K F a xs) : LsK K F' a xs := by
  rcases h with (h | ⟨u, h⟩) | h
  · exact .inl (.inl (e _ _ h))
  · exact .inl (.inr ⟨u, e _ _ h⟩)
  · exact .inr h
theorem Same.rd {a : Addr} {o : HO} (e : Same F F') (h : Rd F a o) : Rd F' a o := by
  rcases h with h | ⟨u, h⟩
  · exact .inl (e _ _ h)
  · exact .inr ⟨u, e _ _ h⟩
mutual
theorem Rp.mono (s : Same F F') : ∀ {v : V} {d : D}, Rp K F v d → Rp K F' v d
  | _, _, .non => .non
  | _, _, .bl b => .bl b
  | _, _, .int i => .int i
  | _, _, .str x => .str x
  | _, _, .lst h r z => .lst (Same.lsk s h) (Rps.mono s r) z
  | _, _, .tup h r z => .tup (Same.seqT s h) (Rps.mono s r) z
  | _, _, .dic h r => .dic (s _ _ h) (Rpk.mono s r)
theorem Rps.mono (s : Same F F') : ∀ {vs : List V} {ds : List D}, Rps K F vs ds → Rps K F' vs ds
  | _, _, .nil => .nil
  | _, _, .cons h r => .cons (Rp.mono s h) (Rps.mono s r)
theorem Rpk.mono (s : Same F F') : ∀ {vs : List (Key × V)} {ds : List (D × D)}, Rpk K F vs ds → Rpk K F' vs ds
  | _, _, .nil => .nil
  | _, _, .cons h r => .cons (Rp.mono s h) (Rpk.mono s r)
end
theorem Rps.len : ∀ {vs : List V} {ds : List D}, Rps K F vs ds → vs.length = ds.length
  | _, _, .nil => rfl
  | _, _, .cons _ r => by rw [List.length_cons, List.length_cons, Rps.len r]
theorem Rps.get : ∀ {vs : List V} {ds : List D} {i : Nat} {d : D}, Rps K F vs ds → ds[i]? = some d → ∃ v, vs[i]? = some v ∧ Rp K F v d
  | _, _, _, _, .nil, h => by simp at h
  | _, _, 0, _, .cons h _, e => by simp at e; subst e; exact ⟨_, rfl, h⟩
  | _, _, i + 1, _, .cons _ r, e => by
    obtain ⟨v, h1, h2⟩ := Rps.get (i := i) r (by simpa using e)
    exact ⟨v, by simpa using h1, h2⟩
theorem Rps.getV : ∀ {vs : List V} {ds : List D} {i : Nat} {v : V}, Rps K F vs ds → vs[i]? = some v → ∃ d, ds[i]? = some d ∧ Rp K F v d
  | _, _, _, _, .nil, h => by simp at h
  | _, _, 0, _, .cons h _, e => by simp at e; subst e; exact ⟨_, rfl, h⟩
  | _, _, i + 1, _, .cons _ r, e => by
    obtain ⟨v, h1, h2⟩ := Rps.getV (i := i) r (by simpa using e)
    exact ⟨v, by simpa using h1, h2⟩
theorem Rps.append : ∀ {vs ws : List V} {ds es : List D}, Rps K F vs ds → Rps K F ws es → Rps K F (vs ++ ws) (ds ++ es)
  | _, _, _, _, .nil, h => h
  | _, _, _, _, .cons h r, q => .cons h (Rps.append r q)
theorem Rps.take : ∀ {vs : List V} {ds : List D} (n : Nat), Rps K F vs ds → Rps K F (vs.take n) (ds.take n)
  | _, _, 0, _ => .nil
  | _, _, _ + 1, .nil => .nil
  | _, _, n + 1, .cons h r => .cons h (Rps.take n r)
theorem Rps.drop : ∀ {vs : List V} {ds : List D} (n : Nat), Rps K F vs ds → Rps K F (vs.drop n) (ds.drop n)
  | _, _, 0, r => r
  | _, _, _ + 1, .nil => .nil
  | _, _, n + 1, .cons _ r => Rps.drop n r
theorem Rps.set {v : V} {d : D} (h : Rp K F v d) : ∀ {vs : List V} {ds : List D} (i : Nat), Rps K F vs ds → Rps K F (vs.set i v) (ds.set i d)
  | _, _, _, .nil => .nil
  | _, _, 0, .cons _ r => .cons h r
  | _, _, i + 1, .cons q r => .cons q (Rps.set h i r)
theorem Rps.rep {vs : List V} {ds : List D} (h : Rps K F vs ds) : ∀ k : Nat, Rps K F (List.replicate k vs).flatten (List.replicate k ds).flatten
  | 0 => .nil
  | k + 1 => by
    rw [List.replicate_succ, List.replicate_succ, List.flatten_cons, List.flatten_cons]
    exact h.append (Rps.rep h k)
theorem Rps.reverse : ∀ {vs : List V} {ds : List D}, Rps K F vs ds → Rps K F vs.reverse ds.reverse
  | _, _, .nil => .nil
  | _, _, .cons h r => by
    rw [List.reverse_cons, List.reverse_cons]
    exact (Rps.reverse r).append (.cons h .nil)
theorem Rps.ints : ∀ (ns : List Int), Rps K F (ns.map V.int) (ns.map PyData.int)
  | [] => .nil
  | n :: r => .cons (.int n) (Rps.ints r)
theorem Rps.intsV : ∀ {vs : List V} {ns : List Int}, Rps K F vs (ns.map PyData.int) → vs = ns.map V.int
  | _, [], .nil => rfl
  | _, n :: r, .cons h t => by
    cases h
    rw [List.map_cons, Rps.intsV t]
theorem Rps.boolsV : ∀ {vs : List V} {ns : List Bool}, Rps K F vs (ns.map PyData.bool) → vs = ns.map V.bl
  | _, [], .nil => rfl
  | _, n :: r, .cons h t => by
    cases h
    rw [List.map_cons, Rps.boolsV t]
end

/-! ### slots -/
/-- a slot: nothing that is told; data; a list of its own (b: lent by the caller) -/
inductive Cell where
  | un | dat (d : D) | own (b : Bool) (ds : List D)
abbrev Slots : Type := List Cell
def CellOk (K : Frag) (F H : Hp) (o : Option V) : Cell → Prop
  | .un => True
  | .dat d => ∃ v, o = some v ∧ Rp K F v d
  | .own _ ds => ∃ l xs, o = some (.ref l) ∧ F l = none ∧ H l = some (.lst xs) ∧ Rps K F xs ds ∧ xs.length ≤ sizeLine
/-- the address of an owned slot -/
def Own (σ : L2.St) (ρ : Slots) (l : Addr) : Prop := ∃ (i : Nat) (b : Bool) (ds : List D), ρ[i]? = some (Cell.own b ds) ∧ σ[i]? = some (some (V.ref l))
/-- a mark at the module table's place: nothing new is laid there -/
def Sm (F : Hp) : Prop := ∃ o, F sysModules = some (.frz o (.own 0))
theorem Sm.up {F F' : Hp} (h : Sm F) (s : Same F F') : Sm F' := let ⟨o, e⟩ := h; ⟨o, s _ _ e⟩
structure EnvOk (K : Frag) (F H : Hp) (σ : L2.St) (ρ : Slots) : Prop where
  sub : Same F H
  len : σ.length = ρ.length
  cell : ∀ (i : Nat) (c : Cell), ρ[i]? = some c → CellOk K F H (σ[i]?.getD none) c
  sep : ∀ (i j : Nat) (l : Addr) (b b' : Bool) (ds ds' : List D), ρ[i]? = some (Cell.own b ds) → ρ[j]? = some (Cell.own b' ds') → σ[i]? = some (some (V.ref l)) → σ[j]? = some (some (V.ref l)) → i = j
  sm : Sm F
/-- what a part of a run leaves of the heap: B may change -/
structure Ext (B : Addr → Prop) (F H F' H' : Hp) : Prop where
  f : Same F F'
  h : ∀ a o, H a = some o → ¬ B a → H' a = some o
  n : ∀ a, F' a ≠ none → F a ≠ none ∨ H a = none ∨ B a
  d : ∀ a, H a ≠ none → H' a ≠ none
section
variable {K : Frag} {B B' : Addr → Prop} {F H F1 H1 F2 H2 : Hp} {σ : L2.St} {ρ ρ1 ρ2 : Slots}
theorem Ext.refl : Ext B F H F H := ⟨fun _ _ h => h, fun _ _ h _ => h, fun _ h => .inl h, fun _ h => h⟩
theorem Ext.trans (a : Ext B F H F1 H1) (b : Ext B' F1 H1 F2 H2) (hb : ∀ l, B' l → B l ∨ H l = none) : Ext B F H F2 H2 := by
  refine ⟨a.f.trans b.f, fun c o e n => ?_, fun c e => ?_, fun c e => b.d c (a.d c e)⟩
  · have e1 := a.h c o e n
    refine b.h c o e1 fun q => ?_
    rcases hb c q with z | z
    · exact n z
    · rw [e] at z; cases z
  · rcases b.n c e with z | z | z
    · exact a.n c z
    · by_cases hc : H c = none
      · exact .inr (.inl hc)
      · by_cases hB : B c
        · exact .inr (.inr hB)
        · obtain ⟨o, ho⟩ := Option.ne_none_iff_exists'.mp hc
          rw [a.h c o ho hB] at z; cases z
    · rcases hb c z with z | z
      · exact .inr (.inr z)
      · exact .inr (.inl z)
theorem Ext.mono (a : Ext B F H F1 H1) (h : ∀ l, B l → B' l) : Ext B' F H F1 H1 :=
  ⟨a.f, fun c o e n => a.h c o e fun q => n (h c q), fun c e => (a.n c e).imp id (Or.imp id (h c)), a.d⟩
theorem Ext.free (a : Ext B F H F1 H1) {l : Addr} (h : H1 l = none) : H l = none := by
  cases e : H l with
  | none => rfl
  | some o => exact absurd h (a.d l (by rw [e]; simp))
/-- a new object laid, kept as data -/
theorem Ext.laid {p : Addr} {o : HO} (s : Same F H) (h : H p = none) : Ext B F H (upd F p o) (upd H p o) := by
  have hF : F p = none := s.free h
  refine ⟨fun c x e => ?_, fun c x e _ => ?_, fun c e => ?_, fun c e => ?_⟩
  · rw [upd_ne (ne_of_none e hF)]; exact e
  · rw [upd_ne (ne_of_none e h)]; exact e
  · by_cases hc : c = p
    · subst hc; exact .inr (.inl h)
    · rw [upd_ne hc] at e; exact .inl e
  · by_cases hc : c = p
    · subst hc; rw [upd_same]; simp
    · rw [upd_ne hc]; exact e
/-- a new object laid, not told as data -/
theorem Ext.laidH {p : Addr} {o : HO} (h : H p = none) : Ext B F H F (upd H p o) := by
  refine ⟨fun c x e => e, fun c x e _ => ?_, fun c e => .inl e, fun c e => ?_⟩
  · rw [upd_ne (ne_of_none e h)]; exact e
  · by_cases hc : c = p
    · subst hc; rw [upd_same]; simp
    · rw [upd_ne hc]; exact e
theorem CellOk.ext {o : Option V} {c : Cell} (h : CellOk K F H o c) (e : Ext B F H F1 H1) (hb : ∀ l b ds, c = .own b ds → o = some (.ref l) → ¬ B l) : CellOk K F1 H1 o c := by
  cases c with
  | un => trivial
  | dat d => obtain ⟨v, h1, h2⟩ := h; exact ⟨v, h1, h2.mono e.f⟩
  | own b ds =>
    obtain ⟨l, xs, h1, h2, h3, h4, h5⟩ := h
    have nb := hb l b ds rfl h1
    refine ⟨l, xs, h1, ?_, e.h _ _ h3 nb, h4.mono e.f, h5⟩
    cases q : F1 l with
    | none => rfl
    | some u =>
      rcases e.n l (by rw [q]; simp) with z | z | z
      · exact absurd h2 z
      · rw [h3] at z; cases z
      · exact absurd z nb
/-- the slots stay where nothing of theirs is changed -/
theorem EnvOk.ext (h : EnvOk K F H σ ρ) (e : Ext B F H F1 H1) (s : Same F1 H1) (hb : ∀ l, Own σ ρ l → ¬ B l) : EnvOk K F1 H1 σ ρ := by
  refine ⟨s, h.len, fun i c hc => ?_, h.sep, h.sm.up e.f⟩
  refine (h.cell i c hc).ext e fun l b ds ec eo => hb l ⟨i, b, ds, by rw [hc, ec], ?_⟩
  cases q : σ[i]? with
  | none => rw [q] at eo; cases eo
  | some u => rw [q] at eo; exact congrArg some eo
theorem sub_upd {p : Addr} {o : HO} (s : Same F H) (h : H p = none) : Same (upd F p o) (upd H p o) := fun c x e => by
  by_cases hc : c = p
  · subst hc; rw [upd_same] at e; rw [upd_same]; exact e
  · rw [upd_ne hc] at e; rw [upd_ne hc]; exact s _ _ e
theorem sub_updH {p : Addr} {o : HO} (s : Same F H) (h : F p = none) : Same F (upd H p o) := fun c x e => by
  rw [upd_ne (ne_of_none e h)]; exact s _ _ e
theorem Ext.nil_own {B : Addr → Prop} (e : Ext (fun _ => False) F H F1 H1) : Ext B F H F1 H1 := e.mono fun _ z => z.elim
end

/-! ### outcomes -/
inductive R (α : Type) where
  | ok (a : α) | exc (c : Str) (fs : List (Str × D)) | bad
def R.bind {α β : Type} : R α → (α → R β) → R β
  | .ok a, f => f a
  | .exc c fs, _ => .exc c fs
  | .bad, _ => .bad
instance : Monad R where
  pure := .ok
  bind := R.bind
@[simp] theorem bind_ok {α β : Type} (a : α) (f : α → R β) : (R.ok a >>= f) = f a := Eq.trans rfl rfl
@[simp] theorem bind_bad {α β : Type} (f : α → R β) : ((R.bad : R α) >>= f) = .bad := Eq.trans rfl rfl
@[simp] theorem bind_exc {α β : Type} (c : Str) (fs : List (Str × D)) (f : α → R β) : ((R.exc c fs : R α) >>= f) = .exc c fs := Eq.trans rfl rfl
@[simp] theorem pure_ok {α : Type} (a : α) : (pure a : R α) = .ok a := Eq.trans rfl rfl
end DP

/-! DP, part 2: the small tree and what it does to data. -/
namespace DP
open PySem PySem.Spec PyProof.Rows L2

inductive O2 where
  | add | sub | mul | fdiv | mod | pow
inductive Oc where
  | eq | ne | lt | le | gt | ge | isN | notN | inn | nin | isB | notB
inductive Lit where
  | non | bl (b : Bool) | int (i : Int) | str (x : Str)
inductive Bi where
  | len | all | any | sum | tuple | list | sorted | abs | int | str | repr
inductive Ty where
  | int | bool | tuple | list | str
inductive Tg where
  | nm (i : Nat) | tup (is : List Nat)
mutual
inductive E where
  | var (i : Nat) | frz (i : Nat) | lit (l : Lit) | cst (j : Nat)
  | tup (es : Es) | lst (es : Es)
  | bin (o : O2) (a b : E) | cmp (o : Oc) (a b : E) | chn (o1 o2 : Oc) (a b c : E)
  | neg (a : E) | not (a : E) | and (es : Es) | or (es : Es) | ife (c a b : E)
  | ix (a i : E) | slc (a lo hi : E) | nop
  | call (j : Nat) (es : Es) | callB (j i : Nat) (es : Es)
  | bi (f : Bi) (a : E) | isi (a : E) (t : Ty)
  | comp (elt : E) (tg : Tg) (it : I) (cond : E)
  | comp2 (elt : E) (tg : Tg) (it : I) (cond : E) (tg2 : Tg) (it2 : I) (cond2 : E)
  | dic1 (k v : E)
inductive Es where
  | nil | cons (e : E) (es : Es)
inductive I where
  | seq (a : E) | rng (a : E) | rng2 (a b : E)
end

/-! ### what the operators do to data -/
def sz (n : Nat) : Bool := decide (n ≤ sizeLine)
def gd (b : Bool) (r : R D) : R D := if b = true then r else .bad
def i64 (i : Int) : Bool := decide (-(2 ^ 64) < i) && decide (i < 2 ^ 64)
def op2 : O2 → D → D → R D
  | .add, .int i, .int j => .ok (.int (i + j))
  | .add, .tuple xs, .tuple ys => gd (sz (xs.length + ys.length)) (.ok (.tuple (xs ++ ys)))
  | .add, .list xs, .list ys => gd (sz (xs.length + ys.length)) (.ok (.list (xs ++ ys)))
  | .add, .str x, .str y => gd (sz (x.length + y.length)) (.ok (.str (x ++ y)))
  | .sub, .int i, .int j => .ok (.int (i - j))
  | .mul, .int i, .int j => gd (i64 i || i64 j) (.ok (.int (i * j)))
  | .mul, .tuple xs, .int k => gd (!xs.isEmpty && decide (2 ≤ k) && decide (k ≤ 1000) && decide (xs.length ≤ 1000)) (.ok (.tuple (List.replicate k.toNat xs).flatten))
  | .mul, .list xs, .int k => gd (decide (-(2 ^ 63) ≤ k) && decide (k < 2 ^ 63) && sz (xs.length * k.toNat)) (.ok (.list (List.replicate k.toNat xs).flatten))
  | .fdiv, .int i, .int j => gd (decide (0 < j) && decide (j < 1073741824)) (.ok (.int (i / j)))
  | .mod, .int i, .int j => gd (decide (0 < j)) (.ok (.int (i % j)))
  | .pow, .int i, .int j => gd (decide (0 ≤ j) && decide (j ≤ 1000000) && decide (i.natAbs < 2 ^ 64)) (.ok (.int (i ^ j.toNat)))
  | _, _, _ => .bad
def ints? : List D → R (List Int)
  | [] => .ok []
  | .int i :: r => ints? r >>= fun ns => .ok (i :: ns)
  | _ :: _ => .bad
def bools? : List D → R (List Bool)
  | [] => .ok []
  | .bool i :: r => bools? r >>= fun ns => .ok (i :: ns)
  | _ :: _ => .bad
/-- flat things: what `in` looks through item by item -/
def flat : D → Bool
  | .none | .bool _ | .int _ | .str _ => true
  | _ => false
def shp (d : D) : Bool := SeqAt.shaped d
def items? : D → R (List D)
  | .tuple xs => .ok xs
  | .list xs => .ok xs
  | _ => .bad
def isN : D → Bool
  | .none => true
  | _ => false
def bothS : D → D → Bool
  | .str _, .str _ => true
  | _, _ => false
def eqOk (d e : D) : Bool := (shp d && shp e) || bothS d e
def inOk (x : D) (ds : List D) : Bool := (shp x && shp (.list ds)) || (flat x && ds.all flat)
def inD (x y : D) : R Bool := match y with
  | .list ds => if inOk x ds = true then .ok (ds.any fun z => PyData.eqv z x) else .bad
  | .tuple ds => if (flat x && ds.all flat) = true then .ok (ds.any fun z => PyData.eqv z x) else .bad
  | _ => .bad
def cmpD : Oc → D → D → R Bool
  | .eq, d, e => if eqOk d e = true then .ok (PyData.eqv d e) else .bad
  | .ne, d, e => if eqOk d e = true then .ok (!PyData.eqv d e) else .bad
  | .lt, .int i, .int j => .ok (decide (i < j))
  | .le, .int i, .int j => .ok (decide (i ≤ j))
  | .gt, .int i, .int j => .ok (decide (j < i))
  | .ge, .int i, .int j => .ok (decide (j ≤ i))
  | .lt, .tuple xs, .tuple ys => ints? xs >>= fun ns => ints? ys >>= fun ms => .ok (HT.lexLt ns ms)
  | .isN, d, .none => .ok (isN d)
  | .notN, d, .none => .ok (!isN d)
  | .isB, .bool a, .bool b => .ok (a == b)
  | .notB, .bool a, .bool b => .ok (!(a == b))
  | .inn, x, y => inD x y
  | .nin, x, y => inD x y >>= fun b => .ok (!b)
  | _, _, _ => .bad
def ixN' (n : Nat) (i : Int) : Option Nat := ixN n i
def ixD (a i : D) : R D := match a, i with
  | .tuple xs, .int k => (match atI xs k with | some d => .ok d | none => .bad)
  | .list xs, .int k => (match atI xs k with | some d => .ok d | none => .bad)
  | _, _ => .bad
def cutD (xs : List D) (lo hi : Option Int) : List D := (xs.drop (HT.sIx xs.length 0 lo)).take (HT.sIx xs.length xs.length hi - HT.sIx xs.length 0 lo)
def slcD (a : D) (lo hi : Option Int) : R D := match a with
  | .tuple xs => .ok (.tuple (cutD xs lo hi))
  | .list xs => .ok (.list (cutD xs lo hi))
  | _ => .bad
def tyD : Ty → D → Bool
  | .int, .int _ => true
  | .int, .bool _ => true
  | .bool, .bool _ => true
  | .tuple, .tuple _ => true
  | .list, .list _ => true
  | .str, .str _ => true
  | _, _ => false
/-- a pair of a number and a tuple of numbers -/
def key? : D → R (Int × List Int)
  | .tuple [.int i, .tuple ds] => ints? ds >>= fun ns => .ok (i, ns)
  | _ => .bad
def keys? : List D → R (List (Int × List Int))
  | [] => .ok []
  | d :: r => key? d >>= fun k => keys? r >>= fun ks => .ok (k :: ks)
def kLt (p q : Int × List Int) : Bool := if p.1 = q.1 then HT.lexLt p.2 q.2 else decide (p.1 < q.1)
/-- put in its place, behind those that are alike -/
def ins {α : Type} (lt : α → α → Bool) (x : α) : List α → List α
  | [] => [x]
  | y :: r => if lt x y = true then x :: y :: r else y :: ins lt x r
def isort {α : Type} (lt : α → α → Bool) : List α → List α
  | [] => []
  | x :: r => ins lt x (isort lt r)
def kD' (p : Int × List Int) : D := .tuple [.int p.1, .tuple (p.2.map PyData.int)]
def sortD (ds : List D) : R D := match ints? ds with
  | .ok ns => .ok (.list ((isort (fun a b : Int => decide (a < b)) ns).map PyData.int))
  | _ => keys? ds >>= fun ks => .ok (.list ((isort kLt ks).map kD'))
/-- what repr can show -/
def repOk (d : D) : Bool := d.showable && decide (d.shown.length ≤ sizeLine) && decide (d.depth ≤ 64)
def biD : Bi → D → R D
  | .len, .tuple xs => .ok (.int xs.length)
  | .len, .list xs => .ok (.int xs.length)
  | .all, .list xs => bools? xs >>= fun bs => .ok (.bool (bs.all id))
  | .any, .list xs => bools? xs >>= fun bs => .ok (.bool (bs.any id))
  | .sum, .list xs => ints? xs >>= fun ns => .ok (.int ns.sum)
  | .sum, .tuple xs => ints? xs >>= fun ns => .ok (.int ns.sum)
  | .tuple, .list xs => .ok (.tuple xs)
  | .tuple, .tuple xs => .ok (.tuple xs)
  | .list, .list xs => .ok (.list xs)
  | .list, .tuple xs => .ok (.list xs)
  | .sorted, .list xs => sortD xs
  | .abs, .int i => .ok (.int (if i < 0 then -i else i))
  | .int, .int i => .ok (.int i)
  | .repr, d => gd (repOk d) (.ok (.str d.shown))
  | _, _ => .bad
def litD : Lit → D
  | .non => .none
  | .bl b => .bool b
  | .int i => .int i
  | .str x => .str x

/-! ### the run -/
/-- a def as its callers know it: bor: its first parameter is a list that is lent; nw: it hands back a list just made; what comes back, and what stands in the lent list then -/
structure Sig where
  name : Str
  n : Nat
  bor : Bool
  nw : Bool
  sem : List D → R (D × List D)
structure Gm where
  fns : List Sig
  cst : List (Str × Lit)
inductive Opd where
  | val (d : D) | plc (i : Nat)
/-- the data that an operand has by now -/
def peek (ρ : Slots) : Opd → R D
  | .val d => .ok d
  | .plc i => match ρ[i]? with
    | some (.own _ ds) => .ok (.list ds)
    | _ => .bad
def keep : Opd → R D
  | .val d => .ok d
  | .plc _ => .bad
def rdVar (ρ : Slots) (i : Nat) : R (Opd × Slots) := match ρ[i]? with
  | some (.dat d) => .ok (.val d, ρ)
  | some (.own _ _) => .ok (.plc i, ρ)
  | _ => .bad
def asB : D → R Bool
  | .bool b => .ok b
  | _ => .bad
def asI : D → R Int
  | .int i => .ok i
  | _ => .bad
/-- a target takes an item -/
def putAll : List Nat → List D → Slots → R Slots
  | [], [], ρ => .ok ρ
  | i :: is, d :: ds, ρ => putAll is ds (ρ.set i (.dat d))
  | _, _, _ => .bad
/-- slots that no one has lent -/
def free (ρ : Slots) (i : Nat) : Bool := match ρ[i]? with
  | some (.own true _) => false
  | some _ => true
  | none => false
def putTg : Tg → D → Slots → R Slots
  | .nm i, d, ρ => if free ρ i = true then .ok (ρ.set i (.dat d)) else .bad
  | .tup is, .tuple ds, ρ => if (is.all fun i => free ρ i) = true then putAll is ds ρ else .bad
  | .tup _, _, _ => .bad
def Tg.slots : Tg → List Nat
  | .nm i => [i]
  | .tup is => is
def wipeR (ρ : Slots) : List Nat → Slots
  | [] => ρ
  | v :: vs => (wipeR ρ vs).set v .un
/-- behind a block: the block's own names are the outer ones again -/
def unwipe (ρ0 ρ : Slots) : List Nat → Slots
  | [] => ρ
  | v :: vs => match ρ0[v]? with
    | some c => (unwipe ρ0 ρ vs).set v c
    | none => unwipe ρ0 ρ vs
/-- one turn of a comprehension -/
def compLoop (turn : D → Slots → R (Option D × Slots)) : List D → Slots → R (List D × Slots)
  | [], ρ => .ok ([], ρ)
  | d :: r, ρ => turn d ρ >>= fun p => compLoop turn r p.2 >>= fun q => .ok ((match p.1 with | some x => x :: q.1 | none => q.1), q.2)
/-- the outer loop of a comprehension of two clauses -/
def compLoop2 (turn : D → Slots → R (List D × Slots)) : List D → Slots → R (List D × Slots)
  | [], ρ => .ok ([], ρ)
  | d :: r, ρ => turn d ρ >>= fun p => compLoop2 turn r p.2 >>= fun q => .ok (p.1 ++ q.1, q.2)
def rngD (lo hi : Int) : List D := (List.range (hi - lo).toNat).map fun (i : Nat) => PyData.int (lo + i)
def rngOk (lo hi : Int) : Bool := decide (-(2 ^ 62) ≤ lo) && decide (lo < 2 ^ 62) && decide (-(2 ^ 62) ≤ hi) && decide (hi < 2 ^ 62)
/-- a slice's end, perhaps left out -/
def part (e : E) (r : R (Opd × Slots)) (ρ : Slots) : R (Option Int × Slots) := match e with
  | .nop => .ok (none, ρ)
  | _ => r >>= fun p => peek p.2 p.1 >>= fun x => asI x >>= fun i => .ok (some i, p.2)
def callC : Option Sig → List D → Slots → R (Opd × Slots)
  | some g, ds, ρ => if (!g.bor && decide (ds.length = g.n)) = true then g.sem ds >>= fun r => .ok (.val r.1, ρ) else .bad
  | none, _, _ => .bad
def callBC : Option Sig → Nat → List D → Slots → Option Cell → R (Opd × Slots)
  | some g, i, es, ρ, some (.own b ds) => if (g.bor && decide (es.length + 1 = g.n)) = true then g.sem (.list ds :: es) >>= fun r => .ok (.val r.1, ρ.set i (.own b r.2)) else .bad
  | _, _, _, _, _ => .bad
def isOwn : Option Cell → Bool
  | some (.own _ _) => true
  | _ => false
variable (G : Gm)
mutual
def ev : E → Slots → R (Opd × Slots)
  | .var i, ρ => rdVar ρ i
  | .frz i, ρ => (match ρ[i]? with
    | some (.dat d) => .ok (.val d, ρ)
    | some (.own false ds) => .ok (.val (.list ds), ρ.set i (.dat (.list ds)))
    | _ => .bad)
  | .lit l, ρ => .ok (.val (litD l), ρ)
  | .cst j, ρ => (match G.cst[j]? with | some p => .ok (.val (litD p.2), ρ) | none => .bad)
  | .tup es, ρ => evs es ρ >>= fun p => if sz p.1.length = true then .ok (.val (.tuple p.1), p.2) else .bad
  | .lst es, ρ => evs es ρ >>= fun p => if sz p.1.length = true then .ok (.val (.list p.1), p.2) else .bad
  | .bin o a b, ρ => ev a ρ >>= fun p => ev b p.2 >>= fun q => peek q.2 p.1 >>= fun x => peek q.2 q.1 >>= fun y => op2 o x y >>= fun d => .ok (.val d, q.2)
  | .cmp o a b, ρ => ev a ρ >>= fun p => ev b p.2 >>= fun q => peek q.2 p.1 >>= fun x => peek q.2 q.1 >>= fun y => cmpD o x y >>= fun d => .ok (.val (.bool d), q.2)
  | .chn o1 o2 a b c, ρ => ev a ρ >>= fun p => ev b p.2 >>= fun q => peek q.2 p.1 >>= fun x => peek q.2 q.1 >>= fun y => cmpD o1 x y >>= fun k =>
      if k = true then ev c q.2 >>= fun t => peek t.2 q.1 >>= fun y => peek t.2 t.1 >>= fun z => cmpD o2 y z >>= fun k2 => .ok (.val (.bool k2), t.2) else .ok (.val (.bool false), q.2)
  | .neg a, ρ => ev a ρ >>= fun p => peek p.2 p.1 >>= fun x => asI x >>= fun i => .ok (.val (.int (-i)), p.2)
  | .not a, ρ => ev a ρ >>= fun p => peek p.2 p.1 >>= fun x => asB x >>= fun b => .ok (.val (.bool (!b)), p.2)
  | .and es, ρ => evAnd es ρ
  | .or es, ρ => evOr es ρ
  | .ife c a b, ρ => ev c ρ >>= fun p => peek p.2 p.1 >>= fun x => asB x >>= fun k => if k = true then ev a p.2 else ev b p.2
  | .ix a i, ρ => ev a ρ >>= fun p => ev i p.2 >>= fun q => peek q.2 p.1 >>= fun x => peek q.2 q.1 >>= fun y => ixD x y >>= fun d => .ok (.val d, q.2)
  | .slc a lo hi, ρ => ev a ρ >>= fun p => part lo (ev lo p.2) p.2 >>= fun q => part hi (ev hi q.2) q.2 >>= fun t => peek t.2 p.1 >>= fun x => slcD x q.1 t.1 >>= fun d => .ok (.val d, t.2)
  | .nop, _ => .bad
  | .call j es, ρ => evs es ρ >>= fun p => callC G.fns[j]? p.1 p.2
  | .callB j i es, ρ => if isOwn ρ[i]? = true then evs es ρ >>= fun p => callBC G.fns[j]? i p.1 p.2 p.2[i]? else .bad
  | .bi f a, ρ => ev a ρ >>= fun p => peek p.2 p.1 >>= fun x => biD f x >>= fun d => .ok (.val d, p.2)
  | .isi a t, ρ => ev a ρ >>= fun p => peek p.2 p.1 >>= fun x => .ok (.val (.bool (tyD t x)), p.2)
  | .comp elt tg it cond, ρ => evI it ρ >>= fun p =>
      compLoop (fun d ρ1 => putTg tg d (wipeR ρ1 tg.slots) >>= fun ρ2 => ev cond ρ2 >>= fun c => peek c.2 c.1 >>= fun x => asB x >>= fun k =>
        if k = true then ev elt c.2 >>= fun y => keep y.1 >>= fun d' => .ok (some d', unwipe ρ1 y.2 tg.slots) else .ok (none, unwipe ρ1 c.2 tg.slots)) p.1 p.2 >>= fun q => .ok (.val (.list q.1), q.2)
  | .comp2 elt tg it cond tg2 it2 cond2, ρ => evI it ρ >>= fun p =>
      compLoop2 (fun d ρ1 => putTg tg d (wipeR ρ1 (tg.slots ++ tg2.slots)) >>= fun ρ2 => ev cond ρ2 >>= fun c => peek c.2 c.1 >>= fun x => asB x >>= fun k =>
        if k = true then evI it2 c.2 >>= fun p2 =>
          compLoop (fun d2 ρ3 => putTg tg2 d2 (wipeR ρ3 tg2.slots) >>= fun ρ4 => ev cond2 ρ4 >>= fun c2 => peek c2.2 c2.1 >>= fun x2 => asB x2 >>= fun k2 =>
            if k2 = true then ev elt c2.2 >>= fun y => keep y.1 >>= fun d' => .ok (some d', unwipe ρ3 y.2 tg2.slots) else .ok (none, unwipe ρ3 c2.2 tg2.slots)) p2.1 p2.2 >>= fun q => .ok (q.1, unwipe ρ1 q.2 (tg.slots ++ tg2.slots))
        else .ok ([], unwipe ρ1 c.2 (tg.slots ++ tg2.slots))) p.1 p.2 >>= fun q => if sz q.1.length = true then .ok (.val (.list q.1), q.2) else .bad
  | .dic1 k v, ρ => ev k ρ >>= fun p => ev v p.2 >>= fun q => peek q.2 p.1 >>= fun x => keep q.1 >>= fun y => (match x with
      | .int i => .ok (.val (.dict [(.int i, y)]), q.2)
      | .str s => .ok (.val (.dict [(.str s, y)]), q.2)
      | _ => .bad)
def evs : Es → Slots → R (List D × Slots)
  | .nil, ρ => .ok ([], ρ)
  | .cons e es, ρ => ev e ρ >>= fun p => keep p.1 >>= fun d => evs es p.2 >>= fun q => .ok (d :: q.1, q.2)
def evAnd : Es → Slots → R (Opd × Slots)
  | .nil, _ => .bad
  | .cons e .nil, ρ => ev e ρ
  | .cons e (.cons e2 es), ρ => ev e ρ >>= fun p => peek p.2 p.1 >>= fun x => asB x >>= fun k => if k = true then evAnd (.cons e2 es) p.2 else .ok (.val (.bool false), p.2)
def evOr : Es → Slots → R (Opd × Slots)
  | .nil, _ => .bad
  | .cons e .nil, ρ => ev e ρ
  | .cons e (.cons e2 es), ρ => ev e ρ >>= fun p => peek p.2 p.1 >>= fun x => asB x >>= fun k => if k = true then .ok (.val (.bool true), p.2) else evOr (.cons e2 es) p.2
def evI : I → Slots → R (List D × Slots)
  | .seq a, ρ => ev a ρ >>= fun p => keep p.1 >>= fun x => items? x >>= fun ds => .ok (ds, p.2)
  | .rng a, ρ => ev a ρ >>= fun p => peek p.2 p.1 >>= fun x => asI x >>= fun i => if (rngOk 0 i && sz i.toNat) = true then .ok (rngD 0 i, p.2) else .bad
  | .rng2 a b, ρ => ev a ρ >>= fun p => ev b p.2 >>= fun q => peek q.2 p.1 >>= fun x => peek q.2 q.1 >>= fun y => asI x >>= fun i => asI y >>= fun j =>
      if (rngOk i j && sz (j - i).toNat) = true then .ok (rngD i j, q.2) else .bad
end
example (l : Lit) (ρ : Slots) : ev G (.lit l) ρ = .ok (.val (litD l), ρ) := rfl
example (ρ : Slots) : ev G (.and (.cons (.lit (.bl true)) (.cons (.lit (.bl false)) .nil))) ρ = .ok (.val (.bool false), ρ) := rfl
example (d : D) : ev ⟨[], []⟩ (.comp (.tup (.cons (.var 0) (.cons (.var 1) .nil))) (.nm 0) (.rng2 (.lit (.int 1)) (.lit (.int 3))) (.lit (.bl true))) [.un, .dat d] = .ok (.val (.list [.tuple [.int 1, d], .tuple [.int 2, d]]), [.un, .dat d]) := rfl
end DP

/-! DP, part 3: the operators keep what the small tree says. -/
namespace DP
open PySem PySem.Spec PyProof.Rows L2
section
variable {K : Frag} {F H : Hp} {x y : V} {d e : D}
/-- an operand's data: told as data, or a list of one's own as it stands -/
def Wk (K : Frag) (F H : Hp) (x : V) (d : D) : Prop :=
  Rp K F x d ∨ ∃ l xs ds, x = .ref l ∧ d = .list ds ∧ H l = some (.lst xs) ∧ Rps K F xs ds ∧ xs.length ≤ sizeLine
theorem Wk.int {i : Int} (h : Wk K F H x (.int i)) : x = .int i := by
  rcases h with h | ⟨_, _, _, _, e, _⟩
  · cases h; rfl
  · cases e
theorem Wk.str {i : Str} (h : Wk K F H x (.str i)) : x = .str i := by
  rcases h with h | ⟨_, _, _, _, e, _⟩
  · cases h; rfl
  · cases e
theorem Wk.bool {i : Bool} (h : Wk K F H x (.bool i)) : x = .bl i := by
  rcases h with h | ⟨_, _, _, _, e, _⟩
  · cases h; rfl
  · cases e
theorem Wk.none (h : Wk K F H x .none) : x = .non := by
  rcases h with h | ⟨_, _, _, _, e, _⟩
  · cases h; rfl
  · cases e
theorem Wk.lst {ds : List D} (s : Same F H) (h : Wk K F H x (.list ds)) : ∃ a xs, x = .ref a ∧ LsK K H a xs ∧ Rps K F xs ds ∧ xs.length ≤ sizeLine := by
  rcases h with h | ⟨l, xs, ds', e1, e2, h1, h2, h3⟩
  · cases h with
    | lst a b c => exact ⟨_, _, rfl, Same.lsk s a, b, c⟩
  · cases e2
    exact ⟨l, xs, e1, .inl (.inl h1), h2, h3⟩
theorem Wk.tup {ds : List D} (s : Same F H) (h : Wk K F H x (.tuple ds)) : ∃ a xs, x = .ref a ∧ SqT K H a xs ∧ Rps K F xs ds ∧ xs.length ≤ sizeLine ∧ SqT K F a xs := by
  rcases h with h | ⟨_, _, _, _, e, _⟩
  · cases h with
    | tup a b c => exact ⟨_, _, rfl, Same.seqT s a, b, c, a⟩
  · cases e
mutual
theorem Rp.dp (s : Same F H) : ∀ {x : V} {d : D}, Rp K F x d → d.canLay0 = true → Dp K H x d
  | _, _, .non, _ => .non
  | _, _, .bl b, _ => .bl b
  | _, _, .int i, _ => .int i
  | _, _, .str z, _ => .str z
  | _, _, .lst h r _, l => .lst (Same.lsk s h).sq (Rps.dp s r (by simpa [PyData.canLay0] using l))
  | _, _, .tup h r _, l => .tup (Same.seqT s h) (Rps.dp s r (by simpa [PyData.canLay0] using l))
  | _, _, .dic h r, l => by simp [PyData.canLay0] at l
theorem Rps.dp (s : Same F H) : ∀ {xs : List V} {ds : List D}, Rps K F xs ds → PyData.canLayAll0 ds = true → DpAll K H xs ds
  | _, _, .nil, _ => .nil
  | _, _, .cons h r, l => by
    rw [PyData.canLayAll0, Bool.and_eq_true] at l
    exact .cons (Rp.dp s h l.1) (Rps.dp s r l.2)
end
theorem Wk.dp (s : Same F H) (h : Wk K F H x d) (l : d.canLay0 = true) : Dp K H x d := by
  rcases h with h | ⟨a, xs, ds, e1, e2, h1, h2, h3⟩
  · exact h.dp s l
  · subst e1 e2
    exact .lst (.inl (.inl h1)) (h2.dp s (by simpa [PyData.canLay0] using l))
/-- what is wanted behind an operation that gives d -/
def Res (K : Frag) (F H : Hp) (Q : VK) (d : D) : Prop := ∀ v F' H', Ext (fun _ => False) F H F' H' → Same F' H' → Rp K F' v d → Q v H'
theorem Res.pure {Q : VK} (s : Same F H) (q : Res K F H Q d) (r : Rp K F x d) : Q x H := q x F H Ext.refl s r
theorem Res.lst {Q : VK} {p : Addr} {xs : List V} {ds : List D} (s : Same F H) (q : Res K F H Q (.list ds)) (r : Rps K F xs ds) (z : xs.length ≤ sizeLine) (h : H p = none) : Q (.ref p) (upd H p (.lst xs)) := by
  have e : Ext (fun _ => False) F H (upd F p (.lst xs)) (upd H p (.lst xs)) := Ext.laid s h
  exact q _ _ _ e (sub_upd s h) (.lst (.inl (.inl upd_same)) (r.mono e.f) z)
theorem Res.tup {Q : VK} {p : Addr} {xs : List V} {ds : List D} (s : Same F H) (q : Res K F H Q (.tuple ds)) (r : Rps K F xs ds) (z : xs.length ≤ sizeLine) (h : H p = none) : Q (.ref p) (upd H p (.tup xs)) := by
  have e : Ext (fun _ => False) F H (upd F p (.tup xs)) (upd H p (.tup xs)) := Ext.laid s h
  exact q _ _ _ e (sub_upd s h) (.tup (.inl (.inl upd_same)) (r.mono e.f) z)
end
/-- a two-place operation, by data -/
def rO (K : Frag) (f : D → D → R D) : R2 := fun x y H Q => ∃ F dx dy d, Same F H ∧ Wk K F H x dx ∧ Wk K F H y dy ∧ f dx dy = .ok d ∧ Res K F H Q d
def cmpR (o : Oc) (x y : D) : R D := cmpD o x y >>= fun b => .ok (.bool b)

theorem gd_ok {b : Bool} {r : R D} {d : D} (h : gd b r = .ok d) : b = true ∧ r = .ok d := by
  unfold gd at h
  split at h
  · exact ⟨by assumption, h⟩
  · cases h
theorem sz_le {n : Nat} (h : sz n = true) : n ≤ sizeLine := of_decide_eq_true h
theorem OpR.imp {X : Cx} {f : Value → Value → Sem Value} {r r' : R2} (h : OpR X f r) (i : ∀ x y H Q, r' x y H Q → r x y H Q) : OpR X f r' := fun pins s σ H x y v u Q I rx ry q => h pins s σ H x y v u Q I rx ry (i _ _ _ _ q)
section
variable {X : Cx}
theorem Inv.lstR {pins : List (Addr × Obj)} {σ : L2.St} {H : Hp} {s : Shared} {l : Addr} {xs : List V} (I : L2.Inv X pins σ H s) (hH : LsK X.K H l xs) :
    xs.length ≤ sizeLine ∧ ∃ (its : List Value) (n : Nat), Vals xs its ∧ xs.length = its.length ∧ s.heap.get? l = some { cls := .type "list", data := .seq its.toArray n } := by
  rcases hH with hH | ⟨its, n, h1, h2, h3⟩
  · obtain ⟨z, its, n, r, e⟩ := (hH.ok I.hok : ObjOk X.prog X.w H s.heap l (.lst xs))
    exact ⟨z, its, n, r, r.length, e⟩
  · have hl := h2.length
    exact ⟨by omega, its, n, h2, hl, I.kIn l _ h1⟩
/-- list + list, whatever may change -/
theorem op_catL : OpR X (binaryOp .Add) (fun x y H Q => ∃ l b xs zs, x = .ref l ∧ y = .ref b ∧ LsK X.K H l xs ∧ LsK X.K H b zs ∧ xs.length + zs.length ≤ sizeLine ∧ ∀ p, H p = none → Q (.ref p) (upd H p (.lst (xs ++ zs)))) := by
  intro pins s σ H x y v u Q I rx ry h
  obtain ⟨l, b, xs, zs, rfl, rfl, hH, hB, hz, q⟩ := h
  cases rx
  cases ry
  obtain ⟨z, its, n, r, hl, e⟩ := Inv.lstR I hH
  obtain ⟨z2, its2, n2, r2, hl2, e2⟩ := Inv.lstR I hB
  refine PySem.P.add_list e e2 ?_ (by rw [List.size_toArray, List.size_toArray]; omega)
  have ea : its.toArray ++ its2.toArray = (its ++ its2).toArray := by simp
  rw [ea]
  exact ⟨.ref _, _, I.lnew (t' := s.toks) (r.append r2) (by rw [List.length_append]; omega), rfl, q _ I.fresh⟩
theorem op_repL : OpR X (binaryOp .Mult) (fun x y H Q => ∃ l k xs, x = .ref l ∧ y = .int k ∧ LsK X.K H l xs ∧ -(2 ^ 63) ≤ k ∧ k < 2 ^ 63 ∧ xs.length * k.toNat ≤ sizeLine ∧
  ∀ p, H p = none → Q (.ref p) (upd H p (.lst (List.replicate k.toNat xs).flatten))) := by
  intro pins s σ H x y v u Q I rx ry h
  obtain ⟨l, k, xs, rfl, rfl, hH, h1, h2, hz, q⟩ := h
  cases rx
  obtain ⟨t, rfl⟩ := ry
  obtain ⟨z, its, n, r, hl, e⟩ := Inv.lstR I hH
  have hlen : its.toArray.size * k.toNat ≤ sizeLine := by rw [List.size_toArray, ← hl]; exact hz
  have hcap : ¬ its.toArray.size * k.toNat > (2 ^ 63 - 1) / 8 := by
    have : (sizeLine : Nat) ≤ (2 ^ 63 - 1) / 8 := by decide
    omega
  have hfit : ¬ (!Builtin.List.listFitsIndex k) = true := by
    rw [fitsIndex_both h1 h2]
    exact Bool.false_ne_true
  have hlong : ¬ Builtin.List.listTooLong (its.toArray.size * k.toNat) = true := by
    rw [notLongL hlen]
    exact Bool.false_ne_true
  have hnew : List.foldl (fun x1 x2 => x1 ++ x2) #[] (List.replicate (if its.toArray.isEmpty = true then 0 else k.toNat) its.toArray) = (List.replicate k.toNat its).flatten.toArray := by
    have f0 : ∀ m : Nat, List.foldl (fun x1 x2 => x1 ++ x2) #[] (List.replicate m its.toArray) = (List.replicate m its).flatten.toArray := fun m => by
      have := foldl_rep its m []
      rw [List.nil_append] at this
      exact this
    rw [f0]
    cases its with
    | nil => simp
    | cons a r' => rw [if_neg (by simp)]
  refine wpAny_binaryOp_repeat_ref (T := "list") (U := "int") (by decide) ⟨_, e, rfl⟩ (fun s' => typeIs_int s' k t) noFill_list_mul F.fills_int_mul F.slot_int_rmul repeat_list F.slot_int_index.lookup
    (call_meets F.slot_int_rmul (typeIs_int s k t) F.entry_int_rmul (F.args_int_rmul_2 _ _) (int___rmul___int_list k t l its.toArray n)
      ⟨e, rfl, ⟨_, e, rfl⟩, call_meets F.slot_list_mul ⟨_, e, rfl⟩ F.entry_list_mul (F.args_list_mul_2 _ _) (AutoListH.list___mul___list_int_3 l its.toArray n k t hfit hcap hlong) ⟨e, ?_⟩⟩)
  rw [hnew]
  exact ⟨.ref _, _, I.lnew (t' := s.toks) (r.rep k.toNat) (by rw [PyProof.Rows.lm_len_rep_flat, Nat.mul_comm]; exact hz), rfl, q _ I.fresh⟩

/-! ### the two-place operators -/
theorem band {a b : Bool} (h : (a && b) = true) : a = true ∧ b = true := Bool.and_eq_true_iff.mp h
theorem i64_ok {i : Int} (h : i64 i = true) : -(2 ^ 64) < i ∧ i < 2 ^ 64 := let ⟨a, b⟩ := band h; ⟨of_decide_eq_true a, of_decide_eq_true b⟩
theorem opD_add : OpR X (binaryOp .Add) (rO X.K (op2 .add)) := by
  intro pins s σ H x y v u Q I rx ry h
  obtain ⟨F, dx, dy, d, hs, hx, hy, e, q⟩ := h
  cases dx with
  | int i =>
    cases dy with
    | int j =>
      cases e
      obtain rfl := hx.int
      obtain rfl := hy.int
      exact op_add pins s σ H _ _ v u Q I rx ry ⟨i, j, rfl, rfl, q.pure hs (.int _)⟩
    | _ => cases e
  | str i =>
    cases dy with
    | str j =>
      obtain ⟨e1, e2⟩ := gd_ok e
      cases e2
      obtain rfl := hx.str
      obtain rfl := hy.str
      exact op_add_str pins s σ H _ _ v u Q I rx ry ⟨i, j, rfl, rfl, sz_le e1, q.pure hs (.str _)⟩
    | _ => cases e
  | tuple xs =>
    cases dy with
    | tuple ys =>
      obtain ⟨e1, e2⟩ := gd_ok e
      cases e2
      obtain ⟨a, vs, rfl, h1, h2, h3, h1F⟩ := hx.tup hs
      obtain ⟨b, ws, rfl, k1, k2, k3, k1F⟩ := hy.tup hs
      have l1 := h2.len
      have l2 := k2.len
      have e1 := sz_le e1
      refine op_catA pins s σ H _ _ v u Q I rx ry ⟨a, b, vs, ws, rfl, rfl, h1, k1, by omega, fun z => ?_, fun _ z => ?_, fun _ _ p hp => ?_⟩
      · subst z
        cases h2
        exact q.pure hs (.tup k1F k2 k3)
      · subst z
        cases k2
        rw [List.append_nil] at q
        exact q.pure hs (.tup h1F h2 h3)
      · exact q.tup hs (h2.append k2) (by rw [List.length_append]; omega) hp
    | _ => cases e
  | list xs =>
    cases dy with
    | list ys =>
      obtain ⟨e1, e2⟩ := gd_ok e
      cases e2
      obtain ⟨a, vs, rfl, h1, h2, h3⟩ := hx.lst hs
      obtain ⟨b, ws, rfl, k1, k2, k3⟩ := hy.lst hs
      have l1 := h2.len
      have l2 := k2.len
      have e1 := sz_le e1
      exact op_catL pins s σ H _ _ v u Q I rx ry ⟨a, b, vs, ws, rfl, rfl, h1, k1, by omega, fun p hp => q.lst hs (h2.append k2) (by rw [List.length_append]; omega) hp⟩
    | _ => cases e
  | _ => cases e
theorem opD_sub : OpR X (binaryOp .Sub) (rO X.K (op2 .sub)) := by
  intro pins s σ H x y v u Q I rx ry h
  obtain ⟨F, dx, dy, d, hs, hx, hy, e, q⟩ := h
  cases dx with
  | int i =>
    cases dy with
    | int j =>
      cases e
      obtain rfl := hx.int
      obtain rfl := hy.int
      exact op_sub pins s σ H _ _ v u Q I rx ry ⟨i, j, rfl, rfl, q.pure hs (.int _)⟩
    | _ => cases e
  | _ => cases e
theorem opD_mul : OpR X (binaryOp .Mult) (rO X.K (op2 .mul)) := by
  intro pins s σ H x y v u Q I rx ry h
  obtain ⟨F, dx, dy, d, hs, hx, hy, e, q⟩ := h
  cases dx with
  | int i =>
    cases dy with
    | int j =>
      obtain ⟨e1, e2⟩ := gd_ok e
      cases e2
      obtain rfl := hx.int
      obtain rfl := hy.int
      refine op_mul pins s σ H _ _ v u Q I rx ry ⟨i, j, rfl, rfl, ?_, q.pure hs (.int _)⟩
      rcases Bool.or_eq_true_iff.mp e1 with z | z
      · exact .inl (i64_ok z)
      · exact .inr (i64_ok z)
    | _ => cases e
  | tuple xs =>
    cases dy with
    | int k =>
      obtain ⟨e1, e2⟩ := gd_ok e
      cases e2
      obtain ⟨e1, c4⟩ := band e1
      obtain ⟨e1, c3⟩ := band e1
      obtain ⟨c1, c2⟩ := band e1
      obtain rfl := hy.int
      obtain ⟨a, vs, rfl, h1, h2, h3, h1F⟩ := hx.tup hs
      have l1 := h2.len
      have c2 := of_decide_eq_true c2
      have c3 := of_decide_eq_true c3
      have c4 := of_decide_eq_true c4
      refine op_repT pins s σ H _ _ v u Q I rx ry ⟨a, k, vs, rfl, rfl, h1, fun z => ?_, c2, c3, by omega, fun p hp => ?_⟩
      · subst z
        cases h2
        cases c1
      · refine q.tup hs (h2.rep k.toNat) ?_ hp
        rw [PyProof.Rows.lm_len_rep_flat, sizeLine_eq]
        have a1 : k.toNat * vs.length ≤ 1000 * 1000 := Nat.mul_le_mul (by omega) (by omega)
        omega
    | _ => cases e
  | list xs =>
    cases dy with
    | int k =>
      obtain ⟨e1, e2⟩ := gd_ok e
      cases e2
      obtain ⟨e1, c3⟩ := band e1
      obtain ⟨c1, c2⟩ := band e1
      obtain rfl := hy.int
      obtain ⟨a, vs, rfl, h1, h2, h3⟩ := hx.lst hs
      have l1 := h2.len
      have c3 := sz_le c3
      rw [← l1] at c3
      exact op_repL pins s σ H _ _ v u Q I rx ry ⟨a, k, vs, rfl, rfl, h1, of_decide_eq_true c1, of_decide_eq_true c2, c3, fun p hp =>
        q.lst hs (h2.rep k.toNat) (by rw [PyProof.Rows.lm_len_rep_flat, Nat.mul_comm]; exact c3) hp⟩
    | _ => cases e
  | _ => cases e
theorem opD_fdiv : OpR X (binaryOp .FloorDiv) (rO X.K (op2 .fdiv)) := by
  intro pins s σ H x y v u Q I rx ry h
  obtain ⟨F, dx, dy, d, hs, hx, hy, e, q⟩ := h
  cases dx with
  | int i =>
    cases dy with
    | int j =>
      obtain ⟨e1, e2⟩ := gd_ok e
      cases e2
      obtain ⟨c1, c2⟩ := band e1
      obtain rfl := hx.int
      obtain rfl := hy.int
      exact op_fdiv pins s σ H _ _ v u Q I rx ry ⟨i, j, rfl, rfl, ⟨of_decide_eq_true c1, of_decide_eq_true c2⟩, q.pure hs (.int _)⟩
    | _ => cases e
  | _ => cases e
theorem opD_mod : OpR X (binaryOp .Mod) (rO X.K (op2 .mod)) := by
  intro pins s σ H x y v u Q I rx ry h
  obtain ⟨F, dx, dy, d, hs, hx, hy, e, q⟩ := h
  cases dx with
  | int i =>
    cases dy with
    | int j =>
      obtain ⟨e1, e2⟩ := gd_ok e
      cases e2
      obtain rfl := hx.int
      obtain rfl := hy.int
      exact op_mod pins s σ H _ _ v u Q I rx ry ⟨i, j, rfl, rfl, of_decide_eq_true e1, q.pure hs (.int _)⟩
    | _ => cases e
  | _ => cases e
theorem opD_pow : OpR X (binaryOp .Pow) (rO X.K (op2 .pow)) := by
  intro pins s σ H x y v u Q I rx ry h
  obtain ⟨F, dx, dy, d, hs, hx, hy, e, q⟩ := h
  cases dx with
  | int i =>
    cases dy with
    | int j =>
      obtain ⟨e1, e2⟩ := gd_ok e
      cases e2
      obtain ⟨e1, c3⟩ := band e1
      obtain ⟨c1, c2⟩ := band e1
      obtain rfl := hx.int
      obtain rfl := hy.int
      exact op_pow pins s σ H _ _ v u Q I rx ry ⟨i, j, rfl, rfl, ⟨of_decide_eq_true c1, of_decide_eq_true c2, of_decide_eq_true c3⟩, q.pure hs (.int _)⟩
    | _ => cases e
  | _ => cases e
def opOf : O2 → Operator
  | .add => .Add | .sub => .Sub | .mul => .Mult | .fdiv => .FloorDiv | .mod => .Mod | .pow => .Pow
theorem opD (o : O2) : OpR X (binaryOp (opOf o)) (rO X.K (op2 o)) := by
  cases o
  · exact opD_add
  · exact opD_sub
  · exact opD_mul
  · exact opD_fdiv
  · exact opD_mod
  · exact opD_pow

/-! ### comparisons -/
def cmpOf : Oc → CmpOp
  | .eq => .Eq | .ne => .NotEq | .lt => .Lt | .le => .LtE | .gt => .Gt | .ge => .GtE | .isN => .Is | .notN => .IsNot | .inn => .In | .nin => .NotIn | .isB => .Is | .notB => .IsNot
/-- a comparison's answer is a truth value -/
def rC (K : Frag) (f : D → D → R Bool) : R2 := fun x y H Q => ∃ F dx dy b, Same F H ∧ Wk K F H x dx ∧ Wk K F H y dy ∧ f dx dy = .ok b ∧ Q (.bl b) H
theorem isN_of {F H : Hp} {x : V} {d : D} {K : Frag} (h : Wk K F H x d) : decide (x = V.non) = isN d := by
  rcases h with h | ⟨l, xs, ds, rfl, rfl, _⟩
  · cases h <;> first | rfl | exact decide_eq_false (fun z => by cases z)
  · exact decide_eq_false (fun z => by cases z)
theorem shp_lay {d : D} (h : shp d = true) : d.canLay0 = true := SeqAt.canLay_of_shaped h
theorem flat_rp {K : Frag} {F H : Hp} {x : V} {d : D} (h : Wk K F H x d) (f : flat d = true) : flatV x = true := by
  cases d with
  | none => rw [h.none]; rfl
  | bool b => rw [h.bool]; rfl
  | int i => rw [h.int]; rfl
  | str i => rw [h.str]; rfl
  | _ => cases f
theorem eqV_eqv {K : Frag} {F H F' H' : Hp} {x y : V} {d e : D} (hx : Wk K F H x d) (hy : Wk K F' H' y e) (fd : flat d = true) (fe : flat e = true) : eqV y x = PyData.eqv e d := by
  cases d with
  | none =>
    rw [hx.none]
    cases e with
    | none => rw [hy.none]; rfl
    | bool b => rw [hy.bool]; rfl
    | int i => rw [hy.int]; rfl
    | str i => rw [hy.str]; rfl
    | _ => cases fe
  | bool b =>
    rw [hx.bool]
    cases e with
    | none => rw [hy.none]; rfl
    | bool b => rw [hy.bool]; first | rfl | (simp [eqV, PyData.eqv])
    | int i => rw [hy.int]; first | rfl | (simp [eqV, PyData.eqv])
    | str i => rw [hy.str]; rfl
    | _ => cases fe
  | int b =>
    rw [hx.int]
    cases e with
    | none => rw [hy.none]; rfl
    | bool b => rw [hy.bool]; first | rfl | (simp [eqV, PyData.eqv])
    | int i => rw [hy.int]; first | rfl | (simp [eqV, PyData.eqv])
    | str i => rw [hy.str]; rfl
    | _ => cases fe
  | str b =>
    rw [hx.str]
    cases e with
    | none => rw [hy.none]; rfl
    | bool b => rw [hy.bool]; rfl
    | int i => rw [hy.int]; rfl
    | str i => rw [hy.str]; first | rfl | (simp [eqV, PyData.eqv])
    | _ => cases fe
  | _ => cases fd
theorem inV_any {K : Frag} {F H : Hp} {x : V} {d : D} (hx : Wk K F H x d) (fd : flat d = true) : ∀ {vs : List V} {ds : List D}, Rps K F vs ds → ds.all flat = true → vs.all flatV = true ∧ inV x vs = ds.any fun z => PyData.eqv z d
  | _, _, .nil, _ => ⟨rfl, rfl⟩
  | _, _, .cons (v := v) (d := z) h r, f => by
    obtain ⟨f1, f2⟩ := band (show (flat z && _) = true from f)
    obtain ⟨g1, g2⟩ := inV_any hx fd r f2
    refine ⟨?_, ?_⟩
    · show (flatV v && _) = true
      rw [flat_rp (H := H) (Or.inl h) f1]
      exact g1
    · have e := eqV_eqv hx (H' := H) (Or.inl h) fd f1
      show (eqV v x || inV x _) = (PyData.eqv z d || _)
      rw [e, g2]
theorem ints?_eq : ∀ {ds : List D} {ns : List Int}, ints? ds = .ok ns → ds = ns.map PyData.int
  | [], ns, h => by cases h; rfl
  | .int i :: r, ns, h => by
    have h : (ints? r >>= fun ns => .ok (i :: ns)) = R.ok ns := h
    cases e : ints? r with
    | ok ms =>
      rw [e] at h
      cases h
      rw [ints?_eq e]
      rfl
    | exc => rw [e] at h; cases h
    | bad => rw [e] at h; cases h
  | .none :: r, ns, h => by cases h
  | .bool _ :: r, ns, h => by cases h
  | .str _ :: r, ns, h => by cases h
  | .list _ :: r, ns, h => by cases h
  | .tuple _ :: r, ns, h => by cases h
  | .dict _ :: r, ns, h => by cases h
theorem ints?_map : ∀ ns : List Int, ints? (ns.map PyData.int) = .ok ns
  | [] => rfl
  | n :: r => by
    show (ints? (r.map PyData.int) >>= fun ns => .ok (n :: ns)) = _
    rw [ints?_map r]
    rfl
theorem bools?_eq : ∀ {ds : List D} {ns : List Bool}, bools? ds = .ok ns → ds = ns.map PyData.bool
  | [], ns, h => by cases h; rfl
  | .bool i :: r, ns, h => by
    have h : (bools? r >>= fun ns => .ok (i :: ns)) = R.ok ns := h
    cases e : bools? r with
    | ok ms =>
      rw [e] at h
      cases h
      rw [bools?_eq e]
      rfl
    | exc => rw [e] at h; cases h
    | bad => rw [e] at h; cases h
  | .none :: r, ns, h => by cases h
  | .int _ :: r, ns, h => by cases h
  | .str _ :: r, ns, h => by cases h
  | .list _ :: r, ns, h => by cases h
  | .tuple _ :: r, ns, h => by cases h
  | .dict _ :: r, ns, h => by cases h
theorem bools?_map : ∀ ns : List Bool, bools? (ns.map PyData.bool) = .ok ns
  | [] => rfl
  | n :: r => by
    show (bools? (r.map PyData.bool) >>= fun ns => .ok (n :: ns)) = _
    rw [bools?_map r]
    rfl
theorem ok_bind {α β : Type} {r : R α} {f : α → R β} {b : β} (h : (r >>= f) = .ok b) : ∃ a, r = .ok a ∧ f a = .ok b := by
  cases r with
  | ok a => exact ⟨a, rfl, h⟩
  | exc => cases h
  | bad => cases h
theorem eqv_strs (x y : Str) : PyData.eqv (.str x) (.str y) = decide (x = y) := by
  rw [PyData.eqv, Bool.eq_iff_iff]
  simp
theorem dec_strs (x y : Str) : decide (V.str x = V.str y) = decide (x = y) := by
  rw [Bool.eq_iff_iff]
  simp
theorem opC (hu : X.A.units + 65 < cLine) (o : Oc) : OpR X (compareOp (cmpOf o)) (rC X.K (cmpD o)) := by
  intro pins s σ H x y v u Q I rx ry h
  obtain ⟨F, dx, dy, b, hs, hx, hy, e, q⟩ := h
  have hu0 : X.A.units + 64 < cLine := by omega
  have hu1 : X.A.units < cLine := by omega
  cases o with
  | eq =>
    have e : (if eqOk dx dy = true then R.ok (PyData.eqv dx dy) else .bad) = .ok b := e
    split at e
    · rename_i c
      cases e
      rcases Bool.or_eq_true_iff.mp c with c | c
      · obtain ⟨c1, c2⟩ := band c
        exact op_eqD hu0 pins s σ H x y v u Q I rx ry ⟨dx, dy, hx.dp hs (shp_lay c1), hy.dp hs (shp_lay c2), c1, c2, q⟩
      · cases dx <;> cases dy <;> first | (cases c; done) | skip
        obtain rfl := hx.str
        obtain rfl := hy.str
        refine op_eq pins s σ H _ _ v u Q I rx ry ⟨rfl, ?_⟩
        rw [eqv_strs] at q
        rw [dec_strs]
        exact q
    · cases e
  | ne =>
    have e : (if eqOk dx dy = true then R.ok (!PyData.eqv dx dy) else .bad) = .ok b := e
    split at e
    · rename_i c
      cases e
      rcases Bool.or_eq_true_iff.mp c with c | c
      · obtain ⟨c1, c2⟩ := band c
        exact op_neD hu0 pins s σ H x y v u Q I rx ry ⟨dx, dy, hx.dp hs (shp_lay c1), hy.dp hs (shp_lay c2), c1, c2, q⟩
      · cases dx <;> cases dy <;> first | (cases c; done) | skip
        obtain rfl := hx.str
        obtain rfl := hy.str
        refine op_ne pins s σ H _ _ v u Q I rx ry ⟨rfl, ?_⟩
        rw [eqv_strs] at q
        rw [dec_strs]
        exact q
    · cases e
  | lt =>
    cases dx with
    | int i =>
      cases dy with
      | int j =>
        cases e
        obtain rfl := hx.int
        obtain rfl := hy.int
        exact op_lt pins s σ H _ _ v u Q I rx ry ⟨i, j, rfl, rfl, q⟩
      | _ => cases e
    | tuple xs =>
      cases dy with
      | tuple ys =>
        obtain ⟨ns, e1, e⟩ := ok_bind (show (ints? xs >>= fun ns => ints? ys >>= fun ms => R.ok (HT.lexLt ns ms)) = .ok b from e)
        obtain ⟨ms, e2, e⟩ := ok_bind e
        cases e
        obtain ⟨a, vs, rfl, h1, h2, h3, _⟩ := hx.tup hs
        obtain ⟨c, ws, rfl, k1, k2, k3, _⟩ := hy.tup hs
        rw [ints?_eq e1] at h2
        rw [ints?_eq e2] at k2
        rw [h2.intsV] at h1
        rw [k2.intsV] at k1
        exact op_ltT hu1 pins s σ H _ _ v u Q I rx ry ⟨a, c, ns, ms, rfl, rfl, h1, k1, q⟩
      | _ => cases e
    | _ => cases e
  | le =>
    cases dx with
    | int i =>
      cases dy with
      | int j =>
        cases e
        obtain rfl := hx.int
        obtain rfl := hy.int
        exact op_le pins s σ H _ _ v u Q I rx ry ⟨i, j, rfl, rfl, q⟩
      | _ => cases e
    | _ => cases e
  | gt =>
    cases dx with
    | int i =>
      cases dy with
      | int j =>
        cases e
        obtain rfl := hx.int
        obtain rfl := hy.int
        exact op_gt pins s σ H _ _ v u Q I rx ry ⟨i, j, rfl, rfl, q⟩
      | _ => cases e
    | _ => cases e
  | ge =>
    cases dx with
    | int i =>
      cases dy with
      | int j =>
        cases e
        obtain rfl := hx.int
        obtain rfl := hy.int
        exact op_ge pins s σ H _ _ v u Q I rx ry ⟨i, j, rfl, rfl, q⟩
      | _ => cases e
    | _ => cases e
  | isN =>
    cases dy with
    | none =>
      obtain rfl := hy.none
      have e : R.ok (isN dx) = .ok b := e
      cases e
      refine op_isN pins s σ H _ _ v u Q I rx ry ⟨rfl, ?_⟩
      rw [isN_of hx]
      exact q
    | _ => cases e
  | notN =>
    cases dy with
    | none =>
      obtain rfl := hy.none
      have e : R.ok (!isN dx) = .ok b := e
      cases e
      refine op_notN pins s σ H _ _ v u Q I rx ry ⟨rfl, ?_⟩
      rw [isN_of hx]
      exact q
    | _ => cases e
  | isB =>
    cases dx with
    | bool a =>
      cases dy with
      | bool b2 =>
        have e : R.ok (a == b2) = .ok b := e
        cases e
        obtain rfl := hx.bool
        obtain rfl := hy.bool
        exact op_isBl pins s σ H _ _ v u Q I rx ry ⟨a, b2, rfl, rfl, by rw [← Bool.beq_eq_decide_eq]; exact q⟩
      | _ => cases e
    | _ => cases e
  | notB =>
    cases dx with
    | bool a =>
      cases dy with
      | bool b2 =>
        have e : R.ok (!(a == b2)) = .ok b := e
        cases e
        obtain rfl := hx.bool
        obtain rfl := hy.bool
        exact op_notBl pins s σ H _ _ v u Q I rx ry ⟨a, b2, rfl, rfl, by rw [← Bool.beq_eq_decide_eq]; exact q⟩
      | _ => cases e
    | _ => cases e
  | inn =>
    cases dy with
    | list ds =>
      have e : (if inOk dx ds = true then R.ok (ds.any fun z => PyData.eqv z dx) else .bad) = .ok b := e
      split at e
      · rename_i c
        cases e
        rcases Bool.or_eq_true_iff.mp c with c | c
        · obtain ⟨c1, c2⟩ := band c
          exact op_inD hu pins s σ H x y v u Q I rx ry ⟨dx, ds, hx.dp hs (shp_lay c1), hy.dp hs (shp_lay c2), c1, c2, q⟩
        · obtain ⟨c1, c2⟩ := band c
          obtain ⟨a, vs, rfl, h1, h2, h3⟩ := hy.lst hs
          obtain ⟨f1, f2⟩ := inV_any hx c1 h2 c2
          refine op_in_seq pins s σ H x _ v u Q I rx ry ⟨a, vs, rfl, .inl h1.sq, flat_rp hx c1, f1, ?_⟩
          show Q (.bl (inV x vs)) H
          rw [f2]
          exact q
      · cases e
    | tuple ds =>
      have e : (if (flat dx && ds.all flat) = true then R.ok (ds.any fun z => PyData.eqv z dx) else .bad) = .ok b := e
      split at e
      · rename_i c
        cases e
        obtain ⟨c1, c2⟩ := band c
        obtain ⟨a, vs, rfl, h1, h2, h3, _⟩ := hy.tup hs
        obtain ⟨f1, f2⟩ := inV_any hx c1 h2 c2
        refine op_in_seq pins s σ H x _ v u Q I rx ry ⟨a, vs, rfl, .inr h1, flat_rp hx c1, f1, ?_⟩
        show Q (.bl (inV x vs)) H
        rw [f2]
        exact q
      · cases e
    | _ => cases e
  | nin =>
    obtain ⟨b', e1, e2⟩ := ok_bind (show (inD dx dy >>= fun b => R.ok (!b)) = .ok b from e)
    cases e2
    cases dy with
    | list ds =>
      have e : (if inOk dx ds = true then R.ok (ds.any fun z => PyData.eqv z dx) else .bad) = .ok b' := e1
      split at e
      · rename_i c
        cases e
        rcases Bool.or_eq_true_iff.mp c with c | c
        · obtain ⟨c1, c2⟩ := band c
          exact op_notInD hu pins s σ H x y v u Q I rx ry ⟨dx, ds, hx.dp hs (shp_lay c1), hy.dp hs (shp_lay c2), c1, c2, q⟩
        · obtain ⟨c1, c2⟩ := band c
          obtain ⟨a, vs, rfl, h1, h2, h3⟩ := hy.lst hs
          obtain ⟨f1, f2⟩ := inV_any hx c1 h2 c2
          refine op_notIn_seq pins s σ H x _ v u Q I rx ry ⟨a, vs, rfl, .inl h1.sq, flat_rp hx c1, f1, ?_⟩
          show Q (.bl (!inV x vs)) H
          rw [f2]
          exact q
      · cases e
    | tuple ds =>
      have e : (if (flat dx && ds.all flat) = true then R.ok (ds.any fun z => PyData.eqv z dx) else .bad) = .ok b' := e1
      split at e
      · rename_i c
        cases e
        obtain ⟨c1, c2⟩ := band c
        obtain ⟨a, vs, rfl, h1, h2, h3, _⟩ := hy.tup hs
        obtain ⟨f1, f2⟩ := inV_any hx c1 h2 c2
        refine op_notIn_seq pins s σ H x _ v u Q I rx ry ⟨a, vs, rfl, .inr h1, flat_rp hx c1, f1, ?_⟩
        show Q (.bl (!inV x vs)) H
        rw [f2]
        exact q
      · cases e
    | _ => cases e1

/-! ### items, slices, one-place built-ins -/
theorem atI_rps {K : Frag} {F : Hp} {vs : List V} {ds : List D} {k : Int} {d : D} (r : Rps K F vs ds) (h : atI ds k = some d) : ∃ v, atI vs k = some v ∧ Rp K F v d := by
  unfold atI at h ⊢
  rw [r.len]
  cases e : ixN ds.length k with
  | none => rw [e] at h; cases h
  | some j =>
    rw [e] at h
    exact r.get (i := j) h
theorem ixR : IxR X (rO X.K ixD) := by
  intro value slice pins s σ H x y v u Q I rx ry h hsub
  obtain ⟨F, dx, dy, d, hs, hx, hy, e, q⟩ := h
  cases dx with
  | tuple xs =>
    cases dy with
    | int k =>
      have e : (match atI xs k with | some d => R.ok d | none => .bad) = .ok d := e
      split at e
      · rename_i d' e1
        cases e
        obtain rfl := hy.int
        obtain ⟨a, vs, rfl, h1, h2, h3, _⟩ := hx.tup hs
        obtain ⟨w, g1, g2⟩ := atI_rps h2 e1
        exact ix_tup value slice pins s σ H _ _ v u Q I rx ry ⟨a, vs, k, w, rfl, rfl, h1, g1, q.pure hs g2⟩ hsub
      · cases e
    | _ => cases e
  | list xs =>
    cases dy with
    | int k =>
      have e : (match atI xs k with | some d => R.ok d | none => .bad) = .ok d := e
      split at e
      · rename_i d' e1
        cases e
        obtain rfl := hy.int
        obtain ⟨a, vs, rfl, h1, h2, h3⟩ := hx.lst hs
        obtain ⟨w, g1, g2⟩ := atI_rps h2 e1
        exact ix_list value slice pins s σ H _ _ v u Q I rx ry ⟨a, vs, k, w, rfl, rfl, h1.sq, g1, q.pure hs g2⟩ hsub
      · cases e
    | _ => cases e
  | _ => cases e
def rSlD (K : Frag) : V → Option Int → Option Int → Hp → VK → Prop := fun x lo hi H Q => ∃ F dx d, Same F H ∧ Wk K F H x dx ∧ slcD dx lo hi = .ok d ∧ Res K F H Q d
theorem cut_rps {K : Frag} {F : Hp} {vs : List V} {ds : List D} (r : Rps K F vs ds) (lo hi : Option Int) : Rps K F (cutV vs lo hi) (cutD ds lo hi) := by
  unfold cutV cutD
  rw [r.len]
  exact (r.drop _).take _
theorem slR : SlR X (rSlD X.K) := by
  have h1 : SlR X (fun x lo hi H Q => (∃ F dx d ds, dx = PyData.tuple ds ∧ Same F H ∧ Wk X.K F H x dx ∧ slcD dx lo hi = .ok d ∧ Res X.K F H Q d)) := by
    intro pins s σ H x v vl vu lo hi sl Q I rx hsl pl pu h
    obtain ⟨F, dx, d, ds, rfl, hs, hx, e, q⟩ := h
    cases e
    obtain ⟨a, vs, rfl, h1, h2, h3, h1F⟩ := hx.tup hs
    refine sl_tupA pins s σ H _ v vl vu lo hi sl Q I rx hsl pl pu ⟨a, vs, rfl, h1, fun z => ?_, fun _ p hp => q.tup hs (cut_rps h2 lo hi) (Nat.le_trans (cutV_length _ _ _) h3) hp⟩
    have e2 : cutD ds lo hi = ds := by
      unfold cutD
      rw [← h2.len, z.1, z.2, List.drop_zero, Nat.sub_zero, h2.len, List.take_length]
    rw [e2] at q
    exact q.pure hs (.tup h1F h2 h3)
  have h2 : SlR X (fun x lo hi H Q => (∃ F dx d ds, dx = PyData.list ds ∧ Same F H ∧ Wk X.K F H x dx ∧ slcD dx lo hi = .ok d ∧ Res X.K F H Q d)) := by
    intro pins s σ H x v vl vu lo hi sl Q I rx hsl pl pu h
    obtain ⟨F, dx, d, ds, rfl, hs, hx, e, q⟩ := h
    cases e
    obtain ⟨a, vs, rfl, h1, h2, h3⟩ := hx.lst hs
    exact sl_list pins s σ H _ v vl vu lo hi sl Q I rx hsl pl pu ⟨a, vs, rfl, h1.sq, fun p hp => q.lst hs (cut_rps h2 lo hi) (Nat.le_trans (cutV_length _ _ _) h3) hp⟩
  intro pins s σ H x v vl vu lo hi sl Q I rx hsl pl pu h
  refine (h1.or h2) pins s σ H x v vl vu lo hi sl Q I rx hsl pl pu ?_
  obtain ⟨F, dx, d, hs, hx, e, q⟩ := h
  cases dx with
  | tuple ds => exact .inl ⟨F, _, d, ds, rfl, hs, hx, e, q⟩
  | list ds => exact .inr ⟨F, _, d, ds, rfl, hs, hx, e, q⟩
  | _ => cases e
/-- a call of a built-in with one operand -/
def rB (K : Frag) (f : D → R D) : List V → Hp → VK → Prop := fun vs H Q => ∃ F x dx d, vs = [x] ∧ Same F H ∧ Wk K F H x dx ∧ f dx = .ok d ∧ Res K F H Q d
def tyN : D → String
  | .none => "NoneType" | .bool _ => "bool" | .int _ => "int" | .str _ => "str" | .list _ => "list" | .tuple _ => "tuple" | .dict _ => "dict"
theorem ty_of {K : Frag} {F H : Hp} {x : V} {d : D} (s : Same F H) (h : Wk K F H x d) : TyX K H x (.type (tyN d)) := by
  cases d with
  | none => rw [h.none]; exact .base .non
  | bool b => rw [h.bool]; exact .base (.bl _)
  | int b => rw [h.int]; exact .base (.int _)
  | str b => rw [h.str]; exact .base (.str _)
  | list ds =>
    obtain ⟨a, xs, rfl, h1, _⟩ := h.lst s
    rcases h1 with (h1 | ⟨o, h1⟩) | ⟨its, n, h1, _⟩
    · exact .base (.lst h1)
    · exact .base (.frz h1)
    · exact .kList h1 rfl
  | tuple ds =>
    obtain ⟨a, xs, rfl, h1, _⟩ := h.tup s
    rcases h1 with (h1 | ⟨o, h1⟩) | ⟨o, its, n, h1, h2, _⟩
    · exact .base (.tup h1)
    · exact .fTuple h1
    · exact .kTuple h1 h2
  | dict ds =>
    rcases h with h | ⟨_, _, _, _, e, _⟩
    · cases h with
      | dic h1 _ => exact .base (.dK (s _ _ h1))
    · cases e
def tyName : Ty → String
  | .int => "int" | .bool => "bool" | .tuple => "tuple" | .list => "list" | .str => "str"
def rIsiD (K : Frag) (t : Ty) : List V → Hp → VK → Prop := fun vs H Q => ∃ F x dx, vs = [x, .ty (tyName t)] ∧ Same F H ∧ Wk K F H x dx ∧ Q (.bl (tyD t dx)) H
theorem isiD (t : Ty) : CallR X (.builtin "isinstance") (rIsiD X.K t) := by
  intro pins s σ H xs us Q I r h
  obtain ⟨F, x, dx, rfl, hs, hx, q⟩ := h
  have key : kitB (tyN dx) (tyName t) = some (tyD t dx) := by
    cases dx <;> cases t <;> (simp only [tyN, tyName, tyD]; decide +kernel)
  exact call_isi pins s σ H _ us Q I r ⟨x, .ty (tyName t), .type (tyN dx), .type (tyName t), tyD t dx, rfl, .ty _, ty_of hs hx, kit_ty key, q⟩
end
end DP

/-! DP, part 4: sorted, the one-place built-ins. -/
namespace DPs
open PySem PyProof.Rows Srt SrtO
section
variable {prog : Program} {w : World} {A : Around} {E : Value → Shared → Prop} {s : Shared}
abbrev Ky := Int × List Int
/-- a pair of a number and a tuple of numbers -/
def IsKR (h : Heap) (v : Value) (k : Ky) : Prop := ∃ a o t b n, v = .ref a ∧ h.get? a = some o ∧ o.cls = .type "tuple" ∧ o.data = .seq #[.int k.1 t, .ref b] n ∧ ∃ its, IsTup h b its ∧ IntsAre its.toList k.2
theorem IsKR.keeps {h h' : Heap} {v : Value} {k : Ky} (p : IsKR h v k) (e : ∀ b o, h.get? b = some o → o.cls = .type "tuple" → h'.get? b = some o) : IsKR h' v k := by
  obtain ⟨a, o, t, b, n, e1, e2, e3, e4, its, ⟨ob, g1, g2, g3⟩, i⟩ := p
  exact ⟨a, o, t, b, n, e1, e _ _ e2 e3, e3, e4, its, ⟨ob, e _ _ g1 g2, g2, g3⟩, i⟩
theorem lexLt_irr : ∀ xs : List Int, HT.lexLt xs xs = false
  | [] => rfl
  | x :: r => by rw [HT.lexLt_cons, if_pos rfl]; exact lexLt_irr r
theorem lexLt_asym : ∀ xs ys : List Int, HT.lexLt xs ys = true → HT.lexLt ys xs = false
  | [], [], h => by cases h
  | [], _ :: _, _ => rfl
  | _ :: _, [], h => by cases h
  | x :: xs, y :: ys, h => by
    rw [HT.lexLt_cons] at h ⊢
    by_cases e : x = y
    · rw [if_pos e] at h
      rw [if_pos e.symm]
      exact lexLt_asym xs ys h
    · rw [if_neg e] at h
      rw [if_neg (fun z => e z.symm)]
      have := of_decide_eq_true h
      exact decide_eq_false (by omega)
theorem lexLt_tr : ∀ xs ys zs : List Int, HT.lexLt ys xs = false → HT.lexLt zs ys = false → HT.lexLt zs xs = false
  | [], _, [], _, _ => rfl
  | [], [], _ :: _, _, h => h
  | [], _ :: _, z :: zs, h, h2 => rfl
  | _ :: _, [], [], h, _ => h
  | _ :: _, [], _ :: _, h, _ => by cases h
  | _ :: _, _ :: _, [], _, h => by cases h
  | x :: xs, y :: ys, z :: zs, h1, h2 => by
    rw [HT.lexLt_cons] at h1 h2 ⊢
    by_cases e1 : y = x
    · rw [if_pos e1] at h1
      by_cases e2 : z = y
      · rw [if_pos e2] at h2
        rw [if_pos (e2.trans e1)]
        exact lexLt_tr xs ys zs h1 h2
      · rw [if_neg e2] at h2
        have := of_decide_eq_false h2
        rw [if_neg (by omega)]
        exact decide_eq_false (by omega)
    · rw [if_neg e1] at h1
      have a := of_decide_eq_false h1
      by_cases e2 : z = y
      · rw [if_neg (by omega)]
        exact decide_eq_false (by omega)
      · rw [if_neg e2] at h2
        have b := of_decide_eq_false h2
        rw [if_neg (by omega)]
        exact decide_eq_false (by omega)
theorem lexLt_tot : ∀ xs ys : List Int, HT.lexLt xs ys = false → HT.lexLt ys xs = false → xs = ys
  | [], [], _, _ => rfl
  | [], _ :: _, h, _ => by cases h
  | _ :: _, [], _, h => by cases h
  | x :: xs, y :: ys, h1, h2 => by
    rw [HT.lexLt_cons] at h1 h2
    by_cases e : x = y
    · rw [if_pos e] at h1
      rw [if_pos e.symm] at h2
      rw [e, lexLt_tot xs ys h1 h2]
    · rw [if_neg e] at h1
      rw [if_neg (fun z => e z.symm)] at h2
      have a := of_decide_eq_false h1
      have b := of_decide_eq_false h2
      omega
theorem kLt_asym (p q : Ky) (h : DP.kLt p q = true) : DP.kLt q p = false := by
  unfold DP.kLt at h ⊢
  by_cases e : p.1 = q.1
  · rw [if_pos e] at h; rw [if_pos e.symm]; exact lexLt_asym _ _ h
  · rw [if_neg e] at h; rw [if_neg (fun z => e z.symm)]
    have := of_decide_eq_true h
    exact decide_eq_false (by omega)
theorem kLt_tr (x y z : Ky) (h1 : DP.kLt y x = false) (h2 : DP.kLt z y = false) : DP.kLt z x = false := by
  unfold DP.kLt at h1 h2 ⊢
  by_cases e1 : y.1 = x.1
  · rw [if_pos e1] at h1
    by_cases e2 : z.1 = y.1
    · rw [if_pos e2] at h2; rw [if_pos (e2.trans e1)]; exact lexLt_tr _ _ _ h1 h2
    · rw [if_neg e2] at h2
      have := of_decide_eq_false h2
      rw [if_neg (by omega)]; exact decide_eq_false (by omega)
  · rw [if_neg e1] at h1
    have a := of_decide_eq_false h1
    by_cases e2 : z.1 = y.1
    · rw [if_neg (by omega)]; exact decide_eq_false (by omega)
    · rw [if_neg e2] at h2
      have b := of_decide_eq_false h2
      rw [if_neg (by omega)]; exact decide_eq_false (by omega)
theorem kLt_tot (p q : Ky) (h1 : DP.kLt p q = false) (h2 : DP.kLt q p = false) : p = q := by
  unfold DP.kLt at h1 h2
  by_cases e : p.1 = q.1
  · rw [if_pos e] at h1; rw [if_pos e.symm] at h2
    exact Prod.ext e (lexLt_tot _ _ h1 h2)
  · rw [if_neg e] at h1; rw [if_neg (fun z => e z.symm)] at h2
    have a := of_decide_eq_false h1
    have b := of_decide_eq_false h2
    omega
theorem swo_k (k : Value → Ky) : Swo fun v u => DP.kLt (k v) (k u) := ⟨fun x y h => kLt_asym _ _ h, fun x y z h1 h2 => kLt_tr _ _ _ h1 h2⟩

/-! ### the order on lists -/
section
variable {α : Type} {lt : α → α → Bool}
/-- nothing behind is less -/
abbrev SrtL (lt : α → α → Bool) (l : List α) : Prop := l.Pairwise fun x y => lt y x = false
theorem ins_perm (x : α) : ∀ l : List α, (DP.ins lt x l).Perm (x :: l)
  | [] => .refl _
  | y :: r => by
    unfold DP.ins
    split
    · exact .refl _
    · exact ((ins_perm x r).cons y).trans (.swap x y r)
theorem isort_perm : ∀ l : List α, (DP.isort lt l).Perm l
  | [] => .refl _
  | x :: r => (ins_perm x _).trans ((isort_perm r).cons x)
theorem ins_srt (as : ∀ x y, lt x y = true → lt y x = false) (tr : ∀ x y z, lt y x = false → lt z y = false → lt z x = false) (x : α) : ∀ l : List α, SrtL lt l → SrtL lt (DP.ins lt x l)
  | [], _ => List.pairwise_singleton _ _
  | y :: r, h => by
    obtain ⟨h1, h2⟩ := List.pairwise_cons.mp h
    unfold DP.ins
    split
    · rename_i e
      refine List.pairwise_cons.mpr ⟨fun z hz => ?_, h⟩
      rcases List.mem_cons.mp hz with rfl | hz
      · exact as _ _ e
      · exact tr x y z (as _ _ e) (h1 z hz)
    · rename_i e
      refine List.pairwise_cons.mpr ⟨fun z hz => ?_, ins_srt as tr x r h2⟩
      rcases List.mem_cons.mp ((ins_perm x r).mem_iff.mp hz) with rfl | hz
      · exact Bool.eq_false_iff.mpr e
      · exact h1 z hz
theorem isort_srt (as : ∀ x y, lt x y = true → lt y x = false) (tr : ∀ x y z, lt y x = false → lt z y = false → lt z x = false) : ∀ l : List α, SrtL lt (DP.isort lt l)
  | [] => List.Pairwise.nil
  | x :: r => ins_srt as tr x _ (isort_srt as tr r)
theorem srt_one (tot : ∀ x y, lt x y = false → lt y x = false → x = y) : ∀ {a b : List α}, a.Perm b → SrtL lt a → SrtL lt b → a = b
  | [], b, p, _, _ => (List.Perm.nil_eq p)
  | x :: a, [], p, _, _ => absurd p.length_eq (by simp)
  | x :: a, y :: b, p, ha, hb => by
    obtain ⟨a1, a2⟩ := List.pairwise_cons.mp ha
    obtain ⟨b1, b2⟩ := List.pairwise_cons.mp hb
    have e : x = y := by
      rcases List.mem_cons.mp (p.mem_iff.mp (List.mem_cons_self (a := x) (l := a))) with e | h1
      · exact e
      · rcases List.mem_cons.mp (p.mem_iff.mpr (List.mem_cons_self (a := y) (l := b))) with e | h2
        · exact e.symm
        · exact tot _ _ (b1 x h1) (a1 y h2)
    subst e
    rw [srt_one tot (p.cons_inv) a2 b2]
end

theorem reads_ints {h : Heap} : ∀ {vs : List Value} {ns : List Int}, IntsAre vs ns → ∃ as, ReadsAll h vs (ns.map PyData.int) as
  | _, _, .nil => ⟨_, .nil⟩
  | _, _, .cons n t r => by
    obtain ⟨as, q⟩ := reads_ints (h := h) r
    exact ⟨_, .cons (.int n t) q⟩
theorem lay_ints : ∀ ns : List Int, PyData.canLayAll0 (ns.map PyData.int) = true
  | [] => rfl
  | n :: r => by rw [List.map_cons, PyData.canLayAll0, lay_ints r]; rfl
theorem dep_ints : ∀ ns : List Int, PyData.depthAll (ns.map PyData.int) ≤ 1
  | [] => by simp [PyData.depthAll]
  | n :: r => by
    have := dep_ints r
    rw [List.map_cons, PyData.depthAll]
    simp only [PyData.depth]
    omega
theorem eqv_ints : ∀ ns ms : List Int, PyData.eqvAll (ns.map PyData.int) (ms.map PyData.int) = decide (ns = ms)
  | [], [] => rfl
  | [], _ :: _ => rfl
  | _ :: _, [] => rfl
  | n :: r, m :: t => by
    rw [List.map_cons, List.map_cons, PyData.eqvAll, eqv_ints r t]
    simp only [PyData.eqv]
    by_cases e : n = m
    · subst e
      simp
    · simp [e]
theorem eq_rows {b b' : Addr} {its its' : Array Value} {ns ms : List Int} {Q : Bool → Shared → Prop} (h1 : IsTup s.heap b its) (h2 : IsTup s.heap b' its') (i1 : IntsAre its.toList ns) (i2 : IntsAre its'.toList ms) (hu : A.units + 8 < cLine) (h : Q (decide (ns = ms)) s) :
    wpAny (model prog w) A (eqBool (.ref b) (.ref b')) Q E s := by
  obtain ⟨o, ho, hc, n, hd⟩ := h1
  obtain ⟨o', ho', hc', n', hd'⟩ := h2
  obtain ⟨as, ra⟩ := reads_ints (h := s.heap) i1
  obtain ⟨bs, rb⟩ := reads_ints (h := s.heap) i2
  refine SeqAt.eqBoolOverData prog w A E s _ _ (.tuple (ns.map PyData.int)) (.tuple (ms.map PyData.int)) as bs Q (.tuple ho hc hd ra) (.tuple ho' hc' hd' rb) (by simpa [PyData.canLay0] using lay_ints ns) (by simpa [PyData.canLay0] using lay_ints ms) ?_ ?_
  · have a := dep_ints ns
    have c := dep_ints ms
    simp only [PyData.depth]
    omega
  · simp only [PyData.eqv]
    rw [eqv_ints]
    exact h
theorem kr_cmp {vs : List Value} {k : Value → Ky} (hp : ∀ v ∈ vs, IsKR s.heap v (k v)) (hu : A.units + 8 < cLine) : Cmp prog w A s (tuples' true) (fun p => p.1 ∈ vs) (lt2 fun v u => DP.kLt (k v) (k u)) := by
  intro p q hm hm'
  have h1 := hp _ hm
  have h2 := hp _ hm'
  show wpAny (model prog w) A (keyLt' (tuples' true) p.1 q.1) (fun r s' => s' = s ∧ r = DP.kLt (k p.1) (k q.1)) (fun _ _ => False) s
  unfold DP.kLt
  generalize (k p.1) = kx at h1 ⊢
  generalize (k q.1) = ky at h2 ⊢
  obtain ⟨x, ns⟩ := kx
  obtain ⟨x', ms⟩ := ky
  obtain ⟨a, o, t, b, n, e, ho, hc, hd, its, hb, hi⟩ := h1
  obtain ⟨a', o', t', b', n', e', ho', hc', hd', its', hb', hi'⟩ := h2
  rw [e, e']
  refine PySem.W.kat_lt ho hd ho' hd' ?_
  show PySem.W.KatLex prog w A true (decide (2 < 2)) _ [(.int x t, .int x' t'), (.ref b, .ref b')] 0 s
  refine PySem.W.kat_cons (SeqAt.EqAt.int_int x t x' t' prog w _ _ ?_)
  refine PySem.W.kat_go (fun e1 => ?_) (fun e1 => ?_)
  · have ex : x = x' := by simpa using e1
    refine PySem.W.kat_yes (PySem.W.kat_cons (eq_rows hb hb' hi hi' hu ?_))
    refine PySem.W.kat_go (fun e2 => ?_) (fun e2 => ?_)
    · have ey : ns = ms := by simpa using e2
      have e3 : (if (x, ns).1 = (x', ms).1 then HT.lexLt (x, ns).2 (x', ms).2 else decide ((x, ns).1 < (x', ms).1)) = false := by
        rw [if_pos ex, ey]
        exact lexLt_irr _
      exact PySem.W.kat_yes (PySem.W.kat_nil ⟨rfl, e3.symm⟩)
    · have e3 : (if (x, ns).1 = (x', ms).1 then HT.lexLt (x, ns).2 (x', ms).2 else decide ((x, ns).1 < (x', ms).1)) = HT.lexLt ns ms := if_pos ex
      refine PySem.W.kat_no (PySem.W.kat_one _ _ (HT.lt_tupInts hb hb' hi hi' (by omega) ?_))
      exact (show s = s ∧ HT.lexLt ns ms = _ from ⟨rfl, e3.symm⟩)
  · have ex : ¬ x = x' := by simpa using e1
    have e3 : (if (x, ns).1 = (x', ms).1 then HT.lexLt (x, ns).2 (x', ms).2 else decide ((x, ns).1 < (x', ms).1)) = decide (x < x') := if_neg ex
    exact PySem.W.kat_no (oneLt_int ⟨rfl, e3.symm⟩)
theorem kr_firsts {h : Heap} : ∀ {vs : List Value}, (∀ v ∈ vs, ∃ k, IsKR h v k) → ∃ fs : List Value, PySem.W.KatTups h vs fs ∧ fs.length = vs.length ∧ ∀ f ∈ fs, ∃ x t, f = Value.int x t
  | [], _ => ⟨[], PySem.W.KatTups.nil, rfl, fun _ hm => by simp at hm⟩
  | v :: vs, hp => by
    obtain ⟨fs, h1, h2, h3⟩ := kr_firsts (vs := vs) fun v' hm => hp v' (List.mem_cons_of_mem _ hm)
    obtain ⟨k, a, o, t, b, n, e, ho, hc, hd, _⟩ := hp v (List.mem_cons_self ..)
    subst e
    refine ⟨.int k.1 t :: fs, PySem.W.KatTups.cons ho hc hd rfl h1, by rw [List.length_cons, List.length_cons, h2], fun f hm => ?_⟩
    rcases List.mem_cons.mp hm with rfl | hm
    · exact ⟨k.1, t, rfl⟩
    · exact h3 f hm
theorem kr_sortable {a : Addr} {vs : List Value} {k : Value → Ky} (h0 : 0 < vs.length) (hp : ∀ v ∈ vs, IsKR s.heap v (k v)) (hu : A.units + 8 < cLine) (ha : ∀ o, s.heap.get? a = some o → o.cls ≠ .type "tuple") : SortableO prog w A s a vs fun v u => DP.kLt (k v) (k u) := by
  intro h' keep
  have hp' : ∀ v ∈ vs, IsKR h' v (k v) := fun v hm => (hp v hm).keeps fun b o e c => keep b o (fun z => by subst z; exact ha o e c) e
  obtain ⟨fs, h1, h2, h3⟩ := kr_firsts fun v hm => ⟨_, hp' v hm⟩
  refine ⟨tuples' true, fun Q E hq => ?_, kr_cmp hp' hu⟩
  refine PySem.W.kat_kind (T := .type "int") h1 (by omega) (fun f hm => ?_) (by rfl) ?_
  · obtain ⟨x, t, rfl⟩ := h3 f hm
    exact PySem.W.Looks.now
  · have e : (Value.type "int" != Value.type "tuple") = true := by first | decide +kernel | rfl | decide
    rw [e]
    exact hq
/-- sorted(l) of pairs of a number and a tuple of numbers -/
theorem sorted_kr {l : Addr} {vs : List Value} {k : Value → Ky} {Q : Value → Shared → Prop} (hu : A.units + 16 < cLine) (hl : s.heap.IsList l vs.toArray) (hz : vs.length ≤ sizeLine) (hp : ∀ v ∈ vs, IsKR s.heap v (k v))
    (h : ∀ (h' : Heap) (d : Addr) (out : List Value), Srtd (fun v u => DP.kLt (k v) (k u)) out → Stb (fun v u => DP.kLt (k v) (k u)) out vs → (∀ b o, s.heap.get? b = some o → h'.get? b = some o) → s.heap.objs.size ≤ d → (∃ n, h'.get? d = some (seqObj "list" out.toArray n)) → Q (.ref d) { s with heap := h' }) :
    wpAny (model prog w) A (call (.builtin "sorted") [.ref l]) Q E s := by
  refine sorted_ord (swo_k k) hl hz (fun h2 h₁ a ha kk => ?_) fun out hs hb => ?_
  · refine kr_sortable (s := { s with heap := h₁ }) (by omega) (fun v hm => (hp v hm).keeps fun b o e _ => (kk b o e).2) (by show A.units + 1 + 1 + 8 < cLine; omega) fun o e => ?_
    have e' : some o = some (seqObj "list" vs.toArray 0) := e.symm.trans ha
    cases e'
    intro c
    exact absurd (Value.type.inj c) (by decide)
  · exact h _ _ out hs hb (fun b o e => sortedAll_old e) (Nat.le_succ _) (sortedAll_at s.heap vs out.toArray)
end
end DPs

namespace DPs
open PySem PyProof.Rows
section
variable {prog : Program} {w : World} {A : Around} {E : Value → Shared → Prop} {s : Shared}
/-- sum(t), t a tuple of numbers -/
theorem sum_tup {a : Addr} {its : List Value} {ns : List Int} {Q : Value → Shared → Prop} (hh : A.handled = none) (ht : s.heap.IsTuple a its.toArray) (hi : IntsAre its ns)
    (h : ∀ h' tk t', (∀ b o, s.heap.get? b = some o → h'.get? b = some o) → Q (.int ns.sum t') { s with heap := h', toks := tk }) : wpAny (model prog w) A (call (.builtin "sum") [.ref a]) Q E s := by
  obtain ⟨xs, e⟩ := hi.allInts.items
  have hn : numsOf (intItems xs).toList = ns := by rw [← e]; exact hi.numsOf
  rw [nums_intItems] at hn
  rw [e] at ht
  have hlt : a < s.heap.objs.size := by
    obtain ⟨o, ho, _⟩ := id ht
    exact Heap.lt_size ho
  refine call_sum_walkG (wpAny_pyIter_tuple ht ?_)
  refine ⟨_, _, _, _, _, _, numAt xs, rfl, Walks.tuple (A := A.in1) hh s.heap.objs.size a (Nat.ne_of_lt hlt) (intItems xs), ⟨⟨_, Heap.get?_push_size _ rfl, rfl, rfl⟩, ?_⟩, fun b hb => ?_, (fun _ _ => intItems_at), fun h' tk t' hk => ?_⟩
  · obtain ⟨o, ho, hc, n, hd⟩ := id ht
    exact ⟨o, Heap.get?_push_of_some _ ho, hc, n, hd⟩
  · show b < (s.heap.push _).objs.size
    rw [Heap.size_push]
    simp only [List.mem_cons, List.not_mem_nil, or_false] at hb
    rcases hb with rfl | rfl
    · exact Nat.lt_succ_self _
    · exact Nat.lt_succ_of_lt hlt
  · have q := h h' tk t' fun b o eb => hk b o (fun z => by
      simp only [List.mem_cons, List.not_mem_nil, or_false] at z
      subst z
      exact Nat.lt_irrefl _ (Heap.lt_size eb)) (Heap.get?_push_of_some _ eb)
    rw [preSum_eq, List.take_of_length_le (by simp [intItems]), hn]
    exact q
end
end DPs
namespace DP
open PySem PySem.Spec PyProof.Rows L2
section
variable {X : Cx}
theorem sumD (hc : X.calm = true) : CallR X (.builtin "sum") (rB X.K (biD .sum)) := by
  intro pins s σ H vs us Q I r h
  obtain ⟨F, x, dx, d, rfl, hs, hx, e, q⟩ := h
  cases dx with
  | list ds =>
    obtain ⟨ns, e1, e⟩ := ok_bind (show (ints? ds >>= fun ns => R.ok (.int ns.sum)) = .ok d from e)
    cases e
    obtain ⟨a, xs, rfl, h1, h2, h3⟩ := hx.lst hs
    rw [ints?_eq e1] at h2
    rw [h2.intsV] at h1
    exact cr_sum hc pins s σ H _ us Q I r ⟨a, ns, rfl, h1.sq, q.pure hs (.int _)⟩
  | tuple ds =>
    obtain ⟨ns, e1, e⟩ := ok_bind (show (ints? ds >>= fun ns => R.ok (.int ns.sum)) = .ok d from e)
    cases e
    obtain ⟨a, xs, rfl, h1, h2, h3, _⟩ := hx.tup hs
    rw [ints?_eq e1] at h2
    rw [h2.intsV] at h1
    obtain ⟨its, rv, hl, _⟩ := I.tuple h1
    rw [Vals.ref1 r]
    exact DPs.sum_tup (I.ok.hd hc) (show s.heap.IsTuple a its.toArray from hl) rv.ints fun h' tk t' hk => ⟨.int _, H, I.kept hk, ⟨_, rfl⟩, q.pure hs (.int _)⟩
  | _ => cases e
theorem key?_eq {d : D} {k : Int × List Int} (h : key? d = .ok k) : d = kD' k := by
  unfold key? at h
  split at h
  · rename_i i ds
    obtain ⟨ns, e1, e2⟩ := ok_bind h
    cases e2
    rw [ints?_eq e1]
    rfl
  · cases h
theorem keys?_eq : ∀ {ds : List D} {ks : List (Int × List Int)}, keys? ds = .ok ks → ds = ks.map kD'
  | [], ks, h => by cases h; rfl
  | d :: r, ks, h => by
    obtain ⟨k, e1, h⟩ := ok_bind (show (key? d >>= fun k => keys? r >>= fun ks => R.ok (k :: ks)) = .ok ks from h)
    obtain ⟨ls, e2, h⟩ := ok_bind h
    cases h
    rw [key?_eq e1, keys?_eq e2]
    rfl
theorem key?_map (k : Int × List Int) : key? (kD' k) = .ok k := by
  show (ints? (k.2.map PyData.int) >>= fun ns => R.ok (k.1, ns)) = _
  rw [ints?_map]
  rfl
theorem keys?_map : ∀ ks : List (Int × List Int), keys? (ks.map kD') = .ok ks
  | [] => rfl
  | k :: r => by
    show (key? (kD' k) >>= fun k => keys? (r.map kD') >>= fun ks => R.ok (k :: ks)) = _
    rw [key?_map, keys?_map r]
    rfl
/-- the key of a value, where it is such a pair -/
def keyOf (h : Heap) (v : Value) : Int × List Int := match v with
  | .ref a => match h.get? a with
    | some ⟨_, _, .seq its _, _⟩ => (match its.toList with
      | [.int i _, .ref b] => (i, match h.get? b with
        | some ⟨_, _, .seq its _, _⟩ => its.toList.map SrtO.iv
        | _ => [])
      | _ => (0, []))
    | _ => (0, [])
  | _ => (0, [])
theorem keyOf_is {h : Heap} {v : Value} {k : Int × List Int} (p : DPs.IsKR h v k) : keyOf h v = k := by
  obtain ⟨a, ⟨oc, od, dt, sl⟩, t, b, n, rfl, e2, e3, e4, its, ⟨⟨oc2, od2, dt2, sl2⟩, g1, g2, m, g3⟩, i⟩ := p
  simp only at e4 g3
  subst e4 g3
  unfold keyOf
  simp only [e2, g1, SrtO.iv_ints i]
theorem kr_of {pins : List (Addr × Obj)} {σ : L2.St} {F H : Hp} {s : Shared} {x : V} {u : Value} {k : Int × List Int} (I : L2.Inv X pins σ H s) (hs : Same F H) (r : RelV x u) (h : Rp X.K F x (kD' k)) : DPs.IsKR s.heap u k := by
  cases h with
  | tup a b c =>
    cases r
    cases b with
    | cons h1 b =>
      cases b with
      | cons h2 b =>
        cases b
        cases h1
        cases h2 with
        | tup a2 b2 c2 =>
          obtain ⟨its, rv, ⟨o, ho, hc, n, hd⟩, _⟩ := I.tuple (Same.seqT hs a)
          obtain ⟨its2, rv2, p2, _⟩ := I.tuple (Same.seqT hs a2)
          cases rv with
          | cons q1 q2 =>
            cases q2 with
            | cons q2 q3 =>
              cases q3
              obtain ⟨t, rfl⟩ := q1
              cases q2
              have e := b2.intsV
              subst e
              exact ⟨_, o, t, _, n, rfl, ho, hc, hd, _, p2, intsAre_of rv2⟩
theorem krs_of {pins : List (Addr × Obj)} {σ : L2.St} {F H : Hp} {s : Shared} (I : L2.Inv X pins σ H s) (hs : Same F H) : ∀ {xs : List V} {us : List Value} {ks : List (Int × List Int)}, Vals xs us → Rps X.K F xs (ks.map kD') → us.map (keyOf s.heap) = ks ∧ ∀ u ∈ us, DPs.IsKR s.heap u (keyOf s.heap u)
  | _, _, [], .nil, .nil => ⟨rfl, fun _ h => by cases h⟩
  | _, _, k :: ks, .cons r1 r2, .cons h1 h2 => by
    obtain ⟨e1, e2⟩ := krs_of I hs r2 h2
    have e := kr_of I hs r1 h1
    have e' := keyOf_is e
    refine ⟨by rw [List.map_cons, e', e1], fun u hu => ?_⟩
    rcases List.mem_cons.mp hu with rfl | hu
    · rw [e']; exact e
    · exact e2 u hu
theorem perm_vals {xs : List V} {us out : List Value} (p : out.Perm us) (r : Vals xs us) : ∃ ys : List V, ys.Perm xs ∧ Vals ys out := by
  induction p generalizing xs with
  | nil => exact ⟨xs, .refl _, r⟩
  | cons x _ ih =>
    cases r with
    | cons r1 r2 =>
      obtain ⟨ys, p1, p2⟩ := ih r2
      exact ⟨_ :: ys, p1.cons _, .cons r1 p2⟩
  | swap x y l =>
    cases r with
    | cons r1 r2 =>
      cases r2 with
      | cons r2 r3 => exact ⟨_ :: _ :: _, .swap _ _ _, .cons r2 (.cons r1 r3)⟩
  | trans _ _ ih1 ih2 =>
    obtain ⟨ys, p1, p2⟩ := ih2 r
    obtain ⟨zs, q1, q2⟩ := ih1 p2
    exact ⟨zs, q1.trans p1, q2⟩
theorem krs_back {pins : List (Addr × Obj)} {σ : L2.St} {F H : Hp} {s : Shared} (I : L2.Inv X pins σ H s) (hs : Same F H) : ∀ {ys : List V} {out : List Value}, Vals ys out → (∀ y ∈ ys, ∃ k, Rp X.K F y (kD' k)) → Rps X.K F ys ((out.map (keyOf s.heap)).map kD')
  | _, _, .nil, _ => .nil
  | y :: ys, u :: out, .cons r1 r2, h => by
    obtain ⟨k, hk⟩ := h y List.mem_cons_self
    have e := keyOf_is (kr_of I hs r1 hk)
    rw [List.map_cons, List.map_cons, e]
    exact .cons hk (krs_back I hs r2 fun z hz => h z (List.mem_cons_of_mem _ hz))
theorem rps_mem {K : Frag} {F : Hp} : ∀ {xs : List V} {ds : List D}, Rps K F xs ds → ∀ x ∈ xs, ∃ d ∈ ds, Rp K F x d
  | _, _, .nil, x, h => by cases h
  | _, _, .cons h1 h2, x, h => by
    rcases List.mem_cons.mp h with rfl | h
    · exact ⟨_, List.mem_cons_self, h1⟩
    · obtain ⟨d, m, q⟩ := rps_mem h2 x h
      exact ⟨d, List.mem_cons_of_mem _ m, q⟩
/-- what a fresh list wants: its place -/
def ResL (K : Frag) (F H : Hp) (Q : VK) (ds : List D) : Prop := ∀ p xs, H p = none → Rps K F xs ds → xs.length ≤ sizeLine → Q (.ref p) (upd H p (.lst xs))
theorem Res.fresh {K : Frag} {F H : Hp} {Q : VK} {ds : List D} (s : Same F H) (q : Res K F H Q (.list ds)) : ResL K F H Q ds := fun _ _ hp r z => q.lst s r z hp
/-- a built-in whose answer is a new list -/
def rBL (K : Frag) (f : D → R D) : List V → Hp → VK → Prop := fun vs H Q => ∃ F x dx ds, vs = [x] ∧ Same F H ∧ Wk K F H x dx ∧ f dx = .ok (.list ds) ∧ ResL K F H Q ds
theorem sortedD (hu : X.A.units + 64 < cLine) : CallR X (.builtin "sorted") (rBL X.K (biD .sorted)) := by
  intro pins s σ H vs us Q I r h
  obtain ⟨F, x, dx, es, rfl, hs, hx, e, q⟩ := h
  cases dx with
  | list ds =>
    obtain ⟨a, xs, rfl, h1, h2, h3⟩ := hx.lst hs
    have e : sortD ds = .ok (.list es) := e
    unfold sortD at e
    split at e
    · rename_i ns e1
      cases e
      rw [ints?_eq e1] at h2
      rw [h2.intsV] at h1 h3
      refine cr_sortedI pins s σ H _ us Q I r ⟨a, ns, rfl, h1.sq, fun ns' p hp hw hn => ?_⟩
      have e2 : ns' = isort (fun a b : Int => decide (a < b)) ns := by
        refine DPs.srt_one (lt := fun a b : Int => decide (a < b)) (fun x y h1 h2 => ?_) (hp.trans (DPs.isort_perm ns).symm) (hw.imp fun {x y} h => decide_eq_false (by omega)) (DPs.isort_srt (fun x y h => ?_) (fun x y z h1 h2 => ?_) ns)
        · have a := of_decide_eq_false h1
          have b := of_decide_eq_false h2
          omega
        · have a := of_decide_eq_true h
          exact decide_eq_false (by omega)
        · have a := of_decide_eq_false h1
          have b := of_decide_eq_false h2
          exact decide_eq_false (by omega)
      subst e2
      refine q p _ hn (Rps.ints _) ?_
      rw [List.length_map, hp.length_eq]
      rw [List.length_map] at h3
      exact h3
    · obtain ⟨ks, e1, e⟩ := ok_bind e
      cases e
      rw [keys?_eq e1] at h2
      obtain ⟨its, rv, hl, hz⟩ := I.list h1.sq
      rw [Vals.ref1 r]
      obtain ⟨g1, g2⟩ := krs_of I hs rv h2
      refine DPs.sorted_kr (k := keyOf s.heap) (by omega) hl.isList (by rw [← rv.length]; exact hz) g2 fun h' d out so sb kk hd ho => ?_
      obtain ⟨ys, p1, p2⟩ := perm_vals sb.perm rv
      have hb := krs_back (ys := ys) (out := out) I hs p2 fun y hy => by
        obtain ⟨d', m, q'⟩ := rps_mem h2 y (p1.mem_iff.mp hy)
        obtain ⟨k, _, rfl⟩ := List.mem_map.mp m
        exact ⟨k, q'⟩
      have e2 : out.map (keyOf s.heap) = isort kLt ks := by
        refine DPs.srt_one (lt := kLt) DPs.kLt_tot ?_ (List.pairwise_map.mpr so) (DPs.isort_srt DPs.kLt_asym DPs.kLt_tr ks)
        have q1 := sb.perm.map (keyOf s.heap)
        rw [g1] at q1
        exact q1.trans (DPs.isort_perm ks).symm
      rw [e2] at hb
      have hlen : ys.length ≤ sizeLine := by rw [p1.length_eq]; exact h3
      obtain ⟨n, ho⟩ := ho
      have hdn : H d = none := I.hok.fresh hd
      exact ⟨.ref d, upd H d (.lst ys), I.laid (t' := s.toks) kk hd ⟨hlen, out, n, p2, ho⟩, rfl, q d ys hdn hb hlen⟩
  | _ => cases e
theorem listD : CallR X (.type "list") (rBL X.K (biD .list)) := by
  intro pins s σ H vs us Q I r h
  obtain ⟨F, x, dx, es, rfl, hs, hx, e, q⟩ := h
  cases dx with
  | list ds =>
    cases e
    obtain ⟨a, xs, rfl, h1, h2, h3⟩ := hx.lst hs
    exact call_list_of pins s σ H _ us Q I r ⟨a, xs, rfl, .inl h1.sq, fun l hl => q l xs hl h2 h3⟩
  | tuple ds =>
    cases e
    obtain ⟨a, xs, rfl, h1, h2, h3, _⟩ := hx.tup hs
    exact call_list_of pins s σ H _ us Q I r ⟨a, xs, rfl, .inr h1, fun l hl => q l xs hl h2 h3⟩
  | _ => cases e
theorem tupleD : CallR X (.type "tuple") (rB X.K (biD .tuple)) := by
  intro pins s σ H vs us Q I r h
  obtain ⟨F, x, dx, d, rfl, hs, hx, e, q⟩ := h
  cases dx with
  | list ds =>
    cases e
    obtain ⟨a, xs, rfl, h1, h2, h3⟩ := hx.lst hs
    exact call_tuple_of pins s σ H _ us Q I r ⟨a, xs, rfl, .inl ⟨h1.sq, fun l hl => q.tup hs h2 h3 hl⟩⟩
  | tuple ds =>
    cases e
    obtain ⟨a, xs, rfl, h1, h2, h3, h1F⟩ := hx.tup hs
    exact call_tuple_of pins s σ H _ us Q I r ⟨a, xs, rfl, .inr ⟨h1, q.pure hs (.tup h1F h2 h3)⟩⟩
  | _ => cases e
theorem lenD : CallR X (.builtin "len") (rB X.K (biD .len)) := by
  intro pins s σ H vs us Q I r h
  obtain ⟨F, x, dx, d, rfl, hs, hx, e, q⟩ := h
  cases dx with
  | list ds =>
    cases e
    obtain ⟨a, xs, rfl, h1, h2, h3⟩ := hx.lst hs
    refine call_len_seq pins s σ H _ us Q I r ⟨a, xs, rfl, .inl h1.sq, ?_⟩
    rw [h2.len]
    exact q.pure hs (.int _)
  | tuple ds =>
    cases e
    obtain ⟨a, xs, rfl, h1, h2, h3, h1F⟩ := hx.tup hs
    refine call_len_seq pins s σ H _ us Q I r ⟨a, xs, rfl, .inr h1, ?_⟩
    rw [h2.len]
    exact q.pure hs (.int _)
  | _ => cases e
theorem allD (hc : X.calm = true) : CallR X (.builtin "all") (rB X.K (biD .all)) := by
  intro pins s σ H vs us Q I r h
  obtain ⟨F, x, dx, d, rfl, hs, hx, e, q⟩ := h
  cases dx with
  | list ds =>
    obtain ⟨bs, e1, e⟩ := ok_bind (show (bools? ds >>= fun bs => R.ok (.bool (bs.all id))) = .ok d from e)
    cases e
    obtain ⟨a, xs, rfl, h1, h2, h3⟩ := hx.lst hs
    rw [bools?_eq e1] at h2
    rw [h2.boolsV] at h1
    exact cr_all hc pins s σ H _ us Q I r ⟨a, bs, rfl, h1.sq, q.pure hs (.bl _)⟩
  | _ => cases e
theorem anyD (hc : X.calm = true) : CallR X (.builtin "any") (rB X.K (biD .any)) := by
  intro pins s σ H vs us Q I r h
  obtain ⟨F, x, dx, d, rfl, hs, hx, e, q⟩ := h
  cases dx with
  | list ds =>
    obtain ⟨bs, e1, e⟩ := ok_bind (show (bools? ds >>= fun bs => R.ok (.bool (bs.any id))) = .ok d from e)
    cases e
    obtain ⟨a, xs, rfl, h1, h2, h3⟩ := hx.lst hs
    rw [bools?_eq e1] at h2
    rw [h2.boolsV] at h1
    exact cr_any hc pins s σ H _ us Q I r ⟨a, bs, rfl, h1.sq, q.pure hs (.bl _)⟩
  | _ => cases e
theorem absD : CallR X (.builtin "abs") (rB X.K (biD .abs)) := by
  intro pins s σ H vs us Q I r h
  obtain ⟨F, x, dx, d, rfl, hs, hx, e, q⟩ := h
  cases dx with
  | int i =>
    cases e
    obtain rfl := hx.int
    exact call_abs pins s σ H _ us Q I r ⟨i, rfl, q.pure hs (.int _)⟩
  | _ => cases e
theorem intD : CallR X (.type "int") (rB X.K (biD .int)) := by
  intro pins s σ H vs us Q I r h
  obtain ⟨F, x, dx, d, rfl, hs, hx, e, q⟩ := h
  cases dx with
  | int i =>
    cases e
    obtain rfl := hx.int
    exact call_int1 pins s σ H _ us Q I r (.inl ⟨i, rfl, q.pure hs (.int _)⟩)
  | _ => cases e
end
end DP

/-! DP: what repr shows of data. -/
namespace DP
open PySem PySem.Spec PyProof.Rows L2
section
variable {X : Cx} {pins : List (Addr × Obj)} {σ : L2.St} {F H : Hp} {s : Shared}
theorem not_sm {a : Addr} {xs : List V} (smK : X.K.lookup sysModules = none) (sm : Sm F) (h : LsK X.K F a xs) : a ≠ sysModules := by
  rintro rfl
  obtain ⟨o, e⟩ := sm
  rcases h with (h | ⟨u, h⟩) | ⟨its, n, h, _⟩
  · rw [e] at h; cases h
  · rw [e] at h; cases h
  · rw [smK] at h; cases h
mutual
theorem Rp.reads (I : L2.Inv X pins σ H s) (sF : Same F H) (sm : Sm F) (smK : X.K.lookup sysModules = none) : ∀ {x : V} {d : D}, Rp X.K F x d → ∀ {v : Value}, RelV x v → ∃ as, Reads s.heap v d as ∧ sysModules ∉ as
  | _, _, .non, v, rv => by
    cases (show v = Value.none from rv)
    exact ⟨[], .none, by simp⟩
  | _, _, .bl b, v, rv => by
    cases (show v = Value.bool b from rv)
    exact ⟨[], .bool b, by simp⟩
  | _, _, .int i, v, rv => by
    obtain ⟨t, rfl⟩ := rv
    exact ⟨[], .int i t, by simp⟩
  | _, _, .str x, v, rv => by
    obtain ⟨t, rfl⟩ := rv
    exact ⟨[], .str x t, by simp⟩
  | _, _, .lst (a := a) h r z, v, rv => by
    cases (show v = Value.ref a from rv)
    obtain ⟨its, rl, ⟨o, n, e, c, _, dt⟩, _⟩ := I.list (Same.lsk sF h).sq
    obtain ⟨as, ra, na⟩ := Rps.reads I sF sm smK r rl
    exact ⟨a :: as, .list e c dt (by simpa using ra), by
      rw [List.mem_cons, not_or]
      exact ⟨(not_sm smK sm h).symm, na⟩⟩
  | _, _, .tup (a := a) h r z, v, rv => by
    cases (show v = Value.ref a from rv)
    obtain ⟨its, rl, ⟨o, e, c, n, dt⟩, _⟩ := I.tuple (Same.seqT sF h)
    obtain ⟨as, ra, na⟩ := Rps.reads I sF sm smK r rl
    exact ⟨as, .tuple e c dt (by simpa using ra), na⟩
  | _, _, .dic (a := a) h r, v, rv => by
    cases (show v = Value.ref a from rv)
    obtain ⟨_, low, vs, kv, ⟨o, es, ep, e, ex, dt, _, prs, _⟩⟩ := I.hok a _ (sF _ _ h)
    obtain ⟨as, bs, ra, rb, na, nb⟩ := Rpk.reads I sF sm smK r kv prs
    exact ⟨a :: as ++ bs, .dict e ex.1 dt ra rb, by
      rw [List.mem_append, List.mem_cons, not_or, not_or]
      exact ⟨⟨fun z => by rw [← z] at low; simp at low, na⟩, nb⟩⟩
theorem Rps.reads (I : L2.Inv X pins σ H s) (sF : Same F H) (sm : Sm F) (smK : X.K.lookup sysModules = none) : ∀ {xs : List V} {ds : List D}, Rps X.K F xs ds → ∀ {vs : List Value}, Vals xs vs → ∃ as, ReadsAll s.heap vs ds as ∧ sysModules ∉ as
  | _, _, .nil, vs, rv => by
    cases rv
    exact ⟨[], .nil, by simp⟩
  | _, _, .cons h r, vs, rv => by
    cases rv with
    | cons r1 r2 =>
      obtain ⟨as, a1, a2⟩ := Rp.reads I sF sm smK h r1
      obtain ⟨bs, b1, b2⟩ := Rps.reads I sF sm smK r r2
      exact ⟨as ++ bs, .cons a1 b1, by rw [List.mem_append, not_or]; exact ⟨a2, b2⟩⟩
theorem Rpk.reads (I : L2.Inv X pins σ H s) (sF : Same F H) (sm : Sm F) (smK : X.K.lookup sysModules = none) : ∀ {kvs : List (Key × V)} {ds : List (D × D)}, Rpk X.K F kvs ds → ∀ {vs : List (Key × Value)} {es : List DictEntry}, KV kvs vs → Pairs (mixKind X.prog X.w) es vs →
    ∃ as bs, ReadsAll s.heap (es.map (·.key)) (ds.map (·.1)) as ∧ ReadsAll s.heap (es.map (·.val)) (ds.map (·.2)) bs ∧ sysModules ∉ as ∧ sysModules ∉ bs
  | _, _, .nil, vs, es, kv, prs => by
    cases kv
    cases prs
    exact ⟨[], [], .nil, .nil, by simp, by simp⟩
  | _, _, .cons (k := k) h r, vs, es, kv, prs => by
    cases kv with
    | cons k1 k2 =>
      cases prs with
      | cons p1 p2 p3 =>
        rename_i q _ en _
        obtain ⟨as, bs, a1, a2, a3, a4⟩ := Rpk.reads I sF sm smK r k2 p3
        obtain ⟨cs, c1, c2⟩ := Rp.reads I sF sm smK h k1.2
        have p1 : keyIs q.1 en.key = true := p1
        rw [← k1.1] at p1
        have kr : Reads s.heap en.key (kD k) [] := by
          cases k with
          | inl i =>
            obtain ⟨t, e⟩ : ∃ t, en.key = .int i t := by
              revert p1
              show Value.isInt i en.key = true → _
              cases en.key <;> simp [Value.isInt]
            rw [e]; exact .int i t
          | inr x =>
            obtain ⟨t, e⟩ : ∃ t, en.key = .str x t := by
              revert p1
              show Value.isStrOf x en.key = true → _
              cases en.key <;> simp [Value.isStrOf]
            rw [e]; exact .str x t
        refine ⟨[] ++ as, cs ++ bs, .cons kr a1, .cons (by show Reads s.heap en.val _ cs; rw [p2]; exact c1) a2, a3, by rw [List.mem_append, not_or]; exact ⟨c2, a4⟩⟩
end
/-- a call of a built-in with one operand that looks at the module table's place -/
def rBs (K : Frag) (f : D → R D) : List V → Hp → VK → Prop := fun vs H Q => ∃ F x dx d, vs = [x] ∧ Same F H ∧ Sm F ∧ Wk K F H x dx ∧ f dx = .ok d ∧ Res K F H Q d
theorem wk_reads (I : L2.Inv X pins σ H s) (sF : Same F H) (sm : Sm F) (smK : X.K.lookup sysModules = none) {x : V} {d : D} (h : Wk X.K F H x d) {v : Value} (rv : RelV x v) : ∃ as, Reads s.heap v d as ∧ sysModules ∉ as := by
  rcases h with h | ⟨l, xs, ds, rfl, rfl, h1, h2, h3⟩
  · exact h.reads I sF sm smK rv
  · cases (show v = Value.ref l from rv)
    obtain ⟨z, its, n, r, hl, e⟩ := Inv.lstR I (.inl (.inl h1))
    obtain ⟨as, ra, na⟩ := h2.reads I sF sm smK r
    refine ⟨l :: as, .list e rfl rfl (by simpa using ra), ?_⟩
    rw [List.mem_cons, not_or]
    refine ⟨fun z => ?_, na⟩
    obtain ⟨o, eo⟩ := sm
    rw [z] at eo
    rw [sF _ _ eo] at h1
    cases h1
theorem reprD (gd : X.A.guards = some []) (hu : X.A.units + 66 < cLine) (smK : X.K.lookup sysModules = none) : CallR X (.builtin "repr") (rBs X.K (biD .repr)) := by
  intro pins s σ H xs us Q I r h
  obtain ⟨F, x, dx, d, rfl, sF, sm, hx, e, q⟩ := h
  obtain ⟨u, rfl, ru⟩ := r.one
  have e : DP.gd (repOk dx) (.ok (.str dx.shown)) = .ok d := e
  obtain ⟨e1, e2⟩ := gd_ok e
  cases e2
  obtain ⟨e1, k3⟩ := band e1
  obtain ⟨k1, k2⟩ := band e1
  have k2 : dx.shown.length ≤ sizeLine := of_decide_eq_true k2
  have k3 : dx.depth ≤ 64 := of_decide_eq_true k3
  obtain ⟨as, ra, na⟩ := wk_reads I sF sm smK hx ru
  have fin : ∀ (h' : Heap) (t : Tok) (tk : Nat), (∀ b o, s.heap.get? b = some o → h'.get? b = some o) → EP X pins σ Q (.str dx.shown t) { s with heap := h', toks := tk } := fun h' t tk hk => ⟨.str dx.shown, H, I.kept (t' := tk) hk, ⟨t, rfl⟩, q.pure sF (.str _)⟩
  have big : ∀ {a : Addr}, u = .ref a → wpAny (model X.prog X.w) X.A (call (.builtin "repr") [u]) (EP X pins σ Q) X.xe s := fun {a} ea => by
    subst ea
    exact repr_of_reads' ra k1 (fun _ => na) gd (by omega) (fun _ _ z => z) fin k2
  cases dx with
  | none =>
    cases hx.none
    cases (show u = Value.none from ru)
    exact PySem.P.repr_of_none (fin s.heap _ _ fun _ _ z => z)
  | bool b =>
    cases hx.bool
    cases (show u = Value.bool b from ru)
    exact PySem.P.repr_of_bool (fin s.heap _ _ fun _ _ z => z)
  | int i =>
    obtain rfl := hx.int
    obtain ⟨t, rfl⟩ := ru
    exact PySem.P.repr_of_int (by simpa [PyData.showable] using k1) (fin s.heap _ _ fun _ _ z => z)
  | str z =>
    obtain rfl := hx.str
    obtain ⟨t, rfl⟩ := ru
    exact PySem.P.repr_of_str (fin s.heap _ _ fun _ _ z => z) k2
  | list ds => cases ra with | list _ _ _ _ => exact big rfl
  | tuple ds => cases ra with | tuple _ _ _ _ => exact big rfl
  | dict ds => cases ra with | dict _ _ _ _ _ => exact big rfl
end
end DP

/-! DP, part 5: readings by data, the look at a tree, expressions. -/
namespace DP
open PySem PySem.Spec PyProof.Rows L2

/-! ### readings -/
section
variable {α β γ δ : Type} {K : Frag} {B : Addr → Prop} {F H : Hp} {σ : L2.St} {ρ : Slots}
def Fin (K : Frag) (Rl : Hp → β → α → Prop) (B : Addr → Prop) (F H : Hp) (σ : L2.St) (Q : β → Hp → Prop) : R (α × Slots) → Prop
  | .ok p => ∀ v F' H', Ext B F H F' H' → EnvOk K F' H' σ p.2 → (∀ l, Own σ p.2 l → B l) → Rl F' v p.1 → Q v H'
  | .exc _ _ => False
  | .bad => False
def Rd' (K : Frag) (Rl : L2.St → Hp → β → α → Prop) (f : Slots → R (α × Slots)) : L2.St → Hp → (β → Hp → Prop) → Prop := fun σ H Q => ∃ F ρ, EnvOk K F H σ ρ ∧ Fin K (Rl σ) (Own σ ρ) F H σ Q (f ρ)
theorem Fin.mono {Rl : Hp → β → α → Prop} {Q Q' : β → Hp → Prop} {r : R (α × Slots)} (h : Fin K Rl B F H σ Q r) (i : ∀ v H', Q v H' → Q' v H') : Fin K Rl B F H σ Q' r := by
  cases r with
  | ok p => exact fun v F' H' e en o rl => i _ _ (h v F' H' e en o rl)
  | exc => exact h
  | bad => exact h
theorem Fin.bind {Rg : Hp → δ → γ → Prop} {Ra : Hp → β → α → Prop} {Q : δ → Hp → Prop} {r : R (α × Slots)} {g : α × Slots → R (γ × Slots)} (h : Fin K Rg B F H σ Q (r >>= g)) :
    Fin K Ra B F H σ (fun y H2 => ∃ F2 ρ2 b, Ext B F H F2 H2 ∧ EnvOk K F2 H2 σ ρ2 ∧ Ra F2 y b ∧ Fin K Rg (Own σ ρ2) F2 H2 σ Q (g (b, ρ2))) r := by
  cases r with
  | ok p =>
    have h : Fin K Rg B F H σ Q (g p) := h
    refine fun v F' H' e en o ra => ⟨F', p.2, p.1, e, en, ra, ?_⟩
    show Fin K Rg _ _ _ _ _ (g p)
    cases q : g p with
    | ok z =>
      rw [q] at h
      exact fun v2 F2 H2 e2 en2 o2 r2 => h v2 F2 H2 (e.trans e2 fun l hl => .inl (o l hl)) en2 (fun l hl => o l (o2 l hl)) r2
    | exc => rw [q] at h; exact h
    | bad => rw [q] at h; exact h
  | exc => exact h
  | bad => exact h
theorem Fin.ok {Rg : Hp → β → γ → Prop} {Q : β → Hp → Prop} {r : R α} {g : α → R (γ × Slots)} (h : Fin K Rg B F H σ Q (r >>= g)) : ∃ a, r = .ok a ∧ Fin K Rg B F H σ Q (g a) := by
  cases r with
  | ok a => exact ⟨a, rfl, h⟩
  | exc => exact h.elim
  | bad => exact h.elim
/-- an operand -/
def rOpd (K : Frag) (σ : L2.St) (F : Hp) (v : V) : Opd → Prop
  | .val d => Rp K F v d
  | .plc i => σ[i]? = some (some v)
def rTest (_ : L2.St) (_ : Hp) (b c : Bool) : Prop := b = c
def rArgs (K : Frag) (_ : L2.St) (F : Hp) (vs : List V) (ds : List D) : Prop := Rps K F vs ds
def rPart (_ : L2.St) (_ : Hp) (a b : Option Int) : Prop := a = b
theorem rOpd.mono {F' : Hp} {v : V} {o : Opd} (s : Same F F') (h : rOpd K σ F v o) : rOpd K σ F' v o := by
  cases o with
  | val d => exact Rp.mono s h
  | plc i => exact h
abbrev RdE (K : Frag) (f : Slots → R (Opd × Slots)) : TE := Rd' K (rOpd K) f
abbrev RdT (K : Frag) (f : Slots → R (Bool × Slots)) : TT := Rd' K rTest f
abbrev RdA (K : Frag) (f : Slots → R (List D × Slots)) : TA := Rd' K (rArgs K) f
theorem peek_wk {v : V} {o : Opd} {d : D} (en : EnvOk K F H σ ρ) (r : rOpd K σ F v o) (h : peek ρ o = .ok d) : Wk K F H v d := by
  cases o with
  | val e => cases h; exact .inl r
  | plc i =>
    have h : (match ρ[i]? with | some (.own _ ds) => R.ok (PyData.list ds) | _ => .bad) = .ok d := h
    split at h
    · rename_i b ds e
      cases h
      obtain ⟨l, xs, e1, e2, e3, e4, e5⟩ := en.cell i _ e
      have r : σ[i]? = some (some v) := r
      rw [r] at e1
      obtain rfl : v = .ref l := Option.some.inj e1
      exact .inr ⟨l, xs, ds, rfl, rfl, e3, e4, e5⟩
    · cases h
theorem keep_rp {v : V} {o : Opd} {d : D} (r : rOpd K σ F v o) (h : keep o = .ok d) : Rp K F v d := by
  cases o with
  | val e => cases h; exact r
  | plc i => cases h
theorem Fin.res {Q : VK} {d : D} (en : EnvOk K F H σ ρ) (h : Fin K (rOpd K σ) (Own σ ρ) F H σ Q (.ok (.val d, ρ))) : Res K F H Q d := fun v F' H' e s r =>
  h v F' H' e.nil_own (en.ext e s fun _ _ z => z) (fun _ z => z) r
/-- a value is handed on as it is -/
theorem Fin.now {Q : VK} {v : V} {o : Opd} (en : EnvOk K F H σ ρ) (h : Fin K (rOpd K σ) (Own σ ρ) F H σ Q (.ok (o, ρ))) (r : rOpd K σ F v o) : Q v H := h v F H Ext.refl en (fun _ z => z) r
theorem Fin.nowG {Rl : Hp → β → α → Prop} {Q : β → Hp → Prop} {v : β} {o : α} (en : EnvOk K F H σ ρ) (h : Fin K Rl (Own σ ρ) F H σ Q (.ok (o, ρ))) (r : Rl F v o) : Q v H := h v F H Ext.refl en (fun _ z => z) r
end
theorem _root_.L2.PE.imp {X : Cx} {e : Expr} {t t' : TE} (h : PE X e t) (i : ∀ σ H Q, t' σ H Q → t σ H Q) : PE X e t' := ⟨fun pins s σ H Q I q => h.run pins s σ H Q I (i _ _ _ q)⟩
theorem _root_.L2.PT.imp {X : Cx} {e : Expr} {t t' : TT} (h : PT X e t) (i : ∀ σ H Q, t' σ H Q → t σ H Q) : PT X e t' := ⟨fun pins s σ H Q I q => h.run pins s σ H Q I (i _ _ _ q)⟩
theorem _root_.L2.PW.imp {X : Cx} {e : Expr} {t t' : TT} (h : PW X e t) (i : ∀ σ H Q, t' σ H Q → t σ H Q) : PW X e t' := ⟨fun wh pins s σ H Q I q => h.run wh pins s σ H Q I (i _ _ _ q)⟩
theorem _root_.L2.PA.imp {X : Cx} {es : List Expr} {t t' : TA} (h : PA X es t) (i : ∀ σ H Q, t' σ H Q → t σ H Q) : PA X es t' := ⟨fun pos pins s σ H Q I q => h.run pos pins s σ H Q I (i _ _ _ q)⟩
/-- a test by data -/
def evT (G : Gm) (c : E) : Slots → R (Bool × Slots) := fun ρ => ev G c ρ >>= fun p => peek p.2 p.1 >>= fun x => asB x >>= fun k => .ok (k, p.2)

/-! ### the look at a tree -/
def nmOk (sc : Scope) (x : Str) : Bool := (match sc.names.lookup x with | some .local => true | some .cell => true | some .free => true | _ => false) && !(x == ("__debug__" : Str)) && !(x == ("__classdict__" : Str))
def okV (sc : Scope) (N : List Str) (i : Nat) (x : Str) : Bool := decide (N[i]? = some x) && nmOk sc x
/-- a name that is stored -/
def okL (sc raw : Scope) (N : List Str) (i : Nat) (x : Str) : Bool := decide (N[i]? = some x) && (match sc.names.lookup x with | some .local => true | some .cell => (match raw.names.lookup x with | some .cell => true | _ => false) | _ => false)
def glOk (sc : Scope) (x : Str) : Bool := (match sc.names.lookup x with | some .globalImplicit => true | _ => false) && !(x == ("__debug__" : Str)) && !(x == ("__name__" : Str))
def litOk : Lit → Const → Bool
  | .non, .none => true
  | .bl a, .bool b => a == b
  | .int a, .int b => decide (a = b)
  | .str a, .str b => decide (a = b)
  | _, _ => false
def o2Ok : O2 → Operator → Bool
  | .add, .Add | .sub, .Sub | .mul, .Mult | .fdiv, .FloorDiv | .mod, .Mod | .pow, .Pow => true
  | _, _ => false
def ocOk : Oc → CmpOp → Bool
  | .eq, .Eq | .ne, .NotEq | .lt, .Lt | .le, .LtE | .gt, .Gt | .ge, .GtE | .isN, .Is | .notN, .IsNot | .inn, .In | .nin, .NotIn | .isB, .Is | .notB, .IsNot => true
  | _, _ => false
def biName : Bi → Str
  | .len => "len" | .all => "all" | .any => "any" | .sum => "sum" | .tuple => "tuple" | .list => "list" | .sorted => "sorted" | .abs => "abs" | .int => "int" | .str => "str" | .repr => "repr"
/-- the built-ins whose rules stand here -/
def biHas : Bi → Bool
  | .str => false
  | _ => true
def tyStr (t : Ty) : Str := tyName t
def isT : E → Bool
  | .ife _ _ _ => false
  | .nop => false
  | _ => true
def isNop : E → Bool
  | .nop => true
  | _ => false
def isYes : E → Bool
  | .lit (.bl true) => true
  | _ => false
def ownOf (N : List Str) (tg : Tg) : List (Str × Nat) := tg.slots.map fun i => (N.getD i "", i)
def okNms (sc raw : Scope) (N : List Str) : List Nat → List Expr → Bool
  | [], [] => true
  | i :: is, .Name x _ :: es => okL sc raw N i x && okNms sc raw N is es
  | _, _ => false
def okTg (sc raw : Scope) (N : List Str) : Tg → Expr → Bool
  | .nm i, .Name x _ => okL sc raw N i x
  | .tup is, .Tuple es _ _ => okNms sc raw N is es
  | _, _ => false
/-- it hands back a list just made -/
def isNw (G : Gm) (j : Nat) : Bool := match G.fns[j]? with | some g => g.nw | none => false
variable (G : Gm)
mutual
def okE (sc raw : Scope) (N : List Str) : E → Expr → Bool
  | .var i, .Name x _ => okV sc N i x
  | .frz i, .Name x _ => okV sc N i x
  | .lit l, .Constant c _ _ => litOk l c
  | .cst j, .Name x _ => (match G.cst[j]? with | some p => decide (p.1 = x) && glOk sc x | none => false)
  | .tup es, .Tuple es' _ _ => okEs sc raw N es es'
  | .lst es, .List es' _ => okEs sc raw N es es'
  | .bin o a b, .BinOp a' o' b' _ => o2Ok o o' && okE sc raw N a a' && okE sc raw N b b'
  | .cmp o a b, .Compare a' [o'] [b'] _ => ocOk o o' && okE sc raw N a a' && okE sc raw N b b'
  | .chn o1 o2 a b c, .Compare a' [o1', o2'] [b', c'] _ => ocOk o1 o1' && ocOk o2 o2' && okE sc raw N a a' && okE sc raw N b b' && okE sc raw N c c'
  | .neg a, .UnaryOp .USub a' _ => okE sc raw N a a'
  | .not a, .UnaryOp .Not a' _ => isT a && okE sc raw N a a'
  | .and es, .BoolOp .And es' _ => okB sc raw N es es'
  | .or es, .BoolOp .Or es' _ => okB sc raw N es es'
  | .ife c a b, .IfExp c' a' b' _ => isT c && okE sc raw N c c' && okE sc raw N a a' && okE sc raw N b b'
  | .ix a i, .Subscript a' i' _ => okE sc raw N a a' && okE sc raw N i i'
  | .slc a lo hi, .Subscript a' (.Slice lo' hi' none _) _ => okE sc raw N a a' && (match lo' with | none => isNop lo | some e => !isNop lo && okE sc raw N lo e) &&
      (match hi' with | none => isNop hi | some e => !isNop hi && okE sc raw N hi e)
  | .call j (.cons e es), .Call (.Name x _) (e' :: es') [] _ => (match G.fns[j]? with | some g => decide (g.name = x) && glOk sc x | none => false) && !isNw G j && okE sc raw N e e' && okEs sc raw N es es'
  | .callB j i es, .Call (.Name x _) (.Name h _ :: es') [] _ => (match G.fns[j]? with | some g => decide (g.name = x) && glOk sc x | none => false) && okV sc N i h && okEs sc raw N es es'
  | .bi f a, .Call (.Name x _) [a'] [] _ => biHas f && decide (biName f = x) && glOk sc x && okE sc raw N a a'
  | .isi a t, .Call (.Name x _) [a', .Name y _] [] _ => decide (x = ("isinstance" : Str)) && glOk sc x && decide (y = tyStr t) && glOk sc y && okE sc raw N a a'
  | .comp elt tg it cond, .ListComp elt' [⟨tg', it', ifs', as⟩] scope _ => decide (as = 0) && okI sc raw N it it' && blkC N sc scope (ownOf N tg) && okTg (relS scope sc) scope N tg tg' && okE (relS scope sc) scope N elt elt' &&
      (match ifs' with | [] => isYes cond | [c'] => isT cond && okE (relS scope sc) scope N cond c' | _ => false)
  | .comp2 elt tg it cond tg2 it2 cond2, .ListComp elt' [⟨tg', it', ifs', as⟩, ⟨tg2', it2', ifs2', as2⟩] scope _ => decide (as = 0) && decide (as2 = 0) && okI sc raw N it it' && blkC N sc scope (ownOf N tg ++ ownOf N tg2) && okTg (relS scope sc) scope N tg tg' && okTg (relS scope sc) scope N tg2 tg2' &&
      okI (relS scope sc) scope N it2 it2' && okE (relS scope sc) scope N elt elt' &&
      (match ifs' with | [] => isYes cond | [c'] => isT cond && okE (relS scope sc) scope N cond c' | _ => false) && (match ifs2' with | [] => isYes cond2 | [c'] => isT cond2 && okE (relS scope sc) scope N cond2 c' | _ => false)
  | .dic1 k v, .Dict [some k'] [v'] _ => okE sc raw N k k' && okE sc raw N v v'
  | _, _ => false
def okEs (sc raw : Scope) (N : List Str) : Es → List Expr → Bool
  | .nil, [] => true
  | .cons e es, e' :: es' => okE sc raw N e e' && okEs sc raw N es es'
  | _, _ => false
/-- two or more, each a test -/
def okB (sc raw : Scope) (N : List Str) : Es → List Expr → Bool
  | .cons e .nil, [e'] => isT e && okE sc raw N e e'
  | .cons e (.cons e2 es), e' :: e2' :: es' => isT e && okE sc raw N e e' && okB sc raw N (.cons e2 es) (e2' :: es')
  | _, _ => false
def okI (sc raw : Scope) (N : List Str) : I → Expr → Bool
  | .seq a, e => okE sc raw N a e
  | .rng a, .Call (.Name x _) [a'] [] _ => decide (x = ("range" : Str)) && glOk sc x && okE sc raw N a a'
  | .rng2 a b, .Call (.Name x _) [a', b'] [] _ => decide (x = ("range" : Str)) && glOk sc x && okE sc raw N a a' && okE sc raw N b b'
  | _, _ => false
end
end DP

/-! DP, part 6: expressions keep what the small tree says: names, displays, operators, tests, calls. -/
namespace DP
open PySem PySem.Spec PyProof.Rows L2

def litV : Lit → V
  | .non => .non
  | .bl b => .bl b
  | .int i => .int i
  | .str x => .str x
theorem lit_rp {K : Frag} {F : Hp} (l : Lit) : Rp K F (litV l) (litD l) := by
  cases l
  · exact .non
  · exact .bl _
  · exact .int _
  · exact .str _
/-- what a def promises, by data -/
def spOf (K : Frag) (g : Sig) : Sp := fun vs H Q _ => vs.length = g.n ∧ ∃ F, Same F H ∧ Sm F ∧
  ((g.bor = false ∧ g.nw = false ∧ ∃ ds r, Rps K F vs ds ∧ g.sem ds = .ok r ∧ Res K F H Q r.1) ∨
   (g.bor = false ∧ g.nw = true ∧ ∃ ds es u, Rps K F vs ds ∧ g.sem ds = .ok (.list es, u) ∧ ∀ p xs F' H', Ext (fun _ => False) F H F' H' → Same F' H' → H' p = none → Rps K F' xs es → xs.length ≤ sizeLine → Q (.ref p) (upd H' p (.lst xs))) ∨
   (g.bor = true ∧ ∃ l ws xs es ds r, vs = .ref l :: ws ∧ F l = none ∧ H l = some (.lst xs) ∧ Rps K F xs es ∧ xs.length ≤ sizeLine ∧ Rps K F ws ds ∧ g.sem (.list es :: ds) = .ok r ∧
      ∀ v F' H' xs', Ext (fun a => a = l) F H F' H' → Same F' H' → F' l = none → H' l = some (.lst xs') → Rps K F' xs' r.2 → xs'.length ≤ sizeLine → Rp K F' v r.1 → Q v H'))
/-- what a def does wherever it is called: nothing is being shown just then -/
structure FnG (P : Program) (w : World) (K : Frag) (mg : Str → Option Value) (base : Heap) (CX : CXT) (k : Nat) (f : Addr) (fd : FuncData) (ps : List Str) (sp : Sp) : Prop where
  few : ∀ vs H Q E, sp vs H Q E → vs.length = ps.length
  go : ∀ (A : Around) (out : List Env) (s : Shared) (H : Hp) (args : Args) (us : List Value) (vs : List V) (Q : VK) (E : XK), A.guards = some [] → Room k A → Env0 P w K mg base A out s H → BindsTo s fd args (ps.zip us) → Vals vs us → sp vs H Q E →
    codeAny (model P w) A (.call (.ref f) args) (CR CX out P w H s Q E) s
theorem FnG.mono {P : Program} {w : World} {K : Frag} {mg : Str → Option Value} {base : Heap} {CX : CXT} {j k : Nat} {f : Addr} {fd : FuncData} {ps : List Str} {sp : Sp} (g : FnG P w K mg base CX j f fd ps sp) (h : j ≤ k) : FnG P w K mg base CX k f fd ps sp :=
  ⟨g.few, fun A out s H args us vs Q E gd room => g.go A out s H args us vs Q E gd (room.mono h)⟩
/-- f(e, ..) -/
theorem pe_go {X : Cx} {CX : CXT} {k : Nat} {f : Addr} {fd : FuncData} {ps : List Str} {sp : Sp} {E : XK} {x : Str} {px pos : Pos} {e : Expr} {es : List Expr} {t : TA} (g : FnG X.prog X.w X.K X.mg X.base CX k f fd ps sp) (gd : X.A.guards = some [])
    (room : Room k X.A) (gl : Gl X x) (m : X.mg x = some (.ref f)) (kp : PySem.W.keepIn X.K (.ref f) = true) (bd : Binds X.K fd ps []) (hx : Passes CX X E) (args : PA X (e :: es) t) (nd : (x == ("__debug__" : Str)) = false)
    (st : starEach (e :: es) X.env = (false, eval e X.env) :: starEach es X.env) (pl : (backTo pos (starEach es X.env)).any (·.1) = false) : PE X (.Call (.Name x px) (e :: es) [] pos) (tCall sp [] E t) := by
  constructor
  intro pins s σ H Q I q
  refine wpAny_Call_Name_kw (ld_glob I gl m ?_ nd)
  refine PySem.W.callWith_K (h₀ := X.base) I.ok.mod.kin kp ?_ st pl
  refine thn (args.run pos pins s σ H _ I q) fun us s1 ⟨vs, H1, I1, rel, q1⟩ => ⟨I1.kIn, ?_⟩
  have q1 : sp (vs ++ []) H1 Q E := q1
  rw [List.append_nil] at q1
  have lu : (us ++ []).length = ps.length := by rw [List.append_nil, ← rel.length]; exact g.few _ _ _ _ q1
  have bt := bd s1 us I1.kIn lu
  rw [List.append_nil] at bt
  refine wpAny_call (codeAny_mono (g.go X.A X.stack s1 H1 ⟨us, []⟩ us vs Q E gd room I1.env0 bt rel q1) fun r s2 hq => ?_)
  cases r with
  | error z => exact hx pins σ H1 s1 z s2 I1 hq
  | ok fl =>
    cases fl with
    | ret u => exact I1.after hq
    | _ => exact hq.elim
/-- a def that stands in the module and keeps its promise -/
def HasFn (P : Program) (w : World) (K : Frag) (mg : Str → Option Value) (base : Heap) (k : Nat) (g : Sig) : Prop :=
  ∃ f fd ps, mg g.name = some (.ref f) ∧ PySem.W.keepIn K (.ref f) = true ∧ Binds K fd ps [] ∧ FnG P w K mg base CX0 k f fd ps (spOf K g)
theorem HasFn.mono {P : Program} {w : World} {K : Frag} {mg : Str → Option Value} {base : Heap} {j k : Nat} {g : Sig} (h : HasFn P w K mg base j g) (l : j ≤ k) : HasFn P w K mg base k g := by
  obtain ⟨f, fd, ps, h1, h2, h3, h4⟩ := h
  exact ⟨f, fd, ps, h1, h2, h3, h4.mono l⟩
def bNames : List Str := ["len", "all", "any", "sum", "tuple", "list", "sorted", "abs", "int", "isinstance", "bool", "str", "range", "repr"]
/-- where one stands: G's names, k calls of room -/
structure Here (G : Gm) (k : Nat) (sc raw : Scope) (N : List Str) (X : Cx) : Prop where
  scE : X.env.scope = sc
  nE : X.N = N
  nd : N.Nodup
  calm : X.calm = true
  fn : ∀ x, raw.names.lookup x = some .cell → X.fn x = true
  blt : ∀ x ∈ bNames, X.mg x = none
  fns : ∀ (j : Nat) (g : Sig), G.fns[j]? = some g → HasFn X.prog X.w X.K X.mg X.base k g
  cst : ∀ (j : Nat) (p : Str × Lit), G.cst[j]? = some p → ∃ u, X.mg p.1 = some u ∧ RelV (litV p.2) u
  room : Room k X.A
  grd : X.A.guards = some []
  smK : X.K.lookup sysModules = none
section
variable {G : Gm} {k : Nat} {sc raw : Scope} {N : List Str} {X : Cx} {pos : Pos}
theorem gl_of (c : Here G k sc raw N X) {x : Str} (h : glOk sc x = true) : Gl X x ∧ (x == ("__debug__" : Str)) = false ∧ x ≠ "__name__" := by
  unfold glOk at h
  obtain ⟨h1, h2⟩ := band h
  obtain ⟨h1, h3⟩ := band h1
  refine ⟨?_, by simpa using h3, by simpa using h2⟩
  show X.env.scope.names.lookup x = _
  rw [c.scE]
  split at h1
  · assumption
  · cases h1
theorem v_of (c : Here G k sc raw N X) {i : Nat} {x : Str} (h : okV sc N i x = true) : PE X (.Name x pos) (tVar i) := by
  unfold okV nmOk at h
  obtain ⟨h1, h2⟩ := band h
  obtain ⟨h2, h4⟩ := band h2
  obtain ⟨h2, h3⟩ := band h2
  refine pe_var (by rw [c.nE]; exact of_decide_eq_true h1) ?_ (by simpa using h3) (by simpa using h4)
  show Vis X.env.scope x
  rw [c.scE]
  unfold Vis
  split at h2
  · exact .inl (by assumption)
  · exact .inr (.inl (by assumption))
  · exact .inr (.inr (by assumption))
  · cases h2
theorem s_var (c : Here G k sc raw N X) {i : Nat} {x : Str} (h : okV sc N i x = true) : PE X (.Name x pos) (RdE X.K (ev G (.var i))) := by
  refine (v_of c h).imp fun σ H Q q => ?_
  obtain ⟨F, ρ, en, q⟩ := q
  have q : Fin X.K (rOpd X.K σ) (Own σ ρ) F H σ Q (rdVar ρ i) := q
  unfold rdVar at q
  cases e : ρ[i]? with
  | none => rw [e] at q; exact q.elim
  | some cl =>
    rw [e] at q
    have hc := en.cell i _ e
    cases cl with
    | un => exact q.elim
    | dat d =>
      obtain ⟨v, e1, r⟩ := hc
      refine ⟨v, ?_, q.now en (o := .val d) r⟩
      cases e2 : σ[i]? with
      | none => rw [e2] at e1; cases e1
      | some o => rw [e2] at e1; exact congrArg some e1
    | own b ds =>
      obtain ⟨l, xs, e1, _⟩ := hc
      have e3 : σ[i]? = some (some (V.ref l)) := by
        cases e2 : σ[i]? with
        | none => rw [e2] at e1; cases e1
        | some o => rw [e2] at e1; exact congrArg some e1
      exact ⟨.ref l, e3, q.now en (o := .plc i) e3⟩
/-- a list of one's own becomes data -/
theorem s_frz (c : Here G k sc raw N X) {i : Nat} {x : Str} (h : okV sc N i x = true) : PE X (.Name x pos) (RdE X.K (ev G (.frz i))) := by
  refine (v_of c h).imp fun σ H Q q => ?_
  obtain ⟨F, ρ, en, q⟩ := q
  have q : Fin X.K (rOpd X.K σ) (Own σ ρ) F H σ Q (match ρ[i]? with
    | some (.dat d) => R.ok (Opd.val d, ρ)
    | some (.own false ds) => .ok (.val (.list ds), ρ.set i (.dat (.list ds)))
    | _ => .bad) := q
  cases e : ρ[i]? with
  | none => rw [e] at q; exact q.elim
  | some cl =>
    rw [e] at q
    have hc := en.cell i _ e
    cases cl with
    | un => exact q.elim
    | dat d =>
      obtain ⟨v, e1, r⟩ := hc
      refine ⟨v, ?_, q.now en (o := .val d) r⟩
      cases e2 : σ[i]? with
      | none => rw [e2] at e1; cases e1
      | some o => rw [e2] at e1; exact congrArg some e1
    | own b ds =>
      cases b with
      | true => exact q.elim
      | false =>
        obtain ⟨l, xs, e1, f1, f2, f3, f4⟩ := hc
        have e3 : σ[i]? = some (some (V.ref l)) := by
          cases e2 : σ[i]? with
          | none => rw [e2] at e1; cases e1
          | some o => rw [e2] at e1; exact congrArg some e1
        have hi : i < ρ.length := (List.getElem?_eq_some_iff.mp e).1
        have sF : Same F (upd F l (.lst xs)) := fun a o ea => by rw [upd_ne (ne_of_none ea f1)]; exact ea
        have ow : ∀ l2, Own σ (ρ.set i (.dat (.list ds))) l2 → Own σ ρ l2 := fun l2 ⟨j, b, d2, g1, g2⟩ => by
          by_cases hj : i = j
          · subst hj
            rw [List.getElem?_set_self hi] at g1
            cases g1
          · rw [List.getElem?_set_ne hj] at g1
            exact ⟨j, b, d2, g1, g2⟩
        refine ⟨.ref l, e3, q (.ref l) (upd F l (.lst xs)) H ⟨sF, fun _ _ h _ => h, fun a ha => ?_, fun _ h => h⟩ ⟨fun a o ea => ?_, by rw [List.length_set]; exact en.len, fun j cl ej => ?_, fun j1 j2 l' b b' d1 d2 g1 g2 => ?_, en.sm.up sF⟩ ow (.lst (.inl (.inl upd_same)) (f3.mono sF) f4)⟩
        · by_cases hal : a = l
          · subst hal; exact .inr (.inr ⟨i, false, ds, e, e3⟩)
          · rw [upd_ne hal] at ha; exact .inl ha
        · by_cases hal : a = l
          · subst hal; rw [upd_same] at ea; rw [← ea]; exact f2
          · rw [upd_ne hal] at ea; exact en.sub _ _ ea
        · by_cases hj : i = j
          · subst hj
            rw [List.getElem?_set_self hi] at ej
            obtain rfl := Option.some.inj ej
            exact ⟨.ref l, by rw [e3]; rfl, .lst (.inl (.inl upd_same)) (f3.mono sF) f4⟩
          · rw [List.getElem?_set_ne hj] at ej
            have hc := en.cell j cl ej
            cases cl with
            | un => trivial
            | dat d =>
              obtain ⟨v, h1, h2⟩ := hc
              exact ⟨v, h1, h2.mono sF⟩
            | own b2 d2 =>
              obtain ⟨l2, xs2, h1, h2, h3, h4, h5⟩ := hc
              have h1' : σ[j]? = some (some (V.ref l2)) := by
                cases z : σ[j]? with
                | none => rw [z] at h1; cases h1
                | some o => rw [z] at h1; exact congrArg some h1
              have hne : l2 ≠ l := fun z => by
                subst z
                exact hj (en.sep _ _ _ _ _ _ _ e ej e3 h1')
              exact ⟨l2, xs2, h1, by rw [upd_ne hne]; exact h2, h3, h4.mono sF, h5⟩
        · have old : ∀ {j : Nat} {b : Bool} {d2 : List D}, (ρ.set i (.dat (.list ds)))[j]? = some (Cell.own b d2) → ρ[j]? = some (Cell.own b d2) := fun {j b d2} g => by
            by_cases hj : i = j
            · subst hj
              rw [List.getElem?_set_self hi] at g
              cases g
            · rw [List.getElem?_set_ne hj] at g
              exact g
          exact en.sep _ _ _ _ _ _ _ (old g1) (old g2)
theorem s_lit {l : Lit} {co : Const} {j : Nat} (h : litOk l co = true) : PE X (.Constant co j pos) (RdE X.K (ev G (.lit l))) := by
  have key : ∀ {v : V}, Rp X.K (fun _ => none) v (litD l) → (∀ F, Rp X.K F v (litD l)) → PE X (.Constant co j pos) (tC v) → PE X (.Constant co j pos) (RdE X.K (ev G (.lit l))) := fun {v} _ hr p => by
    refine p.imp fun σ H Q q => ?_
    obtain ⟨F, ρ, en, q⟩ := q
    have q : Fin X.K (rOpd X.K σ) (Own σ ρ) F H σ Q (.ok (.val (litD l), ρ)) := q
    exact q.now en (o := .val (litD l)) (hr F)
  cases l with
  | non =>
    cases co with
    | none => exact key .non (fun _ => .non) pe_non
    | _ => cases h
  | bl a =>
    cases co with
    | bool b =>
      obtain rfl : a = b := by simpa [litOk] using h
      exact key (.bl _) (fun _ => .bl _) pe_bl
    | _ => cases h
  | int a =>
    cases co with
    | int b =>
      obtain rfl : a = b := of_decide_eq_true h
      exact key (.int _) (fun _ => .int _) pe_int
    | _ => cases h
  | str a =>
    cases co with
    | str b =>
      obtain rfl : a = b := of_decide_eq_true h
      exact key (.str _) (fun _ => .str _) pe_str
    | _ => cases h
theorem s_cst (c : Here G k sc raw N X) {j : Nat} {x : Str} (h : (match G.cst[j]? with | some p => decide (p.1 = x) && glOk sc x | none => false) = true) : PE X (.Name x pos) (RdE X.K (ev G (.cst j))) := by
  cases e : G.cst[j]? with
  | none => rw [e] at h; cases h
  | some p =>
    rw [e] at h
    obtain ⟨h1, h2⟩ := band h
    obtain rfl : p.1 = x := of_decide_eq_true h1
    obtain ⟨g1, g2, g3⟩ := gl_of c h2
    obtain ⟨u, m, r⟩ := c.cst j p e
    refine (pe_glob g1 m r g2).imp fun σ H Q q => ?_
    obtain ⟨F, ρ, en, q⟩ := q
    have q : Fin X.K (rOpd X.K σ) (Own σ ρ) F H σ Q (match G.cst[j]? with | some p => .ok (.val (litD p.2), ρ) | none => .bad) := q
    rw [e] at q
    exact q.now en (o := .val (litD p.2)) (lit_rp _)

/-! ### a new list -/
/-- the answer is a list just made: it stands where nothing stood -/
def RdN (K : Frag) (f : Slots → R (Opd × Slots)) : TE := fun σ H Q => ∃ F ρ ds ρ', EnvOk K F H σ ρ ∧ f ρ = .ok (.val (.list ds), ρ') ∧
  ∀ p xs F' H', Ext (Own σ ρ) F H F' H' → EnvOk K F' H' σ ρ' → (∀ l, Own σ ρ' l → Own σ ρ l) → H' p = none → Rps K F' xs ds → xs.length ≤ sizeLine → Q (.ref p) (upd H' p (.lst xs))
theorem own_none {K : Frag} {F H : Hp} {σ : L2.St} {ρ : Slots} (en : EnvOk K F H σ ρ) {p : Addr} (h : H p = none) : ¬ Own σ ρ p := fun ⟨i, b, ds, e1, e2⟩ => by
  obtain ⟨l, xs, e3, _, e4, _⟩ := en.cell i _ e1
  rw [e2] at e3
  obtain rfl : p = l := V.ref.inj (Option.some.inj e3)
  rw [h] at e4; cases e4
theorem RdE.new {K : Frag} {f : Slots → R (Opd × Slots)} {σ : L2.St} {H : Hp} {Q : VK} (h : RdE K f σ H Q) (hl : ∀ ρ o ρ', f ρ = .ok (o, ρ') → ∃ ds, o = .val (.list ds)) : RdN K f σ H Q := by
  obtain ⟨F, ρ, en, q⟩ := h
  cases e : f ρ with
  | exc => rw [e] at q; exact q.elim
  | bad => rw [e] at q; exact q.elim
  | ok p =>
    obtain ⟨o, ρ'⟩ := p
    rw [e] at q
    obtain ⟨ds, rfl⟩ := hl ρ o ρ' e
    refine ⟨F, ρ, ds, ρ', en, e, fun a xs F' H' ex en' ow hp r z => ?_⟩
    have e2 : Ext (Own σ ρ') F' H' (upd F' a (.lst xs)) (upd H' a (.lst xs)) := Ext.laid en'.sub hp
    exact q (.ref a) (upd F' a (.lst xs)) (upd H' a (.lst xs)) (ex.trans e2 fun l hl => .inl (ow l hl)) (en'.ext (Ext.laid (B := fun _ => False) en'.sub hp) (sub_upd en'.sub hp) fun _ _ z => z) ow (.lst (.inl (.inl upd_same)) (r.mono e2.f) z)

/-- a new list, kept as data -/
theorem RdN.old {K : Frag} {f : Slots → R (Opd × Slots)} {σ : L2.St} {H : Hp} {Q : VK} (h : RdE K f σ H Q) (hl : ∀ ρ o ρ', f ρ = .ok (o, ρ') → ∃ ds, o = .val (.list ds)) : RdN K f σ H Q := h.new hl

/-! ### argument lists, displays -/
theorem star_of {e : Expr} {es : List Expr} {env : PySem.Env} (h : ∀ x p, e ≠ .Starred x p) : starEach (e :: es) env = (false, eval e env) :: starEach es env := by
  cases e with
  | Starred x p => exact absurd rfl (h x p)
  | _ => rfl
/-- what a look at a tree shows of its form -/
def plain : Expr → Bool
  | .Starred _ _ => false
  | .Slice _ _ _ _ => false
  | .Set _ _ _ => false
  | _ => true
theorem plain_of {e : E} {e' : Expr} (h : okE G sc raw N e e' = true) : plain e' = true := by
  cases e' with
  | Starred x p =>
    cases e with
    | call j es => cases es <;> cases h
    | _ => cases h
  | Slice a b c p =>
    cases e with
    | call j es => cases es <;> cases h
    | _ => cases h
  | Set a b p =>
    cases e with
    | call j es => cases es <;> cases h
    | _ => cases h
  | _ => rfl
theorem plain_star {e : Expr} (h : plain e = true) : ∀ x p, e ≠ .Starred x p := fun x p z => by subst z; cases h
theorem pa_nil' : PA X [] (RdA X.K (evs G .nil)) := pa_nil.imp fun σ H Q q => by
  obtain ⟨F, ρ, en, q⟩ := q
  exact q.nowG en (o := ([] : List D)) Rps.nil
theorem pa_cons' {e : E} {e' : Expr} {es : Es} {es' : List Expr} (hp : plain e' = true) (he : PE X e' (RdE X.K (ev G e))) (hr : PA X es' (RdA X.K (evs G es))) : PA X (e' :: es') (RdA X.K (evs G (.cons e es))) := by
  refine (pa_cons he hr (star_of (plain_star hp))).imp fun σ H Q q => ?_
  obtain ⟨F, ρ, en, q⟩ := q
  have q : Fin X.K (rArgs X.K σ) (Own σ ρ) F H σ Q (ev G e ρ >>= fun p => keep p.1 >>= fun d => evs G es p.2 >>= fun q => .ok (d :: q.1, q.2)) := q
  refine ⟨F, ρ, en, q.bind.mono fun x H1 q => ?_⟩
  obtain ⟨F1, ρ1, o, e1, en1, r1, q⟩ := q
  obtain ⟨d, ek, q⟩ := q.ok
  refine ⟨F1, ρ1, en1, q.bind.mono fun xs H2 q => ?_⟩
  obtain ⟨F2, ρ2, ds, e2, en2, r2, q⟩ := q
  exact q.nowG en2 (o := d :: ds) (Rps.cons ((keep_rp r1 ek).mono e2.f) r2)
theorem s_tup {es : Es} {es' : List Expr} {kk : Nat} (h : PA X es' (RdA X.K (evs G es))) : PE X (.Tuple es' kk pos) (RdE X.K (ev G (.tup es))) := by
  refine (pe_tup h).imp fun σ H Q q => ?_
  obtain ⟨F, ρ, en, q⟩ := q
  have q : Fin X.K (rOpd X.K σ) (Own σ ρ) F H σ Q (evs G es ρ >>= fun p => if sz p.1.length = true then .ok (.val (.tuple p.1), p.2) else .bad) := q
  refine ⟨F, ρ, en, q.bind.mono fun xs H1 q => ?_⟩
  obtain ⟨F1, ρ1, ds, e1, en1, r1, q⟩ := q
  dsimp only at q
  split at q
  · rename_i hz
    have hz : ds.length ≤ sizeLine := sz_le hz
    have hl : xs.length = ds.length := Rps.len r1
    exact ⟨by omega, fun p hp => (q.res en1).tup en1.sub r1 (by omega) hp⟩
  · exact q.elim
theorem s_lst {es : Es} {es' : List Expr} (h : PA X es' (RdA X.K (evs G es))) : PE X (.List es' pos) (RdN X.K (ev G (.lst es))) := by
  refine (pe_lst h).imp fun σ H Q q => ?_
  obtain ⟨F, ρ, ds, ρ', en, e, q⟩ := q
  have e : (evs G es ρ >>= fun p => if sz p.1.length = true then R.ok (Opd.val (.list p.1), p.2) else .bad) = .ok (.val (.list ds), ρ') := e
  obtain ⟨p, e1, e2⟩ := ok_bind e
  split at e2
  · rename_i hz
    cases e2
    refine ⟨F, ρ, en, ?_⟩
    rw [e1]
    intro xs F' H' ex en' ow r
    have hz : p.1.length ≤ sizeLine := sz_le hz
    have hl : xs.length = p.1.length := Rps.len r
    exact ⟨by omega, fun a ha => q a xs F' H' ex en' ow ha r (by omega)⟩
  · cases e2

/-! ### operators -/
theorem o2_of {o : O2} {o' : Operator} (h : o2Ok o o' = true) : o' = opOf o := by
  cases o <;> cases o' <;> first | rfl | cases h
theorem oc_of {o : Oc} {o' : CmpOp} (h : ocOk o o' = true) : o' = cmpOf o := by
  cases o <;> cases o' <;> first | rfl | cases h
/-- two operands, then an operation on their data -/
theorem two_ops {α : Type} {σ : L2.St} {H : Hp} {Rl : Hp → α → Opd → Prop} {Q : α → Hp → Prop} {T : V → V → Hp → Prop} {fa fb : Slots → R (Opd × Slots)} {g : Slots → D → D → R (Opd × Slots)}
    (q : ∃ F ρ, EnvOk X.K F H σ ρ ∧ Fin X.K Rl (Own σ ρ) F H σ Q (fa ρ >>= fun p => fb p.2 >>= fun q => peek q.2 p.1 >>= fun x => peek q.2 q.1 >>= fun y => g q.2 x y))
    (t : ∀ x y F H2 ρ dx dy, EnvOk X.K F H2 σ ρ → Wk X.K F H2 x dx → Wk X.K F H2 y dy → Fin X.K Rl (Own σ ρ) F H2 σ Q (g ρ dx dy) → T x y H2) :
    RdE X.K fa σ H fun x H1 => RdE X.K fb σ H1 fun y H2 => T x y H2 := by
  obtain ⟨F, ρ, en, q⟩ := q
  refine ⟨F, ρ, en, q.bind.mono fun x H1 q => ?_⟩
  obtain ⟨F1, ρ1, oa, e1, en1, r1, q⟩ := q
  refine ⟨F1, ρ1, en1, q.bind.mono fun y H2 q => ?_⟩
  obtain ⟨F2, ρ2, ob, e2, en2, r2, q⟩ := q
  obtain ⟨dx, ex, q⟩ := q.ok
  obtain ⟨dy, ey, q⟩ := q.ok
  exact t x y F2 H2 ρ2 dx dy en2 (peek_wk en2 (r1.mono e2.f) ex) (peek_wk en2 r2 ey) q
theorem one_op {α : Type} {σ : L2.St} {H : Hp} {Rl : Hp → α → Opd → Prop} {Q : α → Hp → Prop} {T : V → Hp → Prop} {fa : Slots → R (Opd × Slots)} {g : Slots → D → R (Opd × Slots)}
    (q : ∃ F ρ, EnvOk X.K F H σ ρ ∧ Fin X.K Rl (Own σ ρ) F H σ Q (fa ρ >>= fun p => peek p.2 p.1 >>= fun x => g p.2 x))
    (t : ∀ x F H2 ρ dx, EnvOk X.K F H2 σ ρ → Wk X.K F H2 x dx → Fin X.K Rl (Own σ ρ) F H2 σ Q (g ρ dx) → T x H2) : RdE X.K fa σ H T := by
  obtain ⟨F, ρ, en, q⟩ := q
  refine ⟨F, ρ, en, q.bind.mono fun x H1 q => ?_⟩
  obtain ⟨F1, ρ1, oa, e1, en1, r1, q⟩ := q
  obtain ⟨dx, ex, q⟩ := q.ok
  exact t x F1 H1 ρ1 dx en1 (peek_wk en1 r1 ex) q
theorem s_bin {o : O2} {o' : Operator} {a b : E} {a' b' : Expr} (h : o2Ok o o' = true) (ha : PE X a' (RdE X.K (ev G a))) (hb : PE X b' (RdE X.K (ev G b))) : PE X (.BinOp a' o' b' pos) (RdE X.K (ev G (.bin o a b))) := by
  obtain rfl := o2_of h
  refine (pe_op (opD o) ha hb).imp fun σ H Q q => ?_
  refine two_ops (fa := ev G a) (fb := ev G b) (g := fun ρ x y => op2 o x y >>= fun d => .ok (.val d, ρ)) q fun x y F H2 ρ dx dy en wx wy q => ?_
  obtain ⟨d, e, q⟩ := q.ok
  exact ⟨F, dx, dy, d, en.sub, wx, wy, e, q.res en⟩
theorem s_cmp (c : Here G k sc raw N X) {o : Oc} {o' : CmpOp} {a b : E} {a' b' : Expr} (h : ocOk o o' = true) (hp : plain b' = true) (ha : PE X a' (RdE X.K (ev G a))) (hb : PE X b' (RdE X.K (ev G b))) :
    PE X (.Compare a' [o'] [b'] pos) (RdE X.K (ev G (.cmp o a b))) ∧ PT X (.Compare a' [o'] [b'] pos) (RdT X.K (evT G (.cmp o a b))) := by
  obtain rfl := oc_of h
  have hm : behindInMarks (cmpOf o) b' = false := by
    cases b' with
    | Set _ _ _ => cases hp
    | _ => rfl
  have hu : X.A.units + 65 < cLine := by have := c.room.un; omega
  refine ⟨(pe_cmpR (opC hu o) ha hb hm).imp fun σ H Q q => ?_, (pt_cmpR (opC hu o) ha hb hm).imp fun σ H Q q => ?_⟩
  · refine two_ops (fa := ev G a) (fb := ev G b) (g := fun ρ x y => cmpD o x y >>= fun d => .ok (.val (.bool d), ρ)) q fun x y F H2 ρ dx dy en wx wy q => ?_
    obtain ⟨d, e, q⟩ := q.ok
    exact ⟨F, dx, dy, d, en.sub, wx, wy, e, q.now en (o := .val (.bool d)) (Rp.bl d)⟩
  · obtain ⟨F, ρ, en, q⟩ := q
    have q : Fin X.K (rTest σ) (Own σ ρ) F H σ Q ((ev G a ρ >>= fun p => ev G b p.2 >>= fun q => peek q.2 p.1 >>= fun x => peek q.2 q.1 >>= fun y => cmpD o x y >>= fun d => R.ok (Opd.val (.bool d), q.2)) >>= fun p => peek p.2 p.1 >>= fun x => asB x >>= fun k => .ok (k, p.2)) := q
    have e0 : ((ev G a ρ >>= fun p => ev G b p.2 >>= fun q => peek q.2 p.1 >>= fun x => peek q.2 q.1 >>= fun y => cmpD o x y >>= fun d => R.ok (Opd.val (.bool d), q.2)) >>= fun p => peek p.2 p.1 >>= fun x => asB x >>= fun k => R.ok (k, p.2)) =
        (ev G a ρ >>= fun p => ev G b p.2 >>= fun q => peek q.2 p.1 >>= fun x => peek q.2 q.1 >>= fun y => cmpD o x y >>= fun d => R.ok (d, q.2)) := by
      cases ev G a ρ with
      | ok p =>
        simp only [bind_ok]
        cases ev G b p.2 with
        | ok q =>
          simp only [bind_ok]
          cases peek q.2 p.1 with
          | ok x =>
            simp only [bind_ok]
            cases peek q.2 q.1 with
            | ok y =>
              simp only [bind_ok]
              cases cmpD o x y <;> rfl
            | _ => rfl
          | _ => rfl
        | _ => rfl
      | _ => rfl
    rw [e0] at q
    refine ⟨F, ρ, en, q.bind.mono fun x H1 q => ?_⟩
    obtain ⟨F1, ρ1, oa, e1, en1, r1, q⟩ := q
    refine ⟨F1, ρ1, en1, q.bind.mono fun y H2 q => ?_⟩
    obtain ⟨F2, ρ2, ob, e2, en2, r2, q⟩ := q
    obtain ⟨dx, ex, q⟩ := q.ok
    obtain ⟨dy, ey, q⟩ := q.ok
    obtain ⟨d, ed, q⟩ := q.ok
    exact ⟨F2, dx, dy, d, en2.sub, peek_wk en2 (r1.mono e2.f) ex, peek_wk en2 r2 ey, ed, d, rfl, q.nowG en2 (v := d) rfl⟩
end
end DP

/-! DP, part 7: expressions, further: tests, items, slices, calls. -/
namespace DP
open PySem PySem.Spec PyProof.Rows L2
section
variable {G : Gm} {k : Nat} {sc raw : Scope} {N : List Str} {X : Cx} {pos : Pos}
/-- what the test of an expression is, where it is one by its value -/
theorem Fin.test {K : Frag} {F H : Hp} {σ : L2.St} {B : Addr → Prop} {Q : Bool → Hp → Prop} {r : R (Opd × Slots)} (h : Fin K (rTest σ) B F H σ Q (r >>= fun p => peek p.2 p.1 >>= fun x => asB x >>= fun k => .ok (k, p.2))) :
    Fin K (rOpd K σ) B F H σ (fun x H1 => ∃ c, x = .bl c ∧ Q c H1) r := by
  refine h.bind.mono fun x H1 q => ?_
  obtain ⟨F1, ρ1, o, e1, en1, r1, q⟩ := q
  obtain ⟨d, ed, q⟩ := q.ok
  obtain ⟨b, eb, q⟩ := q.ok
  have w := peek_wk en1 r1 ed
  cases d with
  | bool b' =>
    cases eb
    exact ⟨b, w.bool, q.nowG en1 (v := b) rfl⟩
  | _ => cases eb
theorem t_val {e : E} {e' : Expr} (h : PE X e' (RdE X.K (ev G e))) (hi : ∀ whole, isTrue e' X.env whole = (do let v ← whole; standAt e'.pos; holding [v] (truthy v))) : PT X e' (RdT X.K (evT G e)) := by
  refine (pt_val h hi).imp fun σ H Q q => ?_
  obtain ⟨F, ρ, en, q⟩ := q
  exact ⟨F, ρ, en, Fin.test q⟩
theorem s_neg {a : E} {a' : Expr} (ha : PE X a' (RdE X.K (ev G a))) : PE X (.UnaryOp .USub a' pos) (RdE X.K (ev G (.neg a))) := by
  refine (pe_un un_neg ha).imp fun σ H Q q => ?_
  refine one_op (fa := ev G a) (g := fun ρ x => asI x >>= fun i => .ok (.val (.int (-i)), ρ)) q fun x F H2 ρ dx en w q => ?_
  obtain ⟨i, e, q⟩ := q.ok
  cases dx with
  | int i' =>
    cases e
    exact ⟨i, w.int, q.now en (o := .val (.int (-i))) (Rp.int _)⟩
  | _ => cases e
theorem s_not {a : E} {a' : Expr} (ha : PE X a' (RdE X.K (ev G a))) (ta : PT X a' (RdT X.K (evT G a))) : PE X (.UnaryOp .Not a' pos) (RdE X.K (ev G (.not a))) ∧ PT X (.UnaryOp .Not a' pos) (RdT X.K (evT G (.not a))) := by
  refine ⟨(pe_not ha).imp fun σ H Q q => ?_, (pt_not ta).imp fun σ H Q q => ?_⟩
  · refine one_op (fa := ev G a) (g := fun ρ x => asB x >>= fun b => .ok (.val (.bool (!b)), ρ)) q fun x F H2 ρ dx en w q => ?_
    obtain ⟨b, e, q⟩ := q.ok
    cases dx with
    | bool b' =>
      cases e
      exact ⟨b, w.bool, q.now en (o := .val (.bool (!b))) (Rp.bl _)⟩
    | _ => cases e
  · obtain ⟨F, ρ, en, q⟩ := q
    have e0 : evT G (.not a) ρ = (evT G a ρ >>= fun p => R.ok (!p.1, p.2)) := by
      show ((ev G a ρ >>= fun p => peek p.2 p.1 >>= fun x => asB x >>= fun b => R.ok (Opd.val (.bool (!b)), p.2)) >>= fun p => peek p.2 p.1 >>= fun x => asB x >>= fun k => R.ok (k, p.2)) =
        ((ev G a ρ >>= fun p => peek p.2 p.1 >>= fun x => asB x >>= fun k => R.ok (k, p.2)) >>= fun p => R.ok (!p.1, p.2))
      cases ev G a ρ with
      | ok p =>
        simp only [bind_ok]
        cases peek p.2 p.1 with
        | ok x =>
          simp only [bind_ok]
          cases asB x <;> rfl
        | _ => rfl
      | _ => rfl
    rw [e0] at q
    refine ⟨F, ρ, en, q.bind.mono fun b H1 q => ?_⟩
    obtain ⟨F1, ρ1, b', e1, en1, r1, q⟩ := q
    obtain rfl : b = b' := r1
    exact q.nowG en1 (v := !b) rfl
theorem if_fin {α β : Type} {K : Frag} {Rl : Hp → β → α → Prop} {B : Addr → Prop} {F H : Hp} {σ : L2.St} {Q : β → Hp → Prop} {r1 r2 : R (α × Slots)} {c : Bool} (h : Fin K Rl B F H σ Q (if c = true then r1 else r2)) :
    (c = true → Fin K Rl B F H σ Q r1) ∧ (c = false → Fin K Rl B F H σ Q r2) := by
  cases c
  · exact ⟨fun z => (by cases z), fun _ => h⟩
  · exact ⟨fun _ => h, fun z => (by cases z)⟩
theorem s_ife {c a b : E} {c' a' b' : Expr} (tc : PT X c' (RdT X.K (evT G c))) (ha : PE X a' (RdE X.K (ev G a))) (hb : PE X b' (RdE X.K (ev G b))) : PE X (.IfExp c' a' b' pos) (RdE X.K (ev G (.ife c a b))) := by
  refine (pe_ifExp tc ha hb).imp fun σ H Q q => ?_
  obtain ⟨F, ρ, en, q⟩ := q
  have e0 : ev G (.ife c a b) ρ = (evT G c ρ >>= fun p => if p.1 = true then ev G a p.2 else ev G b p.2) := by
    show (ev G c ρ >>= fun p => peek p.2 p.1 >>= fun x => asB x >>= fun k => if k = true then ev G a p.2 else ev G b p.2) = ((ev G c ρ >>= fun p => peek p.2 p.1 >>= fun x => asB x >>= fun k => R.ok (k, p.2)) >>= fun p => if p.1 = true then ev G a p.2 else ev G b p.2)
    cases ev G c ρ with
    | ok p =>
      simp only [bind_ok]
      cases peek p.2 p.1 with
      | ok x =>
        simp only [bind_ok]
        cases asB x <;> rfl
      | _ => rfl
    | _ => rfl
  rw [e0] at q
  refine ⟨F, ρ, en, q.bind.mono fun d H1 q => ?_⟩
  obtain ⟨F1, ρ1, d', e1, en1, r1, q⟩ := q
  obtain rfl : d = d' := r1
  obtain ⟨q1, q2⟩ := if_fin q
  cases d with
  | true => exact iteT ⟨F1, ρ1, en1, q1 rfl⟩
  | false => exact iteF ⟨F1, ρ1, en1, q2 rfl⟩
/-- and, or: as values, as tests -/
def BoolsOk (X : Cx) (G : Gm) (es : Es) (es' : List Expr) : Prop :=
  (∀ pos, PE X (.BoolOp .And es' pos) (RdE X.K (evAnd G es)) ∧ PW X (.BoolOp .And es' pos) (RdT X.K fun ρ => evAnd G es ρ >>= fun p => peek p.2 p.1 >>= fun x => asB x >>= fun k => .ok (k, p.2))) ∧
  (∀ pos, PE X (.BoolOp .Or es' pos) (RdE X.K (evOr G es)) ∧ PW X (.BoolOp .Or es' pos) (RdT X.K fun ρ => evOr G es ρ >>= fun p => peek p.2 p.1 >>= fun x => asB x >>= fun k => .ok (k, p.2)))
theorem bools_one {e : E} {e' : Expr} (h : PE X e' (RdE X.K (ev G e))) (t : PT X e' (RdT X.K (evT G e))) : BoolsOk X G (.cons e .nil) [e'] :=
  ⟨fun pos => ⟨pe_one h, pw_and1 t⟩, fun pos => ⟨pe_one h, pw_or1 t⟩⟩
theorem bools_cons {e e2 : E} {es : Es} {e' e2' : Expr} {es' : List Expr} (h : PE X e' (RdE X.K (ev G e))) (t : PT X e' (RdT X.K (evT G e))) (r : BoolsOk X G (.cons e2 es) (e2' :: es')) : BoolsOk X G (.cons e (.cons e2 es)) (e' :: e2' :: es') := by
  have eA : ∀ {β : Type} (ρ : Slots) (f : Opd × Slots → R β), (evAnd G (.cons e (.cons e2 es)) ρ >>= f) = (evT G e ρ >>= fun p => if p.1 = true then (evAnd G (.cons e2 es) p.2 >>= f) else f (.val (.bool false), p.2)) := fun {β} ρ f => by
    show ((ev G e ρ >>= fun p => peek p.2 p.1 >>= fun x => asB x >>= fun k => if k = true then evAnd G (.cons e2 es) p.2 else R.ok (Opd.val (.bool false), p.2)) >>= f) = _
    unfold evT
    cases ev G e ρ with
    | ok p =>
      simp only [bind_ok]
      cases peek p.2 p.1 with
      | ok x =>
        simp only [bind_ok]
        cases asB x with
        | ok b => cases b <;> rfl
        | _ => rfl
      | _ => rfl
    | _ => rfl
  have eO : ∀ {β : Type} (ρ : Slots) (f : Opd × Slots → R β), (evOr G (.cons e (.cons e2 es)) ρ >>= f) = (evT G e ρ >>= fun p => if p.1 = true then f (.val (.bool true), p.2) else (evOr G (.cons e2 es) p.2 >>= f)) := fun {β} ρ f => by
    show ((ev G e ρ >>= fun p => peek p.2 p.1 >>= fun x => asB x >>= fun k => if k = true then R.ok (Opd.val (.bool true), p.2) else evOr G (.cons e2 es) p.2) >>= f) = _
    unfold evT
    cases ev G e ρ with
    | ok p =>
      simp only [bind_ok]
      cases peek p.2 p.1 with
      | ok x =>
        simp only [bind_ok]
        cases asB x with
        | ok b => cases b <;> rfl
        | _ => rfl
      | _ => rfl
    | _ => rfl
  have id' : ∀ r : R (Opd × Slots), (r >>= fun p => R.ok p) = r := fun r => by cases r <;> rfl
  refine ⟨fun pos => ⟨(pe_and h (r.1 pos).1).imp fun σ H Q q => ?_, (pw_and t (r.1 pos).2).imp fun σ H Q q => ?_⟩, fun pos => ⟨(pe_or h (r.2 pos).1).imp fun σ H Q q => ?_, (pw_or t (r.2 pos).2).imp fun σ H Q q => ?_⟩⟩
  · obtain ⟨F, ρ, en, q⟩ := q
    rw [← id' (evAnd G _ ρ), eA ρ (fun p => R.ok p)] at q
    have q2 := q.bind (Ra := rTest σ)
    refine ⟨F, ρ, en, (Fin.test (q2.mono fun b H1 q => q)).mono fun x H1 q => ?_⟩
    obtain ⟨b, rfl, F1, ρ1, b', e1, en1, r1, q⟩ := q
    obtain rfl : b = b' := r1
    obtain ⟨q1, q2⟩ := if_fin q
    refine ⟨b, rfl, ?_⟩
    cases b with
    | true => exact iteT ⟨F1, ρ1, en1, by rw [← id' (evAnd G _ ρ1)]; exact q1 rfl⟩
    | false => exact iteF ((q2 rfl).now en1 (o := .val (.bool false)) (Rp.bl _))
  · obtain ⟨F, ρ, en, q⟩ := q
    dsimp only at q
    rw [eA ρ] at q
    refine ⟨F, ρ, en, q.bind.mono fun b H1 q => ?_⟩
    obtain ⟨F1, ρ1, b', e1, en1, r1, q⟩ := q
    obtain rfl : b = b' := r1
    obtain ⟨q1, q2⟩ := if_fin q
    cases b with
    | true => exact iteT ⟨F1, ρ1, en1, q1 rfl⟩
    | false => exact iteF ((q2 rfl).nowG en1 (v := false) rfl)
  · obtain ⟨F, ρ, en, q⟩ := q
    rw [← id' (evOr G _ ρ), eO ρ (fun p => R.ok p)] at q
    have q2 := q.bind (Ra := rTest σ)
    refine ⟨F, ρ, en, (Fin.test (q2.mono fun b H1 q => q)).mono fun x H1 q => ?_⟩
    obtain ⟨b, rfl, F1, ρ1, b', e1, en1, r1, q⟩ := q
    obtain rfl : b = b' := r1
    obtain ⟨q1, q2⟩ := if_fin q
    refine ⟨b, rfl, ?_⟩
    cases b with
    | true => exact iteT ((q1 rfl).now en1 (o := .val (.bool true)) (Rp.bl _))
    | false => exact iteF ⟨F1, ρ1, en1, by rw [← id' (evOr G _ ρ1)]; exact q2 rfl⟩
  · obtain ⟨F, ρ, en, q⟩ := q
    dsimp only at q
    rw [eO ρ] at q
    refine ⟨F, ρ, en, q.bind.mono fun b H1 q => ?_⟩
    obtain ⟨F1, ρ1, b', e1, en1, r1, q⟩ := q
    obtain rfl : b = b' := r1
    obtain ⟨q1, q2⟩ := if_fin q
    cases b with
    | true => exact iteT ((q1 rfl).nowG en1 (v := true) rfl)
    | false => exact iteF ⟨F1, ρ1, en1, q2 rfl⟩
end
end DP

/-! DP, part 8: chains, items, slices, calls, built-ins. -/
namespace DP
open PySem PySem.Spec PyProof.Rows L2
section
variable {G : Gm} {k : Nat} {sc raw : Scope} {N : List Str} {X : Cx} {pos : Pos}
theorem s_ix {a i : E} {a' i' : Expr} (hp : plain i' = true) (ha : PE X a' (RdE X.K (ev G a))) (hb : PE X i' (RdE X.K (ev G i))) : PE X (.Subscript a' i' pos) (RdE X.K (ev G (.ix a i))) := by
  have hs : PlainIx i' := by
    cases i' with
    | Slice _ _ _ _ => cases hp
    | _ => exact fun _ _ => rfl
  refine (pe_ix ixR ha hb hs).imp fun σ H Q q => ?_
  refine two_ops (fa := ev G a) (fb := ev G i) (g := fun ρ x y => ixD x y >>= fun d => .ok (.val d, ρ)) q fun x y F H2 ρ dx dy en wx wy q => ?_
  obtain ⟨d, e, q⟩ := q.ok
  exact ⟨F, dx, dy, d, en.sub, wx, wy, e, q.res en⟩
/-- a slice's end -/
theorem po_part {lo : E} {lo' : Option Expr} (h : (lo = .nop ∧ lo' = none) ∨ (lo ≠ .nop ∧ ∃ e, lo' = some e ∧ PE X e (RdE X.K (ev G lo)))) : PO X lo' (Rd' X.K rPart fun ρ => part lo (ev G lo ρ) ρ) := by
  rcases h with ⟨rfl, rfl⟩ | ⟨hn, e, rfl, h⟩
  · refine ⟨fun pins s σ H Q I q => po_none.run pins s σ H Q I ?_⟩
    obtain ⟨F, ρ, en, q⟩ := q
    exact q.nowG en (v := none) rfl
  · refine ⟨fun pins s σ H Q I q => (po_some h).run pins s σ H Q I ?_⟩
    obtain ⟨F, ρ, en, q⟩ := q
    have e0 : part lo (ev G lo ρ) ρ = (ev G lo ρ >>= fun p => peek p.2 p.1 >>= fun x => asI x >>= fun i => R.ok (some i, p.2)) := by
      cases lo <;> first | rfl | exact absurd rfl hn
    dsimp only at q
    rw [e0] at q
    refine ⟨F, ρ, en, q.bind.mono fun x H1 q => ?_⟩
    obtain ⟨F1, ρ1, o, e1, en1, r1, q⟩ := q
    obtain ⟨d, ed, q⟩ := q.ok
    obtain ⟨i, ei, q⟩ := q.ok
    have w := peek_wk en1 r1 ed
    cases d with
    | int i' =>
      cases ei
      exact ⟨i, w.int, q.nowG en1 (v := some i) rfl⟩
    | _ => cases ei
theorem s_slc {a lo hi : E} {a' : Expr} {lo' hi' : Option Expr} {p2 : Pos} (ha : PE X a' (RdE X.K (ev G a)))
    (hl : PO X lo' (Rd' X.K rPart fun ρ => part lo (ev G lo ρ) ρ)) (hh : PO X hi' (Rd' X.K rPart fun ρ => part hi (ev G hi ρ) ρ)) : PE X (.Subscript a' (.Slice lo' hi' none p2) pos) (RdE X.K (ev G (.slc a lo hi))) := by
  refine (pe_slice slR ha hl hh).imp fun σ H Q q => ?_
  obtain ⟨F, ρ, en, q⟩ := q
  have q : Fin X.K (rOpd X.K σ) (Own σ ρ) F H σ Q (ev G a ρ >>= fun p => part lo (ev G lo p.2) p.2 >>= fun q => part hi (ev G hi q.2) q.2 >>= fun t => peek t.2 p.1 >>= fun x => slcD x q.1 t.1 >>= fun d => .ok (.val d, t.2)) := q
  refine ⟨F, ρ, en, q.bind.mono fun x H1 q => ?_⟩
  obtain ⟨F1, ρ1, oa, e1, en1, r1, q⟩ := q
  refine ⟨F1, ρ1, en1, q.bind.mono fun l H2 q => ?_⟩
  obtain ⟨F2, ρ2, l', e2, en2, r2, q⟩ := q
  refine ⟨F2, ρ2, en2, q.bind.mono fun u H3 q => ?_⟩
  obtain ⟨F3, ρ3, u', e3, en3, r3, q⟩ := q
  obtain rfl : l = l' := r2
  obtain rfl : u = u' := r3
  obtain ⟨dx, ex, q⟩ := q.ok
  obtain ⟨d, ed, q⟩ := q.ok
  exact ⟨F3, dx, d, en3.sub, peek_wk en3 ((r1.mono e2.f).mono e3.f) ex, ed, q.res en3⟩

/-! ### a chain -/
theorem s_chn (c : Here G k sc raw N X) {o1 o2 : Oc} {o1' o2' : CmpOp} {a b e : E} {a' b' e' : Expr} (h1 : ocOk o1 o1' = true) (h2 : ocOk o2 o2' = true) (hp : plain e' = true)
    (ha : PE X a' (RdE X.K (ev G a))) (hb : PE X b' (RdE X.K (ev G b))) (he : PE X e' (RdE X.K (ev G e))) :
    PE X (.Compare a' [o1', o2'] [b', e'] pos) (RdE X.K (ev G (.chn o1 o2 a b e))) ∧ PT X (.Compare a' [o1', o2'] [b', e'] pos) (RdT X.K (evT G (.chn o1 o2 a b e))) := by
  obtain rfl := oc_of h1
  obtain rfl := oc_of h2
  have hm : lastMarks [cmpOf o1, cmpOf o2] [b', e'] = false := by
    show behindInMarks (cmpOf o2) e' = false
    cases e' with
    | Set _ _ _ => cases hp
    | _ => rfl
  have hu : X.A.units + 65 < cLine := by have := c.room.un; omega
  have key : ∀ (σ : L2.St) (H : Hp) (Q : Bool → Hp → Prop), RdT X.K (fun ρ => ev G a ρ >>= fun p => ev G b p.2 >>= fun q => peek q.2 p.1 >>= fun x => peek q.2 q.1 >>= fun y => cmpD o1 x y >>= fun k =>
      if k = true then ev G e q.2 >>= fun t => peek t.2 q.1 >>= fun y => peek t.2 t.1 >>= fun z => cmpD o2 y z >>= fun k2 => R.ok (k2, t.2) else R.ok (false, q.2)) σ H Q →
      tTest (tChain (rC X.K (cmpD o1)) (rC X.K (cmpD o2)) (RdE X.K (ev G a)) (RdE X.K (ev G b)) (RdE X.K (ev G e))) σ H Q := by
    intro σ H Q q
    obtain ⟨F, ρ, en, q⟩ := q
    dsimp only at q
    refine ⟨F, ρ, en, q.bind.mono fun x H1 q => ?_⟩
    obtain ⟨F1, ρ1, oa, e1, en1, r1, q⟩ := q
    refine ⟨F1, ρ1, en1, q.bind.mono fun y H2 q => ?_⟩
    obtain ⟨F2, ρ2, ob, e2, en2, r2, q⟩ := q
    obtain ⟨dx, ex, q⟩ := q.ok
    obtain ⟨dy, ey, q⟩ := q.ok
    obtain ⟨d, ed, q⟩ := q.ok
    refine ⟨F2, dx, dy, d, en2.sub, peek_wk en2 (r1.mono e2.f) ex, peek_wk en2 r2 ey, ed, d, rfl, ?_⟩
    obtain ⟨q1, q2⟩ := if_fin q
    cases d with
    | false => exact iteF ⟨false, rfl, (q2 rfl).nowG en2 (v := false) rfl⟩
    | true =>
      refine iteT ⟨F2, ρ2, en2, (q1 rfl).bind.mono fun z H3 q => ?_⟩
      obtain ⟨F3, ρ3, oc, e3, en3, r3, q⟩ := q
      obtain ⟨dy2, ey2, q⟩ := q.ok
      obtain ⟨dz, ez, q⟩ := q.ok
      obtain ⟨k2, ek, q⟩ := q.ok
      exact ⟨F3, dy2, dz, k2, en3.sub, peek_wk en3 (r2.mono e3.f) ey2, peek_wk en3 r3 ez, ek, k2, rfl, q.nowG en3 (v := k2) rfl⟩
  have key2 : ∀ (σ : L2.St) (H : Hp) (Q : VK), RdE X.K (ev G (.chn o1 o2 a b e)) σ H Q → tChain (rC X.K (cmpD o1)) (rC X.K (cmpD o2)) (RdE X.K (ev G a)) (RdE X.K (ev G b)) (RdE X.K (ev G e)) σ H Q := by
    intro σ H Q q
    obtain ⟨F, ρ, en, q⟩ := q
    have q : Fin X.K (rOpd X.K σ) (Own σ ρ) F H σ Q (ev G a ρ >>= fun p => ev G b p.2 >>= fun q => peek q.2 p.1 >>= fun x => peek q.2 q.1 >>= fun y => cmpD o1 x y >>= fun k =>
      if k = true then ev G e q.2 >>= fun t => peek t.2 q.1 >>= fun y => peek t.2 t.1 >>= fun z => cmpD o2 y z >>= fun k2 => R.ok (Opd.val (.bool k2), t.2) else R.ok (.val (.bool false), q.2)) := q
    refine ⟨F, ρ, en, q.bind.mono fun x H1 q => ?_⟩
    obtain ⟨F1, ρ1, oa, e1, en1, r1, q⟩ := q
    refine ⟨F1, ρ1, en1, q.bind.mono fun y H2 q => ?_⟩
    obtain ⟨F2, ρ2, ob, e2, en2, r2, q⟩ := q
    obtain ⟨dx, ex, q⟩ := q.ok
    obtain ⟨dy, ey, q⟩ := q.ok
    obtain ⟨d, ed, q⟩ := q.ok
    refine ⟨F2, dx, dy, d, en2.sub, peek_wk en2 (r1.mono e2.f) ex, peek_wk en2 r2 ey, ed, d, rfl, ?_⟩
    obtain ⟨q1, q2⟩ := if_fin q
    cases d with
    | false => exact iteF ((q2 rfl).now en2 (o := .val (.bool false)) (Rp.bl _))
    | true =>
      refine iteT ⟨F2, ρ2, en2, (q1 rfl).bind.mono fun z H3 q => ?_⟩
      obtain ⟨F3, ρ3, oc, e3, en3, r3, q⟩ := q
      obtain ⟨dy2, ey2, q⟩ := q.ok
      obtain ⟨dz, ez, q⟩ := q.ok
      obtain ⟨k2, ek, q⟩ := q.ok
      exact ⟨F3, dy2, dz, k2, en3.sub, peek_wk en3 (r2.mono e3.f) ey2, peek_wk en3 r3 ez, ek, q.now en3 (o := .val (.bool k2)) (Rp.bl _)⟩
  refine ⟨(pe_chain (opC hu o1) (opC hu o2) ha hb he hm).imp key2, (pt_chain (opC hu o1) (opC hu o2) ha hb he hm).imp fun σ H Q q => key σ H Q ?_⟩
  obtain ⟨F, ρ, en, q⟩ := q
  refine ⟨F, ρ, en, ?_⟩
  have e0 : evT G (.chn o1 o2 a b e) ρ = (ev G a ρ >>= fun p => ev G b p.2 >>= fun q => peek q.2 p.1 >>= fun x => peek q.2 q.1 >>= fun y => cmpD o1 x y >>= fun k =>
      if k = true then ev G e q.2 >>= fun t => peek t.2 q.1 >>= fun y => peek t.2 t.1 >>= fun z => cmpD o2 y z >>= fun k2 => R.ok (k2, t.2) else R.ok (false, q.2)) := by
    show ((ev G a ρ >>= fun p => ev G b p.2 >>= fun q => peek q.2 p.1 >>= fun x => peek q.2 q.1 >>= fun y => cmpD o1 x y >>= fun k =>
      if k = true then ev G e q.2 >>= fun t => peek t.2 q.1 >>= fun y => peek t.2 t.1 >>= fun z => cmpD o2 y z >>= fun k2 => R.ok (Opd.val (.bool k2), t.2) else R.ok (.val (.bool false), q.2)) >>= fun p => peek p.2 p.1 >>= fun x => asB x >>= fun k => R.ok (k, p.2)) = _
    cases ev G a ρ with
    | ok p =>
      simp only [bind_ok]
      cases ev G b p.2 with
      | ok q =>
        simp only [bind_ok]
        cases peek q.2 p.1 with
        | ok x =>
          simp only [bind_ok]
          cases peek q.2 q.1 with
          | ok y =>
            simp only [bind_ok]
            cases cmpD o1 x y with
            | ok d =>
              simp only [bind_ok]
              cases d with
              | false => rfl
              | true =>
                simp only [if_true]
                cases ev G e q.2 with
                | ok t =>
                  simp only [bind_ok]
                  cases peek t.2 q.1 with
                  | ok y2 =>
                    simp only [bind_ok]
                    cases peek t.2 t.1 with
                    | ok z =>
                      simp only [bind_ok]
                      cases cmpD o2 y2 z <;> rfl
                    | _ => rfl
                  | _ => rfl
                | _ => rfl
            | _ => rfl
          | _ => rfl
        | _ => rfl
      | _ => rfl
    | _ => rfl
  dsimp only
  rw [← e0]
  exact q

/-! ### calls -/
theorem star_all : ∀ (es : List Expr) (env : PySem.Env), (∀ e ∈ es, plain e = true) → ∀ pos : Pos, (backTo pos (starEach es env)).any (·.1) = false
  | [], _, _, _ => rfl
  | e :: r, env, h, pos => by
    rw [star_of (plain_star (h e List.mem_cons_self))]
    show (false || (backTo pos (starEach r env)).any (·.1)) = false
    rw [star_all r env (fun x hx => h x (List.mem_cons_of_mem _ hx)) pos]
    rfl
theorem fn_at (c : Here G k sc raw N X) {j : Nat} {x : Str} (h : (match G.fns[j]? with | some g => decide (g.name = x) && glOk sc x | none => false) = true) : ∃ g, G.fns[j]? = some g ∧ g.name = x ∧ glOk sc x = true := by
  cases e : G.fns[j]? with
  | none => rw [e] at h; cases h
  | some g =>
    rw [e] at h
    obtain ⟨h1, h2⟩ := band h
    exact ⟨g, rfl, of_decide_eq_true h1, h2⟩
theorem call_len {g : Sig} {j : Nat} {es : Es} (eg : G.fns[j]? = some g) {ρ : Slots} : ev G (.call j es) ρ = (evs G es ρ >>= fun p => if (!g.bor && decide (p.1.length = g.n)) = true then g.sem p.1 >>= fun r => .ok (.val r.1, p.2) else .bad) := by
  show (evs G es ρ >>= fun p => callC G.fns[j]? p.1 p.2) = _
  rw [eg]
  rfl
theorem s_call (c : Here G k sc raw N X) {j : Nat} {x : Str} {px : Pos} {es : Es} {e' : Expr} {es' : List Expr} (h : (match G.fns[j]? with | some g => decide (g.name = x) && glOk sc x | none => false) = true)
    (hn : isNw G j = false)
    (hp : ∀ z ∈ e' :: es', plain z = true) (hs : PA X (e' :: es') (RdA X.K (evs G es))) : PE X (.Call (.Name x px) (e' :: es') [] pos) (RdE X.K (ev G (.call j es))) := by
  obtain ⟨g, eg, rfl, hg⟩ := fn_at c h
  unfold isNw at hn
  rw [eg] at hn
  obtain ⟨g1, g2, g3⟩ := gl_of c hg
  obtain ⟨f, fd, ps, m1, m2, m3, m4⟩ := c.fns j g eg
  refine (pe_go m4 c.grd c.room g1 m1 m2 m3 pass0 hs g2 (star_of (plain_star (hp _ List.mem_cons_self))) (star_all _ _ (fun z hz => hp z (List.mem_cons_of_mem _ hz)) _)).imp fun σ H Q q => ?_
  obtain ⟨F, ρ, en, q⟩ := q
  rw [call_len eg] at q
  refine ⟨F, ρ, en, q.bind.mono fun vs H1 q => ?_⟩
  obtain ⟨F1, ρ1, ds, e1, en1, r1, q⟩ := q
  dsimp only at q
  split at q
  · rename_i hc
    obtain ⟨c1, c2⟩ := band hc
    obtain ⟨r, er, q⟩ := q.ok
    have hl : vs.length = ds.length := Rps.len r1
    have hn2 : ds.length = g.n := of_decide_eq_true c2
    rw [List.append_nil]
    exact ⟨by omega, F1, en1.sub, en1.sm, .inl ⟨by simpa using c1, hn, ds, r, r1, er, q.res en1⟩⟩
  · exact q.elim
/-- a call that hands back a list just made -/
theorem s_callN (c : Here G k sc raw N X) {j : Nat} {x : Str} {px : Pos} {es : Es} {e' : Expr} {es' : List Expr} (h : (match G.fns[j]? with | some g => decide (g.name = x) && glOk sc x | none => false) = true)
    (hn : isNw G j = true)
    (hp : ∀ z ∈ e' :: es', plain z = true) (hs : PA X (e' :: es') (RdA X.K (evs G es))) : PE X (.Call (.Name x px) (e' :: es') [] pos) (RdN X.K (ev G (.call j es))) := by
  obtain ⟨g, eg, rfl, hg⟩ := fn_at c h
  unfold isNw at hn
  rw [eg] at hn
  obtain ⟨g1, g2, g3⟩ := gl_of c hg
  obtain ⟨f, fd, ps, m1, m2, m3, m4⟩ := c.fns j g eg
  refine (pe_go m4 c.grd c.room g1 m1 m2 m3 pass0 hs g2 (star_of (plain_star (hp _ List.mem_cons_self))) (star_all _ _ (fun z hz => hp z (List.mem_cons_of_mem _ hz)) _)).imp fun σ H Q q => ?_
  obtain ⟨F, ρ, es2, ρ', en, e, q⟩ := q
  rw [call_len eg] at e
  obtain ⟨p, e1, e⟩ := ok_bind e
  split at e
  rotate_left
  · cases e
  rename_i hc
  obtain ⟨r, er, e⟩ := ok_bind e
  obtain ⟨z1, z2⟩ := Prod.mk.inj (R.ok.inj e)
  obtain ⟨c1, c2⟩ := band hc
  refine ⟨F, ρ, en, ?_⟩
  rw [e1]
  intro vs F1 H1 ex1 en1 ow1 r1
  have hl : vs.length = p.1.length := Rps.len r1
  have hn2 : p.1.length = g.n := of_decide_eq_true c2
  rw [List.append_nil]
  obtain ⟨r1d, r2d⟩ := r
  obtain rfl : r1d = .list es2 := Opd.val.inj z1
  obtain rfl : p.2 = ρ' := z2
  refine ⟨by omega, F1, en1.sub, en1.sm, .inr (.inl ⟨by simpa using c1, hn, p.1, es2, r2d, r1, er, fun a xs F2 H2 ex2 s2 ha hr hz => ?_⟩)⟩
  exact q a xs F2 H2 (ex1.trans ex2 fun l z => z.elim) (en1.ext ex2 s2 fun _ _ z => z) ow1 ha hr hz
theorem set_ok {K : Frag} {F H : Hp} {σ : L2.St} {ρ : Slots} {i : Nat} {b : Bool} {ds ds' : List D} {l : Addr} {xs' : List V} {F' H' : Hp} (en : EnvOk K F H σ ρ) (e : ρ[i]? = some (Cell.own b ds)) (el : σ[i]? = some (some (V.ref l))) (ex : Ext (fun a => a = l) F H F' H') (s : Same F' H')
    (hF : F' l = none) (hH : H' l = some (.lst xs')) (r : Rps K F' xs' ds') (z : xs'.length ≤ sizeLine) : EnvOk K F' H' σ (ρ.set i (.own b ds')) := by
  refine ⟨s, by rw [List.length_set]; exact en.len, fun j c hj => ?_, fun j1 j2 l' b1 b2 d1 d2 h1 h2 g1 g2 => ?_, en.sm.up ex.f⟩
  · by_cases hji : i = j
    · subst hji
      rw [List.getElem?_set_self (List.getElem?_eq_some_iff.mp e).1] at hj
      obtain rfl := Option.some.inj hj
      rw [el]
      exact ⟨l, xs', rfl, hF, hH, r, z⟩
    · rw [List.getElem?_set_ne hji] at hj
      refine (en.cell j c hj).ext ex fun l2 b2 d2 ec eo hl => ?_
      subst hl
      subst ec
      have eo : σ[j]? = some (some (V.ref l2)) := by
        cases q : σ[j]? with
        | none => rw [q] at eo; cases eo
        | some u => rw [q] at eo; exact congrArg some eo
      exact hji (en.sep i j l2 b b2 ds d2 e hj el eo)
  · have old : ∀ {j : Nat} {bb : Bool} {dd : List D}, (ρ.set i (.own b ds'))[j]? = some (Cell.own bb dd) → ∃ bb dd, ρ[j]? = some (Cell.own bb dd) := fun {j bb dd} h => by
      by_cases hji : i = j
      · subst hji; exact ⟨_, _, e⟩
      · rw [List.getElem?_set_ne hji] at h; exact ⟨_, _, h⟩
    obtain ⟨_, _, o1⟩ := old h1
    obtain ⟨_, _, o2⟩ := old h2
    exact en.sep _ _ _ _ _ _ _ o1 o2 g1 g2
theorem own_set {σ : L2.St} {ρ : Slots} {i : Nat} {b : Bool} {ds ds' : List D} (e : ρ[i]? = some (Cell.own b ds)) (l : Addr) (h : Own σ (ρ.set i (.own b ds')) l) : Own σ ρ l := by
  obtain ⟨j, bb, dd, h1, h2⟩ := h
  by_cases hji : i = j
  · subst hji; exact ⟨_, _, _, e, h2⟩
  · rw [List.getElem?_set_ne hji] at h1; exact ⟨_, _, _, h1, h2⟩
theorem s_callB (c : Here G k sc raw N X) {j i : Nat} {x y : Str} {px py : Pos} {es : Es} {es' : List Expr} (h : (match G.fns[j]? with | some g => decide (g.name = x) && glOk sc x | none => false) = true) (hv : okV sc N i y = true)
    (hp : ∀ z ∈ es', plain z = true) (hs : PA X es' (RdA X.K (evs G es))) : PE X (.Call (.Name x px) (.Name y py :: es') [] pos) (RdE X.K (ev G (.callB j i es))) := by
  obtain ⟨g, eg, rfl, hg⟩ := fn_at c h
  obtain ⟨g1, g2, g3⟩ := gl_of c hg
  obtain ⟨f, fd, ps, m1, m2, m3, m4⟩ := c.fns j g eg
  refine (pe_go m4 c.grd c.room g1 m1 m2 m3 pass0 (pa_cons (v_of c hv) hs (star_of fun _ _ z => nomatch z)) g2 (star_of fun _ _ z => nomatch z) (star_all _ _ hp _)).imp fun σ H Q q => ?_
  obtain ⟨F, ρ, en, q⟩ := q
  have q : Fin X.K (rOpd X.K σ) (Own σ ρ) F H σ Q (if isOwn ρ[i]? = true then evs G es ρ >>= fun p => callBC G.fns[j]? i p.1 p.2 p.2[i]? else .bad) := q
  rw [eg] at q
  obtain ⟨b0, ds0, e0⟩ : ∃ b0 ds0, ρ[i]? = some (Cell.own b0 ds0) := by
    cases z : ρ[i]? with
    | none => rw [z] at q; exact q.elim
    | some c =>
      rw [z] at q
      cases c with
      | own b ds => exact ⟨b, ds, rfl⟩
      | _ => exact q.elim
  rw [e0, if_pos (show isOwn (some (Cell.own b0 ds0)) = true from rfl)] at q
  obtain ⟨l, xs0, el, _⟩ := en.cell i _ e0
  have el : σ[i]? = some (some (V.ref l)) := by
    cases z : σ[i]? with
    | none => rw [z] at el; cases el
    | some u => rw [z] at el; exact congrArg some el
  refine ⟨.ref l, el, F, ρ, en, q.bind.mono fun vs H1 q => ?_⟩
  obtain ⟨F1, ρ1, ds, e1, en1, r1, q⟩ := q
  dsimp only at q
  obtain ⟨b, es2, e2⟩ : ∃ b es2, ρ1[i]? = some (Cell.own b es2) := by
    cases z : ρ1[i]? with
    | none => rw [z] at q; exact q.elim
    | some c =>
      rw [z] at q
      cases c with
      | own b ds => exact ⟨b, ds, rfl⟩
      | _ => exact q.elim
  rw [e2] at q
  have q : Fin X.K (rOpd X.K σ) (Own σ ρ1) F1 H1 σ Q (if (g.bor && decide (ds.length + 1 = g.n)) = true then g.sem (.list es2 :: ds) >>= fun r => .ok (.val r.1, ρ1.set i (.own b r.2)) else .bad) := q
  split at q
  rotate_left
  · exact q.elim
  rename_i hc
  obtain ⟨c1, c2⟩ := band hc
  obtain ⟨r, er, q⟩ := q.ok
  have hl : vs.length = ds.length := Rps.len r1
  have hn : ds.length + 1 = g.n := of_decide_eq_true c2
  obtain ⟨l', xs, el', f1, f2, f3, f4⟩ := en1.cell i _ e2
  rw [el] at el'
  obtain rfl : l = l' := V.ref.inj (Option.some.inj el')
  rw [List.append_nil]
  refine ⟨by rw [List.length_cons]; omega, F1, en1.sub, en1.sm, .inr (.inr ⟨c1, l, vs, xs, es2, ds, r, rfl, f1, f2, f3, f4, r1, er, fun v F' H' xs' ex s hF hH hr hz rv => ?_⟩)⟩
  exact q v F' H' (ex.mono fun a ha => ⟨i, b, es2, e2, by rw [ha]; exact el⟩) (set_ok en1 e2 el ex s hF hH hr hz) (fun a ha => own_set e2 a ha) rv

/-! ### built-ins -/
theorem blt_of (c : Here G k sc raw N X) {x : Str} (h : x ∈ bNames) : X.mg x = none := c.blt x h
theorem b_one {f : Bi} {a : E} {σ : L2.St} {H : Hp} {Q : VK} (q : RdE X.K (ev G (.bi f a)) σ H Q) : tCB (rB X.K (biD f)) (tCons (RdE X.K (ev G a)) tNil) σ H Q := by
  refine one_op (fa := ev G a) (g := fun ρ x => biD f x >>= fun d => .ok (.val d, ρ)) q fun x F H2 ρ dx en w q => ?_
  obtain ⟨d, e, q⟩ := q.ok
  exact ⟨F, x, dx, d, rfl, en.sub, w, e, q.res en⟩
theorem b_sm {f : Bi} {a : E} {σ : L2.St} {H : Hp} {Q : VK} (q : RdE X.K (ev G (.bi f a)) σ H Q) : tCB (rBs X.K (biD f)) (tCons (RdE X.K (ev G a)) tNil) σ H Q := by
  refine one_op (fa := ev G a) (g := fun ρ x => biD f x >>= fun d => .ok (.val d, ρ)) q fun x F H2 ρ dx en w q => ?_
  obtain ⟨d, e, q⟩ := q.ok
  exact ⟨F, x, dx, d, rfl, en.sub, en.sm, w, e, q.res en⟩
theorem b_new {f : Bi} {a : E} {σ : L2.St} {H : Hp} {Q : VK} (q : RdN X.K (ev G (.bi f a)) σ H Q) : tCB (rBL X.K (biD f)) (tCons (RdE X.K (ev G a)) tNil) σ H Q := by
  obtain ⟨F, ρ, ds, ρ', en, e, q⟩ := q
  obtain ⟨p, e1, e⟩ := ok_bind (show (ev G a ρ >>= fun p => peek p.2 p.1 >>= fun x => biD f x >>= fun d => R.ok (Opd.val d, p.2)) = .ok (.val (.list ds), ρ') from e)
  obtain ⟨x, e2, e⟩ := ok_bind e
  obtain ⟨d, e3, e⟩ := ok_bind e
  cases e
  refine ⟨F, ρ, en, ?_⟩
  rw [e1]
  intro v F' H' ex en' ow r
  exact ⟨F', v, x, ds, rfl, en'.sub, peek_wk en' r e2, e3, fun a xs ha hr hz => q a xs F' H' ex en' ow ha hr hz⟩
theorem RdN.of {K : Frag} {f : Slots → R (Opd × Slots)} (hl : ∀ ρ o ρ', f ρ = .ok (o, ρ') → ∃ ds, o = .val (.list ds)) {σ : L2.St} {H : Hp} {Q : VK} (h : RdE K f σ H Q) : RdN K f σ H Q := h.new hl
def isNewB : Bi → Bool
  | .list | .sorted => true
  | _ => false
theorem biD_list {f : Bi} {x d : D} (hf : isNewB f = true) (h : biD f x = .ok d) : ∃ ds, d = .list ds := by
  cases f <;> first | (cases hf; done) | skip
  · cases x <;> first | (cases h; done) | (cases h; exact ⟨_, rfl⟩)
  · cases x with
    | list ds =>
      have h : sortD ds = .ok d := h
      unfold sortD at h
      split at h
      · cases h; exact ⟨_, rfl⟩
      · obtain ⟨ks, _, h⟩ := ok_bind h
        cases h; exact ⟨_, rfl⟩
    | _ => cases h
theorem bi_list {f : Bi} {a : E} (hf : isNewB f = true) : ∀ ρ o ρ', ev G (.bi f a) ρ = .ok (o, ρ') → ∃ ds, o = .val (.list ds) := by
  intro ρ o ρ' e
  obtain ⟨p, e1, e⟩ := ok_bind (show (ev G a ρ >>= fun p => peek p.2 p.1 >>= fun x => biD f x >>= fun d => R.ok (Opd.val d, p.2)) = .ok (o, ρ') from e)
  obtain ⟨x, e2, e⟩ := ok_bind e
  obtain ⟨d, e3, e⟩ := ok_bind e
  cases e
  obtain ⟨ds, rfl⟩ := biD_list hf e3
  exact ⟨ds, rfl⟩
theorem s_biN (c : Here G k sc raw N X) {f : Bi} {x : Str} {px : Pos} {a : E} {a' : Expr} (hf : isNewB f = true) (hx : biName f = x) (hg : glOk sc x = true) (hp : plain a' = true) (ha : PE X a' (RdE X.K (ev G a))) :
    PE X (.Call (.Name x px) [a'] [] pos) (RdN X.K (ev G (.bi f a))) := by
  obtain ⟨g1, g2, g3⟩ := gl_of c hg
  have hst : starEach (a' :: []) X.env = (false, eval a' X.env) :: starEach [] X.env := star_of (plain_star hp)
  subst hx
  have hm : X.mg (biName f) = none := blt_of c (by cases f <;> first | (cases hf; done) | (show _ ∈ bNames; decide))
  have hu : X.A.units + 64 < cLine := by have := c.room.un; omega
  cases f <;> first | (cases hf; done) | skip
  · exact (pe_callTy listD g1 hm (by decide +kernel) (pa_cons ha pa_nil hst) g3 g2 hst rfl).imp fun σ H Q q => b_new q
  · exact (pe_callB (sortedD hu) g1 hm (by decide +kernel) (pa_cons ha pa_nil hst) g3 g2 hst rfl).imp fun σ H Q q => b_new q
theorem s_bi (c : Here G k sc raw N X) {f : Bi} {x : Str} {px : Pos} {a : E} {a' : Expr} (hf : biHas f = true) (hx : biName f = x) (hg : glOk sc x = true) (hp : plain a' = true) (ha : PE X a' (RdE X.K (ev G a))) :
    PE X (.Call (.Name x px) [a'] [] pos) (RdE X.K (ev G (.bi f a))) := by
  by_cases hn : isNewB f = true
  · exact (s_biN c hn hx hg hp ha).imp fun σ H Q q => q.new (bi_list hn)
  · obtain ⟨g1, g2, g3⟩ := gl_of c hg
    have hst : starEach (a' :: []) X.env = (false, eval a' X.env) :: starEach [] X.env := star_of (plain_star hp)
    subst hx
    have hm : X.mg (biName f) = none := blt_of c (by cases f <;> first | (cases hf; done) | (show _ ∈ bNames; decide))
    cases f with
    | len => exact (pe_callB lenD g1 hm (by decide +kernel) (pa_cons ha pa_nil hst) g3 g2 hst rfl).imp fun σ H Q q => b_one q
    | all => exact (pe_callB (allD c.calm) g1 hm (by decide +kernel) (pa_cons ha pa_nil hst) g3 g2 hst rfl).imp fun σ H Q q => b_one q
    | any => exact (pe_callB (anyD c.calm) g1 hm (by decide +kernel) (pa_cons ha pa_nil hst) g3 g2 hst rfl).imp fun σ H Q q => b_one q
    | sum => exact (pe_callB (sumD c.calm) g1 hm (by decide +kernel) (pa_cons ha pa_nil hst) g3 g2 hst rfl).imp fun σ H Q q => b_one q
    | abs => exact (pe_callB absD g1 hm (by decide +kernel) (pa_cons ha pa_nil hst) g3 g2 hst rfl).imp fun σ H Q q => b_one q
    | tuple => exact (pe_callTy tupleD g1 hm (by decide +kernel) (pa_cons ha pa_nil hst) g3 g2 hst rfl).imp fun σ H Q q => b_one q
    | int => exact (pe_callTy intD g1 hm (by decide +kernel) (pa_cons ha pa_nil hst) g3 g2 hst rfl).imp fun σ H Q q => b_one q
    | list => exact absurd rfl hn
    | sorted => exact absurd rfl hn
    | str => cases hf
    | repr =>
      have hu : X.A.units + 66 < cLine := by have := c.room.un; omega
      exact (pe_callB (reprD c.grd hu c.smK) g1 hm (by decide +kernel) (pa_cons ha pa_nil hst) g3 g2 hst rfl).imp fun σ H Q q => b_sm q
theorem ty_rel (t : Ty) : ∃ u, bootBuiltins (tyStr t) = some u ∧ RelV (.ty (tyName t)) u := by
  cases t
  · exact ⟨.type "int", by decide +kernel, rfl⟩
  · exact ⟨.type "bool", by decide +kernel, rfl⟩
  · exact ⟨.type "tuple", by decide +kernel, rfl⟩
  · exact ⟨.type "list", by decide +kernel, rfl⟩
  · exact ⟨.type "str", by decide +kernel, rfl⟩
theorem s_isi (c : Here G k sc raw N X) {t : Ty} {x y : Str} {px py : Pos} {a : E} {a' : Expr} (hx : x = ("isinstance" : Str)) (hg : glOk sc x = true) (hy : y = tyStr t) (hgy : glOk sc y = true) (hp : plain a' = true) (ha : PE X a' (RdE X.K (ev G a))) :
    PE X (.Call (.Name x px) [a', .Name y py] [] pos) (RdE X.K (ev G (.isi a t))) := by
  obtain ⟨g1, g2, g3⟩ := gl_of c hg
  obtain ⟨k1, k2, k3⟩ := gl_of c hgy
  subst hx hy
  have hst : starEach (a' :: [.Name (tyStr t) py]) X.env = (false, eval a' X.env) :: starEach [.Name (tyStr t) py] X.env := star_of (plain_star hp)
  have hm : X.mg "isinstance" = none := blt_of c (by decide)
  have hm2 : X.mg (tyStr t) = none := blt_of c (by cases t <;> decide)
  obtain ⟨u, hu, ru⟩ := ty_rel t
  refine (pe_callB (isiD t) g1 hm (by decide +kernel) (pa_cons ha (pa_cons (pe_bltn k1 hm2 hu ru k3 k2) pa_nil) hst) g3 g2 hst rfl).imp fun σ H Q q => ?_
  refine one_op (fa := ev G a) (g := fun ρ x => .ok (.val (.bool (tyD t x)), ρ)) q fun x F H2 ρ dx en w q => ?_
  exact ⟨F, x, dx, rfl, en.sub, w, q.now en (o := .val (.bool (tyD t dx))) (Rp.bl _)⟩
end
end DP

/-! DP, part 9: targets, what is walked, comprehensions. -/
namespace DP
open PySem PySem.Spec PyProof.Rows L2
section
variable {G : Gm} {k : Nat} {sc raw : Scope} {N : List Str} {X : Cx} {pos : Pos}

/-! ### a new list out of + and * -/
def rON (K : Frag) (f : D → D → R D) : R2 := fun x y H Q => ∃ F dx dy ds, Same F H ∧ Wk K F H x dx ∧ Wk K F H y dy ∧ f dx dy = .ok (.list ds) ∧ ResL K F H Q ds
def isNewO : O2 → Bool
  | .add | .mul => true
  | _ => false
theorem opN (o : O2) (h : isNewO o = true) : OpR X (binaryOp (opOf o)) (rON X.K (op2 o)) := by
  intro pins s σ H x y v u Q I rx ry q
  obtain ⟨F, dx, dy, ds, hs, hx, hy, e, q⟩ := q
  cases o with
  | add =>
    cases dx with
    | list xs =>
      cases dy with
      | list ys =>
        obtain ⟨e1, e2⟩ := gd_ok e
        cases e2
        obtain ⟨a, vs, rfl, h1, h2, h3⟩ := hx.lst hs
        obtain ⟨b, ws, rfl, k1, k2, k3⟩ := hy.lst hs
        have l1 := h2.len
        have l2 := k2.len
        have e1 := sz_le e1
        exact op_catL pins s σ H _ _ v u Q I rx ry ⟨a, b, vs, ws, rfl, rfl, h1, k1, by omega, fun p hp => q p _ hp (h2.append k2) (by rw [List.length_append]; omega)⟩
      | _ => cases e
    | int i => cases dy <;> cases e
    | str i =>
      cases dy with
      | str j => obtain ⟨_, e2⟩ := gd_ok e; cases e2
      | _ => cases e
    | tuple xs =>
      cases dy with
      | tuple j => obtain ⟨_, e2⟩ := gd_ok e; cases e2
      | _ => cases e
    | _ => cases e
  | mul =>
    cases dx with
    | list xs =>
      cases dy with
      | int k =>
        obtain ⟨e1, e2⟩ := gd_ok e
        cases e2
        obtain ⟨e1, c3⟩ := band e1
        obtain ⟨c1, c2⟩ := band e1
        obtain rfl := hy.int
        obtain ⟨a, vs, rfl, h1, h2, h3⟩ := hx.lst hs
        have l1 := h2.len
        have c3 := sz_le c3
        rw [← l1] at c3
        exact op_repL pins s σ H _ _ v u Q I rx ry ⟨a, k, vs, rfl, rfl, h1, of_decide_eq_true c1, of_decide_eq_true c2, c3, fun p hp =>
          q p _ hp (h2.rep k.toNat) (by rw [PyProof.Rows.lm_len_rep_flat, Nat.mul_comm]; exact c3)⟩
      | _ => cases e
    | int i =>
      cases dy with
      | int j => obtain ⟨_, e2⟩ := gd_ok e; cases e2
      | _ => cases e
    | tuple xs =>
      cases dy with
      | int j => obtain ⟨_, e2⟩ := gd_ok e; cases e2
      | _ => cases e
    | _ => cases e
  | _ => cases h
theorem s_binN {o : O2} {o' : Operator} {a b : E} {a' b' : Expr} (hn : isNewO o = true) (h : o2Ok o o' = true) (ha : PE X a' (RdE X.K (ev G a))) (hb : PE X b' (RdE X.K (ev G b))) : PE X (.BinOp a' o' b' pos) (RdN X.K (ev G (.bin o a b))) := by
  obtain rfl := o2_of h
  refine (pe_op (opN o hn) ha hb).imp fun σ H Q q => ?_
  obtain ⟨F, ρ, ds, ρ', en, e, q⟩ := q
  obtain ⟨p, e1, e⟩ := ok_bind (show (ev G a ρ >>= fun p => ev G b p.2 >>= fun q => peek q.2 p.1 >>= fun x => peek q.2 q.1 >>= fun y => op2 o x y >>= fun d => R.ok (Opd.val d, q.2)) = .ok (.val (.list ds), ρ') from e)
  obtain ⟨p2, e2, e⟩ := ok_bind e
  obtain ⟨x, e3, e⟩ := ok_bind e
  obtain ⟨y, e4, e⟩ := ok_bind e
  obtain ⟨d, e5, e⟩ := ok_bind e
  cases e
  refine ⟨F, ρ, en, ?_⟩
  rw [e1]
  intro v F1 H1 ex1 en1 ow1 r1
  refine ⟨F1, p.2, en1, ?_⟩
  rw [e2]
  intro w F2 H2 ex2 en2 ow2 r2
  exact ⟨F2, x, y, ds, en2.sub, peek_wk en2 (r1.mono ex2.f) e3, peek_wk en2 r2 e4, e5, fun a xs ha hr hz => q a xs F2 H2 (ex1.trans ex2 fun l hl => .inl (ow1 l hl)) en2 (fun l hl => ow1 l (ow2 l hl)) ha hr hz⟩

/-! ### a dict of one entry -/
theorem s_dic1 {a b : E} {a' b' : Expr} (ha : PE X a' (RdE X.K (ev G a))) (hb : PE X b' (RdE X.K (ev G b))) : PE X (.Dict [some a'] [b'] pos) (RdE X.K (ev G (.dic1 a b))) := by
  refine (pe_disp (pps_cons ha hb pps_nil) rfl rfl (fun z => by cases z) (by show 1 ≤ 15; decide)).imp fun σ H Q q => ?_
  obtain ⟨F, ρ, en, q⟩ := q
  have q : Fin X.K (rOpd X.K σ) (Own σ ρ) F H σ Q (ev G a ρ >>= fun p => ev G b p.2 >>= fun q => peek q.2 p.1 >>= fun x => keep q.1 >>= fun y => (match x with
      | .int i => R.ok (Opd.val (.dict [(.int i, y)]), q.2)
      | .str s => .ok (.val (.dict [(.str s, y)]), q.2)
      | _ => .bad)) := q
  cases ea : ev G a ρ with
  | exc => rw [ea] at q; exact q.elim
  | bad => rw [ea] at q; exact q.elim
  | ok pa =>
  rw [ea] at q
  simp only [bind_ok] at q
  cases eb : ev G b pa.2 with
  | exc => rw [eb] at q; exact q.elim
  | bad => rw [eb] at q; exact q.elim
  | ok pb =>
  rw [eb] at q
  simp only [bind_ok] at q
  obtain ⟨dx, ex, q⟩ := q.ok
  obtain ⟨dy, ey, q⟩ := q.ok
  intro p hp
  have hF : F p = none := en.sub.free hp
  have l0 : Ext (fun _ => False) F H F (upd H p (.dK [])) := Ext.laidH hp
  have en0 : EnvOk X.K F (upd H p (.dK [])) σ ρ := en.ext l0 (sub_updH en.sub hF) fun _ _ z => z
  have np : ∀ {ρ' : Slots}, (∀ l, Own σ ρ' l → Own σ ρ l) → ¬ Own σ ρ' p := fun ow z => own_none en hp (ow _ z)
  refine ⟨F, ρ, en0, ?_⟩
  rw [ea]
  intro x F1 H1 ex1 en1 ow1 r1
  refine ⟨F1, pa.2, en1, ?_⟩
  rw [eb]
  intro y F2 H2 ex2 en2 ow2 r2
  have hp1 : H1 p = some (.dK []) := ex1.h _ _ upd_same (own_none en hp)
  have hp2 : H2 p = some (.dK []) := ex2.h _ _ hp1 (np ow1)
  have exA : Ext (Own σ ρ) F H F2 H2 := (l0.nil_own.trans ex1 fun l hl => .inl hl).trans ex2 fun l hl => .inl (ow1 l hl)
  have f2 : F2 p = none := by
    cases z : F2 p with
    | none => rfl
    | some u =>
      have z2 : ∀ {Fa Ha Fb Hb : Hp} {B : Addr → Prop}, Ext B Fa Ha Fb Hb → Fa p = none → Ha p ≠ none → ¬ B p → Fb p = none := fun e1 e2 e3 e4 => by
        cases zz : (_ : Option HO) with
        | none => exact zz
        | some u => exact absurd trivial (by
            rcases e1.n p (by rw [zz]; simp) with w | w | w
            · exact absurd e2 w
            · exact absurd w e3
            · exact absurd w e4)
      have g1 : F1 p = none := z2 ex1 hF (by rw [upd_same]; simp) (own_none en hp)
      have g2 : F2 p = none := z2 ex2 g1 (by rw [hp1]; simp) (np ow1)
      rw [g2] at z; cases z
  have wx := peek_wk en2 (r1.mono ex2.f) ex
  have ry := keep_rp r2 ey
  have fin : ∀ (kk : Key) (o : Opd), o = .val (.dict [(kD kk, dy)]) → Fin X.K (rOpd X.K σ) (Own σ ρ) F H σ Q (.ok (o, pb.2)) → Q (.ref p) (upd H2 p (.dK (mergeK [] [(kk, y)]))) := fun kk o eo q => by
    subst eo
    have e1 : mergeK [] [(kk, y)] = [(kk, y)] := rfl
    rw [e1]
    have exB : Ext (Own σ ρ) F H (upd F2 p (.dK [(kk, y)])) (upd H2 p (.dK [(kk, y)])) := by
      refine ⟨fun c o e => ?_, fun c o e n => ?_, fun c e => ?_, fun c e => ?_⟩
      · rw [upd_ne (ne_of_none e hF)]; exact exA.f _ _ e
      · rw [upd_ne (ne_of_none e hp)]; exact exA.h _ _ e n
      · by_cases hc : c = p
        · subst hc; exact .inr (.inl hp)
        · rw [upd_ne hc] at e; exact exA.n _ e
      · by_cases hc : c = p
        · subst hc; rw [upd_same]; simp
        · rw [upd_ne hc]; exact exA.d _ e
    have exC : Ext (fun l => l = p) F2 H2 (upd F2 p (.dK [(kk, y)])) (upd H2 p (.dK [(kk, y)])) := by
      refine ⟨fun c o e => ?_, fun c o e n => ?_, fun c e => ?_, fun c e => ?_⟩
      · rw [upd_ne (ne_of_none e f2)]; exact e
      · rw [upd_ne n]; exact e
      · by_cases hc : c = p
        · exact .inr (.inr hc)
        · rw [upd_ne hc] at e; exact .inl e
      · by_cases hc : c = p
        · subst hc; rw [upd_same]; simp
        · rw [upd_ne hc]; exact e
    have sB : Same (upd F2 p (.dK [(kk, y)])) (upd H2 p (.dK [(kk, y)])) := fun c o e => by
      by_cases hc : c = p
      · subst hc; rw [upd_same] at e ⊢; exact e
      · rw [upd_ne hc] at e ⊢; exact en2.sub _ _ e
    refine q (.ref p) _ _ exB (en2.ext exC sB fun l hl z => np (fun l hl => ow1 l (ow2 l hl)) (z ▸ hl)) (fun l hl => ow1 l (ow2 l hl)) (Rp.dic (kvs := [(kk, y)]) upd_same (.cons (ry.mono exC.f) .nil))
  show H2 p = some (.dK []) ∧ _
  cases dx with
  | int i =>
    obtain rfl := wx.int
    exact ⟨hp2, [(.inl i, y)], rfl, by show 1 ≤ 15; decide, fin (.inl i) _ rfl q⟩
  | str i =>
    obtain rfl := wx.str
    exact ⟨hp2, [(.inr i, y)], rfl, by show 1 ≤ 15; decide, fin (.inr i) _ rfl q⟩
  | _ => exact q.elim

/-! ### targets -/
def gNms : List Nat → TGs
  | [] => gNil
  | i :: is => gCons (gName i) (gNms is)
def gTg (K : Frag) : Tg → TG
  | .nm i => gName i
  | .tup is => gTup K is.length (gNms is)
theorem l_of (c : Here G k sc raw N X) {i : Nat} {x : Str} (h : okL sc raw N i x = true) : X.N[i]? = some x ∧ Loc X.env.scope x ∧ (X.fn x = true ∨ X.env.scope.names.lookup x = some .local) := by
  unfold okL at h
  obtain ⟨h1, h2⟩ := band h
  rw [c.nE, c.scE]
  refine ⟨of_decide_eq_true h1, ?_⟩
  split at h2
  · rename_i e; exact ⟨.inl e, .inr e⟩
  · rename_i e
    split at h2
    · rename_i e2; exact ⟨.inr e, .inl (c.fn _ e2)⟩
    · cases h2
  · cases h2
theorem nd_of (c : Here G k sc raw N X) : X.N.Nodup := by rw [c.nE]; exact c.nd
theorem pg_nms (c : Here G k sc raw N X) : ∀ {is : List Nat} {es : List Expr}, okNms sc raw N is es = true → PGs X es (gNms is) ∧ (assignEach es X.env).length = is.length ∧ (assignEach es X.env).findIdx? (·.1) = none
  | [], [], _ => ⟨pgs_nil, rfl, rfl⟩
  | i :: is, .Name x p :: es, h => by
    obtain ⟨h1, h2⟩ := band (show (okL sc raw N i x && okNms sc raw N is es) = true from h)
    obtain ⟨g1, g2, g3⟩ := l_of c h1
    obtain ⟨r1, r2, r3⟩ := pg_nms c h2
    refine ⟨pgs_cons (pg_name (nd_of c) g1 g2 g3) r1 rfl, ?_, ?_⟩
    · show (assignEach es X.env).length + 1 = _
      rw [r2]; rfl
    · show ((false, assign (.Name x p) X.env) :: assignEach es X.env).findIdx? (·.1) = none
      rw [List.findIdx?_cons, r3]
      rfl
  | [], _ :: _, h => by cases h
  | _ :: _, [], h => by cases h
  | i :: is, e :: es, h => by
    cases e <;> first | cases h | skip
    rename_i x p
    obtain ⟨h1, h2⟩ := band (show (okL sc raw N i x && okNms sc raw N is es) = true from h)
    obtain ⟨g1, g2, g3⟩ := l_of c h1
    obtain ⟨r1, r2, r3⟩ := pg_nms c h2
    refine ⟨pgs_cons (pg_name (nd_of c) g1 g2 g3) r1 rfl, ?_, ?_⟩
    · show (assignEach es X.env).length + 1 = _
      rw [r2]; rfl
    · show ((false, assign (.Name x p) X.env) :: assignEach es X.env).findIdx? (·.1) = none
      rw [List.findIdx?_cons, r3]
      rfl
theorem pg_tg (c : Here G k sc raw N X) {tg : Tg} {e : Expr} (h : okTg sc raw N tg e = true) : PG X e (gTg X.K tg) := by
  cases tg with
  | nm i =>
    cases e with
    | Name x p =>
      obtain ⟨g1, g2, g3⟩ := l_of c h
      exact pg_name (nd_of c) g1 g2 g3
    | _ => cases h
  | tup is =>
    cases e with
    | Tuple es kk p =>
      obtain ⟨r1, r2, r3⟩ := pg_nms c (show okNms sc raw N is es = true from h)
      exact pg_tup c.calm r1 r2 r3
    | _ => cases h
end
section
variable {K : Frag} {F H : Hp} {σ : L2.St} {ρ : Slots}
theorem set_dat {i : Nat} {x : V} {d : D} (en : EnvOk K F H σ ρ) (hf : free ρ i = true) (r : Rp K F x d) :
    EnvOk K F H (σ.set i (some x)) (ρ.set i (.dat d)) ∧ (∀ l, Own (σ.set i (some x)) (ρ.set i (.dat d)) l → Own σ ρ l) ∧ (∀ (j : Nat) ds, (ρ.set i (.dat d))[j]? = some (Cell.own true ds) → (σ.set i (some x))[j]? = σ[j]?) := by
  have hi : i < ρ.length := by
    unfold free at hf
    cases e : ρ[i]? with
    | none => rw [e] at hf; cases hf
    | some c => exact (List.getElem?_eq_some_iff.mp e).1
  have hiσ : i < σ.length := by rw [en.len]; exact hi
  have old : ∀ {j : Nat} {c : Cell}, c ≠ .dat d → (ρ.set i (.dat d))[j]? = some c → j ≠ i ∧ ρ[j]? = some c := fun {j c} hc e => by
    by_cases hj : i = j
    · subst hj
      rw [List.getElem?_set_self hi] at e
      exact absurd (Option.some.inj e).symm hc
    · rw [List.getElem?_set_ne hj] at e
      exact ⟨fun z => hj z.symm, e⟩
  have ne : ∀ {b ds}, Cell.own b ds ≠ Cell.dat d := fun z => by cases z
  refine ⟨⟨en.sub, by rw [List.length_set, List.length_set]; exact en.len, fun j c e => ?_, fun j1 j2 l b b' ds ds' e1 e2 g1 g2 => ?_, en.sm⟩, fun l h => ?_, fun j ds e => ?_⟩
  · by_cases hj : i = j
    · subst hj
      rw [List.getElem?_set_self hi] at e
      obtain rfl := Option.some.inj e
      rw [List.getElem?_set_self hiσ]
      exact ⟨x, rfl, r⟩
    · rw [List.getElem?_set_ne hj] at e
      rw [List.getElem?_set_ne hj]
      exact en.cell j c e
  · obtain ⟨n1, o1⟩ := old ne e1
    obtain ⟨n2, o2⟩ := old ne e2
    rw [List.getElem?_set_ne (fun z => n1 z.symm)] at g1
    rw [List.getElem?_set_ne (fun z => n2 z.symm)] at g2
    exact en.sep _ _ _ _ _ _ _ o1 o2 g1 g2
  · obtain ⟨j, b, ds, e1, e2⟩ := h
    obtain ⟨n1, o1⟩ := old ne e1
    rw [List.getElem?_set_ne (fun z => n1 z.symm)] at e2
    exact ⟨j, b, ds, o1, e2⟩
  · obtain ⟨n1, o1⟩ := old ne e
    rw [List.getElem?_set_ne (fun z => n1 z.symm)]
theorem free_set {i j : Nat} {d : D} (h : free ρ j = true) : free (ρ.set i (.dat d)) j = true := by
  unfold free at h ⊢
  by_cases hj : i = j
  · subst hj
    cases e : ρ[i]? with
    | none => rw [e] at h; cases h
    | some c => rw [List.getElem?_set_self (List.getElem?_eq_some_iff.mp e).1]
  · rw [List.getElem?_set_ne hj]; exact h
/-- a target has taken an item -/
structure Took (K : Frag) (F H : Hp) (σ : L2.St) (ρ : Slots) (is : List Nat) (σ2 : L2.St) (ρ2 : Slots) : Prop where
  en : EnvOk K F H σ2 ρ2
  own : ∀ l, Own σ2 ρ2 l → Own σ ρ l
  bor : ∀ (j : Nat) ds, ρ2[j]? = some (Cell.own true ds) → σ2[j]? = σ[j]?
  out : ∀ j, j ∉ is → σ2[j]? = σ[j]? ∧ ρ2[j]? = ρ[j]?
theorem take_nms : ∀ (is : List Nat) {ds : List D} {xs : List V} {σ : L2.St} {ρ ρ' : Slots} {Q : L2.St → Hp → Prop}, EnvOk K F H σ ρ → (is.all fun i => free ρ i) = true → putAll is ds ρ = .ok ρ' → Rps K F xs ds →
    (∀ σ2, Took K F H σ ρ is σ2 ρ' → Q σ2 H) → gNms is xs σ H Q := by
  intro is
  induction is with
  | nil =>
    intro ds xs σ ρ ρ' Q en _ e rr h
    cases ds with
    | cons _ _ => cases e
    | nil =>
      cases rr
      cases e
      exact ⟨rfl, h σ ⟨en, fun _ z => z, fun _ _ _ => rfl, fun _ _ => ⟨rfl, rfl⟩⟩⟩
  | cons i is ih =>
    intro ds xs σ ρ ρ' Q en hf e rr h
    cases ds with
    | nil => cases e
    | cons d ds =>
      cases rr with
      | cons r rs =>
        rename_i x xs
        obtain ⟨f1, f2⟩ := band (show (free ρ i && is.all fun i => free ρ i) = true from hf)
        obtain ⟨en1, ow1, bo1⟩ := set_dat en f1 r
        refine ⟨x, xs, rfl, ih en1 ?_ (show putAll is ds (ρ.set i (.dat d)) = .ok ρ' from e) rs fun σ2 t => h σ2 ⟨t.en, fun l hl => ow1 l (t.own l hl), fun j ds' ej => ?_, fun j hj => ?_⟩⟩
        · refine List.all_eq_true.mpr fun j hj => free_set (List.all_eq_true.mp f2 j hj)
        · have hb := t.bor j ds' ej
          rw [hb]
          by_cases hji : i = j
          · subst hji
            by_cases hin : i ∈ is
            · -- it is set again: nothing of it is lent
              exfalso
              have : ∀ {is : List Nat} {ds : List D} {ρ ρ' : Slots}, putAll is ds ρ = .ok ρ' → i ∈ is → (∃ d, ρ'[i]? = some (Cell.dat d)) ∨ ρ.length ≤ i := by
                intro is
                induction is with
                | nil => intro _ _ _ _ z; cases z
                | cons a is ih =>
                  intro ds ρ ρ' e2 z
                  cases ds with
                  | nil => cases e2
                  | cons d2 ds =>
                    have e2 : putAll is ds (ρ.set a (.dat d2)) = .ok ρ' := e2
                    by_cases hi2 : i ∈ is
                    · rcases ih e2 hi2 with w | w
                      · exact .inl w
                      · rw [List.length_set] at w; exact .inr w
                    · have ha : i = a := (List.mem_cons.mp z).resolve_right hi2
                      subst ha
                      have keep : ∀ {is : List Nat} {ds : List D} {ρ ρ' : Slots}, putAll is ds ρ = .ok ρ' → i ∉ is → ρ'[i]? = ρ[i]? := by
                        intro is
                        induction is with
                        | nil =>
                          intro ds ρ ρ' e3 _
                          cases ds with
                          | nil => cases e3; rfl
                          | cons _ _ => cases e3
                        | cons a is ih =>
                          intro ds ρ ρ' e3 hn
                          cases ds with
                          | nil => cases e3
                          | cons d3 ds =>
                            have e3 : putAll is ds (ρ.set a (.dat d3)) = .ok ρ' := e3
                            rw [ih e3 (fun w => hn (List.mem_cons_of_mem _ w)), List.getElem?_set_ne (fun w => hn (by rw [w]; exact List.mem_cons_self))]
                      by_cases hl : i < ρ.length
                      · exact .inl ⟨d2, by rw [keep e2 hi2, List.getElem?_set_self hl]⟩
                      · exact .inr (Nat.le_of_not_lt hl)
              rcases this (show putAll is ds (ρ.set i (.dat d)) = .ok ρ' from e) hin with ⟨d3, w⟩ | w
              · rw [w] at ej; cases ej
              · rw [List.length_set] at w
                unfold free at f1
                rw [List.getElem?_eq_none w] at f1
                cases f1
            · obtain ⟨_, o2⟩ := t.out i hin
              rw [o2, List.getElem?_set_self (by
                unfold free at f1
                cases z : ρ[i]? with
                | none => rw [z] at f1; cases f1
                | some c => exact (List.getElem?_eq_some_iff.mp z).1)] at ej
              cases ej
          · rw [List.getElem?_set_ne hji]
        · have hj1 : j ≠ i := fun z => hj (by rw [z]; exact List.mem_cons_self)
          have hj2 : j ∉ is := fun z => hj (List.mem_cons_of_mem _ z)
          obtain ⟨o1, o2⟩ := t.out j hj2
          rw [o1, o2, List.getElem?_set_ne (fun z => hj1 z.symm), List.getElem?_set_ne (fun z => hj1 z.symm)]
          exact ⟨rfl, rfl⟩

theorem take_tg {tg : Tg} {x : V} {d : D} {ρ' : Slots} {Q : L2.St → Hp → Prop} (en : EnvOk K F H σ ρ) (e : putTg tg d ρ = .ok ρ') (r : Rp K F x d) (h : ∀ σ2, Took K F H σ ρ tg.slots σ2 ρ' → Q σ2 H) : gTg K tg x σ H Q := by
  cases tg with
  | nm i =>
    have e : (if free ρ i = true then R.ok (ρ.set i (.dat d)) else .bad) = .ok ρ' := e
    split at e
    · rename_i hf
      cases e
      obtain ⟨en1, ow1, bo1⟩ := set_dat en hf r
      refine h _ ⟨en1, ow1, bo1, fun j hj => ?_⟩
      have hj : j ≠ i := fun z => hj (by rw [z]; exact List.mem_cons_self)
      exact ⟨List.getElem?_set_ne (fun z => hj z.symm), List.getElem?_set_ne (fun z => hj z.symm)⟩
    · cases e
  | tup is =>
    cases d with
    | tuple ds =>
      have e : (if (is.all fun i => free ρ i) = true then putAll is ds ρ else .bad) = .ok ρ' := e
      split at e
      · rename_i hf
        cases r with
        | tup a b c =>
          rename_i p xs
          have hl : ∀ {is : List Nat} {ds : List D} {ρ ρ' : Slots}, putAll is ds ρ = .ok ρ' → is.length = ds.length := by
            intro is
            induction is with
            | nil =>
              intro ds ρ ρ' e
              cases ds with
              | nil => rfl
              | cons _ _ => cases e
            | cons i is ih =>
              intro ds ρ ρ' e
              cases ds with
              | nil => cases e
              | cons d ds => rw [List.length_cons, List.length_cons, ih (show putAll is ds (ρ.set i (.dat d)) = .ok ρ' from e)]
          refine ⟨p, xs, rfl, Same.seqT en.sub a, by rw [b.len, hl e], take_nms is en hf e b h⟩
      · cases e
    | _ => cases e
end
end DP

/-! DP, part 10: what is walked, comprehensions, the whole of expressions. -/
namespace DP
open PySem PySem.Spec PyProof.Rows L2
/-- a walk gives these data, one by one -/
structure Gives (K : Frag) (J : It) (F0 : Hp) (ds : List D) : Prop where
  len : ds.length ≤ sizeLine
  go : ∀ i H, i < ds.length → Same F0 H → J.go i H
  yl : ∀ i F H x H', Same F0 F → Same F H → J.yld i H x H' → ∀ d, ds[i]? = some d → ∃ F', Ext (fun _ => False) F H F' H' ∧ Same F' H' ∧ Rp K F' x d
  stop : ∀ i H, ds.length ≤ i → Same F0 H → J.stop i H
def rGiv (K : Frag) (_ : L2.St) (F : Hp) (J : It) (ds : List D) : Prop := Gives K J F ds
abbrev RdI (K : Frag) (f : Slots → R (List D × Slots)) : TI := Rd' K (rGiv K) f
theorem gives_list {K : Frag} {F : Hp} {a : Addr} {xs : List V} {ds : List D} (h : LsK K F a xs) (r : Rps K F xs ds) (z : xs.length ≤ sizeLine) : Gives K (Itl K a) F ds := by
  have hl := r.len
  refine ⟨by omega, fun i H hi s => ?_, fun i F1 H x H' s0 s y d hd => ?_, fun i H hi s => ⟨xs, (Same.lsk s h).sq, by omega⟩⟩
  · exact ⟨xs, xs[i]'(by omega), (Same.lsk s h).sq, by simp⟩
  · obtain ⟨rfl, y⟩ := y
    obtain ⟨v, e1, e2⟩ := r.get hd
    have e3 := y xs (Same.lsk (s0.trans s) h).sq
    rw [e1] at e3
    obtain rfl := Option.some.inj e3
    exact ⟨F1, Ext.refl, s, e2.mono s0⟩
theorem gives_tup {K : Frag} {F : Hp} {a : Addr} {xs : List V} {ds : List D} (h : SqT K F a xs) (r : Rps K F xs ds) (z : xs.length ≤ sizeLine) : Gives K (Itt K a) F ds := by
  have hl := r.len
  refine ⟨by omega, fun i H hi s => ?_, fun i F1 H x H' s0 s y d hd => ?_, fun i H hi s => ⟨xs, Same.seqT s h, by omega⟩⟩
  · exact ⟨xs, xs[i]'(by omega), Same.seqT s h, by simp⟩
  · obtain ⟨rfl, y⟩ := y
    obtain ⟨v, e1, e2⟩ := r.get hd
    have e3 := y xs (Same.seqT (s0.trans s) h)
    rw [e1] at e3
    obtain rfl := Option.some.inj e3
    exact ⟨F1, Ext.refl, s, e2.mono s0⟩
theorem rngD_len (lo hi : Int) : (rngD lo hi).length = (hi - lo).toNat := by unfold rngD; rw [List.length_map, List.length_range]
theorem rngD_get {lo hi : Int} {i : Nat} {d : D} (h : (rngD lo hi)[i]? = some d) : i < (hi - lo).toNat ∧ d = .int (lo + i) := by
  have hl : i < (rngD lo hi).length := (List.getElem?_eq_some_iff.mp h).1
  rw [rngD_len] at hl
  refine ⟨hl, ?_⟩
  unfold rngD at h
  rw [List.getElem?_map, List.getElem?_eq_getElem (by rw [List.length_range]; exact hl), List.getElem_range] at h
  exact (Option.some.inj h).symm
theorem gives_rng {K : Frag} {F : Hp} {lo hi : Int} (z : (hi - lo).toNat ≤ sizeLine) : Gives K (Itr lo (hi - lo).toNat) F (rngD lo hi) := by
  refine ⟨by rw [rngD_len]; exact z, fun i H h s => ?_, fun i F1 H x H' s0 s y d hd => ?_, fun i H h s => ?_⟩
  · rw [rngD_len] at h; exact h
  · obtain ⟨rfl, y⟩ := y
    obtain ⟨_, rfl⟩ := rngD_get hd
    rw [y]
    exact ⟨F1, Ext.refl, s, .int _⟩
  · rw [rngD_len] at h; exact h
section
variable {G : Gm} {k : Nat} {sc raw : Scope} {N : List Str} {X : Cx} {pos : Pos}
/-- a list or a tuple that is walked -/
def iSq (K : Frag) (tl : TE) : TI := fun σ H R => tl σ H fun x H1 => ∃ a, x = .ref a ∧ ((∃ xs, SqL K H1 a xs ∧ R (Itl K a) H1) ∨ (∃ xs, SqT K H1 a xs ∧ R (Itt K a) H1))
theorem pi_sq {tg l : Expr} {tl : TE} (hl : PE X l tl) : PI X tg l (iSq X.K tl) := by
  refine ⟨fun pins s σ H R I h => ?_⟩
  refine thn (hl.run pins s σ H _ I h) fun v s1 ⟨x, H1, I1, r1, q1⟩ => ?_
  obtain ⟨a, e, q⟩ := q1
  subst e
  cases r1
  rcases q with ⟨xs, hq, q⟩ | ⟨xs, hq, q⟩
  · obtain ⟨its, rv, p, hz⟩ := I1.list hq
    refine wpAny_pyIter_list p.isList ?_
    refine ⟨s1.heap.objs.size, [s1.heap.objs.size], _, _, H1, rfl, I1.kept (t' := s1.toks) fun b o e => Heap.get?_push_of_some _ e, turn_list a _, ⟨_, Heap.get?_push_size _ rfl, rfl, rfl⟩, fun b hb => ?_, q⟩
    have e : b = s1.heap.objs.size := by simpa using hb
    subst e
    exact I1.fpOk (Nat.le_refl _) (I1.hok.fresh (Nat.le_refl _))
  · obtain ⟨its, rv, p, hz⟩ := I1.tuple hq
    refine wpAny_pyIter_tuple (show s1.heap.IsTuple a its.toArray from p) ?_
    refine ⟨s1.heap.objs.size, [s1.heap.objs.size], _, _, H1, rfl, I1.kept (t' := s1.toks) fun b o e => Heap.get?_push_of_some _ e, turn_tuple a _, ⟨_, Heap.get?_push_size _ rfl, rfl, rfl⟩, fun b hb => ?_, q⟩
    have e : b = s1.heap.objs.size := by simpa using hb
    subst e
    exact I1.fpOk (Nat.le_refl _) (I1.hok.fresh (Nat.le_refl _))
theorem _root_.L2.PI.imp {X : Cx} {tg e : Expr} {t t' : TI} (h : PI X tg e t) (i : ∀ σ H Q, t' σ H Q → t σ H Q) : PI X tg e t' := ⟨fun pins s σ H Q I q => h.run pins s σ H Q I (i _ _ _ q)⟩
theorem i_seq {a : E} {e' tg : Expr} (h : PE X e' (RdE X.K (ev G a))) : PI X tg e' (RdI X.K (evI G (.seq a))) := by
  refine (pi_sq h).imp fun σ H Q q => ?_
  obtain ⟨F, ρ, en, q⟩ := q
  have q : Fin X.K (rGiv X.K σ) (Own σ ρ) F H σ Q (ev G a ρ >>= fun p => keep p.1 >>= fun x => items? x >>= fun ds => .ok (ds, p.2)) := q
  refine ⟨F, ρ, en, q.bind.mono fun x H1 q => ?_⟩
  obtain ⟨F1, ρ1, o, e1, en1, r1, q⟩ := q
  obtain ⟨d, ed, q⟩ := q.ok
  obtain ⟨ds, es, q⟩ := q.ok
  have r := keep_rp r1 ed
  cases d with
  | list xs =>
    cases es
    cases r with
    | lst h1 h2 h3 => exact ⟨_, rfl, .inl ⟨_, (Same.lsk en1.sub h1).sq, q.nowG en1 (v := Itl X.K _) (gives_list h1 h2 h3)⟩⟩
  | tuple xs =>
    cases es
    cases r with
    | tup h1 h2 h3 => exact ⟨_, rfl, .inr ⟨_, Same.seqT en1.sub h1, q.nowG en1 (v := Itt X.K _) (gives_tup h1 h2 h3)⟩⟩
  | _ => cases es
theorem rngOk_of {lo hi : Int} (h : rngOk lo hi = true) : -(2 ^ 62) ≤ lo ∧ lo < 2 ^ 62 ∧ -(2 ^ 62) ≤ hi ∧ hi < 2 ^ 62 := by
  unfold rngOk at h
  obtain ⟨h, h4⟩ := band h
  obtain ⟨h, h3⟩ := band h
  obtain ⟨h1, h2⟩ := band h
  exact ⟨of_decide_eq_true h1, of_decide_eq_true h2, of_decide_eq_true h3, of_decide_eq_true h4⟩
theorem i_rng (c : Here G k sc raw N X) {a : E} {a' tg : Expr} {x : Str} {px : Pos} (hx : x = ("range" : Str)) (hg : glOk sc x = true) (hp : plain a' = true) (h : PE X a' (RdE X.K (ev G a))) : PI X tg (.Call (.Name x px) [a'] [] pos) (RdI X.K (evI G (.rng a))) := by
  subst hx
  obtain ⟨g1, g2, g3⟩ := gl_of c hg
  have hst : starEach [a'] X.env = [(false, eval a' X.env)] := star_of (plain_star hp)
  refine (pi_range1 g1 (blt_of c (by decide)) (pa_cons h pa_nil hst) hst).imp fun σ H Q q => ?_
  obtain ⟨F, ρ, en, q⟩ := q
  have q : Fin X.K (rGiv X.K σ) (Own σ ρ) F H σ Q (ev G a ρ >>= fun p => peek p.2 p.1 >>= fun x => asI x >>= fun i => if (rngOk 0 i && sz i.toNat) = true then .ok (rngD 0 i, p.2) else .bad) := q
  refine ⟨F, ρ, en, q.bind.mono fun x H1 q => ?_⟩
  obtain ⟨F1, ρ1, o, e1, en1, r1, q⟩ := q
  obtain ⟨d, ed, q⟩ := q.ok
  have w := peek_wk en1 r1 ed
  cases d with
  | int i =>
    have q : Fin X.K (rGiv X.K σ) (Own σ ρ1) F1 H1 σ Q (if (rngOk 0 i && sz i.toNat) = true then R.ok (rngD 0 i, ρ1) else R.bad) := q
    split at q
    · rename_i hc
      obtain ⟨c1, c2⟩ := band hc
      obtain ⟨_, _, b3, b4⟩ := rngOk_of c1
      have c2 := sz_le c2
      have e0 : i.toNat = (i - 0).toNat := by omega
      refine ⟨i, by rw [w.int], b3, b4, ?_⟩
      rw [e0]
      exact q.nowG en1 (v := Itr 0 (i - 0).toNat) (gives_rng (by omega))
    · exact q.elim
  | _ => exact q.elim
theorem i_rng2 (c : Here G k sc raw N X) {a b : E} {a' b' tg : Expr} {x : Str} {px : Pos} (hx : x = ("range" : Str)) (hg : glOk sc x = true) (hp : plain a' = true) (hp2 : plain b' = true) (h : PE X a' (RdE X.K (ev G a))) (h2 : PE X b' (RdE X.K (ev G b))) :
    PI X tg (.Call (.Name x px) [a', b'] [] pos) (RdI X.K (evI G (.rng2 a b))) := by
  subst hx
  obtain ⟨g1, g2, g3⟩ := gl_of c hg
  have hst2 : starEach [b'] X.env = [(false, eval b' X.env)] := star_of (plain_star hp2)
  have hst : starEach [a', b'] X.env = [(false, eval a' X.env), (false, eval b' X.env)] := by rw [star_of (plain_star hp), hst2]
  refine (pi_range2 g1 (blt_of c (by decide)) (pa_cons h (pa_cons h2 pa_nil hst2) (star_of (plain_star hp))) hst hst2).imp fun σ H Q q => ?_
  obtain ⟨F, ρ, en, q⟩ := q
  have q : Fin X.K (rGiv X.K σ) (Own σ ρ) F H σ Q (ev G a ρ >>= fun p => ev G b p.2 >>= fun q => peek q.2 p.1 >>= fun x => peek q.2 q.1 >>= fun y => asI x >>= fun i => asI y >>= fun j =>
      if (rngOk i j && sz (j - i).toNat) = true then .ok (rngD i j, q.2) else .bad) := q
  refine ⟨F, ρ, en, q.bind.mono fun x H1 q => ?_⟩
  obtain ⟨F1, ρ1, o, e1, en1, r1, q⟩ := q
  refine ⟨F1, ρ1, en1, q.bind.mono fun y H2 q => ?_⟩
  obtain ⟨F2, ρ2, o2, e2, en2, r2, q⟩ := q
  obtain ⟨dx, ex, q⟩ := q.ok
  obtain ⟨dy, ey, q⟩ := q.ok
  have w1 := peek_wk en2 (r1.mono e2.f) ex
  have w2 := peek_wk en2 r2 ey
  cases dx with
  | int i =>
    cases dy with
    | int j =>
      have q : Fin X.K (rGiv X.K σ) (Own σ ρ2) F2 H2 σ Q (if (rngOk i j && sz (j - i).toNat) = true then R.ok (rngD i j, ρ2) else R.bad) := q
      split at q
      · rename_i hc
        obtain ⟨c1, c2⟩ := band hc
        refine ⟨i, j, by rw [w1.int, w2.int], rngOk_of c1, ?_⟩
        exact q.nowG en2 (v := Itr i (j - i).toNat) (gives_rng (sz_le c2))
      · exact q.elim
    | _ => exact q.elim
  | _ => exact q.elim

/-! ### comprehensions -/
theorem wipe_out' {σ : L2.St} {i : Nat} : ∀ {vs : List Nat}, i ∉ vs → (wipe σ vs)[i]? = σ[i]? := wipe_out
theorem wipeR_len (ρ : Slots) : ∀ vs : List Nat, (wipeR ρ vs).length = ρ.length
  | [] => rfl
  | v :: vs => by unfold wipeR; rw [List.length_set, wipeR_len ρ vs]
theorem wipeR_out {ρ : Slots} {i : Nat} : ∀ {vs : List Nat}, i ∉ vs → (wipeR ρ vs)[i]? = ρ[i]?
  | [], _ => rfl
  | v :: vs, h => by
    unfold wipeR
    rw [List.getElem?_set_ne (fun z => h (by rw [z]; exact List.mem_cons_self))]
    exact wipeR_out fun z => h (List.mem_cons_of_mem _ z)
theorem wipeR_in {ρ : Slots} {i : Nat} {c : Cell} : ∀ {vs : List Nat}, i ∈ vs → (wipeR ρ vs)[i]? = some c → c = .un
  | v :: vs, h, e => by
    unfold wipeR at e
    by_cases hv : v = i
    · subst hv
      by_cases hl : v < (wipeR ρ vs).length
      · rw [List.getElem?_set_self hl] at e
        exact (Option.some.inj e).symm
      · rw [List.getElem?_eq_none (by rw [List.length_set]; omega)] at e
        cases e
    · rw [List.getElem?_set_ne hv] at e
      exact wipeR_in ((List.mem_cons.mp h).resolve_left fun z => hv z.symm) e
theorem env_wipe {K : Frag} {F H : Hp} {σ : L2.St} {ρ : Slots} (en : EnvOk K F H σ ρ) (vs : List Nat) : EnvOk K F H (wipe σ vs) (wipeR ρ vs) ∧ ∀ l, Own (wipe σ vs) (wipeR ρ vs) l → Own σ ρ l := by
  have o : ∀ {j : Nat} {b : Bool} {ds : List D}, (wipeR ρ vs)[j]? = some (Cell.own b ds) → j ∉ vs ∧ ρ[j]? = some (Cell.own b ds) := fun {j b ds} e => by
    by_cases hj : j ∈ vs
    · have := wipeR_in hj e; cases this
    · rw [wipeR_out hj] at e; exact ⟨hj, e⟩
  refine ⟨⟨en.sub, by rw [wipe_length, wipeR_len]; exact en.len, fun i c e => ?_, fun i j l b b' ds ds' e1 e2 g1 g2 => ?_, en.sm⟩, fun l ⟨j, b, ds, e1, e2⟩ => ?_⟩
  · by_cases hi : i ∈ vs
    · rw [wipeR_in hi e]; trivial
    · rw [wipeR_out hi] at e
      rw [wipe_out hi]
      exact en.cell i c e
  · obtain ⟨n1, o1⟩ := o e1
    obtain ⟨n2, o2⟩ := o e2
    rw [wipe_out n1] at g1
    rw [wipe_out n2] at g2
    exact en.sep _ _ _ _ _ _ _ o1 o2 g1 g2
  · obtain ⟨n1, o1⟩ := o e1
    rw [wipe_out n1] at e2
    exact ⟨j, b, ds, o1, e2⟩
theorem unwipe_len (ρ0 ρ : Slots) : ∀ vs : List Nat, (unwipe ρ0 ρ vs).length = ρ.length
  | [] => rfl
  | v :: vs => by
    unfold unwipe
    split
    · rw [List.length_set, unwipe_len ρ0 ρ vs]
    · exact unwipe_len ρ0 ρ vs
theorem unwipe_out {ρ0 ρ : Slots} {i : Nat} : ∀ {vs : List Nat}, i ∉ vs → (unwipe ρ0 ρ vs)[i]? = ρ[i]?
  | [], _ => rfl
  | v :: vs, h => by
    have r := unwipe_out (ρ0 := ρ0) (ρ := ρ) (i := i) (vs := vs) fun z => h (List.mem_cons_of_mem _ z)
    unfold unwipe
    split
    · rw [List.getElem?_set_ne (fun z => h (by rw [z]; exact List.mem_cons_self))]; exact r
    · exact r
theorem unwipe_in {ρ0 ρ : Slots} {i : Nat} (hl : ρ0.length = ρ.length) : ∀ {vs : List Nat}, i ∈ vs → (unwipe ρ0 ρ vs)[i]? = ρ0[i]?
  | v :: vs, h => by
    unfold unwipe
    by_cases hv : v = i
    · subst hv
      cases e : ρ0[v]? with
      | some c =>
        dsimp only
        have hlt := (List.getElem?_eq_some_iff.mp e).1
        rw [List.getElem?_set_self (by rw [unwipe_len]; omega)]
      | none =>
        dsimp only
        have hge : ρ0.length ≤ v := List.getElem?_eq_none_iff.mp e
        exact List.getElem?_eq_none_iff.mpr (by rw [unwipe_len]; omega)
    · have r := unwipe_in (i := i) hl ((List.mem_cons.mp h).resolve_left fun z => hv z.symm)
      split
      · rw [List.getElem?_set_ne hv]; exact r
      · exact r
/-- behind a turn of a block: the outer slots as they were ahead of it, what was lent as it is now -/
theorem env_back {K : Frag} {F H F4 H4 : Hp} {σ σ2 : L2.St} {ρ ρ4 : Slots} {vs : List Nat} {B : Addr → Prop} (en : EnvOk K F H σ ρ) (ex : Ext B F H F4 H4) (hB : ∀ l, B l → Own (wipe σ vs) (wipeR ρ vs) l ∨ ¬ Own σ ρ l) (en4 : EnvOk K F4 H4 σ2 ρ4)
    (ow : ∀ l, Own σ2 ρ4 l → Own (wipe σ vs) (wipeR ρ vs) l) (out : ∀ j, j ∉ vs → σ2[j]? = σ[j]?) (hl : ρ.length = ρ4.length) : EnvOk K F4 H4 σ (unwipe ρ ρ4 vs) ∧ ∀ l, Own σ (unwipe ρ ρ4 vs) l → Own σ ρ l := by
  have o : ∀ {j : Nat} {c : Cell}, (unwipe ρ ρ4 vs)[j]? = some c → (j ∈ vs ∧ ρ[j]? = some c) ∨ (j ∉ vs ∧ ρ4[j]? = some c) := fun {j c} e => by
    by_cases hj : j ∈ vs
    · rw [unwipe_in hl hj] at e; exact .inl ⟨hj, e⟩
    · rw [unwipe_out hj] at e; exact .inr ⟨hj, e⟩
  -- an outer list of the block's own names is not among what the block may change
  have notB : ∀ {j : Nat} {l : Addr} {b : Bool} {ds : List D}, j ∈ vs → ρ[j]? = some (Cell.own b ds) → σ[j]? = some (some (V.ref l)) → ¬ Own (wipe σ vs) (wipeR ρ vs) l := fun {j l b ds} hj e1 e2 ⟨j', b', ds', f1, f2⟩ => by
    by_cases hj' : j' ∈ vs
    · have := wipeR_in hj' f1; cases this
    · rw [wipeR_out hj'] at f1
      rw [wipe_out hj'] at f2
      have := en.sep _ _ _ _ _ _ _ e1 f1 e2 f2
      exact hj' (this ▸ hj)
  refine ⟨⟨en4.sub, by rw [unwipe_len, ← hl]; exact en.len, fun j c e => ?_, fun j1 j2 l b b' ds ds' e1 e2 g1 g2 => ?_, en4.sm⟩, fun l ⟨j, b, ds, e1, e2⟩ => ?_⟩
  · rcases o e with ⟨hj, e⟩ | ⟨hj, e⟩
    · refine (en.cell j c e).ext ex fun l b ds ec eo hl => ?_
      subst ec
      have eo : σ[j]? = some (some (V.ref l)) := by
        cases q : σ[j]? with
        | none => rw [q] at eo; cases eo
        | some u => rw [q] at eo; exact congrArg some eo
      rcases hB l hl with z | z
      · exact notB hj e eo z
      · exact z ⟨j, b, ds, e, eo⟩
    · rw [← out j hj]; exact en4.cell j c e
  · rcases o e1 with ⟨hj1, e1⟩ | ⟨hj1, e1⟩ <;> rcases o e2 with ⟨hj2, e2⟩ | ⟨hj2, e2⟩
    · exact en.sep _ _ _ _ _ _ _ e1 e2 g1 g2
    · exact absurd (ow l ⟨j2, _, _, e2, by rw [out j2 hj2]; exact g2⟩) (notB hj1 e1 g1)
    · exact absurd (ow l ⟨j1, _, _, e1, by rw [out j1 hj1]; exact g1⟩) (notB hj2 e2 g2)
    · rw [← out j1 hj1] at g1
      rw [← out j2 hj2] at g2
      exact en4.sep _ _ _ _ _ _ _ e1 e2 g1 g2
  · rcases o e1 with ⟨hj, e1⟩ | ⟨hj, e1⟩
    · exact ⟨j, b, ds, e1, e2⟩
    · exact (env_wipe en vs).2 l (ow l ⟨j, b, ds, e1, by rw [out j hj]; exact e2⟩)
end
end DP

/-! DP, part 11: comprehensions; the whole of expressions. -/
namespace DP
open PySem PySem.Spec PyProof.Rows L2
theorem wipe_in {σ : L2.St} {i : Nat} : ∀ {vs : List Nat}, i ∈ vs → (wipe σ vs)[i]? = if i < σ.length then some none else none
  | v :: vs, h => by
    unfold wipe
    by_cases hv : v = i
    · subst hv
      by_cases hl : v < σ.length
      · rw [List.getElem?_set_self (by rw [wipe_length]; exact hl), if_pos hl]
      · rw [List.getElem?_eq_none (by rw [List.length_set, wipe_length]; omega), if_neg hl]
    · rw [List.getElem?_set_ne hv]
      exact wipe_in ((List.mem_cons.mp h).resolve_left fun z => hv z.symm)
theorem wipe_eq {σ σ2 : L2.St} {vs : List Nat} (hl : σ2.length = σ.length) (h : ∀ j, j ∉ vs → σ2[j]? = (wipe σ vs)[j]?) : wipe σ2 vs = wipe σ vs := by
  refine List.ext_getElem? fun j => ?_
  by_cases hj : j ∈ vs
  · rw [wipe_in hj, wipe_in hj, hl]
  · rw [wipe_out hj, h j hj]
theorem putAll_len : ∀ {is : List Nat} {ds : List D} {ρ ρ' : Slots}, putAll is ds ρ = .ok ρ' → ρ'.length = ρ.length
  | [], [], _, _, e => by cases e; rfl
  | i :: is, d :: ds, ρ, ρ', e => by
    rw [putAll_len (show putAll is ds (ρ.set i (.dat d)) = .ok ρ' from e), List.length_set]
  | [], _ :: _, _, _, e => by cases e
  | _ :: _, [], _, _, e => by cases e
theorem putTg_len {tg : Tg} {d : D} {ρ ρ' : Slots} (e : putTg tg d ρ = .ok ρ') : ρ'.length = ρ.length := by
  cases tg with
  | nm i =>
    have e : (if free ρ i = true then R.ok (ρ.set i (.dat d)) else .bad) = .ok ρ' := e
    split at e
    · cases e; rw [List.length_set]
    · cases e
  | tup is =>
    cases d with
    | tuple ds =>
      have e : (if (is.all fun i => free ρ i) = true then putAll is ds ρ else .bad) = .ok ρ' := e
      split at e
      · exact putAll_len e
      · cases e
    | _ => cases e
theorem Ext.notF {B : Addr → Prop} {F H F' H' : Hp} (e : Ext B F H F' H') {p : Addr} {o : HO} (h : F p = none) (h2 : H p = some o) (h3 : ¬ B p) : F' p = none := by
  cases z : F' p with
  | none => rfl
  | some u =>
    rcases e.n p (by rw [z]; simp) with w | w | w
    · exact absurd h w
    · rw [h2] at w; cases w
    · exact absurd w h3
/-- an object that is none of the data is written anew -/
theorem Ext.over {F H : Hp} {p : Addr} {o : HO} (h : F p = none) : Ext (fun l => l = p) F H F (upd H p o) := by
  refine ⟨fun c x e => e, fun c x e n => ?_, fun c e => .inl e, fun c e => ?_⟩
  · rw [upd_ne n]; exact e
  · by_cases hc : c = p
    · subst hc; rw [upd_same]; simp
    · rw [upd_ne hc]; exact e
theorem plain_fold {e : Expr} {env : PySem.Env} (h : plain e = true) : ∀ x, foldedSetIterable e env x = pure x := by
  intro x
  cases e with
  | Set _ _ _ => cases h
  | _ => rfl
theorem _root_.L2.PTs.imp {X : Cx} {e : List Expr} {t t' : TT} (h : PTs X e t) (i : ∀ σ H Q, t' σ H Q → t σ H Q) : PTs X e t' := ⟨fun pins s σ H Q I q => h.run pins s σ H Q I (i _ _ _ q)⟩
theorem ownOf_ix {N : List Str} {tg : Tg} : (ownOf N tg).map (·.2) = tg.slots := by
  unfold ownOf
  rw [List.map_map]
  exact List.map_id _
section
variable {G : Gm} {k : Nat} {sc raw : Scope} {N : List Str} {X : Cx} {pos : Pos}
theorem Here.blk (c : Here G k sc raw N X) (scope : Scope) (s : Shared) (H : Hp) (C : Addr) (cl : List (Str × Addr)) (fp : List Addr) : Here G k (relS scope sc) scope N (X.blk s H scope (compEnvC scope cl C X.env) fp) := by
  refine ⟨?_, c.nE, c.nd, c.calm, fun x h => ?_, c.blt, c.fns, c.cst, c.room, c.grd, c.smK⟩
  · show relS scope X.env.scope = _
    rw [c.scE]
  · show (scope.names.lookup x == some NameKind.cell) = true
    rw [h]; rfl
/-- a turn of the reading -/
def turnC (G : Gm) (elt : E) (tg : Tg) (cond : E) (d : D) (ρ1 : Slots) : R (Option D × Slots) :=
  putTg tg d (wipeR ρ1 tg.slots) >>= fun ρ2 => ev G cond ρ2 >>= fun c => peek c.2 c.1 >>= fun x => asB x >>= fun k =>
        if k = true then ev G elt c.2 >>= fun y => keep y.1 >>= fun d' => .ok (some d', unwipe ρ1 y.2 tg.slots) else .ok (none, unwipe ρ1 c.2 tg.slots)
theorem turn_eq (elt : E) (tg : Tg) (cond : E) (d : D) (ρ1 : Slots) : turnC G elt tg cond d ρ1 = (putTg tg d (wipeR ρ1 tg.slots) >>= fun ρ2 => evT G cond ρ2 >>= fun c =>
    if c.1 = true then ev G elt c.2 >>= fun y => keep y.1 >>= fun d' => R.ok (some d', unwipe ρ1 y.2 tg.slots) else R.ok (none, unwipe ρ1 c.2 tg.slots)) := by
  unfold turnC evT
  cases putTg tg d (wipeR ρ1 tg.slots) with
  | ok ρ2 =>
    simp only [bind_ok]
    cases ev G cond ρ2 with
    | ok p =>
      simp only [bind_ok]
      cases peek p.2 p.1 with
      | ok x =>
        simp only [bind_ok]
        cases asB x <;> rfl
      | _ => rfl
    | _ => rfl
  | _ => rfl
/-- the loop of a clause: from a list that holds acc0 already, on to End -/
theorem lc_loop {elt cond : E} {tg : Tg} {σ : L2.St} {B : Addr → Prop} {F H F1 H1 : Hp} {ρ1 ρe : Slots} {J : It} {items : List D} {D0 : Addr} {acc0 : List V} {accd0 rest0 : List DP.D} {End : Hp → Prop}
    (hD0 : B D0 ∨ H D0 = none) (ex1 : Ext B F H F1 H1) (en1 : EnvOk X.K F1 H1 σ ρ1) (ow1 : ∀ l, Own σ ρ1 l → B l ∧ l ≠ D0) (hF1 : F1 D0 = none) (hH1 : H1 D0 = some (.lst acc0)) (ra0 : Rps X.K F1 acc0 accd0) (hz : (accd0 ++ rest0).length ≤ sizeLine)
    (gv : Gives X.K J F1 items) (e2 : compLoop (turnC G elt tg cond) items ρ1 = .ok (rest0, ρe))
    (fin : ∀ F5 H5 acc, Ext B F H F5 H5 → Same F1 F5 → EnvOk X.K F5 H5 σ ρe → (∀ l, Own σ ρe l → B l ∧ l ≠ D0) → F5 D0 = none → H5 D0 = some (.lst acc) → Rps X.K F5 acc (accd0 ++ rest0) → End H5) :
    ∃ W : Nat → Nat → Hp → Prop, (∃ m, W 0 m H1) ∧ ∀ i m H, W i m H → (J.stop i H ∧ End H) ∨ (J.go i H ∧ ∃ Nx : Hp → Prop, (∀ H', Nx H' → ∃ m', m' < m ∧ W (i + 1) m' H') ∧ ∀ x H', J.yld i H x H' → gTg X.K tg x (wipe σ tg.slots) H' fun σ2 H2 => wipe σ2 tg.slots = wipe σ tg.slots ∧ RdT X.K (evT G cond) σ2 H2 fun b H3 =>
      if b = true then RdE X.K (ev G elt) σ2 H3 fun y H4 => ∃ acc, H4 D0 = some (.lst acc) ∧ acc.length < sizeLine ∧ Nx (upd H4 D0 (.lst (acc ++ [y]))) else Nx H3) := by
  refine ⟨fun i m H5 => ∃ F5 ρ5 acc accd rest, i ≤ items.length ∧ m = items.length - i ∧ EnvOk X.K F5 H5 σ ρ5 ∧ Ext B F H F5 H5 ∧ Same F1 F5 ∧ (∀ l, Own σ ρ5 l → B l ∧ l ≠ D0) ∧ F5 D0 = none ∧ H5 D0 = some (.lst acc) ∧ Rps X.K F5 acc accd ∧
      compLoop (turnC G elt tg cond) (items.drop i) ρ5 = .ok (rest, ρe) ∧ accd ++ rest = accd0 ++ rest0, ⟨items.length, F1, ρ1, acc0, accd0, rest0, Nat.zero_le _, rfl, en1, ex1, fun _ _ z => z, ow1, hF1, hH1, ra0, by rw [List.drop_zero, e2], rfl⟩, ?_⟩
  · rintro i m H5 ⟨F5, ρ5, acc, accd, rest, hi5, rfl, en5, ex5, sm5, ow5, hF5, hH5, ra, el5, ea5⟩
    by_cases hlt : i < items.length
    · refine .inr ⟨gv.go i H5 hlt (sm5.trans en5.sub), _, fun H' z => z, fun x H6 hy => ?_⟩
      have hd : items[i]? = some items[i] := List.getElem?_eq_getElem hlt
      obtain ⟨F6, ex6, sb6, rx⟩ := gv.yl i F5 H5 x H6 sm5 en5.sub hy _ hd
      have en6 : EnvOk X.K F6 H6 σ ρ5 := en5.ext ex6 sb6 fun _ _ z => z
      have hF6 : F6 D0 = none := ex6.notF hF5 hH5 id
      have hH6 : H6 D0 = some (.lst acc) := ex6.h _ _ hH5 id
      have nB5 : ¬ Own σ ρ5 D0 := fun z => (ow5 _ z).2 rfl
      rw [List.drop_eq_getElem_cons hlt] at el5
      have el5 : (turnC G elt tg cond items[i] ρ5 >>= fun t => compLoop (turnC G elt tg cond) (items.drop (i + 1)) t.2 >>= fun q => R.ok ((match t.1 with | some x => x :: q.1 | none => q.1), q.2)) = .ok (rest, ρe) := el5
      rw [turn_eq] at el5
      obtain ⟨t, et, el5⟩ := ok_bind el5
      obtain ⟨q6, eq6, el5⟩ := ok_bind el5
      obtain ⟨ρ6, ep, et⟩ := ok_bind et
      obtain ⟨k6, ek, et⟩ := ok_bind et
      obtain ⟨enW, owW⟩ := env_wipe en6 tg.slots
      refine take_tg enW ep rx fun σ2 tk => ?_
      have hls : σ2.length = σ.length := by
        have a1 := tk.en.len
        have a2 := putTg_len ep
        rw [wipeR_len] at a2
        have a3 := en6.len
        omega
      refine ⟨wipe_eq hls fun j hj => (tk.out j hj).1, F6, ρ6, tk.en, ?_⟩
      rw [ek]
      intro b F7 H7 ex7 en7 ow7 rb
      obtain rfl : b = k6.1 := rb
      have nB6 : ¬ Own σ2 ρ6 D0 := fun z => nB5 (owW _ (tk.own _ z))
      have hF7 : F7 D0 = none := ex7.notF hF6 hH6 nB6
      have hH7 : H7 D0 = some (.lst acc) := ex7.h _ _ hH6 nB6
      have ex67 : Ext (Own (wipe σ tg.slots) (wipeR ρ5 tg.slots)) F6 H6 F7 H7 := ex7.mono tk.own
      have outj : ∀ j, j ∉ tg.slots → σ2[j]? = σ[j]? := fun j hj => by rw [(tk.out j hj).1, wipe_out hj]
      have lenOf : ∀ {ρx : Slots} {Fx Hx : Hp}, EnvOk X.K Fx Hx σ2 ρx → ρ5.length = ρx.length := fun en => by
        have a1 := en.len
        have a3 := en6.len
        omega
      have exA : Ext B F H F7 H7 := ((ex5.trans ex6 fun l z => z.elim).trans ex7 fun l z => .inl (ow5 _ (owW _ (tk.own _ z))).1)
      cases hk : k6.1 with
      | true =>
        rw [hk] at et
        rw [if_pos rfl] at et
        obtain ⟨y, ey, et⟩ := ok_bind et
        obtain ⟨d', ed, et⟩ := ok_bind et
        cases et
        refine iteT ⟨F7, k6.2, en7, ?_⟩
        rw [ey]
        intro v F8 H8 ex8 en8 ow8 rv
        have ow78 : ∀ l, Own σ2 k6.2 l → Own σ2 ρ6 l := ow7
        have nB7 : ¬ Own σ2 k6.2 D0 := fun z => nB6 (ow78 _ z)
        have hF8 : F8 D0 = none := ex8.notF hF7 hH7 nB7
        have hH8 : H8 D0 = some (.lst acc) := ex8.h _ _ hH7 nB7
        have exT : Ext (Own (wipe σ tg.slots) (wipeR ρ5 tg.slots)) F6 H6 F8 H8 := ex67.trans ex8 fun l z => .inl (tk.own _ (ow78 _ z))
        obtain ⟨enB, owB⟩ := env_back en6 exT (fun l z => .inl z) en8 (fun l z => tk.own _ (ow78 _ (ow8 _ z))) outj (lenOf en8)
        have exO : Ext (fun l => l = D0) F8 H8 F8 (upd H8 D0 (.lst (acc ++ [v]))) := Ext.over hF8
        have exB : Ext B F H F8 H8 := exA.trans ex8 fun l z => .inl (ow5 _ (owW _ (tk.own _ (ow78 _ z)))).1
        have hlen : acc.length < sizeLine := by
          have l1 := ra.len
          have l2 := congrArg List.length ea5
          rw [← (Prod.mk.inj (R.ok.inj el5)).1, List.length_append] at l2
          have l3 : (d' :: q6.1).length = q6.1.length + 1 := rfl
          dsimp only at l2
          omega
        refine ⟨acc, hH8, hlen, items.length - (i + 1), by omega, F8, _, acc ++ [v], accd ++ [d'], q6.1, hlt, rfl,
          enB.ext exO (sub_updH enB.sub hF8) fun l z w => nB5 (owB _ (w ▸ z)), exB.trans exO fun l z => by rw [z]; exact hD0, ?_, fun l z => ow5 _ (owB _ z), hF8, upd_same, ?_, ?_, ?_⟩
        · exact sm5.trans (ex6.f.trans (ex7.f.trans ex8.f))
        · exact (ra.mono (ex6.f.trans (ex7.f.trans ex8.f))).append (.cons (keep_rp rv ed) .nil)
        · rw [← (Prod.mk.inj (R.ok.inj el5)).2]; exact eq6
        · rw [List.append_assoc]
          rw [← (Prod.mk.inj (R.ok.inj el5)).1] at ea5
          exact ea5
      | false =>
        rw [hk] at et
        rw [if_neg (by decide)] at et
        cases et
        refine iteF ?_
        obtain ⟨enB, owB⟩ := env_back en6 ex67 (fun l z => .inl z) en7 (fun l z => tk.own _ (ow7 _ z)) outj (lenOf en7)
        refine ⟨items.length - (i + 1), by omega, F7, _, acc, accd, q6.1, hlt, rfl, enB, exA, sm5.trans (ex6.f.trans ex7.f), fun l z => ow5 _ (owB _ z), hF7, hH7, ra.mono (ex6.f.trans ex7.f), ?_, ?_⟩
        · rw [← (Prod.mk.inj (R.ok.inj el5)).2]; exact eq6
        · rw [← (Prod.mk.inj (R.ok.inj el5)).1] at ea5
          exact ea5
    · have hge : items.length ≤ i := Nat.le_of_not_lt hlt
      refine .inl ⟨gv.stop i H5 hge (sm5.trans en5.sub), ?_⟩
      rw [List.drop_eq_nil_of_le hge] at el5
      cases el5
      rw [List.append_nil] at ea5
      exact fin F5 H5 acc ex5 sm5 en5 ow5 hF5 hH5 (by rw [← ea5]; exact ra)
/-- a turn of the outer clause -/
def turnC2 (G : Gm) (elt : E) (tg : Tg) (cond : E) (tg2 : Tg) (it2 : I) (cond2 : E) (d : D) (ρ1 : Slots) : R (List D × Slots) :=
  putTg tg d (wipeR ρ1 (tg.slots ++ tg2.slots)) >>= fun ρ2 => evT G cond ρ2 >>= fun c =>
        if c.1 = true then evI G it2 c.2 >>= fun p2 => compLoop (turnC G elt tg2 cond2) p2.1 p2.2 >>= fun q => .ok (q.1, unwipe ρ1 q.2 (tg.slots ++ tg2.slots))
        else .ok ([], unwipe ρ1 c.2 (tg.slots ++ tg2.slots))
theorem comp2_eq (elt : E) (tg : Tg) (it : I) (cond : E) (tg2 : Tg) (it2 : I) (cond2 : E) (ρ : Slots) : ev G (.comp2 elt tg it cond tg2 it2 cond2) ρ = (evI G it ρ >>= fun p => compLoop2 (turnC2 G elt tg cond tg2 it2 cond2) p.1 p.2 >>= fun q => if sz q.1.length = true then R.ok (Opd.val (.list q.1), q.2) else .bad) := by
  show (evI G it ρ >>= fun p =>
      compLoop2 (fun d ρ1 => putTg tg d (wipeR ρ1 (tg.slots ++ tg2.slots)) >>= fun ρ2 => ev G cond ρ2 >>= fun c => peek c.2 c.1 >>= fun x => asB x >>= fun k =>
        if k = true then evI G it2 c.2 >>= fun p2 => compLoop (turnC G elt tg2 cond2) p2.1 p2.2 >>= fun q => .ok (q.1, unwipe ρ1 q.2 (tg.slots ++ tg2.slots))
        else .ok ([], unwipe ρ1 c.2 (tg.slots ++ tg2.slots))) p.1 p.2 >>= fun q => if sz q.1.length = true then R.ok (Opd.val (.list q.1), q.2) else .bad) = _
  congr 1
  funext p
  congr 2
  funext d ρ1
  unfold turnC2 evT
  cases putTg tg d (wipeR ρ1 (tg.slots ++ tg2.slots)) with
  | ok ρ2 =>
    simp only [bind_ok]
    cases ev G cond ρ2 with
    | ok p =>
      simp only [bind_ok]
      cases peek p.2 p.1 with
      | ok x =>
        simp only [bind_ok]
        cases asB x <;> rfl
      | _ => rfl
    | _ => rfl
  | _ => rfl
theorem lc_of {elt cond : E} {tg : Tg} {it : I} {σ : L2.St} {H : Hp} {Q : VK} {N : List Str} (q : RdN X.K (ev G (.comp elt tg it cond)) σ H Q) :
    tLc (RdI X.K (evI G it)) (gTg X.K tg) (RdT X.K (evT G cond)) (RdE X.K (ev G elt)) ((ownOf N tg).map (·.2)) σ H Q := by
  obtain ⟨F, ρ, ds, ρ', en, e, q⟩ := q
  have e : (evI G it ρ >>= fun p => compLoop (turnC G elt tg cond) p.1 p.2 >>= fun q => R.ok (Opd.val (.list q.1), q.2)) = .ok (.val (.list ds), ρ') := e
  obtain ⟨p, e1, e⟩ := ok_bind e
  obtain ⟨r, e2, e⟩ := ok_bind e
  cases e
  rw [ownOf_ix]
  refine ⟨F, ρ, en, ?_⟩
  rw [e1]
  intro J F1 H1 ex1 en1 ow1 gv D hD
  have gv : Gives X.K J F1 p.1 := gv
  have hD0 : H D = none := ex1.free hD
  have nB : ¬ Own σ ρ D := own_none en hD0
  have hF1 : F1 D = none := en1.sub.free hD
  refine ⟨fun i m H5 => ∃ F5 ρ5 acc accd rest, i ≤ p.1.length ∧ m = p.1.length - i ∧ EnvOk X.K F5 H5 σ ρ5 ∧ Ext (Own σ ρ) F H F5 H5 ∧ Same F1 F5 ∧ (∀ l, Own σ ρ5 l → Own σ ρ l) ∧ F5 D = none ∧ H5 D = some (.lst acc) ∧ Rps X.K F5 acc accd ∧ acc.length ≤ i ∧
      compLoop (turnC G elt tg cond) (p.1.drop i) ρ5 = .ok (rest, r.2) ∧ accd ++ rest = r.1, ⟨p.1.length, F1, p.2, [], [], r.1, Nat.zero_le _, rfl, ?_, ?_, fun _ _ z => z, ow1, hF1, upd_same, .nil, Nat.le_refl _, by rw [List.drop_zero, e2], rfl⟩, ?_⟩
  · exact en1.ext (Ext.laidH (B := fun _ => False) hD) (sub_updH en1.sub hF1) fun _ _ z => z
  · exact (ex1.trans (Ext.laidH (B := fun _ => False) hD) fun l z => z.elim)
  · rintro i m H5 ⟨F5, ρ5, acc, accd, rest, hi5, rfl, en5, ex5, sm5, ow5, hF5, hH5, ra, hl5, el5, ea5⟩
    by_cases hlt : i < p.1.length
    · refine .inr ⟨gv.go i H5 hlt (sm5.trans en5.sub), _, fun H' z => z, fun x H6 hy => ?_⟩
      have hd : p.1[i]? = some p.1[i] := List.getElem?_eq_getElem hlt
      obtain ⟨F6, ex6, sb6, rx⟩ := gv.yl i F5 H5 x H6 sm5 en5.sub hy _ hd
      have en6 : EnvOk X.K F6 H6 σ ρ5 := en5.ext ex6 sb6 fun _ _ z => z
      have hF6 : F6 D = none := ex6.notF hF5 hH5 id
      have hH6 : H6 D = some (.lst acc) := ex6.h _ _ hH5 id
      have nB5 : ¬ Own σ ρ5 D := fun z => nB (ow5 _ z)
      rw [List.drop_eq_getElem_cons hlt] at el5
      have el5 : (turnC G elt tg cond p.1[i] ρ5 >>= fun t => compLoop (turnC G elt tg cond) (p.1.drop (i + 1)) t.2 >>= fun q => R.ok ((match t.1 with | some x => x :: q.1 | none => q.1), q.2)) = .ok (rest, r.2) := el5
      rw [turn_eq] at el5
      obtain ⟨t, et, el5⟩ := ok_bind el5
      obtain ⟨q6, eq6, el5⟩ := ok_bind el5
      obtain ⟨ρ6, ep, et⟩ := ok_bind et
      obtain ⟨k6, ek, et⟩ := ok_bind et
      obtain ⟨enW, owW⟩ := env_wipe en6 tg.slots
      refine take_tg enW ep rx fun σ2 tk => ?_
      have hls : σ2.length = σ.length := by
        have a1 := tk.en.len
        have a2 := putTg_len ep
        rw [wipeR_len] at a2
        have a3 := en6.len
        omega
      refine ⟨wipe_eq hls fun j hj => (tk.out j hj).1, F6, ρ6, tk.en, ?_⟩
      rw [ek]
      intro b F7 H7 ex7 en7 ow7 rb
      obtain rfl : b = k6.1 := rb
      have nB6 : ¬ Own σ2 ρ6 D := fun z => nB5 (owW _ (tk.own _ z))
      have hF7 : F7 D = none := ex7.notF hF6 hH6 nB6
      have hH7 : H7 D = some (.lst acc) := ex7.h _ _ hH6 nB6
      have ex67 : Ext (Own (wipe σ tg.slots) (wipeR ρ5 tg.slots)) F6 H6 F7 H7 := ex7.mono tk.own
      have outj : ∀ j, j ∉ tg.slots → σ2[j]? = σ[j]? := fun j hj => by rw [(tk.out j hj).1, wipe_out hj]
      have lenOf : ∀ {ρx : Slots} {Fx Hx : Hp}, EnvOk X.K Fx Hx σ2 ρx → ρ5.length = ρx.length := fun en => by
        have a1 := en.len
        have a3 := en6.len
        omega
      have exA : Ext (Own σ ρ) F H F7 H7 := ((ex5.trans ex6 fun l z => z.elim).trans ex7 fun l z => .inl (ow5 _ (owW _ (tk.own _ z))))
      cases hk : k6.1 with
      | true =>
        rw [hk] at et
        rw [if_pos rfl] at et
        obtain ⟨y, ey, et⟩ := ok_bind et
        obtain ⟨d', ed, et⟩ := ok_bind et
        cases et
        refine iteT ⟨F7, k6.2, en7, ?_⟩
        rw [ey]
        intro v F8 H8 ex8 en8 ow8 rv
        have ow78 : ∀ l, Own σ2 k6.2 l → Own σ2 ρ6 l := ow7
        have nB7 : ¬ Own σ2 k6.2 D := fun z => nB6 (ow78 _ z)
        have hF8 : F8 D = none := ex8.notF hF7 hH7 nB7
        have hH8 : H8 D = some (.lst acc) := ex8.h _ _ hH7 nB7
        have exT : Ext (Own (wipe σ tg.slots) (wipeR ρ5 tg.slots)) F6 H6 F8 H8 := ex67.trans ex8 fun l z => .inl (tk.own _ (ow78 _ z))
        obtain ⟨enB, owB⟩ := env_back en6 exT (fun l z => .inl z) en8 (fun l z => tk.own _ (ow78 _ (ow8 _ z))) outj (lenOf en8)
        have exO : Ext (fun l => l = D) F8 H8 F8 (upd H8 D (.lst (acc ++ [v]))) := Ext.over hF8
        have exB : Ext (Own σ ρ) F H F8 H8 := exA.trans ex8 fun l z => .inl (ow5 _ (owW _ (tk.own _ (ow78 _ z))))
        refine ⟨acc, hH8, Nat.lt_of_le_of_lt hl5 (Nat.lt_of_lt_of_le hlt gv.len), p.1.length - (i + 1), by omega, F8, _, acc ++ [v], accd ++ [d'], q6.1, hlt, rfl,
          enB.ext exO (sub_updH enB.sub hF8) fun l z w => nB5 (owB _ (w ▸ z)), exB.trans exO fun l z => .inr (by rw [z]; exact hD0), ?_, fun l z => ow5 _ (owB _ z), hF8, upd_same, ?_, ?_, ?_, ?_⟩
        · exact sm5.trans (ex6.f.trans (ex7.f.trans ex8.f))
        · exact (ra.mono (ex6.f.trans (ex7.f.trans ex8.f))).append (.cons (keep_rp rv ed) .nil)
        · rw [List.length_append]
          show acc.length + 1 ≤ i + 1
          omega
        · rw [← (Prod.mk.inj (R.ok.inj el5)).2]; exact eq6
        · rw [List.append_assoc]
          rw [← (Prod.mk.inj (R.ok.inj el5)).1] at ea5
          exact ea5
      | false =>
        rw [hk] at et
        rw [if_neg (by decide)] at et
        cases et
        refine iteF ?_
        obtain ⟨enB, owB⟩ := env_back en6 ex67 (fun l z => .inl z) en7 (fun l z => tk.own _ (ow7 _ z)) outj (lenOf en7)
        refine ⟨p.1.length - (i + 1), by omega, F7, _, acc, accd, q6.1, hlt, rfl, enB, exA, sm5.trans (ex6.f.trans ex7.f), fun l z => ow5 _ (owB _ z), hF7, hH7, ra.mono (ex6.f.trans ex7.f), by omega, ?_, ?_⟩
        · rw [← (Prod.mk.inj (R.ok.inj el5)).2]; exact eq6
        · rw [← (Prod.mk.inj (R.ok.inj el5)).1] at ea5
          exact ea5
    · have hge : p.1.length ≤ i := Nat.le_of_not_lt hlt
      refine .inl ⟨gv.stop i H5 hge (sm5.trans en5.sub), ?_⟩
      rw [List.drop_eq_nil_of_le hge] at el5
      cases el5
      rw [List.append_nil] at ea5
      subst ea5
      have back : upd (fun a => if a = D then none else H5 a) D (.lst acc) = H5 := by
        funext a
        by_cases ha : a = D
        · subst ha; rw [upd_same, hH5]
        · rw [upd_ne ha]; exact if_neg ha
      rw [← back]
      have hne : ∀ {a : Addr} {o : HO}, H5 a = some o → a ≠ D → (if a = D then none else H5 a) = some o := fun h n => by rw [if_neg n]; exact h
      refine q D acc F5 _ ⟨ex5.f, fun a o e n => ?_, ex5.n, fun a e => ?_⟩ ⟨fun a o e => ?_, en5.len, fun j cl ej => ?_, en5.sep, en5.sm⟩ ow5 (if_pos rfl) ra (Nat.le_trans hl5 (Nat.le_trans hi5 gv.len))
      · exact hne (ex5.h a o e n) fun z => by rw [z, hD0] at e; cases e
      · rw [if_neg (fun z => e (by rw [z]; exact hD0))]
        exact ex5.d a e
      · exact hne (en5.sub a o e) fun z => by rw [z, hF5] at e; cases e
      · have hc := en5.cell j cl ej
        cases cl with
        | un => trivial
        | dat d => exact hc
        | own b ds =>
          obtain ⟨l, xs, h1, h2, h3, h4, h5⟩ := hc
          refine ⟨l, xs, h1, h2, hne h3 fun z => ?_, h4, h5⟩
          have h1 : σ[j]? = some (some (V.ref l)) := by
            cases q : σ[j]? with
            | none => rw [q] at h1; cases h1
            | some u => rw [q] at h1; exact congrArg some h1
          exact nB (ow5 _ ⟨j, b, ds, ej, by rw [← z]; exact h1⟩)
theorem s_comp (c : Here G k sc raw N X) {elt cond : E} {tg : Tg} {it : I} {elt' tg' it' : Expr} {ifs' : List Expr} {scope : Scope} (ok : blkC N sc scope (ownOf N tg) = true) (hi : PI X tg' it' (RdI X.K (evI G it))) (hp : plain it' = true)
    (hg : ∀ (s : Shared) (H : Hp) (C : Addr) (cl : List (Str × Addr)) (fp : List Addr), PG (X.blk s H scope (compEnvC scope cl C X.env) fp) tg' (gTg X.K tg))
    (ht : ∀ (s : Shared) (H : Hp) (C : Addr) (cl : List (Str × Addr)) (fp : List Addr), PTs (X.blk s H scope (compEnvC scope cl C X.env) fp) ifs' (RdT X.K (evT G cond)))
    (he : ∀ (s : Shared) (H : Hp) (C : Addr) (cl : List (Str × Addr)) (fp : List Addr), PE (X.blk s H scope (compEnvC scope cl C X.env) fp) elt' (RdE X.K (ev G elt))) :
    PE X (.ListComp elt' [⟨tg', it', ifs', 0⟩] scope pos) (RdN X.K (ev G (.comp elt tg it cond))) := by
  have okB : BlkOk X.N X.env.scope scope (ownOf N tg) := by rw [c.nE, c.scE]; exact blkOk_by ok
  exact (pe_lc (own := ownOf N tg) c.calm (nd_of c) hi okB hg ht he (plain_fold hp)).imp fun σ H Q q => lc_of q
theorem lc2_of {elt cond cond2 : E} {tg tg2 : Tg} {it it2 : I} {σ : L2.St} {H : Hp} {Q : VK} {N : List Str} (q : RdN X.K (ev G (.comp2 elt tg it cond tg2 it2 cond2)) σ H Q) :
    tLc2 (RdI X.K (evI G it)) (gTg X.K tg) (RdT X.K (evT G cond)) (RdI X.K (evI G it2)) (gTg X.K tg2) (RdT X.K (evT G cond2)) (RdE X.K (ev G elt)) ((ownOf N tg ++ ownOf N tg2).map (·.2)) tg2.slots σ H Q := by
  obtain ⟨F, ρ, ds, ρ', en, e, q⟩ := q
  rw [comp2_eq] at e
  obtain ⟨p, e1, e⟩ := ok_bind e
  obtain ⟨r, e2, e⟩ := ok_bind e
  split at e
  rotate_left
  · cases e
  rename_i hsz
  have hsz : r.1.length ≤ sizeLine := sz_le hsz
  cases e
  have hvs : (ownOf N tg ++ ownOf N tg2).map (·.2) = tg.slots ++ tg2.slots := by rw [List.map_append, ownOf_ix, ownOf_ix]
  rw [hvs]
  generalize hvv : tg.slots ++ tg2.slots = vs
  have hsub : ∀ j, j ∉ vs → j ∉ tg.slots := fun j hj z => hj (by rw [← hvv]; exact List.mem_append_left _ z)
  refine ⟨F, ρ, en, ?_⟩
  rw [e1]
  intro J F1 H1 ex1 en1 ow1 gv D hD
  have gv : Gives X.K J F1 p.1 := gv
  have hD0 : H D = none := ex1.free hD
  have nB : ¬ Own σ ρ D := own_none en hD0
  have hF1 : F1 D = none := en1.sub.free hD
  refine ⟨fun i m H5 => ∃ F5 ρ5 acc accd rest, i ≤ p.1.length ∧ m = p.1.length - i ∧ EnvOk X.K F5 H5 σ ρ5 ∧ Ext (Own σ ρ) F H F5 H5 ∧ Same F1 F5 ∧ (∀ l, Own σ ρ5 l → Own σ ρ l) ∧ F5 D = none ∧ H5 D = some (.lst acc) ∧ Rps X.K F5 acc accd ∧
      compLoop2 (turnC2 G elt tg cond tg2 it2 cond2) (p.1.drop i) ρ5 = .ok (rest, r.2) ∧ accd ++ rest = r.1, ⟨p.1.length, F1, p.2, [], [], r.1, Nat.zero_le _, rfl, ?_, ?_, fun _ _ z => z, ow1, hF1, upd_same, .nil, by rw [List.drop_zero, e2], rfl⟩, ?_⟩
  · exact en1.ext (Ext.laidH (B := fun _ => False) hD) (sub_updH en1.sub hF1) fun _ _ z => z
  · exact (ex1.trans (Ext.laidH (B := fun _ => False) hD) fun l z => z.elim)
  · rintro i m H5 ⟨F5, ρ5, acc, accd, rest, hi5, rfl, en5, ex5, sm5, ow5, hF5, hH5, ra, el5, ea5⟩
    by_cases hlt : i < p.1.length
    · refine .inr ⟨gv.go i H5 hlt (sm5.trans en5.sub), _, fun H' z => z, fun x H6 hy => ?_⟩
      have hd : p.1[i]? = some p.1[i] := List.getElem?_eq_getElem hlt
      obtain ⟨F6, ex6, sb6, rx⟩ := gv.yl i F5 H5 x H6 sm5 en5.sub hy _ hd
      have en6 : EnvOk X.K F6 H6 σ ρ5 := en5.ext ex6 sb6 fun _ _ z => z
      have hF6 : F6 D = none := ex6.notF hF5 hH5 id
      have hH6 : H6 D = some (.lst acc) := ex6.h _ _ hH5 id
      have nB5 : ¬ Own σ ρ5 D := fun z => nB (ow5 _ z)
      rw [List.drop_eq_getElem_cons hlt] at el5
      have el5 : (turnC2 G elt tg cond tg2 it2 cond2 p.1[i] ρ5 >>= fun t => compLoop2 (turnC2 G elt tg cond tg2 it2 cond2) (p.1.drop (i + 1)) t.2 >>= fun q => R.ok (t.1 ++ q.1, q.2)) = .ok (rest, r.2) := el5
      obtain ⟨t, et, el5⟩ := ok_bind el5
      obtain ⟨q6, eq6, el5⟩ := ok_bind el5
      have er1 : t.1 ++ q6.1 = rest := (Prod.mk.inj (R.ok.inj el5)).1
      have er2 : q6.2 = r.2 := (Prod.mk.inj (R.ok.inj el5)).2
      have hlenA : (accd ++ t.1).length ≤ sizeLine := by
        have l2 := congrArg List.length ea5
        rw [← er1, List.length_append, List.length_append] at l2
        rw [List.length_append]
        omega
      unfold turnC2 at et
      rw [hvv] at et
      obtain ⟨ρ6, ep, et⟩ := ok_bind et
      obtain ⟨k6, ek, et⟩ := ok_bind et
      obtain ⟨enW, owW⟩ := env_wipe en6 vs
      refine take_tg enW ep rx fun σ2 tk => ?_
      have hls : σ2.length = σ.length := by
        have a1 := tk.en.len
        have a2 := putTg_len ep
        rw [wipeR_len] at a2
        have a3 := en6.len
        omega
      refine ⟨wipe_eq hls fun j hj => (tk.out j (hsub j hj)).1, F6, ρ6, tk.en, ?_⟩
      rw [ek]
      intro b F7 H7 ex7 en7 ow7 rb
      obtain rfl : b = k6.1 := rb
      have nB6 : ¬ Own σ2 ρ6 D := fun z => nB5 (owW _ (tk.own _ z))
      have hF7 : F7 D = none := ex7.notF hF6 hH6 nB6
      have hH7 : H7 D = some (.lst acc) := ex7.h _ _ hH6 nB6
      have ex67 : Ext (Own (wipe σ vs) (wipeR ρ5 vs)) F6 H6 F7 H7 := ex7.mono tk.own
      have outj : ∀ j, j ∉ vs → σ2[j]? = σ[j]? := fun j hj => by rw [(tk.out j (hsub j hj)).1, wipe_out hj]
      have lenOf : ∀ {ρx : Slots} {Fx Hx : Hp}, EnvOk X.K Fx Hx σ2 ρx → ρ5.length = ρx.length := fun en => by
        have a1 := en.len
        have a3 := en6.len
        omega
      have ex56 : Ext (Own σ ρ) F H F6 H6 := ex5.trans ex6 fun l z => z.elim
      have exA : Ext (Own σ ρ) F H F7 H7 := ex56.trans ex7 fun l z => .inl (ow5 _ (owW _ (tk.own _ z)))
      cases hk : k6.1 with
      | true =>
        rw [hk] at et
        rw [if_pos rfl] at et
        obtain ⟨p2, ei2, et⟩ := ok_bind et
        obtain ⟨r2, el2, et⟩ := ok_bind et
        have et1 : r2.1 = t.1 := (Prod.mk.inj (R.ok.inj et)).1 ▸ rfl
        have et2 : unwipe ρ5 r2.2 vs = t.2 := (Prod.mk.inj (R.ok.inj et)).2 ▸ rfl
        refine iteT ⟨F7, k6.2, en7, ?_⟩
        rw [ei2]
        intro J1 F8 H8 ex8 en8 ow8 gv1
        have ow78 : ∀ l, Own σ2 k6.2 l → Own σ2 ρ6 l := ow7
        have nB7 : ¬ Own σ2 k6.2 D := fun z => nB6 (ow78 _ z)
        have hF8 : F8 D = none := ex8.notF hF7 hH7 nB7
        have hH8 : H8 D = some (.lst acc) := ex8.h _ _ hH7 nB7
        have exB : Ext (fun l => Own (wipe σ vs) (wipeR ρ5 vs) l ∨ l = D) F6 H6 F8 H8 := (ex67.trans ex8 fun l z => .inl (tk.own _ (ow78 _ z))).mono fun l z => .inl z
        refine lc_loop (σ := σ2) (B := fun l => Own (wipe σ vs) (wipeR ρ5 vs) l ∨ l = D) (F := F6) (H := H6) (F1 := F8) (H1 := H8) (ρ1 := p2.2) (ρe := r2.2) (J := J1) (items := p2.1) (D0 := D) (acc0 := acc) (accd0 := accd) (rest0 := r2.1)
          (.inl (.inr rfl)) exB en8 (fun l z => ⟨.inl (tk.own _ (ow78 _ (ow8 _ z))), fun w => nB7 (by rw [← w]; exact ow8 _ z)⟩) hF8 hH8 (ra.mono (ex6.f.trans (ex7.f.trans ex8.f))) (by rw [et1]; exact hlenA) gv1 el2 ?_
        intro F9 H9 acc9 ex9 sm9 en9 ow9 hF9 hH9 ra9
        have ow9' : ∀ l, Own σ2 r2.2 l → Own (wipe σ vs) (wipeR ρ5 vs) l := fun l z => (ow9 l z).1.resolve_right (ow9 l z).2
        obtain ⟨enB, owB⟩ := env_back en6 ex9 (fun l z => z.imp id fun w => by rw [w]; exact nB5) en9 ow9' outj (lenOf en9)
        refine ⟨p.1.length - (i + 1), by omega, F9, _, acc9, accd ++ r2.1, q6.1, hlt, rfl, enB, ex56.trans ex9 fun l z => z.imp (fun w => ow5 _ (owW _ w)) fun w => by rw [w]; exact hD0, sm5.trans (ex6.f.trans (ex7.f.trans (ex8.f.trans sm9))), fun l z => ow5 _ (owB _ z), hF9, hH9, ra9, ?_, ?_⟩
        · rw [et2, ← er2]; exact eq6
        · rw [List.append_assoc, et1, er1]; exact ea5
      | false =>
        rw [hk] at et
        rw [if_neg (by decide)] at et
        cases et
        refine iteF ?_
        obtain ⟨enB, owB⟩ := env_back en6 ex67 (fun l z => .inl z) en7 (fun l z => tk.own _ (ow7 _ z)) outj (lenOf en7)
        refine ⟨p.1.length - (i + 1), by omega, F7, _, acc, accd, q6.1, hlt, rfl, enB, exA, sm5.trans (ex6.f.trans ex7.f), fun l z => ow5 _ (owB _ z), hF7, hH7, ra.mono (ex6.f.trans ex7.f), ?_, ?_⟩
        · rw [← er2]; exact eq6
        · rw [← er1] at ea5
          exact ea5
    · have hge : p.1.length ≤ i := Nat.le_of_not_lt hlt
      refine .inl ⟨gv.stop i H5 hge (sm5.trans en5.sub), ?_⟩
      rw [List.drop_eq_nil_of_le hge] at el5
      cases el5
      rw [List.append_nil] at ea5
      subst ea5
      have back : upd (fun a => if a = D then none else H5 a) D (.lst acc) = H5 := by
        funext a
        by_cases ha : a = D
        · subst ha; rw [upd_same, hH5]
        · rw [upd_ne ha]; exact if_neg ha
      rw [← back]
      have hne : ∀ {a : Addr} {o : HO}, H5 a = some o → a ≠ D → (if a = D then none else H5 a) = some o := fun h n => by rw [if_neg n]; exact h
      refine q D acc F5 _ ⟨ex5.f, fun a o e n => ?_, ex5.n, fun a e => ?_⟩ ⟨fun a o e => ?_, en5.len, fun j cl ej => ?_, en5.sep, en5.sm⟩ ow5 (if_pos rfl) ra (by have := ra.len; omega)
      · exact hne (ex5.h a o e n) fun z => by rw [z, hD0] at e; cases e
      · rw [if_neg (fun z => e (by rw [z]; exact hD0))]
        exact ex5.d a e
      · exact hne (en5.sub a o e) fun z => by rw [z, hF5] at e; cases e
      · have hc := en5.cell j cl ej
        cases cl with
        | un => trivial
        | dat d => exact hc
        | own b ds =>
          obtain ⟨l, xs, h1, h2, h3, h4, h5⟩ := hc
          refine ⟨l, xs, h1, h2, hne h3 fun z => ?_, h4, h5⟩
          have h1 : σ[j]? = some (some (V.ref l)) := by
            cases q : σ[j]? with
            | none => rw [q] at h1; cases h1
            | some u => rw [q] at h1; exact congrArg some h1
          exact nB (ow5 _ ⟨j, b, ds, ej, by rw [← z]; exact h1⟩)
theorem s_comp2 (c : Here G k sc raw N X) {elt cond cond2 : E} {tg tg2 : Tg} {it it2 : I} {elt' tg' it' tg2' it2' : Expr} {ifs' ifs2' : List Expr} {scope : Scope} (ok : blkC N sc scope (ownOf N tg ++ ownOf N tg2) = true) (hi : PI X tg' it' (RdI X.K (evI G it))) (hp : plain it' = true) (hp2 : plain it2' = true)
    (hg : ∀ (s : Shared) (H : Hp) (C : Addr) (cl : List (Str × Addr)) (fp : List Addr), PG (X.blk s H scope (compEnvC scope cl C X.env) fp) tg' (gTg X.K tg))
    (ht : ∀ (s : Shared) (H : Hp) (C : Addr) (cl : List (Str × Addr)) (fp : List Addr), PTs (X.blk s H scope (compEnvC scope cl C X.env) fp) ifs' (RdT X.K (evT G cond)))
    (hi2 : ∀ (s : Shared) (H : Hp) (C : Addr) (cl : List (Str × Addr)) (fp : List Addr), PI (X.blk s H scope (compEnvC scope cl C X.env) fp) tg2' it2' (RdI X.K (evI G it2)))
    (hg2 : ∀ (s : Shared) (H : Hp) (C : Addr) (cl : List (Str × Addr)) (fp : List Addr), PG (X.blk s H scope (compEnvC scope cl C X.env) fp) tg2' (gTg X.K tg2))
    (ht2 : ∀ (s : Shared) (H : Hp) (C : Addr) (cl : List (Str × Addr)) (fp : List Addr), PTs (X.blk s H scope (compEnvC scope cl C X.env) fp) ifs2' (RdT X.K (evT G cond2)))
    (he : ∀ (s : Shared) (H : Hp) (C : Addr) (cl : List (Str × Addr)) (fp : List Addr), PE (X.blk s H scope (compEnvC scope cl C X.env) fp) elt' (RdE X.K (ev G elt))) :
    PE X (.ListComp elt' [⟨tg', it', ifs', 0⟩, ⟨tg2', it2', ifs2', 0⟩] scope pos) (RdN X.K (ev G (.comp2 elt tg it cond tg2 it2 cond2))) := by
  have okB : BlkOk X.N X.env.scope scope (ownOf N tg ++ ownOf N tg2) := by rw [c.nE, c.scE]; exact blkOk_by ok
  refine (pe_lc2 (own := ownOf N tg ++ ownOf N tg2) (vs1 := tg2.slots) c.calm (nd_of c) hi okB (fun i hi => ?_) hg ht hi2 hg2 ht2 he (plain_fold hp) (fun env => plain_fold hp2)).imp fun σ H Q q => lc2_of q
  rw [List.map_append, ownOf_ix, ownOf_ix]
  exact List.mem_append_right _ hi
end
end DP

/-! DP, part 12: the whole of expressions. -/
namespace DP
open PySem PySem.Spec PyProof.Rows L2
/-- what stands as a list just made -/
def isNewE : E → Bool
  | .lst _ => true
  | .comp _ _ _ _ => true
  | .comp2 _ _ _ _ _ _ _ => true
  | .bin o _ _ => isNewO o
  | .bi f _ => isNewB f
  | _ => false
section
variable (G : Gm)
def SoundE (e : E) : Prop := ∀ {k : Nat} {sc raw : Scope} {N : List Str} {X : Cx} {e' : Expr}, Here G k sc raw N X → okE G sc raw N e e' = true → PE X e' (RdE X.K (ev G e)) ∧ (isT e = true → PT X e' (RdT X.K (evT G e))) ∧ (isNewE e = true → PE X e' (RdN X.K (ev G e)))
def SoundEs (es : Es) : Prop := ∀ {k : Nat} {sc raw : Scope} {N : List Str} {X : Cx} {es' : List Expr}, Here G k sc raw N X → (okEs G sc raw N es es' = true → PA X es' (RdA X.K (evs G es)) ∧ ∀ z ∈ es', plain z = true) ∧ (okB G sc raw N es es' = true → BoolsOk X G es es')
def SoundI (it : I) : Prop := ∀ {k : Nat} {sc raw : Scope} {N : List Str} {X : Cx} {e' : Expr}, Here G k sc raw N X → okI G sc raw N it e' = true → (∀ tg, PI X tg e' (RdI X.K (evI G it))) ∧ plain e' = true
end
def okPt (G : Gm) (sc raw : Scope) (N : List Str) (lo : E) (lo' : Option Expr) : Bool := match lo' with | none => isNop lo | some e => !isNop lo && okE G sc raw N lo e
def okCd (G : Gm) (sc raw : Scope) (N : List Str) (cond : E) (ifs' : List Expr) : Bool := match ifs' with | [] => isYes cond | [c'] => isT cond && okE G sc raw N cond c' | _ => false
theorem nop_of {e : E} (h : isNop e = true) : e = .nop := by
  cases e <;> first | rfl | cases h
theorem yes_of {e : E} (h : isYes e = true) : e = .lit (.bl true) := by
  cases e <;> first | (cases h; done) | skip
  rename_i l
  cases l <;> first | (cases h; done) | skip
  rename_i b
  cases b <;> first | rfl | cases h
section
variable {G : Gm}
theorem okE_slc {sc raw : Scope} {N : List Str} {a lo hi : E} {a' : Expr} {lo' hi' : Option Expr} {p2 pos : Pos} : okE G sc raw N (.slc a lo hi) (.Subscript a' (.Slice lo' hi' none p2) pos) = (okE G sc raw N a a' && okPt G sc raw N lo lo' && okPt G sc raw N hi hi') := rfl
theorem okE_comp {sc raw : Scope} {N : List Str} {elt cond : E} {tg : Tg} {it : I} {elt' tg' it' : Expr} {ifs' : List Expr} {as : Int} {scope : Scope} {pos : Pos} : okE G sc raw N (.comp elt tg it cond) (.ListComp elt' [⟨tg', it', ifs', as⟩] scope pos) =
    (decide (as = 0) && okI G sc raw N it it' && blkC N sc scope (ownOf N tg) && okTg (relS scope sc) scope N tg tg' && okE G (relS scope sc) scope N elt elt' && okCd G (relS scope sc) scope N cond ifs') := rfl
theorem okE_comp2 {sc raw : Scope} {N : List Str} {elt cond cond2 : E} {tg tg2 : Tg} {it it2 : I} {elt' tg' it' tg2' it2' : Expr} {ifs' ifs2' : List Expr} {as as2 : Int} {scope : Scope} {pos : Pos} : okE G sc raw N (.comp2 elt tg it cond tg2 it2 cond2) (.ListComp elt' [⟨tg', it', ifs', as⟩, ⟨tg2', it2', ifs2', as2⟩] scope pos) =
    (decide (as = 0) && decide (as2 = 0) && okI G sc raw N it it' && blkC N sc scope (ownOf N tg ++ ownOf N tg2) && okTg (relS scope sc) scope N tg tg' && okTg (relS scope sc) scope N tg2 tg2' && okI G (relS scope sc) scope N it2 it2' && okE G (relS scope sc) scope N elt elt' && okCd G (relS scope sc) scope N cond ifs' && okCd G (relS scope sc) scope N cond2 ifs2') := rfl
theorem lst_list {es : Es} : ∀ ρ o ρ', ev G (.lst es) ρ = .ok (o, ρ') → ∃ ds, o = .val (.list ds) := by
  intro ρ o ρ' e
  obtain ⟨p, e1, e⟩ := ok_bind (show (evs G es ρ >>= fun p => if sz p.1.length = true then R.ok (Opd.val (.list p.1), p.2) else .bad) = .ok (o, ρ') from e)
  split at e
  · cases e; exact ⟨_, rfl⟩
  · cases e
theorem comp_list {elt cond : E} {tg : Tg} {it : I} : ∀ ρ o ρ', ev G (.comp elt tg it cond) ρ = .ok (o, ρ') → ∃ ds, o = .val (.list ds) := by
  intro ρ o ρ' e
  have e : (evI G it ρ >>= fun p => compLoop (turnC G elt tg cond) p.1 p.2 >>= fun q => R.ok (Opd.val (.list q.1), q.2)) = .ok (o, ρ') := e
  obtain ⟨p, e1, e⟩ := ok_bind e
  obtain ⟨r, e2, e⟩ := ok_bind e
  cases e
  exact ⟨_, rfl⟩
theorem comp2_list {elt cond cond2 : E} {tg tg2 : Tg} {it it2 : I} : ∀ ρ o ρ', ev G (.comp2 elt tg it cond tg2 it2 cond2) ρ = .ok (o, ρ') → ∃ ds, o = .val (.list ds) := by
  intro ρ o ρ' e
  rw [comp2_eq] at e
  obtain ⟨p, e1, e⟩ := ok_bind e
  obtain ⟨r, e2, e⟩ := ok_bind e
  split at e
  · cases e
    exact ⟨_, rfl⟩
  · cases e
theorem case_var {i : Nat} : SoundE G (.var i) := by
  intro k sc raw N X e' c h
  cases e' <;> first | (cases h; done) | skip
  exact ⟨s_var c h, fun _ => t_val (s_var c h) fun _ => rfl, fun z => by cases z⟩
theorem case_frz {i : Nat} : SoundE G (.frz i) := by
  intro k sc raw N X e' c h
  cases e' <;> first | (cases h; done) | skip
  exact ⟨s_frz c h, fun _ => t_val (s_frz c h) fun _ => rfl, fun z => by cases z⟩
theorem case_lit {l : Lit} : SoundE G (.lit l) := by
  intro k sc raw N X e' c h
  cases e' <;> first | (cases h; done) | skip
  exact ⟨s_lit h, fun _ => t_val (s_lit h) fun _ => rfl, fun z => by cases z⟩
theorem case_cst {j : Nat} : SoundE G (.cst j) := by
  intro k sc raw N X e' c h
  cases e' <;> first | (cases h; done) | skip
  exact ⟨s_cst c h, fun _ => t_val (s_cst c h) fun _ => rfl, fun z => by cases z⟩
theorem case_tup {es : Es} (ih : SoundEs G es) : SoundE G (.tup es) := by
  intro k sc raw N X e' c h
  cases e' <;> first | (cases h; done) | skip
  have p := s_tup (pos := by assumption) (kk := by assumption) ((ih c).1 h).1
  exact ⟨p, fun _ => t_val p fun _ => rfl, fun z => by cases z⟩
theorem case_lst {es : Es} (ih : SoundEs G es) : SoundE G (.lst es) := by
  intro k sc raw N X e' c h
  cases e' <;> first | (cases h; done) | skip
  have p := s_lst (pos := by assumption) ((ih c).1 h).1
  have p2 := p.imp fun σ H Q q => RdE.new q lst_list
  exact ⟨p2, fun _ => t_val p2 fun _ => rfl, fun _ => p⟩
theorem case_bin {o : O2} {a b : E} (iha : SoundE G a) (ihb : SoundE G b) : SoundE G (.bin o a b) := by
  intro k sc raw N X e' c h
  cases e' <;> first | (cases h; done) | skip
  rename_i a' o' b' pos
  obtain ⟨h, h3⟩ := band (show (o2Ok o o' && okE G sc raw N a a' && okE G sc raw N b b') = true from h)
  obtain ⟨h1, h2⟩ := band h
  have p := s_bin (pos := pos) h1 (iha c h2).1 (ihb c h3).1
  exact ⟨p, fun _ => t_val p fun _ => rfl, fun z => s_binN z h1 (iha c h2).1 (ihb c h3).1⟩
theorem case_cmp {o : Oc} {a b : E} (iha : SoundE G a) (ihb : SoundE G b) : SoundE G (.cmp o a b) := by
  intro k sc raw N X e' c h
  cases e' <;> first | (cases h; done) | skip
  rename_i a' os bs pos
  rcases os with _ | ⟨o', _ | ⟨o2, os⟩⟩ <;> rcases bs with _ | ⟨b', _ | ⟨b2, bs⟩⟩ <;> first | (cases h; done) | skip
  obtain ⟨h, h3⟩ := band (show (ocOk o o' && okE G sc raw N a a' && okE G sc raw N b b') = true from h)
  obtain ⟨h1, h2⟩ := band h
  have p := s_cmp (pos := pos) c h1 (plain_of (G := G) h3) (iha c h2).1 (ihb c h3).1
  exact ⟨p.1, fun _ => p.2, fun z => by cases z⟩
theorem case_chn {o1 o2 : Oc} {a b d : E} (iha : SoundE G a) (ihb : SoundE G b) (ihd : SoundE G d) : SoundE G (.chn o1 o2 a b d) := by
  intro k sc raw N X e' c h
  cases e' <;> first | (cases h; done) | skip
  rename_i a' os bs pos
  rcases os with _ | ⟨o1', _ | ⟨o2', _ | ⟨o3, os⟩⟩⟩ <;> rcases bs with _ | ⟨b', _ | ⟨d', _ | ⟨b3, bs⟩⟩⟩ <;> first | (cases h; done) | skip
  obtain ⟨h, h5⟩ := band (show (ocOk o1 o1' && ocOk o2 o2' && okE G sc raw N a a' && okE G sc raw N b b' && okE G sc raw N d d') = true from h)
  obtain ⟨h, h4⟩ := band h
  obtain ⟨h, h3⟩ := band h
  obtain ⟨h1, h2⟩ := band h
  have p := s_chn (pos := pos) c h1 h2 (plain_of (G := G) h5) (iha c h3).1 (ihb c h4).1 (ihd c h5).1
  exact ⟨p.1, fun _ => p.2, fun z => by cases z⟩
theorem case_neg {a : E} (iha : SoundE G a) : SoundE G (.neg a) := by
  intro k sc raw N X e' c h
  cases e' <;> first | (cases h; done) | skip
  rename_i o a' pos
  cases o <;> first | (cases h; done) | skip
  have p := s_neg (pos := pos) (iha c h).1
  exact ⟨p, fun _ => t_val p fun _ => rfl, fun z => by cases z⟩
theorem case_not {a : E} (iha : SoundE G a) : SoundE G (.not a) := by
  intro k sc raw N X e' c h
  cases e' <;> first | (cases h; done) | skip
  rename_i o a' pos
  cases o <;> first | (cases h; done) | skip
  obtain ⟨h1, h2⟩ := band (show (isT a && okE G sc raw N a a') = true from h)
  have p := s_not (pos := pos) (iha c h2).1 ((iha c h2).2.1 h1)
  exact ⟨p.1, fun _ => p.2, fun z => by cases z⟩
theorem case_and {es : Es} (ih : SoundEs G es) : SoundE G (.and es) := by
  intro k sc raw N X e' c h
  cases e' <;> first | (cases h; done) | skip
  rename_i o es' pos
  cases o <;> first | (cases h; done) | skip
  have p := ((ih c).2 h).1 pos
  exact ⟨p.1, fun _ => p.2.pt, fun z => by cases z⟩
theorem case_or {es : Es} (ih : SoundEs G es) : SoundE G (.or es) := by
  intro k sc raw N X e' c h
  cases e' <;> first | (cases h; done) | skip
  rename_i o es' pos
  cases o <;> first | (cases h; done) | skip
  have p := ((ih c).2 h).2 pos
  exact ⟨p.1, fun _ => p.2.pt, fun z => by cases z⟩
theorem case_ife {d a b : E} (ihd : SoundE G d) (iha : SoundE G a) (ihb : SoundE G b) : SoundE G (.ife d a b) := by
  intro k sc raw N X e' c h
  cases e' <;> first | (cases h; done) | skip
  rename_i d' a' b' pos
  obtain ⟨h, h4⟩ := band (show (isT d && okE G sc raw N d d' && okE G sc raw N a a' && okE G sc raw N b b') = true from h)
  obtain ⟨h, h3⟩ := band h
  obtain ⟨h1, h2⟩ := band h
  exact ⟨s_ife ((ihd c h2).2.1 h1) (iha c h3).1 (ihb c h4).1, fun z => (by cases z), fun z => by cases z⟩
theorem case_ix {a i : E} (iha : SoundE G a) (ihi : SoundE G i) : SoundE G (.ix a i) := by
  intro k sc raw N X e' c h
  cases e' <;> first | (cases h; done) | skip
  rename_i a' i' pos
  obtain ⟨h1, h2⟩ := band (show (okE G sc raw N a a' && okE G sc raw N i i') = true from h)
  have p := s_ix (pos := pos) (plain_of (G := G) h2) (iha c h1).1 (ihi c h2).1
  exact ⟨p, fun _ => t_val p fun _ => rfl, fun z => by cases z⟩
theorem part_of {k : Nat} {sc raw : Scope} {N : List Str} {X : Cx} {lo : E} {lo' : Option Expr} (c : Here G k sc raw N X) (ih : SoundE G lo) (h : okPt G sc raw N lo lo' = true) :
    PO X lo' (Rd' X.K rPart fun ρ => part lo (ev G lo ρ) ρ) := by
  refine po_part ?_
  cases lo' with
  | none => exact .inl ⟨nop_of h, rfl⟩
  | some e =>
    obtain ⟨h1, h2⟩ := band (show (!isNop lo && okE G sc raw N lo e) = true from h)
    exact .inr ⟨fun z => (by subst z; cases h1), e, rfl, (ih c h2).1⟩
theorem case_slc {a lo hi : E} (iha : SoundE G a) (ihl : SoundE G lo) (ihh : SoundE G hi) : SoundE G (.slc a lo hi) := by
  intro k sc raw N X e' c h
  cases e' <;> first | (cases h; done) | skip
  rename_i a' s' pos
  cases s' <;> first | (cases h; done) | skip
  rename_i lo' hi' st' p2
  cases st' with
  | some _ => cases h
  | none =>
    rw [okE_slc] at h
    obtain ⟨h, h3⟩ := band h
    obtain ⟨h1, h2⟩ := band h
    have p := s_slc (pos := pos) (p2 := p2) (iha c h1).1 (part_of c ihl h2) (part_of c ihh h3)
    exact ⟨p, fun _ => t_val p fun _ => rfl, fun z => by cases z⟩
theorem case_nop : SoundE G .nop := by
  intro k sc raw N X e' c h
  cases e' <;> cases h
theorem case_call {j : Nat} {es : Es} (ih : SoundEs G es) : SoundE G (.call j es) := by
  intro k sc raw N X e' c h
  cases es with
  | nil => cases e' <;> cases h
  | cons e es =>
    cases e' <;> first | (cases h; done) | skip
    rename_i f as ks pos
    cases f <;> first | (cases h; done) | skip
    rename_i x px
    rcases as with _ | ⟨e', es'⟩ <;> first | (cases h; done) | skip
    rcases ks with _ | ⟨k1, ks⟩ <;> first | (cases h; done) | skip
    obtain ⟨h, h3⟩ := band h
    obtain ⟨h, h2⟩ := band h
    obtain ⟨h1, h0⟩ := band h
    have h4 : okEs G sc raw N (.cons e es) (e' :: es') = true := by
      show (okE G sc raw N e e' && okEs G sc raw N es es') = true
      rw [h2, h3]; rfl
    have q := (ih c).1 h4
    have p := s_call (pos := pos) (px := px) c h1 (by simpa using h0) q.2 q.1
    exact ⟨p, fun _ => t_val p fun _ => rfl, fun z => by cases z⟩
theorem case_callB {j i : Nat} {es : Es} (ih : SoundEs G es) : SoundE G (.callB j i es) := by
  intro k sc raw N X e' c h
  cases e' <;> first | (cases h; done) | skip
  rename_i f as ks pos
  cases f <;> first | (cases h; done) | skip
  rename_i x px
  rcases as with _ | ⟨e', es'⟩ <;> first | (cases h; done) | skip
  cases e' <;> first | (cases h; done) | skip
  rename_i y py
  rcases ks with _ | ⟨k1, ks⟩ <;> first | (cases h; done) | skip
  obtain ⟨h, h3⟩ := band h
  obtain ⟨h1, h2⟩ := band h
  have q := (ih c).1 h3
  have p := s_callB (pos := pos) (px := px) (py := py) c h1 h2 q.2 q.1
  exact ⟨p, fun _ => t_val p fun _ => rfl, fun z => by cases z⟩
theorem case_bi {f : Bi} {a : E} (iha : SoundE G a) : SoundE G (.bi f a) := by
  intro k sc raw N X e' c h
  cases e' <;> first | (cases h; done) | skip
  rename_i g as ks pos
  cases g <;> first | (cases h; done) | skip
  rename_i x px
  rcases as with _ | ⟨a', _ | ⟨a2, as⟩⟩ <;> first | (cases h; done) | skip
  rcases ks with _ | ⟨k1, ks⟩ <;> first | (cases h; done) | skip
  obtain ⟨h, h4⟩ := band (show (biHas f && decide (biName f = x) && glOk sc x && okE G sc raw N a a') = true from h)
  obtain ⟨h, h3⟩ := band h
  obtain ⟨h1, h2⟩ := band h
  have p := s_bi (pos := pos) (px := px) c h1 (of_decide_eq_true h2) h3 (plain_of (G := G) h4) (iha c h4).1
  exact ⟨p, fun _ => t_val p fun _ => rfl, fun z => s_biN c z (of_decide_eq_true h2) h3 (plain_of (G := G) h4) (iha c h4).1⟩
theorem case_isi {a : E} {t : Ty} (iha : SoundE G a) : SoundE G (.isi a t) := by
  intro k sc raw N X e' c h
  cases e' <;> first | (cases h; done) | skip
  rename_i g as ks pos
  cases g <;> first | (cases h; done) | skip
  rename_i x px
  rcases as with _ | ⟨a', _ | ⟨a2, _ | ⟨a3, as⟩⟩⟩ <;> first | (cases h; done) | (cases a2 <;> cases h; done) | skip
  cases a2 <;> first | (cases h; done) | skip
  rename_i y py
  rcases ks with _ | ⟨k1, ks⟩ <;> first | (cases h; done) | skip
  obtain ⟨h, h5⟩ := band (show (decide (x = ("isinstance" : Str)) && glOk sc x && decide (y = tyStr t) && glOk sc y && okE G sc raw N a a') = true from h)
  obtain ⟨h, h4⟩ := band h
  obtain ⟨h, h3⟩ := band h
  obtain ⟨h1, h2⟩ := band h
  have p := s_isi (pos := pos) (px := px) (py := py) c (of_decide_eq_true h1) h2 (of_decide_eq_true h3) h4 (plain_of (G := G) h5) (iha c h5).1
  exact ⟨p, fun _ => t_val p fun _ => rfl, fun z => by cases z⟩
theorem yes_lit {K : Frag} : ∀ (σ : L2.St) (H : Hp) (Q : Bool → Hp → Prop), RdT K (evT G (.lit (.bl true))) σ H Q → tYes σ H Q := by
  intro σ H Q q
  obtain ⟨F, ρ, en, q⟩ := q
  have q : Fin K (rTest σ) (Own σ ρ) F H σ Q (.ok (true, ρ)) := q
  exact q.nowG en (v := true) rfl
theorem case_comp {elt cond : E} {tg : Tg} {it : I} (ihe : SoundE G elt) (ihi : SoundI G it) (ihc : SoundE G cond) : SoundE G (.comp elt tg it cond) := by
  intro k sc raw N X e' c h
  cases e' <;> first | (cases h; done) | skip
  rename_i elt' gs scope pos
  rcases gs with _ | ⟨⟨tg', it', ifs', as⟩, _ | ⟨g2, gs⟩⟩ <;> first | (cases h; done) | skip
  rw [okE_comp] at h
  obtain ⟨h, h5⟩ := band h
  obtain ⟨h, h4⟩ := band h
  obtain ⟨h, h3⟩ := band h
  obtain ⟨h, h2⟩ := band h
  obtain ⟨h0, h1⟩ := band h
  obtain rfl : as = 0 := of_decide_eq_true h0
  have qi := ihi c h1
  have p : PE X (.ListComp elt' [⟨tg', it', ifs', 0⟩] scope pos) (RdN X.K (ev G (.comp elt tg it cond))) := by
    refine s_comp (pos := pos) c h2 (qi.1 tg') qi.2 (fun s H C cl fp => pg_tg (c.blk scope s H C cl fp) h3) (fun s H C cl fp => ?_) (fun s H C cl fp => (ihe (c.blk scope s H C cl fp) h4).1)
    rcases ifs' with _ | ⟨c', _ | ⟨c2, cs⟩⟩
    · obtain rfl := yes_of h5
      exact pts_nil.imp yes_lit
    · obtain ⟨h7, h8⟩ := band (show (isT cond && okE G (relS scope sc) scope N cond c') = true from h5)
      exact pts_one ((ihc (c.blk scope s H C cl fp) h8).2.1 h7)
    · cases h5
  have p2 := p.imp fun σ H Q q => RdE.new q comp_list
  exact ⟨p2, fun _ => t_val p2 fun _ => rfl, fun _ => p⟩
theorem plain_ofI {sc raw : Scope} {N : List Str} {it : I} {e' : Expr} (h : okI G sc raw N it e' = true) : plain e' = true := by
  cases it with
  | seq a =>
    have h : okE G sc raw N a e' = true := by cases e' <;> exact h
    exact plain_of (G := G) h
  | _ => cases e' <;> first | rfl | cases h
theorem pts_cd {k : Nat} {sc raw : Scope} {N : List Str} {X : Cx} {cond : E} {ifs' : List Expr} (c : Here G k sc raw N X) (ih : SoundE G cond) (h : okCd G sc raw N cond ifs' = true) : PTs X ifs' (RdT X.K (evT G cond)) := by
  rcases ifs' with _ | ⟨c', _ | ⟨c2, cs⟩⟩
  · obtain rfl := yes_of h
    exact pts_nil.imp yes_lit
  · obtain ⟨h7, h8⟩ := band (show (isT cond && okE G sc raw N cond c') = true from h)
    exact pts_one ((ih c h8).2.1 h7)
  · cases h
theorem case_comp2 {elt cond cond2 : E} {tg tg2 : Tg} {it it2 : I} (ihe : SoundE G elt) (ihi : SoundI G it) (ihc : SoundE G cond) (ihi2 : SoundI G it2) (ihc2 : SoundE G cond2) : SoundE G (.comp2 elt tg it cond tg2 it2 cond2) := by
  intro k sc raw N X e' c h
  cases e' <;> first | (cases h; done) | skip
  rename_i elt' gs scope pos
  rcases gs with _ | ⟨⟨tg', it', ifs', as⟩, _ | ⟨⟨tg2', it2', ifs2', as2⟩, _ | ⟨g3, gs⟩⟩⟩ <;> first | (cases h; done) | skip
  rw [okE_comp2] at h
  obtain ⟨h, h9⟩ := band h
  obtain ⟨h, h8⟩ := band h
  obtain ⟨h, h7⟩ := band h
  obtain ⟨h, h6⟩ := band h
  obtain ⟨h, h5⟩ := band h
  obtain ⟨h, h4⟩ := band h
  obtain ⟨h, h3⟩ := band h
  obtain ⟨h, h2⟩ := band h
  obtain ⟨h0, h1⟩ := band h
  obtain rfl : as = 0 := of_decide_eq_true h0
  obtain rfl : as2 = 0 := of_decide_eq_true h1
  have qi := ihi c h2
  have p2' : plain it2' = true := plain_ofI (G := G) h6
  have p : PE X (.ListComp elt' [⟨tg', it', ifs', 0⟩, ⟨tg2', it2', ifs2', 0⟩] scope pos) (RdN X.K (ev G (.comp2 elt tg it cond tg2 it2 cond2))) :=
    s_comp2 (pos := pos) c h3 (qi.1 tg') qi.2 p2' (fun s H C cl fp => pg_tg (c.blk scope s H C cl fp) h4) (fun s H C cl fp => pts_cd (c.blk scope s H C cl fp) ihc h8)
      (fun s H C cl fp => (ihi2 (c.blk scope s H C cl fp) h6).1 tg2') (fun s H C cl fp => pg_tg (c.blk scope s H C cl fp) h5) (fun s H C cl fp => pts_cd (c.blk scope s H C cl fp) ihc2 h9) (fun s H C cl fp => (ihe (c.blk scope s H C cl fp) h7).1)
  have p2 := p.imp fun σ H Q q => RdE.new q comp2_list
  exact ⟨p2, fun _ => t_val p2 fun _ => rfl, fun _ => p⟩
theorem case_dic1 {a b : E} (iha : SoundE G a) (ihb : SoundE G b) : SoundE G (.dic1 a b) := by
  intro k sc raw N X e' c h
  cases e' <;> first | (cases h; done) | skip
  rename_i ks vs pos
  rcases ks with _ | ⟨_ | a', _ | ⟨k2, ks⟩⟩ <;> first | (cases h; done) | skip
  rcases vs with _ | ⟨b', _ | ⟨v2, vs⟩⟩ <;> first | (cases h; done) | skip
  obtain ⟨h1, h2⟩ := band (show (okE G sc raw N a a' && okE G sc raw N b b') = true from h)
  have p := s_dic1 (pos := pos) (iha c h1).1 (ihb c h2).1
  exact ⟨p, fun _ => t_val p fun _ => rfl, fun z => by cases z⟩
theorem case_nil : SoundEs G .nil := by
  intro k sc raw N X es' c
  refine ⟨fun h => ?_, fun h => ?_⟩
  · cases es' with
    | nil => exact ⟨pa_nil', fun _ z => by cases z⟩
    | cons _ _ => cases h
  · cases es' <;> cases h
theorem case_cons {e : E} {es : Es} (ihe : SoundE G e) (ihs : SoundEs G es) : SoundEs G (.cons e es) := by
  intro k sc raw N X es' c
  refine ⟨fun h => ?_, fun h => ?_⟩
  · cases es' with
    | nil => cases h
    | cons e' es' =>
      obtain ⟨h1, h2⟩ := band (show (okE G sc raw N e e' && okEs G sc raw N es es') = true from h)
      have r := (ihs c).1 h2
      exact ⟨pa_cons' (plain_of (G := G) h1) (ihe c h1).1 r.1, fun z hz => by
        rcases List.mem_cons.mp hz with rfl | hz
        · exact plain_of (G := G) h1
        · exact r.2 z hz⟩
  · cases es with
    | nil =>
      rcases es' with _ | ⟨e', _ | ⟨e2, es'⟩⟩ <;> first | (cases h; done) | skip
      obtain ⟨h1, h2⟩ := band (show (isT e && okE G sc raw N e e') = true from h)
      exact bools_one (ihe c h2).1 ((ihe c h2).2.1 h1)
    | cons e2 es2 =>
      rcases es' with _ | ⟨e', _ | ⟨e2', es'⟩⟩ <;> first | (cases h; done) | skip
      obtain ⟨h, h3⟩ := band (show (isT e && okE G sc raw N e e' && okB G sc raw N (.cons e2 es2) (e2' :: es')) = true from h)
      obtain ⟨h1, h2⟩ := band h
      exact bools_cons (ihe c h2).1 ((ihe c h2).2.1 h1) ((ihs c).2 h3)
theorem case_seq {a : E} (iha : SoundE G a) : SoundI G (.seq a) := by
  intro k sc raw N X e' c h
  have h : okE G sc raw N a e' = true := by cases e' <;> exact h
  exact ⟨fun tg => i_seq (iha c h).1, plain_of (G := G) h⟩
theorem case_rng {a : E} (iha : SoundE G a) : SoundI G (.rng a) := by
  intro k sc raw N X e' c h
  cases e' <;> first | (cases h; done) | skip
  rename_i g as ks pos
  cases g <;> first | (cases h; done) | skip
  rename_i x px
  rcases as with _ | ⟨a', _ | ⟨a2, as⟩⟩ <;> first | (cases h; done) | skip
  rcases ks with _ | ⟨k1, ks⟩ <;> first | (cases h; done) | skip
  obtain ⟨h, h3⟩ := band (show (decide (x = ("range" : Str)) && glOk sc x && okE G sc raw N a a') = true from h)
  obtain ⟨h1, h2⟩ := band h
  exact ⟨fun tg => i_rng c (of_decide_eq_true h1) h2 (plain_of (G := G) h3) (iha c h3).1, rfl⟩
theorem case_rng2 {a b : E} (iha : SoundE G a) (ihb : SoundE G b) : SoundI G (.rng2 a b) := by
  intro k sc raw N X e' c h
  cases e' <;> first | (cases h; done) | skip
  rename_i g as ks pos
  cases g <;> first | (cases h; done) | skip
  rename_i x px
  rcases as with _ | ⟨a', _ | ⟨a2, _ | ⟨a3, as⟩⟩⟩ <;> first | (cases h; done) | skip
  rcases ks with _ | ⟨k1, ks⟩ <;> first | (cases h; done) | skip
  obtain ⟨h, h4⟩ := band (show (decide (x = ("range" : Str)) && glOk sc x && okE G sc raw N a a' && okE G sc raw N b a2) = true from h)
  obtain ⟨h, h3⟩ := band h
  obtain ⟨h1, h2⟩ := band h
  exact ⟨fun tg => i_rng2 c (of_decide_eq_true h1) h2 (plain_of (G := G) h3) (plain_of (G := G) h4) (iha c h3).1 (ihb c h4).1, rfl⟩
mutual
theorem sound : ∀ e : E, SoundE G e
  | .var _ => case_var
  | .frz _ => case_frz
  | .lit _ => case_lit
  | .cst _ => case_cst
  | .tup es => case_tup (sounds es)
  | .lst es => case_lst (sounds es)
  | .bin _ a b => case_bin (sound a) (sound b)
  | .cmp _ a b => case_cmp (sound a) (sound b)
  | .chn _ _ a b c => case_chn (sound a) (sound b) (sound c)
  | .neg a => case_neg (sound a)
  | .not a => case_not (sound a)
  | .and es => case_and (sounds es)
  | .or es => case_or (sounds es)
  | .ife c a b => case_ife (sound c) (sound a) (sound b)
  | .ix a i => case_ix (sound a) (sound i)
  | .slc a lo hi => case_slc (sound a) (sound lo) (sound hi)
  | .nop => case_nop
  | .call _ es => case_call (sounds es)
  | .callB _ _ es => case_callB (sounds es)
  | .bi _ a => case_bi (sound a)
  | .isi a _ => case_isi (sound a)
  | .comp elt _ it cond => case_comp (sound elt) (soundi it) (sound cond)
  | .comp2 elt _ it cond _ it2 cond2 => case_comp2 (sound elt) (soundi it) (sound cond) (soundi it2) (sound cond2)
  | .dic1 k v => case_dic1 (sound k) (sound v)
theorem sounds : ∀ es : Es, SoundEs G es
  | .nil => case_nil
  | .cons e es => case_cons (sound e) (sounds es)
theorem soundi : ∀ it : I, SoundI G it
  | .seq a => case_seq (sound a)
  | .rng a => case_rng (sound a)
  | .rng2 a b => case_rng2 (sound a) (sound b)
end
end
end DP

/-! DP, part 13: statements: the small tree, its run, the look at a tree; readings. -/
namespace DP
open PySem PySem.Spec PyProof.Rows L2
/-- how a statement ends: rn: a list just made is handed back -/
inductive Fl where
  | nx | bk | ct | rt (d : D) | rn (ds : List D)
mutual
inductive S where
  | asg (tg : Tg) (e : E) | par (i j : Nat) (a b : E) | new (i : Nat) (e : E) | newC (i j : Nat) (es : Es)
  | setI (i : Nat) (ix e : E) | app (i : Nat) (e : E) | ext (i : Nat) (e : E) | exp (e : E) | ret (e : E) | retL (e : E) | retN
  | ifs (c : E) (a b : Ss) | fors (tg : Tg) (it : I) (b : Ss) | whl (n : Nat) (c : E) (b : Ss)
  | pass | brk | cnt | never
inductive Ss where
  | nil | cons (s : S) (r : Ss)
end
def forLoop (turn : D → Slots → R (Fl × Slots)) : List D → Slots → R (Fl × Slots)
  | [], ρ => .ok (.nx, ρ)
  | d :: r, ρ => turn d ρ >>= fun p => match p.1 with
    | .nx => forLoop turn r p.2
    | .ct => forLoop turn r p.2
    | .bk => .ok (.nx, p.2)
    | f => .ok (f, p.2)
def whLoop (c : Slots → R (Bool × Slots)) (b : Slots → R (Fl × Slots)) : Nat → Slots → R (Fl × Slots)
  | 0, _ => .bad
  | n + 1, ρ => c ρ >>= fun t => if t.1 = true then b t.2 >>= fun p => (match p.1 with
    | .nx => whLoop c b n p.2
    | .ct => whLoop c b n p.2
    | .bk => .ok (.nx, p.2)
    | f => .ok (f, p.2)) else .ok (.nx, t.2)
def extC (i : Nat) (ρ : Slots) : D → Option Cell → R (Fl × Slots)
  | .list es, some (.own b ds) => if sz (ds.length + es.length) = true then .ok (.nx, ρ.set i (.own b (ds ++ es))) else .bad
  | _, _ => .bad
variable (G : Gm)
mutual
def ex : S → Slots → R (Fl × Slots)
  | .asg tg e, ρ => ev G e ρ >>= fun p => keep p.1 >>= fun d => putTg tg d p.2 >>= fun ρ' => .ok (.nx, ρ')
  | .par i j a b, ρ => ev G a ρ >>= fun p => keep p.1 >>= fun d => ev G b p.2 >>= fun q => keep q.1 >>= fun d2 => if (free q.2 i && free q.2 j) = true then .ok (.nx, (q.2.set i (.dat d)).set j (.dat d2)) else .bad
  | .new i e, ρ => ev G e ρ >>= fun p => (match p.1 with
    | .val (.list ds) => if free p.2 i = true then .ok (.nx, p.2.set i (.own false ds)) else .bad
    | _ => .bad)
  | .newC i j es, ρ => ev G (.call j es) ρ >>= fun p => (match p.1 with
    | .val (.list ds) => if free p.2 i = true then .ok (.nx, p.2.set i (.own false ds)) else .bad
    | _ => .bad)
  | .setI i ix e, ρ => ev G e ρ >>= fun p => keep p.1 >>= fun d => (match p.2[i]? with
    | some (.own _ _) => ev G ix p.2 >>= fun q => peek q.2 q.1 >>= fun x => asI x >>= fun k => (match q.2[i]? with
      | some (.own b ds) => (match ixN ds.length k with
        | some j => .ok (.nx, q.2.set i (.own b (ds.set j d)))
        | none => .bad)
      | _ => .bad)
    | _ => .bad)
  | .app i e, ρ => (match ρ[i]? with
    | some (.own _ _) => ev G e ρ >>= fun p => keep p.1 >>= fun d => (match p.2[i]? with
      | some (.own b ds) => if sz (ds.length + 1) = true then .ok (.nx, p.2.set i (.own b (ds ++ [d]))) else .bad
      | _ => .bad)
    | _ => .bad)
  | .ext i e, ρ => if isOwn ρ[i]? = true then ev G e ρ >>= fun p => peek p.2 p.1 >>= fun x => extC i p.2 x p.2[i]? else .bad
  | .exp e, ρ => ev G e ρ >>= fun p => .ok (.nx, p.2)
  | .ret e, ρ => ev G e ρ >>= fun p => keep p.1 >>= fun d => .ok (.rt d, p.2)
  | .retL e, ρ => ev G e ρ >>= fun p => (match p.1 with
    | .val (.list ds) => .ok (.rn ds, p.2)
    | _ => .bad)
  | .retN, ρ => .ok (.rt .none, ρ)
  | .ifs c a b, ρ => evT G c ρ >>= fun p => if p.1 = true then exs a p.2 else exs b p.2
  | .fors tg it b, ρ => evI G it ρ >>= fun p => forLoop (fun d ρ1 => putTg tg d ρ1 >>= fun ρ2 => exs b ρ2) p.1 p.2
  | .whl n c b, ρ => whLoop (evT G c) (fun ρ1 => exs b ρ1) n ρ
  | .pass, ρ => .ok (.nx, ρ)
  | .brk, ρ => .ok (.bk, ρ)
  | .cnt, ρ => .ok (.ct, ρ)
  | .never, _ => .bad
def exs : Ss → Slots → R (Fl × Slots)
  | .nil, ρ => .ok (.nx, ρ)
  | .cons s r, ρ => ex s ρ >>= fun p => match p.1 with
    | .nx => exs r p.2
    | f => .ok (f, p.2)
end

/-! ### the look at a tree -/
def notTupE : Expr → Bool
  | .Tuple _ _ _ => false
  | _ => true
def isSlc : Expr → Bool
  | .Slice _ _ _ _ => true
  | _ => false
def isComp' : Expr → Bool
  | .ListComp _ _ _ _ => true
  | .SetComp _ _ _ _ => true
  | .DictComp _ _ _ _ _ => true
  | _ => false
def slotOk (bor : Bool) (is : List Nat) : Bool := !bor || is.all fun i => decide (i ≠ 0)
def isCallE : E → Bool
  | .call _ _ => true
  | _ => false
/-- two names at once: stored from the right -/
def parOk (sc : Scope) (x y : Str) (px py : Pos) (a b : Expr) : Bool :=
  (match (if sc.kind.isAnnotationScope then ScopeKind.function else sc.kind) with | .function => true | _ => false) && (match sc.names.lookup x with | some .local => true | _ => false) && (match sc.names.lookup y with | some .local => true | _ => false) &&
  decide (py.line = px.line) && decide (x ≠ y) && plain a && plain b && !([a, b].all (foldedForSure 8)) && !([a, b].all (constantsAlone 8))
mutual
def okS (sc raw : Scope) (N : List Str) (bor : Bool) : S → Stmt → Bool
  | .asg (.nm i) e, .Assign [.Name x _] e' _ => okL sc raw N i x && okE G sc raw N e e' && slotOk bor [i]
  | .asg (.tup is) e, .Assign [.Tuple ts _ _] e' _ => okNms sc raw N is ts && okE G sc raw N e e' && notTupE e' && slotOk bor is
  | .par i j a b, .Assign [.Tuple [.Name x px, .Name y py] _ _] (.Tuple [a', b'] _ _) _ => okL sc raw N i x && okL sc raw N j y && okE G sc raw N a a' && okE G sc raw N b b' && parOk sc x y px py a' b' && slotOk bor [i, j]
  | .new i e, .Assign [.Name x _] e' _ => okL sc raw N i x && okE G sc raw N e e' && isNewE e && slotOk bor [i]
  | .newC i j (.cons e es), .Assign [.Name x _] (.Call (.Name f _) (e' :: es') [] _) _ => okL sc raw N i x && (match G.fns[j]? with | some g => decide (g.name = f) && glOk sc f | none => false) && isNw G j && okE G sc raw N e e' && okEs G sc raw N es es' && slotOk bor [i]
  | .setI i ix e, .Assign [.Subscript (.Name x _) ix' _] e' _ => okV sc N i x && okE G sc raw N ix ix' && okE G sc raw N e e'
  | .app i e, .Expr (.Call (.Attribute (.Name x _) m apos) [e'] [] cpos) _ => okV sc N i x && decide (m = ("append" : Str)) && (apos.endLine == cpos.line) && okE G sc raw N e e'
  | .ext i e, .Expr (.Call (.Attribute (.Name x _) m apos) [e'] [] cpos) _ => okV sc N i x && decide (m = ("extend" : Str)) && (apos.endLine == cpos.line) && okE G sc raw N e e'
  | .exp e, .Expr e' _ => okE G sc raw N e e' && !isComp' e'
  | .ret e, .Return (some e') _ => okE G sc raw N e e'
  | .retL e, .Return (some e') _ => okE G sc raw N e e' && isNewE e
  | .retN, .Return none _ => true
  | .ifs c a b, .If c' a' b' _ => isT c && okE G sc raw N c c' && okSs sc raw N bor a a' && okSs sc raw N bor b b'
  | .fors tg it b, .For tg' it' b' [] _ => okI G sc raw N it it' && okTg sc raw N tg tg' && okSs sc raw N bor b b' && slotOk bor tg.slots
  | .whl _ c b, .While c' b' [] _ => isT c && okE G sc raw N c c' && okSs sc raw N bor b b'
  | .pass, .Pass _ => true
  | .pass, .Expr (.Constant (.str _) _ _) _ => true
  | .brk, .Break _ => true
  | .cnt, .Continue _ => true
  | .never, _ => true
  | _, _ => false
def okSs (sc raw : Scope) (N : List Str) (bor : Bool) : Ss → List Stmt → Bool
  | .nil, [] => true
  | .cons s r, s' :: r' => okS sc raw N bor s s' && okSs sc raw N bor r r'
  | _, _ => false
end

/-! ### readings -/
/-- how a def began: what may change, the heap -/
structure Fc where
  bor : Bool
  B0 : Addr → Prop
  F0 : Hp
  H0 : Hp
structure Good (K : Frag) (fc : Fc) (F H : Hp) (σ : L2.St) (ρ : Slots) : Prop where
  en : EnvOk K F H σ ρ
  ex : Ext fc.B0 fc.F0 fc.H0 F H
  ow : ∀ l, Own σ ρ l → fc.B0 l ∨ fc.H0 l = none
  lb : ∀ l, fc.B0 l → fc.bor = true ∧ σ[0]? = some (some (V.ref l))
def FinS (K : Frag) (fc : Fc) (F : Hp) (Dn : Ends) : R (Fl × Slots) → Prop
  | .ok (.nx, ρ') => ∀ σ' F' H', Same F F' → Good K fc F' H' σ' ρ' → Dn.nx σ' H'
  | .ok (.bk, ρ') => ∀ σ' F' H', Same F F' → Good K fc F' H' σ' ρ' → Dn.bk σ' H'
  | .ok (.ct, ρ') => ∀ σ' F' H', Same F F' → Good K fc F' H' σ' ρ' → Dn.ct σ' H'
  | .ok (.rt d, ρ') => ∀ v σ' F' H', Same F F' → Good K fc F' H' σ' ρ' → Rp K F' v d → Dn.rt v H'
  | .ok (.rn ds, ρ') => ∀ p xs σ' F' H', Same F F' → Good K fc F' H' σ' ρ' → H' p = none → Rps K F' xs ds → xs.length ≤ sizeLine → Dn.rt (.ref p) (upd H' p (.lst xs))
  | .exc _ _ => False
  | .bad => False
def RdS (K : Frag) (fc : Fc) (f : Slots → R (Fl × Slots)) : TS := fun Dn σ H => ∃ F ρ, Good K fc F H σ ρ ∧ FinS K fc F Dn (f ρ)
section
variable {α β : Type} {K : Frag} {fc : Fc} {F H F' : Hp} {σ : L2.St} {ρ : Slots} {Dn : Ends}
theorem FinS.mono (s : Same F F') {r : R (Fl × Slots)} (h : FinS K fc F Dn r) : FinS K fc F' Dn r := by
  cases r with
  | ok p =>
    obtain ⟨f, ρ'⟩ := p
    cases f with
    | nx => exact fun σ' F2 H2 s2 g => h σ' F2 H2 (s.trans s2) g
    | bk => exact fun σ' F2 H2 s2 g => h σ' F2 H2 (s.trans s2) g
    | ct => exact fun σ' F2 H2 s2 g => h σ' F2 H2 (s.trans s2) g
    | rt d => exact fun v σ' F2 H2 s2 g => h v σ' F2 H2 (s.trans s2) g
    | rn ds => exact fun p xs σ' F2 H2 s2 g => h p xs σ' F2 H2 (s.trans s2) g
  | exc => exact h
  | bad => exact h
theorem FinS.ok {r : R α} {g : α → R (Fl × Slots)} (h : FinS K fc F Dn (r >>= g)) : ∃ a, r = .ok a ∧ FinS K fc F Dn (g a) := by
  cases r with
  | ok a => exact ⟨a, rfl, h⟩
  | exc => exact h.elim
  | bad => exact h.elim
theorem Good.step {F' H' : Hp} {ρ' : Slots} (g : Good K fc F H σ ρ) (e : Ext (Own σ ρ) F H F' H') (en : EnvOk K F' H' σ ρ') (o : ∀ l, Own σ ρ' l → Own σ ρ l) : Good K fc F' H' σ ρ' :=
  ⟨en, g.ex.trans e g.ow, fun l hl => g.ow l (o l hl), g.lb⟩
/-- an expression, then what follows -/
theorem FinS.ev {Rl : Hp → β → α → Prop} {r : R (α × Slots)} {k : α × Slots → R (Fl × Slots)} (g : Good K fc F H σ ρ) (h : FinS K fc F Dn (r >>= k)) :
    Fin K Rl (Own σ ρ) F H σ (fun v H1 => ∃ F1 ρ1 a, Same F F1 ∧ Good K fc F1 H1 σ ρ1 ∧ Rl F1 v a ∧ FinS K fc F1 Dn (k (a, ρ1))) r := by
  cases r with
  | ok p => exact fun v F' H' e en o rl => ⟨F', p.2, p.1, e.f, g.step e en o, rl, FinS.mono e.f (show FinS K fc F Dn (k p) from h)⟩
  | exc => exact h.elim
  | bad => exact h.elim
theorem FinS.iff {c : Bool} {r1 r2 : R (Fl × Slots)} (h : FinS K fc F Dn (if c = true then r1 else r2)) : (c = true → FinS K fc F Dn r1) ∧ (c = false → FinS K fc F Dn r2) := by
  cases c
  · exact ⟨fun z => (by cases z), fun _ => h⟩
  · exact ⟨fun _ => h, fun z => (by cases z)⟩
/-- a block, then what follows where it runs through -/
theorem FinS.seq {r : R (Fl × Slots)} {k : Slots → R (Fl × Slots)} (h : FinS K fc F Dn (r >>= fun p => match p.1 with | .nx => k p.2 | f => .ok (f, p.2))) : FinS K fc F { Dn with nx := RdS K fc k Dn } r := by
  cases r with
  | ok p =>
    obtain ⟨f, ρ'⟩ := p
    cases f with
    | nx => exact fun σ' F2 H2 s2 g => ⟨F2, ρ', g, FinS.mono s2 (show FinS K fc F Dn (k ρ') from h)⟩
    | bk => exact h
    | ct => exact h
    | rt d => exact h
    | rn ds => exact h
  | exc => exact h
  | bad => exact h
/-- a turn of a loop -/
theorem FinS.turn {r : R (Fl × Slots)} {k : Slots → R (Fl × Slots)} {N : L2.St → Hp → Prop} (h : FinS K fc F Dn (r >>= fun p => match p.1 with
    | .nx => k p.2
    | .ct => k p.2
    | .bk => .ok (.nx, p.2)
    | f => .ok (f, p.2))) (hN : ∀ σ' F' H' ρ', Same F F' → Good K fc F' H' σ' ρ' → FinS K fc F' Dn (k ρ') → N σ' H') : FinS K fc F { Dn with nx := N, ct := N, bk := Dn.nx } r := by
  cases r with
  | ok p =>
    obtain ⟨f, ρ'⟩ := p
    cases f with
    | nx => exact fun σ' F2 H2 s2 g => hN σ' F2 H2 ρ' s2 g (FinS.mono s2 (show FinS K fc F Dn (k ρ') from h))
    | ct => exact fun σ' F2 H2 s2 g => hN σ' F2 H2 ρ' s2 g (FinS.mono s2 (show FinS K fc F Dn (k ρ') from h))
    | bk => exact h
    | rt d => exact h
    | rn ds => exact h
  | exc => exact h
  | bad => exact h
theorem slot0 {bor : Bool} {is : List Nat} (h : slotOk bor is = true) (hb : bor = true) : 0 ∉ is := by
  subst hb
  have h : (is.all fun i => decide (i ≠ 0)) = true := h
  intro z
  have := List.all_eq_true.mp h 0 z
  simp at this
theorem Good.took {is : List Nat} {σ2 : L2.St} {ρ2 : Slots} (g : Good K fc F H σ ρ) (h : slotOk fc.bor is = true) (t : Took K F H σ ρ is σ2 ρ2) : Good K fc F H σ2 ρ2 :=
  ⟨t.en, g.ex, fun l hl => g.ow l (t.own l hl), fun l hl => ⟨(g.lb l hl).1, by rw [(t.out 0 (slot0 h (g.lb l hl).1)).1]; exact (g.lb l hl).2⟩⟩
/-- a list just made, one's own -/
theorem Good.new {i : Nat} {p : Addr} {xs : List V} {ds : List D} (g : Good K fc F H σ ρ) (h : slotOk fc.bor [i] = true) (hf : free ρ i = true) (hp : H p = none) (r : Rps K F xs ds) (z : xs.length ≤ sizeLine) :
    Good K fc F (upd H p (.lst xs)) (σ.set i (some (.ref p))) (ρ.set i (.own false ds)) := by
  have hF : F p = none := g.en.sub.free hp
  have e0 : Ext (fun _ => False) F H F (upd H p (.lst xs)) := Ext.laidH hp
  have en0 : EnvOk K F (upd H p (.lst xs)) σ ρ := g.en.ext e0 (sub_updH g.en.sub hF) fun _ _ z => z
  have hi : i < ρ.length := by
    unfold free at hf
    cases e : ρ[i]? with
    | none => rw [e] at hf; cases hf
    | some c => exact (List.getElem?_eq_some_iff.mp e).1
  have hiσ : i < σ.length := by rw [g.en.len]; exact hi
  have hP0 : fc.H0 p = none := g.ex.free hp
  have nown : ¬ Own σ ρ p := own_none g.en hp
  have cases' : ∀ {j : Nat} {b : Bool} {d2 : List D} {l : Addr}, (ρ.set i (.own false ds))[j]? = some (Cell.own b d2) → (σ.set i (some (V.ref p)))[j]? = some (some (V.ref l)) → (j = i ∧ l = p) ∨ (j ≠ i ∧ ρ[j]? = some (Cell.own b d2) ∧ σ[j]? = some (some (V.ref l))) := fun {j b d2 l} e1 e2 => by
    by_cases hj : i = j
    · subst hj
      rw [List.getElem?_set_self hiσ] at e2
      exact .inl ⟨rfl, (V.ref.inj (Option.some.inj (Option.some.inj e2))).symm⟩
    · rw [List.getElem?_set_ne hj] at e1 e2
      exact .inr ⟨fun z => hj z.symm, e1, e2⟩
  refine ⟨⟨en0.sub, by rw [List.length_set, List.length_set]; exact g.en.len, fun j c e => ?_, fun j1 j2 l b b' d1 d2 e1 e2 g1 g2 => ?_, g.en.sm⟩, g.ex.trans e0 fun l z => z.elim, fun l ⟨j, b, d2, e1, e2⟩ => ?_, fun l hl => ⟨(g.lb l hl).1, ?_⟩⟩
  · by_cases hj : i = j
    · subst hj
      rw [List.getElem?_set_self hi] at e
      obtain rfl := Option.some.inj e
      rw [List.getElem?_set_self hiσ]
      exact ⟨p, xs, rfl, hF, upd_same, r, z⟩
    · rw [List.getElem?_set_ne hj] at e ⊢
      exact en0.cell j c e
  · rcases cases' e1 g1 with ⟨a1, rfl⟩ | ⟨a1, b1, c1⟩ <;> rcases cases' e2 g2 with ⟨a2, k2⟩ | ⟨a2, b2, c2⟩
    · rw [a1, a2]
    · exact absurd ⟨j2, _, _, b2, c2⟩ nown
    · subst k2; exact absurd ⟨j1, _, _, b1, c1⟩ nown
    · exact g.en.sep _ _ _ _ _ _ _ b1 b2 c1 c2
  · rcases cases' e1 e2 with ⟨_, rfl⟩ | ⟨_, b1, c1⟩
    · exact .inr hP0
    · exact g.ow l ⟨j, b, d2, b1, c1⟩
  · have h0 := slot0 h (g.lb l hl).1
    rw [List.getElem?_set_ne (fun z => h0 (by rw [z]; exact List.mem_cons_self))]
    exact (g.lb l hl).2
/-- a list of one's own is written -/
theorem Good.wrt {i : Nat} {b : Bool} {l : Addr} {ds ds' : List D} {xs' : List V} (g : Good K fc F H σ ρ) (e : ρ[i]? = some (Cell.own b ds)) (el : σ[i]? = some (some (V.ref l))) (hF : F l = none) (r : Rps K F xs' ds') (z : xs'.length ≤ sizeLine) :
    Good K fc F (upd H l (.lst xs')) σ (ρ.set i (.own b ds')) := by
  have e0 : Ext (fun a => a = l) F H F (upd H l (.lst xs')) := Ext.over hF
  exact g.step (e0.mono fun a ha => ⟨i, b, ds, e, by rw [ha]; exact el⟩) (set_ok g.en e el e0 (sub_updH g.en.sub hF) hF upd_same r z) fun a ha => own_set e a ha
end
end DP

/-! DP, part 14: statements keep what the small tree says. -/
namespace DP
open PySem PySem.Spec PyProof.Rows L2
section
variable {G : Gm} {k : Nat} {sc raw : Scope} {N : List Str} {X : Cx} {pos : Pos}
theorem comp_parts {elt cond : E} {tg : Tg} {it : I} {e' : Expr} (c : Here G k sc raw N X) (h : okE G sc raw N (.comp elt tg it cond) e' = true) : ∃ (elt' tg' it' : Expr) (ifs' : List Expr) (scope : Scope) (pos : Pos), e' = .ListComp elt' [⟨tg', it', ifs', 0⟩] scope pos ∧
    PI X tg' it' (RdI X.K (evI G it)) ∧ plain it' = true ∧ BlkOk X.N X.env.scope scope (ownOf N tg) ∧
    (∀ (s : Shared) (H : Hp) (C : Addr) (cl : List (Str × Addr)) (fp : List Addr), PG (X.blk s H scope (compEnvC scope cl C X.env) fp) tg' (gTg X.K tg)) ∧
    (∀ (s : Shared) (H : Hp) (C : Addr) (cl : List (Str × Addr)) (fp : List Addr), PTs (X.blk s H scope (compEnvC scope cl C X.env) fp) ifs' (RdT X.K (evT G cond))) ∧
    (∀ (s : Shared) (H : Hp) (C : Addr) (cl : List (Str × Addr)) (fp : List Addr), PE (X.blk s H scope (compEnvC scope cl C X.env) fp) elt' (RdE X.K (ev G elt))) := by
  cases e' <;> first | (cases h; done) | skip
  rename_i elt' gs scope pos
  rcases gs with _ | ⟨⟨tg', it', ifs', as⟩, _ | ⟨g2, gs⟩⟩ <;> first | (cases h; done) | skip
  rw [okE_comp] at h
  obtain ⟨h, h5⟩ := band h
  obtain ⟨h, h4⟩ := band h
  obtain ⟨h, h3⟩ := band h
  obtain ⟨h, h2⟩ := band h
  obtain ⟨h0, h1⟩ := band h
  obtain rfl : as = 0 := of_decide_eq_true h0
  have qi := soundi it c h1
  refine ⟨elt', tg', it', ifs', scope, pos, rfl, qi.1 tg', qi.2, by rw [c.nE, c.scE]; exact blkOk_by h2, fun s H C cl fp => pg_tg (c.blk scope s H C cl fp) h3, fun s H C cl fp => ?_, fun s H C cl fp => (sound elt (c.blk scope s H C cl fp) h4).1⟩
  rcases ifs' with _ | ⟨c', _ | ⟨c2, cs⟩⟩
  · obtain rfl := yes_of h5
    exact pts_nil.imp yes_lit
  · obtain ⟨h7, h8⟩ := band (show (isT cond && okE G (relS scope sc) scope N cond c') = true from h5)
    exact pts_one ((sound cond (c.blk scope s H C cl fp) h8).2.1 h7)
  · cases h5
theorem same_rfl {F : Hp} : Same F F := fun _ _ h => h
theorem swaps_none {e' : Expr} (h : isComp' e' = false) {t : Option Expr} {line : Nat} {env : PySem.Env} : swapsWith e' t line env = pure false := by
  cases e' <;> first | rfl | cases h
theorem comp_of {e : E} {e' : Expr} (h : okE G sc raw N e e' = true) (hc : isComp' e' = true) : (∃ elt tg it cond, e = .comp elt tg it cond) ∨ (∃ elt tg it cond tg2 it2 cond2, e = .comp2 elt tg it cond tg2 it2 cond2) := by
  cases e' <;> first | (cases hc; done) | skip
  all_goals (cases e <;> first | exact .inl ⟨_, _, _, _, rfl⟩ | exact .inr ⟨_, _, _, _, _, _, _, rfl⟩ | (cases h; done) | skip)
  all_goals (rename_i es; cases es <;> cases h)
/-- name = a comprehension of two clauses -/
theorem s_nm2 (c : Here G k sc raw N X) {elt cond cond2 : E} {tg tg2 : Tg} {it it2 : I} {e' : Expr} {i : Nat} {x : Str} {px : Pos} (hl : okL sc raw N i x = true) (h : okE G sc raw N (.comp2 elt tg it cond tg2 it2 cond2) e' = true) (s2 : PE X e' (RdN X.K (ev G (.comp2 elt tg it cond tg2 it2 cond2)))) :
    PS X (.Assign [.Name x px] e' pos) (tAsg (RdN X.K (ev G (.comp2 elt tg it cond tg2 it2 cond2))) (gName i)) := by
  obtain ⟨g1, g2, g3⟩ := l_of c hl
  cases e' <;> first | (cases h; done) | skip
  rename_i elt' gs scope p2
  rcases gs with _ | ⟨⟨tg', it', ifs', as⟩, _ | ⟨⟨tg2', it2', ifs2', as2⟩, _ | ⟨g3, gs⟩⟩⟩ <;> first | (cases h; done) | skip
  rw [okE_comp2] at h
  obtain ⟨h, h9⟩ := band h
  obtain ⟨h, h8⟩ := band h
  obtain ⟨h, h7⟩ := band h
  obtain ⟨h, h6⟩ := band h
  obtain ⟨h, h5⟩ := band h
  obtain ⟨h, h4⟩ := band h
  obtain ⟨h, h3⟩ := band h
  obtain ⟨h, h2⟩ := band h
  obtain ⟨h0, h1⟩ := band h
  obtain rfl : as = 0 := of_decide_eq_true h0
  obtain rfl : as2 = 0 := of_decide_eq_true h1
  have qi := soundi it c h2
  have sw : swapsWith (.ListComp elt' [⟨tg', it', ifs', 0⟩, ⟨tg2', it2', ifs2', 0⟩] scope p2) (some (.Name x px)) pos.line X.env =
    pure (X.env.blockKind == .function && X.env.kindOf x == some .local && px.line == p2.line && !(scope.names.any fun (n, k) => n == x && (k == .local || k == .cell))) := rfl
  cases hb : (X.env.blockKind == .function && X.env.kindOf x == some .local && px.line == p2.line && !(scope.names.any fun (n, k) => n == x && (k == .local || k == .cell))) with
  | false =>
    rw [hb] at sw
    exact ps_set (nd_of c) g1 g2 s2 sw g3
  | true =>
    rw [hb] at sw
    obtain ⟨hb, _⟩ := band hb
    obtain ⟨hb, _⟩ := band hb
    obtain ⟨_, hb⟩ := band hb
    have hk : X.env.scope.names.lookup x = some .local := by
      have hb : (X.env.kindOf x == some NameKind.local) = true := hb
      exact eq_of_beq hb
    have okB : BlkOk X.N X.env.scope scope (ownOf N tg ++ ownOf N tg2) := by rw [c.nE, c.scE]; exact blkOk_by h3
    have r := ps_setLc2 (py := px) (pos := p2) (spos := pos) (own := ownOf N tg ++ ownOf N tg2) (vs1 := tg2.slots) (wi := RdI X.K (evI G it)) (g := gTg X.K tg) (tt := RdT X.K (evT G cond)) (wi1 := RdI X.K (evI G it2)) (g1 := gTg X.K tg2) (tt1 := RdT X.K (evT G cond2)) (te := RdE X.K (ev G elt)) c.calm (nd_of c) g1 hk sw (qi.1 tg') okB (fun i hi => by
        rw [List.map_append, ownOf_ix, ownOf_ix]
        exact List.mem_append_right _ hi)
      (fun s H C cl fp => pg_tg (c.blk scope s H C cl fp) h4) (fun s H C cl fp => pts_cd (c.blk scope s H C cl fp) (sound cond) h8)
      (fun s H C cl fp => (soundi it2 (c.blk scope s H C cl fp) h6).1 tg2') (fun s H C cl fp => pg_tg (c.blk scope s H C cl fp) h5) (fun s H C cl fp => pts_cd (c.blk scope s H C cl fp) (sound cond2) h9) (fun s H C cl fp => (sound elt (c.blk scope s H C cl fp) h7).1) (plain_fold qi.2) (fun env => plain_fold (plain_ofI (G := G) h6))
    exact ⟨fun pins s σ H Dn I q => r.run pins s σ H Dn I (lc2_of q)⟩
/-- name = value -/
theorem s_nm (c : Here G k sc raw N X) {e : E} {e' : Expr} {i : Nat} {x : Str} {px : Pos} (hl : okL sc raw N i x = true) (h : okE G sc raw N e e' = true) :
    PS X (.Assign [.Name x px] e' pos) (tAsg (RdE X.K (ev G e)) (gName i)) ∧ (isNewE e = true → PS X (.Assign [.Name x px] e' pos) (tAsg (RdN X.K (ev G e)) (gName i))) := by
  obtain ⟨g1, g2, g3⟩ := l_of c hl
  have s := sound e c h
  cases hc : isComp' e' with
  | false => exact ⟨ps_set (nd_of c) g1 g2 s.1 (swaps_none hc) g3, fun z => ps_set (nd_of c) g1 g2 (s.2.2 z) (swaps_none hc) g3⟩
  | true =>
    rcases comp_of h hc with ⟨elt, tg, it, cond, rfl⟩ | ⟨elt, tg, it, cond, tg2, it2, cond2, rfl⟩
    rotate_left
    · have key := s_nm2 (px := px) (pos := pos) c hl h (s.2.2 rfl)
      exact ⟨⟨fun pins s σ H Dn I q => key.run pins s σ H Dn I (RdE.new q comp2_list)⟩, fun _ => key⟩
    obtain ⟨elt', tg', it', ifs', scope, p2, rfl, hi, hp, ok, hg, ht, he⟩ := comp_parts c h
    have key : PS X (.Assign [.Name x px] (.ListComp elt' [⟨tg', it', ifs', 0⟩] scope p2) pos) (tAsg (RdN X.K (ev G (.comp elt tg it cond))) (gName i)) := by
      have sw : swapsWith (.ListComp elt' [⟨tg', it', ifs', 0⟩] scope p2) (some (.Name x px)) pos.line X.env =
        pure (X.env.blockKind == .function && X.env.kindOf x == some .local && px.line == p2.line && !(scope.names.any fun (n, k) => n == x && (k == .local || k == .cell))) := rfl
      cases hb : (X.env.blockKind == .function && X.env.kindOf x == some .local && px.line == p2.line && !(scope.names.any fun (n, k) => n == x && (k == .local || k == .cell))) with
      | false =>
        rw [hb] at sw
        exact ps_set (nd_of c) g1 g2 (s.2.2 rfl) sw g3
      | true =>
        rw [hb] at sw
        obtain ⟨hb, _⟩ := band hb
        obtain ⟨hb, _⟩ := band hb
        obtain ⟨_, hb⟩ := band hb
        have hk : X.env.scope.names.lookup x = some .local := by
          have hb : (X.env.kindOf x == some NameKind.local) = true := hb
          exact eq_of_beq hb
        have r := ps_setLc (py := px) (pos := p2) (spos := pos) (own := ownOf N tg) c.calm (nd_of c) g1 hk sw hi ok hg ht he (plain_fold hp)
        exact ⟨fun pins s σ H Dn I q => r.run pins s σ H Dn I (lc_of q)⟩
    exact ⟨⟨fun pins s σ H Dn I q => key.run pins s σ H Dn I (RdE.new q comp_list)⟩, fun _ => key⟩
theorem notTup_sw {e' : Expr} (h : notTupE e' = true) {es : List Expr} {k0 : Nat} {p : Pos} {env : PySem.Env} : swappedStores [.Tuple es k0 p] e' env = pure none := by
  cases e' <;> first | rfl | cases h
theorem sw_tup {e' : Expr} {es : List Expr} {k0 : Nat} {p : Pos} {line : Nat} {env : PySem.Env} : swapsWithSole [.Tuple es k0 p] e' line env = pure false := by
  cases e' <;> rfl
theorem sw_sub {e' o i : Expr} {p : Pos} {line : Nat} {env : PySem.Env} : swapsWithSole [.Subscript o i p] e' line env = pure false := by
  cases e' <;> rfl
theorem sws_sub {e' o i : Expr} {p : Pos} {env : PySem.Env} : swappedStores [.Subscript o i p] e' env = pure none := by
  cases e' <;> rfl
end
variable (G : Gm)
def SoundS (s : S) : Prop := ∀ {k : Nat} {sc raw : Scope} {N : List Str} {X : Cx} {st : Stmt} (fc : Fc), Here G k sc raw N X → PassesOwn (model X.prog X.w) X.A X.env X.xe → okS G sc raw N fc.bor s st = true → PS X st (RdS X.K fc (ex G s))
def SoundSs (s : Ss) : Prop := ∀ {k : Nat} {sc raw : Scope} {N : List Str} {X : Cx} {st : List Stmt} (fc : Fc), Here G k sc raw N X → PassesOwn (model X.prog X.w) X.A X.env X.xe → okSs G sc raw N fc.bor s st = true → PSs X st (RdS X.K fc (exs G s))
theorem _root_.L2.PS.imp {X : Cx} {e : Stmt} {t t' : TS} (h : PS X e t) (i : ∀ D σ H, t' D σ H → t D σ H) : PS X e t' := ⟨fun pins s σ H Q I q => h.run pins s σ H Q I (i _ _ _ q)⟩
theorem _root_.L2.PSs.imp {X : Cx} {e : List Stmt} {t t' : TS} (h : PSs X e t) (i : ∀ D σ H, t' D σ H → t D σ H) : PSs X e t' := ⟨fun pins s σ H Q I q => h.run pins s σ H Q I (i _ _ _ q)⟩
variable {G}
theorem st_asg {tg : Tg} {e : E} : SoundS G (.asg tg e) := by
  intro k sc raw N X st fc c hx h
  have key : ∀ {st : Stmt}, slotOk fc.bor tg.slots = true → PS X st (tAsg (RdE X.K (ev G e)) (gTg X.K tg)) → PS X st (RdS X.K fc (ex G (.asg tg e))) := fun {st} hs p => by
    refine p.imp fun Dn σ H q => ?_
    obtain ⟨F, ρ, g, q⟩ := q
    have q : FinS X.K fc F Dn (ev G e ρ >>= fun p => keep p.1 >>= fun d => putTg tg d p.2 >>= fun ρ' => .ok (.nx, ρ')) := q
    refine ⟨F, ρ, g.en, (q.ev g).mono fun x H1 q => ?_⟩
    obtain ⟨F1, ρ1, o, s1, g1, r1, q⟩ := q
    obtain ⟨d, ed, q⟩ := q.ok
    obtain ⟨ρ', ep, q⟩ := q.ok
    exact take_tg g1.en ep (keep_rp r1 ed) fun σ2 t => q σ2 F1 H1 same_rfl (g1.took hs t)
  cases st <;> first | (cases tg <;> cases h; done) | skip
  rename_i ts e' pos
  rcases ts with _ | ⟨t, _ | ⟨t2, ts⟩⟩ <;> first | (cases tg <;> cases h; done) | skip
  rotate_left
  · cases tg <;> cases t <;> cases h
  cases tg with
  | nm i =>
    cases t <;> first | (cases h; done) | skip
    rename_i x px
    obtain ⟨h, h3⟩ := band (show (okL sc raw N i x && okE G sc raw N e e' && slotOk fc.bor [i]) = true from h)
    obtain ⟨h1, h2⟩ := band h
    exact key h3 (s_nm c h1 h2).1
  | tup is =>
    cases t <;> first | (cases h; done) | skip
    rename_i ts k0 px
    obtain ⟨h, h4⟩ := band (show (okNms sc raw N is ts && okE G sc raw N e e' && notTupE e' && slotOk fc.bor is) = true from h)
    obtain ⟨h, h3⟩ := band h
    obtain ⟨h1, h2⟩ := band h
    exact key h4 (ps_asg (sound e c h2).1 (pg_tg (tg := .tup is) c h1) sw_tup (notTup_sw h3) rfl)
theorem st_new {i : Nat} {e : E} : SoundS G (.new i e) := by
  intro k sc raw N X st fc c hx h
  cases st <;> first | (cases h; done) | skip
  rename_i ts e' pos
  rcases ts with _ | ⟨t, _ | ⟨t2, ts⟩⟩ <;> first | (cases h; done) | skip
  rotate_left
  · cases t <;> cases h
  cases t <;> first | (cases h; done) | skip
  rename_i x px
  obtain ⟨h, h4⟩ := band (show (okL sc raw N i x && okE G sc raw N e e' && isNewE e && slotOk fc.bor [i]) = true from h)
  obtain ⟨h, h3⟩ := band h
  obtain ⟨h1, h2⟩ := band h
  refine ((s_nm c h1 h2).2 h3).imp fun Dn σ H q => ?_
  obtain ⟨F, ρ, g, q⟩ := q
  have q : FinS X.K fc F Dn (ev G e ρ >>= fun p => (match p.1 with
    | .val (.list ds) => if free p.2 i = true then .ok (.nx, p.2.set i (.own false ds)) else .bad
    | _ => .bad)) := q
  obtain ⟨p, ep, q⟩ := q.ok
  obtain ⟨o, ρ'⟩ := p
  cases o with
  | plc j => exact q.elim
  | val d =>
    cases d <;> first | (exact q.elim) | skip
    rename_i ds
    obtain ⟨q1, q2⟩ := q.iff
    cases hf : free ρ' i with
    | false => exact (q2 hf).elim
    | true =>
      refine ⟨F, ρ, ds, ρ', g.en, ep, fun p xs F' H' ex en' ow hp r z => ?_⟩
      exact q1 hf _ F' _ ex.f ((g.step ex en' ow).new h4 hf hp r z)
theorem st_newC {i j : Nat} {es : Es} : SoundS G (.newC i j es) := by
  intro k sc raw N X st fc c hx h
  cases es with
  | nil => cases st <;> cases h
  | cons e es =>
  cases st <;> first | (cases h; done) | skip
  rename_i ts e' pos
  rcases ts with _ | ⟨t, _ | ⟨t2, ts⟩⟩ <;> first | (cases h; done) | skip
  rotate_left
  · cases t <;> cases h
  cases t <;> first | (cases h; done) | skip
  rename_i x px
  cases e' <;> first | (cases h; done) | skip
  rename_i f as ks p2
  cases f <;> first | (cases h; done) | skip
  rename_i f pf
  rcases as with _ | ⟨e', es'⟩ <;> first | (cases h; done) | skip
  rcases ks with _ | ⟨k1, ks⟩ <;> first | (cases h; done) | skip
  obtain ⟨h, h6⟩ := band h
  obtain ⟨h, h5⟩ := band h
  obtain ⟨h, h4⟩ := band h
  obtain ⟨h, h3⟩ := band h
  obtain ⟨h1, h2⟩ := band h
  have h7 : okEs G sc raw N (.cons e es) (e' :: es') = true := by
    show (okE G sc raw N e e' && okEs G sc raw N es es') = true
    rw [h4, h5]; rfl
  obtain ⟨g1, g2, g3⟩ := l_of c h1
  have qa := (sounds (.cons e es) c).1 h7
  refine (ps_set (nd_of c) g1 g2 (s_callN (pos := p2) (px := pf) c h2 h3 qa.2 qa.1) rfl g3).imp fun Dn σ H q => ?_
  obtain ⟨F, ρ, g, q⟩ := q
  have q : FinS X.K fc F Dn (ev G (.call j (.cons e es)) ρ >>= fun p => (match p.1 with
    | .val (.list ds) => if free p.2 i = true then .ok (.nx, p.2.set i (.own false ds)) else .bad
    | _ => .bad)) := q
  obtain ⟨p, ep, q⟩ := q.ok
  obtain ⟨o, ρ'⟩ := p
  cases o with
  | plc j => exact q.elim
  | val d =>
    cases d <;> first | (exact q.elim) | skip
    rename_i ds
    obtain ⟨q1, q2⟩ := q.iff
    cases hf : free ρ' i with
    | false => exact (q2 hf).elim
    | true =>
      refine ⟨F, ρ, ds, ρ', g.en, ep, fun p xs F' H' ex en' ow hp r z => ?_⟩
      exact q1 hf _ F' _ ex.f ((g.step ex en' ow).new h6 hf hp r z)
theorem own_at {K : Frag} {F H : Hp} {σ : L2.St} {ρ : Slots} {i : Nat} {b : Bool} {ds : List D} (en : EnvOk K F H σ ρ) (e : ρ[i]? = some (Cell.own b ds)) : ∃ l xs, σ[i]? = some (some (V.ref l)) ∧ F l = none ∧ H l = some (.lst xs) ∧ Rps K F xs ds ∧ xs.length ≤ sizeLine := by
  obtain ⟨l, xs, el, h⟩ := en.cell i _ e
  refine ⟨l, xs, ?_, h⟩
  cases z : σ[i]? with
  | none => rw [z] at el; cases el
  | some u => rw [z] at el; exact congrArg some el
theorem st_setI {i : Nat} {ix e : E} : SoundS G (.setI i ix e) := by
  intro k sc raw N X st fc c hx h
  cases st <;> first | (cases h; done) | skip
  rename_i ts e' pos
  rcases ts with _ | ⟨t, _ | ⟨t2, ts⟩⟩ <;> first | (cases h; done) | skip
  rotate_left
  · cases t <;> first | (cases h; done) | skip
    rename_i o _ _
    cases o <;> cases h
  cases t <;> first | (cases h; done) | skip
  rename_i o ix' p2
  cases o <;> first | (cases h; done) | skip
  rename_i x px
  obtain ⟨h, h3⟩ := band (show (okV sc N i x && okE G sc raw N ix ix' && okE G sc raw N e e') = true from h)
  obtain ⟨h1, h2⟩ := band h
  have pl := plain_of (G := G) h2
  have ha : ∀ v, assign (.Subscript (.Name x px) ix' p2) X.env v = (do
      let ov ← holding [v] (eval (.Name x px) X.env)
      let iv ← holding [v, ov] (eval ix' X.env)
      standAt p2
      holding [v, ov, iv] (setItem ov iv v)
      release [v, ov, iv] []) := by
    intro v
    cases ix' <;> first | rfl | cases pl
  refine (ps_asg (sound e c h3).1 (pg_sub (v_of c h1) (sound ix c h2).1 set_list ha) sw_sub sws_sub rfl).imp fun Dn σ H q => ?_
  obtain ⟨F, ρ, g, q⟩ := q
  have q : FinS X.K fc F Dn (ev G e ρ >>= fun p => keep p.1 >>= fun d => (match p.2[i]? with
    | some (.own _ _) => ev G ix p.2 >>= fun q => peek q.2 q.1 >>= fun x => asI x >>= fun k => (match q.2[i]? with
      | some (.own b ds) => (match ixN ds.length k with
        | some j => .ok (.nx, q.2.set i (.own b (ds.set j d)))
        | none => .bad)
      | _ => .bad)
    | _ => .bad)) := q
  refine ⟨F, ρ, g.en, (q.ev g).mono fun v H1 q => ?_⟩
  obtain ⟨F1, ρ1, o, s1, g1, r1, q⟩ := q
  obtain ⟨d, ed, q⟩ := q.ok
  dsimp only at q
  split at q
  rotate_left
  · exact q.elim
  rename_i b0 ds0 e0
  obtain ⟨l, _, el, _⟩ := own_at g1.en e0
  refine ⟨.ref l, el, F1, ρ1, g1.en, (q.ev g1).mono fun y H2 q => ?_⟩
  obtain ⟨F2, ρ2, o2, s2, g2, r2, q⟩ := q
  obtain ⟨dx, ex, q⟩ := q.ok
  obtain ⟨kk, ek, q9⟩ := q.ok
  have wy := peek_wk g2.en r2 ex
  dsimp only at q9
  split at q9
  rotate_left
  · exact q9.elim
  rename_i b ds e2
  split at q9
  rotate_left
  · exact q9.elim
  rename_i j ej
  obtain ⟨l', xs, el', f1, f2, f3, f4⟩ := own_at g2.en e2
  rw [el] at el'
  obtain rfl : l = l' := V.ref.inj (Option.some.inj (Option.some.inj el'))
  cases dx with
  | int k2 =>
    obtain rfl : k2 = kk := R.ok.inj ek
    have rv : Rp X.K F2 v d := (keep_rp r1 ed).mono s2
    refine ⟨l, xs, k2, j, rfl, wy.int, f2, by rw [f3.len]; exact ej, ?_⟩
    exact q9 σ F2 _ same_rfl (g2.wrt e2 el f1 (Rps.set rv j f3) (by rw [List.length_set]; exact f4))
  | _ => cases ek
theorem st_app {i : Nat} {e : E} : SoundS G (.app i e) := by
  intro k sc raw N X st fc c hx h
  cases st <;> first | (cases h; done) | skip
  rename_i e0 pos
  cases e0 <;> first | (cases h; done) | skip
  rename_i f as ks cpos
  cases f <;> first | (cases h; done) | skip
  rename_i o m apos
  cases o <;> first | (cases h; done) | skip
  rename_i x px
  rcases as with _ | ⟨e', _ | ⟨e2, as⟩⟩ <;> first | (cases h; done) | skip
  rcases ks with _ | ⟨k1, ks⟩ <;> first | (cases h; done) | skip
  obtain ⟨h, h4⟩ := band (show (okV sc N i x && decide (m = ("append" : Str)) && (apos.endLine == cpos.line) && okE G sc raw N e e') = true from h)
  obtain ⟨h, h3⟩ := band h
  obtain ⟨h1, h2⟩ := band h
  obtain rfl : m = ("append" : Str) := of_decide_eq_true h2
  have hst : starEach [e'] X.env = [(false, eval e' X.env)] := star_of (plain_star (plain_of (G := G) h4))
  refine (ps_expr (pe_bm PySem.F.plainAttrs_list PySem.F.slot_list_append PySem.F.type_list_append mt_append (v_of c h1) (pa_cons (sound e c h4).1 pa_nil hst) (by rfl) (by rw [hst]; rfl) h3 hst (by rfl)) (by rfl)).imp fun Dn σ H q => ?_
  obtain ⟨F, ρ, g, q⟩ := q
  have q : FinS X.K fc F Dn (match ρ[i]? with
    | some (.own _ _) => ev G e ρ >>= fun p => keep p.1 >>= fun d => (match p.2[i]? with
      | some (.own b ds) => if sz (ds.length + 1) = true then .ok (.nx, p.2.set i (.own b (ds ++ [d]))) else .bad
      | _ => .bad)
    | _ => .bad) := q
  split at q
  rotate_left
  · exact q.elim
  rename_i b0 ds0 e0
  obtain ⟨l, xs0, el, p1, p2, p3, p4⟩ := own_at g.en e0
  refine ⟨.ref l, el, .inl ⟨rfl, xs0, SqL.of p2⟩, F, ρ, g.en, (q.ev g).mono fun y H1 q => ?_⟩
  obtain ⟨F1, ρ1, o, s1, g1, r1, q⟩ := q
  obtain ⟨d, ed, q⟩ := q.ok
  dsimp only at q
  split at q
  rotate_left
  · exact q.elim
  rename_i b ds e2
  obtain ⟨q1, q2⟩ := q.iff
  cases hz : sz (ds.length + 1) with
  | false => exact (q2 hz).elim
  | true =>
    have q := q1 hz
    have hz := sz_le hz
    obtain ⟨l', xs, el', f1, f2, f3, f4⟩ := own_at g1.en e2
    rw [el] at el'
    obtain rfl : l = l' := V.ref.inj (Option.some.inj (Option.some.inj el'))
    have hl := f3.len
    refine ⟨l, xs, y, rfl, rfl, f2, by omega, ?_⟩
    exact q σ F1 _ same_rfl (g1.wrt e2 el f1 (f3.append (.cons (keep_rp r1 ed) .nil)) (by rw [List.length_append]; show xs.length + 1 ≤ _; omega))
theorem mt_extL {X : Cx} : MtM X "list.extend" (fun x vs H Q => ∃ l b xs zs, x = V.ref l ∧ vs = [V.ref b] ∧ H l = some (.lst xs) ∧ LsK X.K H b zs ∧ xs.length + zs.length ≤ sizeLine ∧ Q .non (upd H l (.lst (xs ++ zs)))) := by
  intro pins s σ H x vs v us Q I rx rv h
  obtain ⟨l, b, xs, zs, rfl, rfl, hl, hb, few, q⟩ := h
  cases rx
  obtain ⟨u, rfl, ru⟩ := rv.one
  cases ru
  obtain ⟨z1, as, n1, r1, len1, e1⟩ := I.lstM hl
  obtain ⟨z2, bs, n2, r2, len2, e2⟩ := Inv.lstR I hb
  have small : as.toArray.size + bs.toArray.size ≤ sizeLine := by simp only [List.size_toArray]; omega
  have short : ¬ (!as.toArray.isEmpty && Builtin.List.listTooLong (as.toArray.size + bs.toArray.size)) = true := by
    intro z
    rw [notLongL small] at z
    simp at z
  refine call_meets F.slot_list_extend ⟨_, e1, rfl⟩ F.entry_list_extend (F.args_list_extend_2 _ _) (AutoSeq1.list_extend_list_list_0 l as.toArray n1 b bs.toArray n2 short (by rw [List.size_toArray]; omega) (by omega)) ⟨e1, e2, ?_⟩
  exact ⟨.non, _, I.lset (its' := as ++ bs) hl e1 (by simp) (r1.append r2) (by rw [List.length_append]; omega), rfl, q⟩
theorem st_ext {i : Nat} {e : E} : SoundS G (.ext i e) := by
  intro k sc raw N X st fc c hx h
  cases st <;> first | (cases h; done) | skip
  rename_i e0 pos
  cases e0 <;> first | (cases h; done) | skip
  rename_i f as ks cpos
  cases f <;> first | (cases h; done) | skip
  rename_i o m apos
  cases o <;> first | (cases h; done) | skip
  rename_i x px
  rcases as with _ | ⟨e', _ | ⟨e2, as⟩⟩ <;> first | (cases h; done) | skip
  rcases ks with _ | ⟨k1, ks⟩ <;> first | (cases h; done) | skip
  obtain ⟨h, h4⟩ := band (show (okV sc N i x && decide (m = ("extend" : Str)) && (apos.endLine == cpos.line) && okE G sc raw N e e') = true from h)
  obtain ⟨h, h3⟩ := band h
  obtain ⟨h1, h2⟩ := band h
  obtain rfl : m = ("extend" : Str) := of_decide_eq_true h2
  have hst : starEach [e'] X.env = [(false, eval e' X.env)] := star_of (plain_star (plain_of (G := G) h4))
  refine (ps_expr (pe_bm PySem.F.plainAttrs_list PySem.F.slot_list_extend PySem.F.type_list_extend mt_extL (v_of c h1) (pa_cons (sound e c h4).1 pa_nil hst) (by rfl) (by rw [hst]; rfl) h3 hst (by rfl)) (by rfl)).imp fun Dn σ H q => ?_
  obtain ⟨F, ρ, g, q⟩ := q
  have q : FinS X.K fc F Dn (if isOwn ρ[i]? = true then ev G e ρ >>= fun p => peek p.2 p.1 >>= fun x => extC i p.2 x p.2[i]? else .bad) := q
  obtain ⟨q1, q2⟩ := q.iff
  cases hi : isOwn ρ[i]? with
  | false => exact (q2 hi).elim
  | true =>
    have q := q1 hi
    obtain ⟨b0, ds0, e0⟩ : ∃ b0 ds0, ρ[i]? = some (Cell.own b0 ds0) := by
      cases z : ρ[i]? with
      | none => rw [z] at hi; cases hi
      | some cc =>
        rw [z] at hi
        cases cc with
        | own b ds => exact ⟨b, ds, rfl⟩
        | _ => cases hi
    obtain ⟨l, xs0, el, p1, p2, p3, p4⟩ := own_at g.en e0
    refine ⟨.ref l, el, .inl ⟨rfl, xs0, SqL.of p2⟩, F, ρ, g.en, (q.ev g).mono fun y H1 q => ?_⟩
    obtain ⟨F1, ρ1, o, s1, g1, r1, q⟩ := q
    obtain ⟨d, ed, q⟩ := q.ok
    have wy := peek_wk g1.en r1 ed
    dsimp only at q
    cases d <;> first | (exact q.elim) | skip
    rename_i es
    obtain ⟨b, ds, e2⟩ : ∃ b ds, ρ1[i]? = some (Cell.own b ds) := by
      cases z : ρ1[i]? with
      | none => rw [z] at q; exact q.elim
      | some cc =>
        rw [z] at q
        cases cc with
        | own b ds => exact ⟨b, ds, rfl⟩
        | _ => exact q.elim
    rw [e2] at q
    have q : FinS X.K fc F1 Dn (if sz (ds.length + es.length) = true then .ok (.nx, ρ1.set i (.own b (ds ++ es))) else .bad) := q
    obtain ⟨q1, q2⟩ := q.iff
    cases hz : sz (ds.length + es.length) with
    | false => exact (q2 hz).elim
    | true =>
      have q := q1 hz
      have hz := sz_le hz
      obtain ⟨l', xs, el', f1, f2, f3, f4⟩ := own_at g1.en e2
      rw [el] at el'
      obtain rfl : l = l' := V.ref.inj (Option.some.inj (Option.some.inj el'))
      obtain ⟨bb, zs, rfl, w1, w2, w3⟩ := wy.lst g1.en.sub
      have hl := f3.len
      have hl2 := w2.len
      refine ⟨l, bb, xs, zs, rfl, rfl, f2, w1, by omega, ?_⟩
      exact q σ F1 _ same_rfl (g1.wrt e2 el f1 (f3.append w2) (by rw [List.length_append]; omega))
theorem st_exp {e : E} : SoundS G (.exp e) := by
  intro k sc raw N X st fc c hx h
  cases st <;> first | (cases h; done) | skip
  rename_i e' pos
  obtain ⟨h1, h2⟩ := band (show (okE G sc raw N e e' && !isComp' e') = true from h)
  refine (ps_expr (sound e c h1).1 (swaps_none (by simpa using h2))).imp fun Dn σ H q => ?_
  obtain ⟨F, ρ, g, q⟩ := q
  have q : FinS X.K fc F Dn (ev G e ρ >>= fun p => .ok (.nx, p.2)) := q
  refine ⟨F, ρ, g.en, (q.ev g).mono fun v H1 q => ?_⟩
  obtain ⟨F1, ρ1, o, s1, g1, r1, q⟩ := q
  exact q σ F1 H1 same_rfl g1
theorem st_ret {e : E} : SoundS G (.ret e) := by
  intro k sc raw N X st fc c hx h
  cases st <;> first | (cases h; done) | skip
  rename_i eo pos
  cases eo with
  | none => cases h
  | some e' =>
  refine (ps_ret (sound e c h).1).imp fun Dn σ H q => ?_
  obtain ⟨F, ρ, g, q⟩ := q
  have q : FinS X.K fc F Dn (ev G e ρ >>= fun p => keep p.1 >>= fun d => .ok (.rt d, p.2)) := q
  refine ⟨F, ρ, g.en, (q.ev g).mono fun v H1 q => ?_⟩
  obtain ⟨F1, ρ1, o, s1, g1, r1, q⟩ := q
  obtain ⟨d, ed, q⟩ := q.ok
  exact q v σ F1 H1 same_rfl g1 (keep_rp r1 ed)
theorem st_retL {e : E} : SoundS G (.retL e) := by
  intro k sc raw N X st fc c hx h
  cases st <;> first | (cases h; done) | skip
  rename_i eo pos
  cases eo with
  | none => cases h
  | some e' =>
  obtain ⟨h1, h2⟩ := band (show (okE G sc raw N e e' && isNewE e) = true from h)
  refine (ps_ret ((sound e c h1).2.2 h2)).imp fun Dn σ H q => ?_
  obtain ⟨F, ρ, g, q⟩ := q
  have q : FinS X.K fc F Dn (ev G e ρ >>= fun p => (match p.1 with
    | .val (.list ds) => .ok (.rn ds, p.2)
    | _ => .bad)) := q
  obtain ⟨p, ep, q⟩ := q.ok
  obtain ⟨o, ρ'⟩ := p
  cases o with
  | plc j => exact q.elim
  | val d =>
    cases d <;> first | (exact q.elim) | skip
    rename_i ds
    refine ⟨F, ρ, ds, ρ', g.en, ep, fun p xs F' H' ex en' ow hp r z => ?_⟩
    exact q p xs σ F' H' ex.f (g.step ex en' ow) hp r z
theorem st_retN : SoundS G .retN := by
  intro k sc raw N X st fc c hx h
  cases st <;> first | (cases h; done) | skip
  rename_i eo pos
  cases eo with
  | some e' => cases h
  | none =>
  refine ps_retN.imp fun Dn σ H q => ?_
  obtain ⟨F, ρ, g, q⟩ := q
  exact q .non σ F H same_rfl g .non
theorem st_pass : SoundS G .pass := by
  intro k sc raw N X st fc c hx h
  have key : ∀ {st : Stmt}, PS X st tNext → PS X st (RdS X.K fc (ex G .pass)) := fun p => p.imp fun Dn σ H q => by
    obtain ⟨F, ρ, g, q⟩ := q
    exact q σ F H same_rfl g
  cases st <;> first | (cases h; done) | (exact key ps_pass) | skip
  rename_i e pos
  cases e <;> first | (cases h; done) | skip
  rename_i co j p
  cases co <;> first | (cases h; done) | skip
  exact key ps_doc
theorem st_brk : SoundS G .brk := by
  intro k sc raw N X st fc c hx h
  cases st <;> first | (cases h; done) | skip
  refine ps_break.imp fun Dn σ H q => ?_
  obtain ⟨F, ρ, g, q⟩ := q
  exact q σ F H same_rfl g
theorem st_cnt : SoundS G .cnt := by
  intro k sc raw N X st fc c hx h
  cases st <;> first | (cases h; done) | skip
  refine ps_continue.imp fun Dn σ H q => ?_
  obtain ⟨F, ρ, g, q⟩ := q
  exact q σ F H same_rfl g
theorem st_never : SoundS G .never := by
  intro k sc raw N X st fc c hx h
  refine ps_never.imp fun Dn σ H q => ?_
  obtain ⟨F, ρ, g, q⟩ := q
  exact q.elim
theorem st_ifs {d : E} {a b : Ss} (iha : SoundSs G a) (ihb : SoundSs G b) : SoundS G (.ifs d a b) := by
  intro k sc raw N X st fc c hx h
  cases st <;> first | (cases h; done) | skip
  rename_i d' a' b' pos
  obtain ⟨h, h4⟩ := band (show (isT d && okE G sc raw N d d' && okSs G sc raw N fc.bor a a' && okSs G sc raw N fc.bor b b') = true from h)
  obtain ⟨h, h3⟩ := band h
  obtain ⟨h1, h2⟩ := band h
  refine (ps_if ((sound d c h2).2.1 h1) (iha fc c hx h3) (ihb fc c hx h4)).imp fun Dn σ H q => ?_
  obtain ⟨F, ρ, g, q⟩ := q
  have q : FinS X.K fc F Dn (evT G d ρ >>= fun p => if p.1 = true then exs G a p.2 else exs G b p.2) := q
  refine ⟨F, ρ, g.en, (q.ev g).mono fun v H1 q => ?_⟩
  obtain ⟨F1, ρ1, o, s1, g1, r1, q⟩ := q
  obtain rfl : v = o := r1
  obtain ⟨q1, q2⟩ := q.iff
  cases v with
  | true => exact iteT ⟨F1, ρ1, g1, q1 rfl⟩
  | false => exact iteF ⟨F1, ρ1, g1, q2 rfl⟩
theorem st_fors {tg : Tg} {it : I} {b : Ss} (ih : SoundSs G b) : SoundS G (.fors tg it b) := by
  intro k sc raw N X st fc c hx h
  cases st <;> first | (cases h; done) | skip
  rename_i tg' it' b' oe pos
  rcases oe with _ | ⟨o1, oe⟩ <;> first | (cases h; done) | skip
  obtain ⟨h, h4⟩ := band (show (okI G sc raw N it it' && okTg sc raw N tg tg' && okSs G sc raw N fc.bor b b' && slotOk fc.bor tg.slots) = true from h)
  obtain ⟨h, h3⟩ := band h
  obtain ⟨h1, h2⟩ := band h
  have qi := soundi it c h1
  refine (ps_for hx c.calm (qi.1 tg') (pg_tg c h2) (ih fc c hx h3) (plain_fold qi.2)).imp fun Dn σ H q => ?_
  obtain ⟨F, ρ, g, q⟩ := q
  have q : FinS X.K fc F Dn (evI G it ρ >>= fun p => forLoop (fun d ρ1 => putTg tg d ρ1 >>= fun ρ2 => exs G b ρ2) p.1 p.2) := q
  refine ⟨F, ρ, g.en, (q.ev g).mono fun J H1 q => ?_⟩
  obtain ⟨F1, ρ1, ds, s1, g1, gv, q⟩ := q
  have gv : Gives X.K J F1 ds := gv
  refine ⟨fun i m σ H => ∃ F ρ, i ≤ ds.length ∧ m = ds.length - i ∧ Good X.K fc F H σ ρ ∧ Same F1 F ∧ FinS X.K fc F Dn (forLoop (fun d ρ1 => putTg tg d ρ1 >>= fun ρ2 => exs G b ρ2) (ds.drop i) ρ), ⟨ds.length, F1, ρ1, Nat.zero_le _, rfl, g1, same_rfl, by rw [List.drop_zero]; exact q⟩, ?_⟩
  rintro i m σ5 H5 ⟨F5, ρ5, hi5, rfl, g5, s5, q⟩
  by_cases hlt : i < ds.length
  · refine .inr ⟨gv.go i H5 hlt (s5.trans g5.en.sub), _, fun σ' H' z => z, fun x H6 hy => ?_⟩
    have hd : ds[i]? = some ds[i] := List.getElem?_eq_getElem hlt
    obtain ⟨F6, ex6, sb6, rx⟩ := gv.yl i F5 H5 x H6 s5 g5.en.sub hy _ hd
    have g6 : Good X.K fc F6 H6 σ5 ρ5 := g5.step ex6.nil_own (g5.en.ext ex6 sb6 fun _ _ z => z) fun _ z => z
    rw [List.drop_eq_getElem_cons hlt] at q
    have q : FinS X.K fc F5 Dn ((putTg tg ds[i] ρ5 >>= fun ρ2 => exs G b ρ2) >>= fun p => match p.1 with
      | .nx => forLoop (fun d ρ1 => putTg tg d ρ1 >>= fun ρ2 => exs G b ρ2) (ds.drop (i + 1)) p.2
      | .ct => forLoop (fun d ρ1 => putTg tg d ρ1 >>= fun ρ2 => exs G b ρ2) (ds.drop (i + 1)) p.2
      | .bk => .ok (.nx, p.2)
      | f => .ok (f, p.2)) := q
    cases ep : putTg tg ds[i] ρ5 with
    | exc => rw [ep] at q; exact q.elim
    | bad => rw [ep] at q; exact q.elim
    | ok ρ6 =>
      rw [ep] at q
      simp only [bind_ok] at q
      refine take_tg g6.en ep rx fun σ2 t => ⟨F6, ρ6, g6.took h4 t, ?_⟩
      refine FinS.turn (FinS.mono ex6.f q) fun σ' F' H' ρ' s' g' q' => ⟨ds.length - (i + 1), by omega, F', ρ', hlt, rfl, g', s5.trans (ex6.f.trans s'), q'⟩
  · have hge : ds.length ≤ i := Nat.le_of_not_lt hlt
    rw [List.drop_eq_nil_of_le hge] at q
    exact .inl ⟨gv.stop i H5 hge (s5.trans g5.en.sub), q σ5 F5 H5 same_rfl g5⟩
theorem st_whl {n : Nat} {d : E} {b : Ss} (ih : SoundSs G b) : SoundS G (.whl n d b) := by
  intro k sc raw N X st fc c hx h
  cases st <;> first | (cases h; done) | skip
  rename_i d' b' oe pos
  rcases oe with _ | ⟨o1, oe⟩ <;> first | (cases h; done) | skip
  obtain ⟨h, h3⟩ := band (show (isT d && okE G sc raw N d d' && okSs G sc raw N fc.bor b b') = true from h)
  obtain ⟨h1, h2⟩ := band h
  refine (ps_while hx ((sound d c h2).2.1 h1) (ih fc c hx h3)).imp fun Dn σ H q => ?_
  obtain ⟨F, ρ, g, q⟩ := q
  have q : FinS X.K fc F Dn (whLoop (evT G d) (fun ρ1 => exs G b ρ1) n ρ) := q
  refine ⟨fun m σ H => ∃ F ρ, Good X.K fc F H σ ρ ∧ FinS X.K fc F Dn (whLoop (evT G d) (fun ρ1 => exs G b ρ1) m ρ), ⟨n, F, ρ, g, q⟩, ?_⟩
  rintro m σ1 H1 ⟨F1, ρ1, g1, q⟩
  cases m with
  | zero => exact q.elim
  | succ m =>
    have q : FinS X.K fc F1 Dn (evT G d ρ1 >>= fun t => if t.1 = true then exs G b t.2 >>= fun p => (match p.1 with
      | .nx => whLoop (evT G d) (fun ρ1 => exs G b ρ1) m p.2
      | .ct => whLoop (evT G d) (fun ρ1 => exs G b ρ1) m p.2
      | .bk => .ok (.nx, p.2)
      | f => .ok (f, p.2)) else .ok (.nx, t.2)) := q
    refine ⟨F1, ρ1, g1.en, (q.ev g1).mono fun v H2 q => ?_⟩
    obtain ⟨F2, ρ2, o, s2, g2, r2, q⟩ := q
    obtain rfl : v = o := r2
    obtain ⟨q1, q2⟩ := q.iff
    cases v with
    | true =>
      refine iteT ⟨_, fun σ' H' z => z, F2, ρ2, g2, ?_⟩
      exact FinS.turn (q1 rfl) fun σ' F' H' ρ' s' g' q' => ⟨m, Nat.lt_succ_self m, F', ρ', g', q'⟩
    | false => exact iteF ((q2 rfl) σ1 F2 H2 same_rfl g2)
theorem st_nil : SoundSs G .nil := by
  intro k sc raw N X st fc c hx h
  cases st with
  | cons _ _ => cases h
  | nil =>
  refine pss_nil.imp fun Dn σ H q => ?_
  obtain ⟨F, ρ, g, q⟩ := q
  exact q σ F H same_rfl g
theorem st_cons {s : S} {r : Ss} (ihs : SoundS G s) (ihr : SoundSs G r) : SoundSs G (.cons s r) := by
  intro k sc raw N X st fc c hx h
  cases st with
  | nil => cases h
  | cons s' r' =>
  obtain ⟨h1, h2⟩ := band (show (okS G sc raw N fc.bor s s' && okSs G sc raw N fc.bor r r') = true from h)
  refine (pss_cons (ihs fc c hx h1) (ihr fc c hx h2)).imp fun Dn σ H q => ?_
  obtain ⟨F, ρ, g, q⟩ := q
  exact ⟨F, ρ, g, FinS.seq q⟩
theorem par_sw {sc : Scope} {x y : Str} {px py pt pt2 : Pos} {kt k2 : Nat} {a b : Expr} {env : PySem.Env} (he : env.scope = sc) (h : parOk sc x y px py a b = true) :
    swappedStores [.Tuple [.Name x px, .Name y py] kt pt] (.Tuple [a, b] k2 pt2) env = pure (some [x, y]) ∧ sc.names.lookup x = some .local ∧ sc.names.lookup y = some .local ∧ x ≠ y ∧ plain a = true ∧ plain b = true := by
  unfold parOk at h
  obtain ⟨h, h9⟩ := band h
  obtain ⟨h, h8⟩ := band h
  obtain ⟨h, h7⟩ := band h
  obtain ⟨h, h6⟩ := band h
  obtain ⟨h, h5⟩ := band h
  obtain ⟨h, h4⟩ := band h
  obtain ⟨h, h3⟩ := band h
  obtain ⟨h1, h2⟩ := band h
  have h4 := of_decide_eq_true h4
  have h5 := of_decide_eq_true h5
  have lx : sc.names.lookup x = some .local := by
    split at h2
    · assumption
    · cases h2
  have ly : sc.names.lookup y = some .local := by
    split at h3
    · assumption
    · cases h3
  have bk : env.blockKind = .function := by
    unfold Env.blockKind
    rw [he]
    split at h1
    · assumption
    · cases h1
  refine ⟨?_, lx, ly, h5, h6, h7⟩
  have kx : env.kindOf x = some .local := by unfold Env.kindOf; rw [he]; exact lx
  have ky : env.kindOf y = some .local := by unfold Env.kindOf; rw [he]; exact ly
  have f8 : ([a, b].all (foldedForSure 8)) = false := by rw [Bool.not_eq_true'] at h8; exact h8
  have c8 : ([a, b].all (constantsAlone 8)) = false := by rw [Bool.not_eq_true'] at h9; exact h9
  have hxy : (x == y) = false := by simpa using h5
  have hyx : (y == x) = false := by simpa using h5.symm
  have hp1 : (Expr.Name x px).pos.line = px.line := rfl
  have ey : (y == x) = false := hyx
  have ed : [x, y].eraseDups = [x, y] := by simp [List.eraseDups_cons, hyx]
  unfold swappedStores
  simp only [List.head?_cons, Option.map_some, Option.getD_some, hp1, List.filterMap_cons, List.filterMap_nil, kx, ky, h4, bk]
  simp only [f8, c8, List.any_cons, List.any_nil]
  simp [ed]
  intro z
  rcases z with z | z
  · cases a <;> first | (cases z; done) | cases h6
  · cases b <;> first | (cases z; done) | cases h7
theorem st_par {i j : Nat} {a b : E} : SoundS G (.par i j a b) := by
  intro k sc raw N X st fc c hx h
  cases st <;> first | (cases h; done) | skip
  rename_i ts e' pos
  rcases ts with _ | ⟨t, _ | ⟨t2, ts⟩⟩ <;> first | (cases h; done) | skip
  rotate_left
  · cases t <;> first | (cases h; done) | skip
    rename_i es _ _
    rcases es with _ | ⟨e1, _ | ⟨e2, _ | ⟨e3, es⟩⟩⟩ <;> first | (cases h; done) | skip
    all_goals (cases e1 <;> first | (cases h; done) | skip)
    all_goals (cases e2 <;> first | (cases h; done) | skip)
  cases t <;> first | (cases h; done) | skip
  rename_i es kt pt
  rcases es with _ | ⟨e1, _ | ⟨e2, _ | ⟨e3, es⟩⟩⟩ <;> first | (cases h; done) | skip
  all_goals (cases e1 <;> first | (cases h; done) | skip)
  all_goals (cases e2 <;> first | (cases h; done) | skip)
  rename_i x px y py
  cases e' <;> first | (cases h; done) | skip
  rename_i vs k2 pt2
  rcases vs with _ | ⟨a', _ | ⟨b', _ | ⟨c', vs⟩⟩⟩ <;> first | (cases h; done) | skip
  obtain ⟨h, h6⟩ := band (show (okL sc raw N i x && okL sc raw N j y && okE G sc raw N a a' && okE G sc raw N b b' && parOk sc x y px py a' b' && slotOk fc.bor [i, j]) = true from h)
  obtain ⟨h, h5⟩ := band h
  obtain ⟨h, h4⟩ := band h
  obtain ⟨h, h3⟩ := band h
  obtain ⟨h1, h2⟩ := band h
  obtain ⟨sw, lx, ly, hxy, pa, pb⟩ := par_sw (pt := pt) (pt2 := pt2) (kt := kt) (k2 := k2) c.scE h5
  obtain ⟨g1, _, _⟩ := l_of c h1
  obtain ⟨g2, _, _⟩ := l_of c h2
  have hij : i ≠ j := fun z => by
    subst z
    rw [g1] at g2
    exact hxy (Option.some.inj g2)
  have hstb : starEach [b'] X.env = [(false, eval b' X.env)] := star_of (plain_star pb)
  refine (ps_par c.calm (nd_of c) g1 g2 hij (by rw [c.scE]; exact lx) (by rw [c.scE]; exact ly) (pa_cons (sound a c h3).1 (pa_cons (sound b c h4).1 pa_nil hstb) (star_of (plain_star pa))) sw sw_tup).imp fun Dn σ H q => ?_
  obtain ⟨F, ρ, g, q⟩ := q
  have q : FinS X.K fc F Dn (ev G a ρ >>= fun p => keep p.1 >>= fun d => ev G b p.2 >>= fun q => keep q.1 >>= fun d2 => if (free q.2 i && free q.2 j) = true then .ok (.nx, (q.2.set i (.dat d)).set j (.dat d2)) else .bad) := q
  refine ⟨F, ρ, g.en, (q.ev g).mono fun v H1 q => ?_⟩
  obtain ⟨F1, ρ1, o, s1, g1', r1, q⟩ := q
  obtain ⟨d, ed, q⟩ := q.ok
  refine ⟨F1, ρ1, g1'.en, (q.ev g1').mono fun w H2 q => ?_⟩
  obtain ⟨F2, ρ2, o2, s2, g2', r2, q⟩ := q
  obtain ⟨d2, ed2, q⟩ := q.ok
  obtain ⟨q1, q2⟩ := q.iff
  cases hf : (free ρ2 i && free ρ2 j) with
  | false => exact (q2 hf).elim
  | true =>
    obtain ⟨f1, f2⟩ := band hf
    have q := q1 hf
    obtain ⟨en1, ow1, _⟩ := set_dat g2'.en f1 ((keep_rp r1 ed).mono s2)
    obtain ⟨en2, ow2, _⟩ := set_dat en1 (free_set f2) (keep_rp r2 ed2)
    refine ⟨v, w, rfl, q _ F2 H2 same_rfl ⟨en2, g2'.ex, fun l hl => g2'.ow l (ow1 l (ow2 l hl)), fun l hl => ⟨(g2'.lb l hl).1, ?_⟩⟩⟩
    have h0 := slot0 h6 (g2'.lb l hl).1
    rw [List.getElem?_set_ne (fun z => h0 (by rw [z]; simp)), List.getElem?_set_ne (fun z => h0 (by rw [z]; simp))]
    exact (g2'.lb l hl).2
mutual
theorem soundS : ∀ s : S, SoundS G s
  | .asg _ _ => st_asg
  | .par _ _ _ _ => st_par
  | .new _ _ => st_new
  | .newC _ _ _ => st_newC
  | .setI _ _ _ => st_setI
  | .app _ _ => st_app
  | .ext _ _ => st_ext
  | .exp _ => st_exp
  | .ret _ => st_ret
  | .retL _ => st_retL
  | .retN => st_retN
  | .ifs _ a b => st_ifs (soundSs a) (soundSs b)
  | .fors _ _ b => st_fors (soundSs b)
  | .whl _ _ b => st_whl (soundSs b)
  | .pass => st_pass
  | .brk => st_brk
  | .cnt => st_cnt
  | .never => st_never
theorem soundSs : ∀ s : Ss, SoundSs G s
  | .nil => st_nil
  | .cons s r => st_cons (soundS s) (soundSs r)
end
end DP

/-! DP, part 15: a def keeps what its body's small tree says. -/
namespace DP
open PySem PySem.Spec PyProof.Rows L2
def finP : R (Fl × Slots) → R (D × List D)
  | .ok (.rt d, _) => .ok (d, [])
  | .ok (.nx, _) => .ok (.none, [])
  | _ => .bad
def finN : R (Fl × Slots) → R (D × List D)
  | .ok (.rn ds, _) => .ok (.list ds, [])
  | _ => .bad
def finB : R (Fl × Slots) → R (D × List D)
  | .ok (.rt d, ρ) => (match (ρ : Slots)[0]? with
    | some (Cell.own true es) => .ok (d, es)
    | _ => .bad)
  | .ok (.nx, ρ) => (match (ρ : Slots)[0]? with
    | some (Cell.own true es) => .ok (.none, es)
    | _ => .bad)
  | _ => .bad
def slots0 (m : Nat) (ds : List D) : Slots := ds.map Cell.dat ++ List.replicate (m - ds.length) .un
def slotsB (m : Nat) (es ds : List D) : Slots := Cell.own true es :: (ds.map Cell.dat ++ List.replicate (m - 1 - ds.length) .un)
/-- a call, by the body's small tree; m: how many names -/
def runF (G : Gm) (bor nw : Bool) (m : Nat) (body : Ss) (ds : List D) : R (D × List D) :=
  if bor = true then (match ds with
    | .list es :: r => finB (exs G body (slotsB m es r))
    | _ => .bad)
  else if nw = true then finN (exs G body (slots0 m ds)) else finP (exs G body (slots0 m ds))
def sigOf (G : Gm) (x : Str) (n : Nat) (bor nw : Bool) (m : Nat) (body : Ss) : Sig := ⟨x, n, bor, nw, runF G bor nw m body⟩
/-- what stands in the module -/
structure Mod (P : Program) (w : World) (K : Frag) (mg : Str → Option Value) (base : Heap) (k : Nat) (G : Gm) : Prop where
  blt : ∀ x ∈ bNames, mg x = none
  fns : ∀ (j : Nat) (g : Sig), G.fns[j]? = some g → HasFn P w K mg base k g
  cst : ∀ (j : Nat) (p : Str × Lit), G.cst[j]? = some p → ∃ u, mg p.1 = some u ∧ RelV (litV p.2) u
  smK : K.lookup sysModules = none
section
variable {P : Program} {w : World} {K : Frag} {mg : Str → Option Value} {base : Heap}
theorem start_get {N : List Str} {vs : List V} {i : Nat} {v : V} (h : vs[i]? = some v) : (L2.start N vs)[i]? = some (some v) := by
  have hl : i < vs.length := (List.getElem?_eq_some_iff.mp h).1
  unfold L2.start
  rw [List.getElem?_append_left (by rw [List.length_map]; exact hl), List.getElem?_map, h]
  rfl
theorem slots0_get {m : Nat} {ds : List D} {i : Nat} {c : Cell} (h : (slots0 m ds)[i]? = some c) : (∃ d, ds[i]? = some d ∧ c = .dat d) ∨ c = .un := by
  unfold slots0 at h
  by_cases hi : i < ds.length
  · rw [List.getElem?_append_left (by rw [List.length_map]; exact hi), List.getElem?_map] at h
    cases e : ds[i]? with
    | none => rw [e] at h; cases h
    | some d => rw [e] at h; exact .inl ⟨d, rfl, (Option.some.inj h).symm⟩
  · rw [List.getElem?_append_right (by rw [List.length_map]; omega), List.getElem?_replicate] at h
    split at h
    · exact .inr (Option.some.inj h).symm
    · cases h
theorem env0 {N : List Str} {F H : Hp} {vs : List V} {ds : List D} (s : Same F H) (sm : Sm F) (r : Rps K F vs ds) : EnvOk K F H (L2.start N vs) (slots0 N.length ds) := by
  have hl := r.len
  refine ⟨s, ?_, fun i c h => ?_, fun i j l b b' d1 d2 e1 _ _ _ => ?_, sm⟩
  · unfold L2.start slots0
    rw [List.length_append, List.length_append, List.length_map, List.length_map, List.length_replicate, List.length_replicate, hl]
  · rcases slots0_get h with ⟨d, e, rfl⟩ | rfl
    · obtain ⟨v, ev, rv⟩ := r.get e
      exact ⟨v, by rw [start_get ev]; rfl, rv⟩
    · trivial
  · rcases slots0_get e1 with ⟨d, _, z⟩ | z <;> cases z
theorem slotsB_get {m : Nat} {es ds : List D} {i : Nat} {c : Cell} (h : (slotsB m es ds)[i]? = some c) : (i = 0 ∧ c = .own true es) ∨ (∃ j d, i = j + 1 ∧ ds[j]? = some d ∧ c = .dat d) ∨ c = .un := by
  cases i with
  | zero => exact .inl ⟨rfl, (Option.some.inj h).symm⟩
  | succ j =>
    have h : (slots0 (m - 1) ds)[j]? = some c := h
    rcases slots0_get h with ⟨d, e, rfl⟩ | rfl
    · exact .inr (.inl ⟨j, d, rfl, e, rfl⟩)
    · exact .inr (.inr rfl)
theorem envB {N : List Str} {F H : Hp} {l : Addr} {xs ws : List V} {es ds : List D} (s : Same F H) (sm : Sm F) (hF : F l = none) (hH : H l = some (.lst xs)) (rx : Rps K F xs es) (z : xs.length ≤ sizeLine) (r : Rps K F ws ds) (hn : ws.length + 1 ≤ N.length) :
    EnvOk K F H (L2.start N (.ref l :: ws)) (slotsB N.length es ds) := by
  have hl := r.len
  refine ⟨s, ?_, fun i c h => ?_, fun i j l b b' d1 d2 e1 e2 _ _ => ?_, sm⟩
  · unfold L2.start slotsB
    simp only [List.length_append, List.length_cons, List.length_map, List.length_replicate]
    omega
  · rcases slotsB_get h with ⟨rfl, rfl⟩ | ⟨j, d, rfl, e, rfl⟩ | rfl
    · exact ⟨l, xs, rfl, hF, hH, rx, z⟩
    · obtain ⟨v, ev, rv⟩ := r.get e
      refine ⟨v, ?_, rv⟩
      rw [start_get (i := j + 1) (v := v) (by simpa using ev)]
      rfl
    · trivial
  · rcases slotsB_get e1 with ⟨rfl, _⟩ | ⟨_, _, _, _, z⟩ | z
    · rcases slotsB_get e2 with ⟨rfl, _⟩ | ⟨_, _, _, _, z⟩ | z
      · rfl
      · cases z
      · cases z
    · cases z
    · cases z
/-- the rule of a def, where nothing is being shown -/
theorem fn_go {x qual : Str} {st : Stmt} {f : Addr} {fd : FuncData} {N ps : List Str} {k : Nat} {sp : Sp} {CX : CXT} (F : Fun K x qual st f fd) (S : FnScope N ps (defScope st)) (few : ∀ vs H Q E, sp vs H Q E → vs.length = ps.length)
    (body : ∀ (c : Value) (A : Around) (out : List Env) (s : Shared) (H : Hp) (vs : List V) (Q : VK) (E : XK), A.guards = some [] → Room k (A.deeper (envOfC qual (defScope st) s.heap.objs.size f c)) → sp vs H Q E →
      ∃ t, PSs (cxOf CX P w K mg base N qual (defScope st) f c A out s H E) (defBody st) t ∧ t { nx := fun _ H' => Q .non H', rt := Q } (L2.start N vs) H) : FnG P w K mg base CX (k + 1) f fd ps sp := by
  obtain ⟨oc, od, kV, doc, pm, an, c, ct, osl, rfl, look, code⟩ := F.ex
  refine ⟨few, fun A out s H args us vs Q E gd room e0 bd rel q => ?_⟩
  have kin : K.In s.heap := e0.mod.kin.keeps fun b o e => (e0.bs b o e).1
  have noL : s.heap.NoLimit := e0.mod.nolimit.keeps fun b o e => (e0.bs b o e).1
  have kinds : ∀ y ∈ ps.zip us, (defScope st).names.lookup y.1 = some .local ∨ ((defScope st).names.lookup y.1 = some .cell ∧ ((cellsFrom (s.heap.objs.size + 1) (defScope st).names []).lookup y.1).isSome = true) := by
    rintro ⟨n, v⟩ hy
    refine (S.par n (List.of_mem_zip hy).1).imp id fun z => ⟨z, PySem.W.cellsFrom_some _ _ _ (.inl z)⟩
  refine codeAny_call_function room.depth (kin _ _ look) rfl S.co S.gen rfl (PySem.W.codeRec_of kin code) (bd _ _ _ _ ?_)
  refine wpAny_newFunctionEnv_cells S.kind kinds ?_
  rintro env rfl s1 ic
  refine ⟨noL.keeps ic.toInCall.keep, codeAny_func ?_⟩
  obtain ⟨t, ht, hq⟩ := body c A out s H vs Q E gd (room.deeper _) q
  have I := inv_start (CX := CX) (P := P) (w := w) (mg := mg) (base := base) (f := f) (qual := qual) (cd := c) (outer := out) (E := E) S room.hd e0 (few _ _ _ _ q) rel ic
  refine wpAny_mono (ht.run [] s1 (L2.start N vs) H _ I hq) (fun fl s2 z => ?_) fun _ _ z => z
  cases fl with
  | ret u =>
    obtain ⟨v, σ2, H2, J, rv, qv⟩ := z
    exact ⟨v, H2, J.os, J.bare, J.base, J.hok, rv, qv⟩
  | next =>
    obtain ⟨σ2, H2, J, qv⟩ := z
    exact ⟨V.non, H2, J.os, J.bare, J.base, J.hok, rfl, qv⟩
  | brk =>
    obtain ⟨_, _, _, no⟩ := z
    exact no.elim
  | cont =>
    obtain ⟨_, _, _, no⟩ := z
    exact no.elim
theorem fn_ok {x qual : Str} {st : Stmt} {f : Addr} {fd : FuncData} {N ps : List Str} {k : Nat} {G : Gm} {bor nw : Bool} {body : Ss} (F : Fun K x qual st f fd) (S : FnScope N ps (defScope st))
    (hb : (bor && nw) = false) (hp : bor = true → 1 ≤ ps.length) (M : Mod P w K mg base k G) (hok : okSs G (defScope st) (defScope st) N bor body (defBody st) = true) : FnG P w K mg base CX0 (k + 1) f fd ps (spOf K (sigOf G x ps.length bor nw N.length body)) := by
  have hpl : ps.length ≤ N.length := by have := congrArg List.length S.pre; rw [List.length_take] at this; omega
  refine fn_go F S (fun vs H Q E h => h.1) fun cdv A outer s H vs Q E gd hr h => ?_
  suffices z : ∃ t, PSs (cxOf CX0 P w K mg base N qual (defScope st) f cdv A outer s H E).nox (defBody st) t ∧ t { nx := fun _ H' => Q .non H', rt := Q } (L2.start N vs) H by
    obtain ⟨t, z1, z2⟩ := z
    exact ⟨t, z1.nox, z2⟩
  have here : Here G k (defScope st) (defScope st) N (cxOf CX0 P w K mg base N qual (defScope st) f cdv A outer s H E).nox :=
    ⟨rfl, rfl, S.nd, rfl, fun _ _ => rfl, M.blt, M.fns, M.cst, hr, gd, M.smK⟩
  obtain ⟨hlen, F0, sF, sm, h⟩ := h
  rcases h with ⟨hb1, hn1, ds, r, rd, er, q⟩ | ⟨hb1, hn1, ds, es, u, rd, er, q⟩ | ⟨hb1, l, ws, xs, es, ds, r, rfl, hF, hH, rx, hz, rd, er, q⟩
  · obtain rfl : bor = false := hb1
    obtain rfl : nw = false := hn1
    have er : finP (exs G body (slots0 N.length ds)) = .ok r := er
    let fc : Fc := ⟨false, fun _ => False, F0, H⟩
    have g : Good K fc F0 H (L2.start N vs) (slots0 N.length ds) := ⟨env0 sF sm rd, Ext.refl, fun l ⟨i, b, d2, e1, _⟩ => (by rcases slots0_get e1 with ⟨d, _, z⟩ | z <;> cases z), fun l z => z.elim⟩
    refine ⟨RdS K fc (exs G body), soundSs body fc here PassesOwn.never hok, F0, _, g, ?_⟩
    cases e : exs G body (slots0 N.length ds) with
    | exc => rw [e] at er; cases er
    | bad => rw [e] at er; cases er
    | ok p =>
      obtain ⟨fl, ρ'⟩ := p
      rw [e] at er
      cases fl with
      | nx =>
        cases er
        exact fun σ' F' H' s' g' => q .non F' H' g'.ex g'.en.sub .non
      | rt d =>
        cases er
        exact fun v σ' F' H' s' g' rv => q v F' H' g'.ex g'.en.sub rv
      | _ => cases er
  · obtain rfl : bor = false := hb1
    obtain rfl : nw = true := hn1
    have er : finN (exs G body (slots0 N.length ds)) = .ok (.list es, u) := er
    let fc : Fc := ⟨false, fun _ => False, F0, H⟩
    have g : Good K fc F0 H (L2.start N vs) (slots0 N.length ds) := ⟨env0 sF sm rd, Ext.refl, fun l ⟨i, b, d2, e1, _⟩ => (by rcases slots0_get e1 with ⟨d, _, z⟩ | z <;> cases z), fun l z => z.elim⟩
    refine ⟨RdS K fc (exs G body), soundSs body fc here PassesOwn.never hok, F0, _, g, ?_⟩
    cases e : exs G body (slots0 N.length ds) with
    | exc => rw [e] at er; cases er
    | bad => rw [e] at er; cases er
    | ok p =>
      obtain ⟨fl, ρ'⟩ := p
      rw [e] at er
      cases fl with
      | rn d =>
        cases er
        exact fun p xs σ' F' H' s' g' hp r z => q p xs F' H' g'.ex g'.en.sub hp r z
      | _ => cases er
  · obtain rfl : bor = true := hb1
    have er : finB (exs G body (slotsB N.length es ds)) = .ok r := er
    let fc : Fc := ⟨true, fun a => a = l, F0, H⟩
    have hws : ws.length + 1 ≤ N.length := by
      have hlen : ws.length + 1 = ps.length := hlen
      omega
    have en := envB (N := N) sF sm hF hH rx hz rd hws
    have g : Good K fc F0 H (L2.start N (.ref l :: ws)) (slotsB N.length es ds) := by
      refine ⟨en, Ext.refl, fun l' ⟨i, b, d2, e1, e2⟩ => ?_, fun l' z => ⟨rfl, by rw [show l' = l from z]; rfl⟩⟩
      rcases slotsB_get e1 with ⟨rfl, _⟩ | ⟨_, _, _, _, z⟩ | z
      · have e2 : some (some (V.ref l)) = some (some (V.ref l')) := e2
        exact .inl (V.ref.inj (Option.some.inj (Option.some.inj e2))).symm
      · cases z
      · cases z
    refine ⟨RdS K fc (exs G body), soundSs body fc here PassesOwn.never hok, F0, _, g, ?_⟩
    cases e : exs G body (slotsB N.length es ds) with
    | exc => rw [e] at er; cases er
    | bad => rw [e] at er; cases er
    | ok p =>
      obtain ⟨fl, ρ'⟩ := p
      rw [e] at er
      have last : ∀ {σ' : L2.St} {F' H' : Hp} {es' : List D}, Good K fc F' H' σ' ρ' → ρ'[0]? = some (Cell.own true es') → ∃ xs', F' l = none ∧ H' l = some (.lst xs') ∧ Rps K F' xs' es' ∧ xs'.length ≤ sizeLine := fun {σ' F' H' es'} g' e0 => by
        obtain ⟨l', xs', el, h1, h2, h3, h4⟩ := own_at g'.en e0
        have el2 := (g'.lb l rfl).2
        rw [el2] at el
        obtain rfl : l = l' := V.ref.inj (Option.some.inj (Option.some.inj el))
        exact ⟨xs', h1, h2, h3, h4⟩
      cases fl with
      | nx =>
        have er : (match ρ'[0]? with
          | some (.own true es) => R.ok (PyData.none, es)
          | _ => .bad) = .ok r := er
        split at er
        · rename_i es' e0
          cases er
          intro σ' F' H' s' g'
          obtain ⟨xs', h1, h2, h3, h4⟩ := last g' e0
          exact q .non F' H' xs' g'.ex g'.en.sub h1 h2 h3 h4 .non
        · cases er
      | rt d =>
        have er : (match ρ'[0]? with
          | some (.own true es) => R.ok (d, es)
          | _ => .bad) = .ok r := er
        split at er
        · rename_i es' e0
          cases er
          intro v σ' F' H' s' g' rv
          obtain ⟨xs', h1, h2, h3, h4⟩ := last g' e0
          exact q v F' H' xs' g'.ex g'.en.sub h1 h2 h3 h4 rv
        · cases er
      | _ => cases er
end
end DP

/-! DP, part 16: the module's names; the law's end. -/
namespace DP
open PySem PySem.Spec PyProof.Rows L2
section
variable {P : Program} {w : World} {K : Frag} {mg : Str → Option Value} {base : Heap} {k : Nat}
theorem fns_nil : ∀ (j : Nat) (g : Sig), ([] : List Sig)[j]? = some g → HasFn P w K mg base k g := fun j g e => by simp at e
theorem fns_cons {g0 : Sig} {l : List Sig} (h : HasFn P w K mg base k g0) (r : ∀ (j : Nat) (g : Sig), l[j]? = some g → HasFn P w K mg base k g) : ∀ (j : Nat) (g : Sig), (g0 :: l)[j]? = some g → HasFn P w K mg base k g
  | 0, g, e => by
    obtain rfl : g0 = g := by simpa using e
    exact h
  | j + 1, g, e => r j g (by simpa using e)
theorem cst_nil : ∀ (j : Nat) (p : Str × Lit), ([] : List (Str × Lit))[j]? = some p → ∃ u, mg p.1 = some u ∧ RelV (litV p.2) u := fun j g e => by simp at e
theorem cst_cons {g0 : Str × Lit} {l : List (Str × Lit)} (h : ∃ u, mg g0.1 = some u ∧ RelV (litV g0.2) u) (r : ∀ (j : Nat) (p : Str × Lit), l[j]? = some p → ∃ u, mg p.1 = some u ∧ RelV (litV p.2) u) :
    ∀ (j : Nat) (p : Str × Lit), (g0 :: l)[j]? = some p → ∃ u, mg p.1 = some u ∧ RelV (litV p.2) u
  | 0, g, e => by
    obtain rfl : g0 = g := by simpa using e
    exact h
  | j + 1, g, e => r j g (by simpa using e)
theorem fun_bind {x qual : Str} {st : Stmt} {f : Addr} {fd : FuncData} {p : Str} (F : Fun K x qual st f fd)
    (h : ∀ (kV doc pm : Value) (an : Option Addr) (cdv ct : Value) (u : Value), bindArgs (PySem.W.fnOf x qual (defArgs st) (defBody st) (defScope st) .none kV doc pm an cdv ct) ⟨[u], []⟩ = pure [(p, u)]) : ∀ (s : Shared) (u : Value), BindsTo s fd ⟨[u], []⟩ [(p, u)] := by
  obtain ⟨oc, od, kV, doc, pm, an, cdv, ct, osl, rfl, lk, hcd⟩ := F.ex
  exact fun s u => .of_eq (h kV doc pm an cdv ct u)
end
theorem rel_lit {l : Lit} {v : Value} (h : RelV (litV l) v) : RelV (litV l) v := h
/-- behind the top: the script stands apart from the module table -/
theorem att_call {l : PySem.W.OpenLaw} {n : Nat} {q : Program} {loose : List Str} {XP : (Str → Option Value) → Heap → Prop} {YP : World → Heap → Prop} {d : DefRec} (most : l.most = some n) (nodef : d.params.defaults = [])
    (call : ∀ (w : World) (s0 s1 : Shared) (mg mb : Str → Option Value) (f a : Addr) (us : List Value) (ns : List Int), PySem.W.Ground q loose [] XP w s0 mg mb s1.heap → YP w s1.heap → mg d.name = some (.ref f) →
      s1.heap.get? a = some { cls := .type "list", data := .seq us.toArray } → a ≠ sysModules → IntsAre us ns → ns.length ≤ n → s1.gens = #[] →
      codeAny (model l.prog w) callerA (.call (.ref f) ⟨[.ref a], []⟩) (fun r t => r = .ok (.ret (.bool true)) ∧ OldK s1.heap t.heap ∧ t.os = s1.os ∧ AllBare t.gens) s1) :
    PySem.W.WalkO q loose XP YP l.row.toRowW d [] (fun f vs => PySem.call f vs) := by
  intro w s0 s1 mg mb G Y f o pm cd doc dV kV ho hd hcd hD hmg noG args vals as pre lay reads well away
  obtain ⟨a, us, ns, rfl, rfl, obj, areI, few⟩ := Att.script_of most pre well
  have na : a ≠ sysModules := by
    cases reads with
    | cons r1 _ =>
      cases r1 with
      | list _ _ _ _ => exact beq_eq_false_iff_ne.mp (away a (List.mem_append_left _ List.mem_cons_self))
  refine PySem.W.enter_call (codeAny_mono (call w s0 s1 mg mb f a us ns G Y hmg obj na areI few noG) ?_)
  rintro r t ⟨rfl, old, os, bare⟩
  exact ⟨.inl ⟨.bool true, .bool true, [], rfl, fun _ => rfl, .bool true, Att.post_true l _, fun _ => ⟨List.Pairwise.nil, nofun⟩⟩, old, os, bare⟩
/-- the law's end, where the script is a list that is told or the module's own -/
theorem end_call {P : Program} {w : World} {K : Frag} {mg mb : Str → Option Value} {k : Nat} {f a : Addr} {fd : FuncData} {p : Str} {g : Sig} {s1 : Shared} {us : List Value} {ns : List Int}
    (kin : K.In s1.heap) (nsG : s1.heap.Ns mainGlobals mg) (nsB : s1.heap.Ns builtinsNs mb)
    (bOk : ∀ x : Str, x ≠ "__name__" → mb x = bootBuiltins x) (noL : s1.heap.NoLimit)
    (noG : s1.gens = #[]) (obj : s1.heap.get? a = some { cls := .type "list", data := .seq us.toArray })
    (areI : IntsAre us ns) (few : ns.length ≤ sizeLine) (room : Room k callerA) (smK : K.lookup sysModules = none) (na : a ≠ sysModules) (mods : ∃ om, s1.heap.get? sysModules = some om)
    (F : ∀ base : Heap, FnG P w K mg base CX0 k f fd [p] (spOf K g))
    (bd : ∀ (s : Shared) (u : Value), BindsTo s fd ⟨[u], []⟩ [(p, u)]) (g1 : g.bor = false) (g2 : g.nw = false) (g3 : g.n = 1)
    (tr : g.sem [.list (ns.map PyData.int)] = .ok (.bool true, [])) :
    codeAny (model P w) callerA (.call (.ref f) ⟨[.ref a], []⟩)
      (fun r t => r = .ok (.ret (.bool true)) ∧ OldK s1.heap t.heap ∧ t.os = s1.os ∧ AllBare t.gens) s1 := by
  have rel := vals_ints areI
  have lu := areI.length
  suffices main : ∀ H : Hp, LsK K H a (ns.map V.int) → HOk P w H s1.heap → Sm H → (∀ b, H b ≠ none → K.lookup b = none) → (∀ b, H b ≠ none → b = a ∨ b = sysModules) →
      (∀ b u, H b = some u → ∃ o v, u = .frz o v) → codeAny (model P w) callerA (.call (.ref f) ⟨[.ref a], []⟩)
        (fun r t => r = .ok (.ret (.bool true)) ∧ OldK s1.heap t.heap ∧ t.os = s1.os ∧ AllBare t.gens) s1 by
    obtain ⟨om, hom⟩ := mods
    cases hk : K.lookup a with
    | some o =>
      have eo := kin a o hk
      rw [obj] at eo
      obtain rfl := Option.some.inj eo
      have at_ : ∀ {b : Addr} {u : HO}, (if b = sysModules then some (HO.frz om (.own 0)) else none) = some u → b = sysModules ∧ u = .frz om (.own 0) := fun {b u} z => by
        split at z
        · exact ⟨by assumption, (Option.some.inj z).symm⟩
        · cases z
      have at2 : ∀ {b : Addr}, (if b = sysModules then some (HO.frz om (.own 0)) else none) ≠ none → b = sysModules := fun {b} z => by
        by_cases e : b = sysModules
        · exact e
        · exact absurd (if_neg e) z
      refine main (fun b => if b = sysModules then some (.frz om (.own 0)) else none) (.inr ⟨us, _, hk, rel, by omega⟩) (fun b u z => ?_) ⟨om, if_pos rfl⟩ (fun b z => ?_) (fun b z => .inr (at2 z)) (fun b u z => ⟨_, _, (at_ z).2⟩)
      · obtain ⟨rfl, rfl⟩ := at_ z
        exact ⟨hom, om, hom⟩
      · rw [at2 z]; exact smK
    | none =>
      have at_ : ∀ {b : Addr} {u : HO}, (if b = sysModules then some (HO.frz om (.own 0)) else if b = a then some (HO.frz { cls := .type "list", data := .seq us.toArray } (.lst (ns.map V.int))) else none) = some u →
          (b = sysModules ∧ u = .frz om (.own 0)) ∨ (b = a ∧ u = .frz { cls := .type "list", data := .seq us.toArray } (.lst (ns.map V.int))) := fun {b u} z => by
        split at z
        · exact .inl ⟨by assumption, (Option.some.inj z).symm⟩
        · split at z
          · exact .inr ⟨by assumption, (Option.some.inj z).symm⟩
          · cases z
      have at2 : ∀ {b : Addr}, (if b = sysModules then some (HO.frz om (.own 0)) else if b = a then some (HO.frz { cls := .type "list", data := .seq us.toArray } (.lst (ns.map V.int))) else none) ≠ none → b = a ∨ b = sysModules := fun {b} z => by
        by_cases e : b = sysModules
        · exact .inr e
        · by_cases e2 : b = a
          · exact .inl e2
          · exact absurd (by rw [if_neg e, if_neg e2]) z
      refine main (fun b => if b = sysModules then some (.frz om (.own 0)) else if b = a then some (.frz { cls := .type "list", data := .seq us.toArray } (.lst (ns.map V.int))) else none)
        (.inl (.inr ⟨_, (if_neg na).trans (if_pos rfl)⟩)) (fun b u z => ?_) ⟨om, if_pos rfl⟩ (fun b z => ?_) (fun b z => at2 z) (fun b u z => ?_)
      · rcases at_ z with ⟨rfl, rfl⟩ | ⟨rfl, rfl⟩
        · exact ⟨hom, om, hom⟩
        · exact ⟨obj, by rw [List.length_map]; exact few, us, _, rel, obj⟩
      · rcases at2 z with rfl | rfl
        · exact hk
        · exact smK
      · rcases at_ z with ⟨_, rfl⟩ | ⟨_, rfl⟩ <;> exact ⟨_, _, rfl⟩
  intro H lst ok sm kNo only frz
  have away : ∀ {b : Addr} {o : Obj} {es : Array DictEntry} {ep : Nat}, b ≠ sysModules → s1.heap.get? b = some o → o.data = .dict es ep → H b = none := fun {b o es ep} nb e d => by
    by_cases z : H b = none
    · exact z
    · obtain rfl := (only b z).resolve_right nb
      rw [obj] at e
      obtain rfl := Option.some.inj e
      exact nomatch (show Data.seq us.toArray _ = Data.dict es ep from d)
  have put : ∀ {b : Addr} {m : Str → Option Value}, b ≠ sysModules → s1.heap.Ns b m → (hidT s1.heap H).Ns b m := fun {b m} nb h => by
    obtain ⟨o, es, ep, e, d, r⟩ := h
    exact ⟨o, es, ep, hidT_get e (away nb e d), d, r⟩
  have kin2 : K.In (hidT s1.heap H) := fun b o e => hidT_get (kin b o e) (by
    by_cases z : H b = none
    · exact z
    · rw [kNo b z] at e
      cases e)
  have md : L2.Mod K mg (hidT s1.heap H) := by
    refine ⟨kin2, put (by decide) nsG, ⟨mb, put (by decide) nsB, bOk⟩, ?_⟩
    obtain ⟨mc, m1, m2⟩ := noL
    exact ⟨mc, put (by decide) m1, m2⟩
  have env : Env0 P w K mg (hidT s1.heap H) callerA [] s1 H := by
    refine ⟨rfl, md, fun b o e => of_hidT e, Nat.le_of_eq (hidT_size _ _), trivial, fun b hb => ?_, ok, .of_eq noG⟩
    exact absurd (show b ∈ ([] : List Addr) from hb) (by simp)
  have sp : spOf K g [.ref a] H (fun v _ => v = .bl true) E0 := by
    refine ⟨g3.symm, H, fun _ _ e => e, sm, .inl ⟨g1, g2, [.list (ns.map PyData.int)], _, .cons (.lst lst (.ints ns) (by rw [List.length_map]; exact few)) .nil, tr, fun v F' H' _ _ r => ?_⟩⟩
    cases r
    rfl
  refine codeAny_mono ((F _).go callerA [] s1 H ⟨[.ref a], []⟩ [.ref a] [.ref a] _ _ rfl room env (bd s1 (.ref a)) (.cons rfl .nil) sp) fun r t h => ?_
  cases r with
  | error e => exact (show False from h).elim
  | ok fl =>
    cases fl with
    | ret u =>
      obtain ⟨v, H', os, bare, un, ok', rv, q⟩ := h
      obtain rfl : v = .bl true := q
      obtain rfl : u = Value.bool true := rv
      refine ⟨rfl, OldK.of_keep fun b o e => ?_, os, bare⟩
      cases hb : H b with
      | none => exact un.keep b o e hb (fun z => absurd (show b ∈ ([] : List Addr) from z) (by simp)) (by simp)
      | some u =>
        obtain ⟨ob, xs, rfl⟩ := frz b u hb
        have k1 := (ok b _ hb).1
        have k2 := (ok' b _ (un.frzs b ob _ hb)).1
        rw [e] at k1
        obtain rfl := Option.some.inj k1
        exact k2
    | _ => exact False.elim h
theorem law_walk {l : PySem.W.OpenLaw} {k : Nat} {q : Program} {loose : List Str} {XP : (Str → Option Value) → Heap → Prop} {YP : World → Heap → Prop} {d : DefRec} {K : Params → Frag} {p : Str} {g : Sig}
    (most : l.most = some 63) (nodef : d.params.defaults = []) (room : Room k callerA) (kin : ∀ (w : World) (h : Heap), YP w h → (K w.params).In h)
    (g1 : g.bor = false) (g2 : g.nw = false) (g3 : g.n = 1) (tr : ∀ ns : List Int, ns.length ≤ 63 → g.sem [.list (ns.map PyData.int)] = .ok (.bool true, []))
    (imp : importsNone q = true) (smK : ∀ w : World, (K w.params).lookup sysModules = none)
    (F : ∀ (w : World) (mg : Str → Option Value) (f : Addr) (h : Heap), (K w.params).In h → h.Ns mainGlobals mg → mg d.name = some (.ref f) →
      ∃ fd : FuncData, (∀ (s : Shared) (u : Value), BindsTo s fd ⟨[u], []⟩ [(p, u)]) ∧ ∀ base : Heap, FnG l.prog w (K w.params) mg base CX0 k f fd [p] (spOf (K w.params) g)) :
    PySem.W.WalkO q loose XP YP l.row.toRowW d [] (fun f vs => PySem.call f vs) := by
  refine att_call most nodef fun w s0 s1 mg mb f a us ns G Y hmg obj na areI few noG => ?_
  have kx := kin w _ Y
  have mods : ∃ om, s1.heap.get? sysModules = some om := by
    obtain ⟨mm, ⟨om, es, ep, hom, _⟩, _⟩ := (G.T.seer imp).mods
    exact ⟨om, hom⟩
  obtain ⟨fd, bd, hF⟩ := F w mg f _ kx G.T.g hmg
  exact end_call kx G.T.g G.T.b G.T.builtins G.T.nolimit noG obj areI (Nat.le_trans few (by decide)) room (smK w) na mods hF bd g1 g2 g3 (tr ns few)
end DP

/-! DP, part 17: the run by rewriting. -/
namespace DP
open PySem PySem.Spec PyProof.Rows L2
@[simp] theorem r_assoc {α β γ : Type} (x : R α) (f : α → R β) (g : β → R γ) : ((x >>= f) >>= g) = (x >>= fun a => f a >>= g) := by cases x <;> rfl
@[simp] theorem r_ite {α β : Type} {p : Prop} [Decidable p] (x y : R α) (f : α → R β) : ((if p then x else y) >>= f) = if p then x >>= f else y >>= f := by split <;> rfl
@[simp] theorem peek_val (ρ : Slots) (d : D) : peek ρ (.val d) = .ok d := Eq.trans rfl rfl
def peekC : Option Cell → R D
  | some (.own _ ds) => .ok (.list ds)
  | _ => .bad
@[simp] theorem peek_plc (ρ : Slots) (i : Nat) : peek ρ (.plc i) = peekC ρ[i]? := by
  unfold peek peekC
  rfl
@[simp] theorem peekC_own (b : Bool) (ds : List D) : peekC (some (.own b ds)) = .ok (.list ds) := Eq.trans rfl rfl
@[simp] theorem keep_val (d : D) : keep (.val d) = .ok d := Eq.trans rfl rfl
@[simp] theorem keep_plc (i : Nat) : keep (.plc i) = .bad := Eq.trans rfl rfl
@[simp] theorem asB_bool (b : Bool) : asB (.bool b) = .ok b := Eq.trans rfl rfl
@[simp] theorem asI_int (i : Int) : asI (.int i) = .ok i := Eq.trans rfl rfl
def rdC (i : Nat) (ρ : Slots) : Option Cell → R (Opd × Slots)
  | some (.dat d) => .ok (.val d, ρ)
  | some (.own _ _) => .ok (.plc i, ρ)
  | _ => .bad
@[simp] theorem rdC_dat (i : Nat) (ρ : Slots) (d : D) : rdC i ρ (some (.dat d)) = .ok (.val d, ρ) := Eq.trans rfl rfl
@[simp] theorem rdC_own (i : Nat) (ρ : Slots) (b : Bool) (ds : List D) : rdC i ρ (some (.own b ds)) = .ok (.plc i, ρ) := Eq.trans rfl rfl
def frC (i : Nat) (ρ : Slots) : Option Cell → R (Opd × Slots)
  | some (.dat d) => .ok (.val d, ρ)
  | some (.own false ds) => .ok (.val (.list ds), ρ.set i (.dat (.list ds)))
  | _ => .bad
@[simp] theorem frC_dat (i : Nat) (ρ : Slots) (d : D) : frC i ρ (some (.dat d)) = .ok (.val d, ρ) := Eq.trans rfl rfl
@[simp] theorem frC_own (i : Nat) (ρ : Slots) (ds : List D) : frC i ρ (some (.own false ds)) = .ok (.val (.list ds), ρ.set i (.dat (.list ds))) := Eq.trans rfl rfl
section
variable (G : Gm)
@[simp] theorem ev_var (i : Nat) (ρ : Slots) : ev G (.var i) ρ = rdC i ρ ρ[i]? := Eq.trans rfl rfl
@[simp] theorem ev_frz (i : Nat) (ρ : Slots) : ev G (.frz i) ρ = frC i ρ ρ[i]? := Eq.trans rfl rfl
@[simp] theorem ev_lit (l : Lit) (ρ : Slots) : ev G (.lit l) ρ = .ok (.val (litD l), ρ) := Eq.trans rfl rfl
def cstC : Option (Str × Lit) → Slots → R (Opd × Slots)
  | some p, ρ => .ok (.val (litD p.2), ρ)
  | none, _ => .bad
@[simp] theorem cstC_some (p : Str × Lit) (ρ : Slots) : cstC (some p) ρ = .ok (.val (litD p.2), ρ) := Eq.trans rfl rfl
@[simp] theorem ev_cst (j : Nat) (ρ : Slots) : ev G (.cst j) ρ = cstC G.cst[j]? ρ := by
  show (match G.cst[j]? with | some p => R.ok (Opd.val (litD p.2), ρ) | none => .bad) = _
  cases G.cst[j]? <;> rfl
@[simp] theorem litD_int (i : Int) : litD (.int i) = .int i := Eq.trans rfl rfl
@[simp] theorem litD_bl (i : Bool) : litD (.bl i) = .bool i := Eq.trans rfl rfl
@[simp] theorem litD_non : litD .non = .none := Eq.trans rfl rfl
@[simp] theorem litD_str (x : Str) : litD (.str x) = .str x := Eq.trans rfl rfl
@[simp] theorem ev_tup (es : Es) (ρ : Slots) : ev G (.tup es) ρ = evs G es ρ >>= fun p => if sz p.1.length = true then .ok (.val (.tuple p.1), p.2) else .bad := Eq.trans rfl rfl
@[simp] theorem ev_lst (es : Es) (ρ : Slots) : ev G (.lst es) ρ = evs G es ρ >>= fun p => if sz p.1.length = true then .ok (.val (.list p.1), p.2) else .bad := Eq.trans rfl rfl
@[simp] theorem ev_bin (o : O2) (a b : E) (ρ : Slots) : ev G (.bin o a b) ρ = ev G a ρ >>= fun p => ev G b p.2 >>= fun q => peek q.2 p.1 >>= fun x => peek q.2 q.1 >>= fun y => op2 o x y >>= fun d => .ok (.val d, q.2) := Eq.trans rfl rfl
@[simp] theorem ev_cmp (o : Oc) (a b : E) (ρ : Slots) : ev G (.cmp o a b) ρ = ev G a ρ >>= fun p => ev G b p.2 >>= fun q => peek q.2 p.1 >>= fun x => peek q.2 q.1 >>= fun y => cmpD o x y >>= fun d => .ok (.val (.bool d), q.2) := Eq.trans rfl rfl
@[simp] theorem ev_chn (o1 o2 : Oc) (a b c : E) (ρ : Slots) : ev G (.chn o1 o2 a b c) ρ = ev G a ρ >>= fun p => ev G b p.2 >>= fun q => peek q.2 p.1 >>= fun x => peek q.2 q.1 >>= fun y => cmpD o1 x y >>= fun k =>
      if k = true then ev G c q.2 >>= fun t => peek t.2 q.1 >>= fun y => peek t.2 t.1 >>= fun z => cmpD o2 y z >>= fun k2 => .ok (.val (.bool k2), t.2) else .ok (.val (.bool false), q.2) := Eq.trans rfl rfl
@[simp] theorem ev_neg (a : E) (ρ : Slots) : ev G (.neg a) ρ = ev G a ρ >>= fun p => peek p.2 p.1 >>= fun x => asI x >>= fun i => .ok (.val (.int (-i)), p.2) := Eq.trans rfl rfl
@[simp] theorem ev_not (a : E) (ρ : Slots) : ev G (.not a) ρ = ev G a ρ >>= fun p => peek p.2 p.1 >>= fun x => asB x >>= fun b => .ok (.val (.bool (!b)), p.2) := Eq.trans rfl rfl
@[simp] theorem ev_and (es : Es) (ρ : Slots) : ev G (.and es) ρ = evAnd G es ρ := Eq.trans rfl rfl
@[simp] theorem ev_or (es : Es) (ρ : Slots) : ev G (.or es) ρ = evOr G es ρ := Eq.trans rfl rfl
@[simp] theorem ev_ife (c a b : E) (ρ : Slots) : ev G (.ife c a b) ρ = ev G c ρ >>= fun p => peek p.2 p.1 >>= fun x => asB x >>= fun k => if k = true then ev G a p.2 else ev G b p.2 := Eq.trans rfl rfl
@[simp] theorem ev_ix (a i : E) (ρ : Slots) : ev G (.ix a i) ρ = ev G a ρ >>= fun p => ev G i p.2 >>= fun q => peek q.2 p.1 >>= fun x => peek q.2 q.1 >>= fun y => ixD x y >>= fun d => .ok (.val d, q.2) := Eq.trans rfl rfl
@[simp] theorem ev_slc (a lo hi : E) (ρ : Slots) : ev G (.slc a lo hi) ρ = ev G a ρ >>= fun p => part lo (ev G lo p.2) p.2 >>= fun q => part hi (ev G hi q.2) q.2 >>= fun t => peek t.2 p.1 >>= fun x => slcD x q.1 t.1 >>= fun d => .ok (.val d, t.2) := Eq.trans rfl rfl
@[simp] theorem part_nop (r : R (Opd × Slots)) (ρ : Slots) : part .nop r ρ = .ok (none, ρ) := Eq.trans rfl rfl
theorem part_e {e : E} (h : isNop e = false) (r : R (Opd × Slots)) (ρ : Slots) : part e r ρ = r >>= fun p => peek p.2 p.1 >>= fun x => asI x >>= fun i => .ok (some i, p.2) := by cases e <;> first | rfl | cases h
@[simp] theorem part_lit (l : Lit) (r : R (Opd × Slots)) (ρ : Slots) : part (.lit l) r ρ = r >>= fun p => peek p.2 p.1 >>= fun x => asI x >>= fun i => .ok (some i, p.2) := Eq.trans rfl rfl
@[simp] theorem part_var (l : Nat) (r : R (Opd × Slots)) (ρ : Slots) : part (.var l) r ρ = r >>= fun p => peek p.2 p.1 >>= fun x => asI x >>= fun i => .ok (some i, p.2) := Eq.trans rfl rfl
@[simp] theorem part_bin (o : O2) (a b : E) (r : R (Opd × Slots)) (ρ : Slots) : part (.bin o a b) r ρ = r >>= fun p => peek p.2 p.1 >>= fun x => asI x >>= fun i => .ok (some i, p.2) := Eq.trans rfl rfl
@[simp] theorem part_neg (a : E) (r : R (Opd × Slots)) (ρ : Slots) : part (.neg a) r ρ = r >>= fun p => peek p.2 p.1 >>= fun x => asI x >>= fun i => .ok (some i, p.2) := Eq.trans rfl rfl
@[simp] theorem callBC_own (g : Sig) (i : Nat) (es : List D) (ρ : Slots) (b : Bool) (ds : List D) : callBC (some g) i es ρ (some (.own b ds)) = if (g.bor && decide (es.length + 1 = g.n)) = true then g.sem (.list ds :: es) >>= fun r => .ok (.val r.1, ρ.set i (.own b r.2)) else .bad := Eq.trans rfl rfl
@[simp] theorem callC_some (g : Sig) (ds : List D) (ρ : Slots) : callC (some g) ds ρ = if (!g.bor && decide (ds.length = g.n)) = true then g.sem ds >>= fun r => .ok (.val r.1, ρ) else .bad := Eq.trans rfl rfl
@[simp] theorem ev_call (j : Nat) (es : Es) (ρ : Slots) : ev G (.call j es) ρ = evs G es ρ >>= fun p => callC G.fns[j]? p.1 p.2 := Eq.trans rfl rfl
@[simp] theorem ev_callB (j i : Nat) (es : Es) (ρ : Slots) : ev G (.callB j i es) ρ = if isOwn ρ[i]? = true then evs G es ρ >>= fun p => callBC G.fns[j]? i p.1 p.2 p.2[i]? else .bad := Eq.trans rfl rfl
@[simp] theorem ev_bi (f : Bi) (a : E) (ρ : Slots) : ev G (.bi f a) ρ = ev G a ρ >>= fun p => peek p.2 p.1 >>= fun x => biD f x >>= fun d => .ok (.val d, p.2) := Eq.trans rfl rfl
@[simp] theorem ev_isi (a : E) (t : Ty) (ρ : Slots) : ev G (.isi a t) ρ = ev G a ρ >>= fun p => peek p.2 p.1 >>= fun x => .ok (.val (.bool (tyD t x)), p.2) := Eq.trans rfl rfl
@[simp] theorem ev_comp2 (elt cond cond2 : E) (tg tg2 : Tg) (it it2 : I) (ρ : Slots) : ev G (.comp2 elt tg it cond tg2 it2 cond2) ρ = evI G it ρ >>= fun p => compLoop2 (turnC2 G elt tg cond tg2 it2 cond2) p.1 p.2 >>= fun q => if sz q.1.length = true then R.ok (Opd.val (.list q.1), q.2) else .bad := comp2_eq elt tg it cond tg2 it2 cond2 ρ
@[simp] theorem ev_comp (elt cond : E) (tg : Tg) (it : I) (ρ : Slots) : ev G (.comp elt tg it cond) ρ = evI G it ρ >>= fun p => compLoop (turnC G elt tg cond) p.1 p.2 >>= fun q => .ok (.val (.list q.1), q.2) := Eq.trans rfl rfl
@[simp] theorem evs_nil (ρ : Slots) : evs G .nil ρ = .ok ([], ρ) := Eq.trans rfl rfl
@[simp] theorem evs_cons (e : E) (es : Es) (ρ : Slots) : evs G (.cons e es) ρ = ev G e ρ >>= fun p => keep p.1 >>= fun d => evs G es p.2 >>= fun q => .ok (d :: q.1, q.2) := Eq.trans rfl rfl
@[simp] theorem evAnd_one (e : E) (ρ : Slots) : evAnd G (.cons e .nil) ρ = ev G e ρ := Eq.trans rfl rfl
@[simp] theorem evAnd_cons (e e2 : E) (es : Es) (ρ : Slots) : evAnd G (.cons e (.cons e2 es)) ρ = ev G e ρ >>= fun p => peek p.2 p.1 >>= fun x => asB x >>= fun k => if k = true then evAnd G (.cons e2 es) p.2 else .ok (.val (.bool false), p.2) := Eq.trans rfl rfl
@[simp] theorem evOr_one (e : E) (ρ : Slots) : evOr G (.cons e .nil) ρ = ev G e ρ := Eq.trans rfl rfl
@[simp] theorem evOr_cons (e e2 : E) (es : Es) (ρ : Slots) : evOr G (.cons e (.cons e2 es)) ρ = ev G e ρ >>= fun p => peek p.2 p.1 >>= fun x => asB x >>= fun k => if k = true then .ok (.val (.bool true), p.2) else evOr G (.cons e2 es) p.2 := Eq.trans rfl rfl
@[simp] theorem evI_seq (a : E) (ρ : Slots) : evI G (.seq a) ρ = ev G a ρ >>= fun p => keep p.1 >>= fun x => items? x >>= fun ds => .ok (ds, p.2) := Eq.trans rfl rfl
def rngC (i j : Int) (ρ : Slots) : R (List D × Slots) := if (rngOk i j && sz (j - i).toNat) = true then .ok (rngD i j, ρ) else .bad
@[simp] theorem evI_rng (a : E) (ρ : Slots) : evI G (.rng a) ρ = ev G a ρ >>= fun p => peek p.2 p.1 >>= fun x => asI x >>= fun i => rngC 0 i p.2 := by
  show (ev G a ρ >>= fun p => peek p.2 p.1 >>= fun x => asI x >>= fun i => if (rngOk 0 i && sz i.toNat) = true then R.ok (rngD 0 i, p.2) else .bad) = _
  congr 1
  funext p
  congr 1
  funext x
  congr 1
  funext i
  unfold rngC
  rw [Int.sub_zero]
@[simp] theorem evI_rng2 (a b : E) (ρ : Slots) : evI G (.rng2 a b) ρ = ev G a ρ >>= fun p => ev G b p.2 >>= fun q => peek q.2 p.1 >>= fun x => peek q.2 q.1 >>= fun y => asI x >>= fun i => asI y >>= fun j => rngC i j q.2 := Eq.trans rfl rfl
@[simp] theorem items_tup (xs : List D) : items? (.tuple xs) = .ok xs := Eq.trans rfl rfl
@[simp] theorem items_lst (xs : List D) : items? (.list xs) = .ok xs := Eq.trans rfl rfl
@[simp] theorem evT_eq (c : E) (ρ : Slots) : evT G c ρ = ev G c ρ >>= fun p => peek p.2 p.1 >>= fun x => asB x >>= fun k => .ok (k, p.2) := Eq.trans rfl rfl
@[simp] theorem turnC_eq (elt cond : E) (tg : Tg) (d : D) (ρ1 : Slots) : turnC G elt tg cond d ρ1 = putTg tg d (wipeR ρ1 tg.slots) >>= fun ρ2 => ev G cond ρ2 >>= fun c => peek c.2 c.1 >>= fun x => asB x >>= fun k =>
        if k = true then ev G elt c.2 >>= fun y => keep y.1 >>= fun d' => .ok (some d', unwipe ρ1 y.2 tg.slots) else .ok (none, unwipe ρ1 c.2 tg.slots) := Eq.trans rfl rfl
/-! statements -/
@[simp] theorem exs_nil (ρ : Slots) : exs G .nil ρ = .ok (.nx, ρ) := Eq.trans rfl rfl
def seqC (r : Slots → R (Fl × Slots)) : Fl × Slots → R (Fl × Slots)
  | (.nx, ρ) => r ρ
  | p => .ok p
@[simp] theorem seqC_nx (r : Slots → R (Fl × Slots)) (ρ : Slots) : seqC r (.nx, ρ) = r ρ := Eq.trans rfl rfl
@[simp] theorem seqC_rt (r : Slots → R (Fl × Slots)) (d : D) (ρ : Slots) : seqC r (.rt d, ρ) = .ok (.rt d, ρ) := Eq.trans rfl rfl
@[simp] theorem seqC_rn (r : Slots → R (Fl × Slots)) (d : List D) (ρ : Slots) : seqC r (.rn d, ρ) = .ok (.rn d, ρ) := Eq.trans rfl rfl
@[simp] theorem seqC_bk (r : Slots → R (Fl × Slots)) (ρ : Slots) : seqC r (.bk, ρ) = .ok (.bk, ρ) := Eq.trans rfl rfl
@[simp] theorem seqC_ct (r : Slots → R (Fl × Slots)) (ρ : Slots) : seqC r (.ct, ρ) = .ok (.ct, ρ) := Eq.trans rfl rfl
@[simp] theorem exs_cons (s : S) (r : Ss) (ρ : Slots) : exs G (.cons s r) ρ = ex G s ρ >>= seqC (exs G r) := by
  show (ex G s ρ >>= fun p => match p.1 with
    | .nx => exs G r p.2
    | f => .ok (f, p.2)) = _
  congr 1
  funext p
  obtain ⟨f, ρ'⟩ := p
  cases f <;> rfl
@[simp] theorem ex_asg (tg : Tg) (e : E) (ρ : Slots) : ex G (.asg tg e) ρ = ev G e ρ >>= fun p => keep p.1 >>= fun d => putTg tg d p.2 >>= fun ρ' => .ok (.nx, ρ') := Eq.trans rfl rfl
@[simp] theorem ex_par (i j : Nat) (a b : E) (ρ : Slots) : ex G (.par i j a b) ρ = ev G a ρ >>= fun p => keep p.1 >>= fun d => ev G b p.2 >>= fun q => keep q.1 >>= fun d2 => if (free q.2 i && free q.2 j) = true then .ok (.nx, (q.2.set i (.dat d)).set j (.dat d2)) else .bad := Eq.trans rfl rfl
def newC (i : Nat) : Opd × Slots → R (Fl × Slots)
  | (.val (.list ds), ρ) => if free ρ i = true then .ok (.nx, ρ.set i (.own false ds)) else .bad
  | _ => .bad
@[simp] theorem newC_lst (i : Nat) (ds : List D) (ρ : Slots) : newC i (.val (.list ds), ρ) = if free ρ i = true then .ok (.nx, ρ.set i (.own false ds)) else .bad := Eq.trans rfl rfl
@[simp] theorem ex_new (i : Nat) (e : E) (ρ : Slots) : ex G (.new i e) ρ = ev G e ρ >>= newC i := by
  show (ev G e ρ >>= fun p => (match p.1 with
    | .val (.list ds) => if free p.2 i = true then R.ok (Fl.nx, p.2.set i (.own false ds)) else .bad
    | _ => .bad)) = _
  congr 1
  funext p
  obtain ⟨f, ρ'⟩ := p
  cases f with
  | val d => cases d <;> rfl
  | plc j => rfl
@[simp] theorem ex_newC (i j : Nat) (es : Es) (ρ : Slots) : ex G (.newC i j es) ρ = ev G (.call j es) ρ >>= newC i := by
  show (ev G (.call j es) ρ >>= fun p => (match p.1 with
    | .val (.list ds) => if free p.2 i = true then R.ok (Fl.nx, p.2.set i (.own false ds)) else .bad
    | _ => .bad)) = _
  congr 1
  funext p
  obtain ⟨f, ρ'⟩ := p
  cases f with
  | val d => cases d <;> rfl
  | plc j => rfl
def setC (i : Nat) (ρ : Slots) (d : D) (k : Int) : Option Cell → R (Fl × Slots)
  | some (.own b ds) => (match ixN ds.length k with
        | some j => .ok (.nx, ρ.set i (.own b (ds.set j d)))
        | none => .bad)
  | _ => .bad
theorem setC_own (i : Nat) (ρ : Slots) (d : D) (k : Int) (b : Bool) (ds : List D) (j : Nat) (h : ixN ds.length k = some j) : setC i ρ d k (some (.own b ds)) = .ok (.nx, ρ.set i (.own b (ds.set j d))) := by
  show (match ixN ds.length k with
        | some j => R.ok (Fl.nx, ρ.set i (.own b (ds.set j d)))
        | none => .bad) = _
  rw [h]
@[simp] theorem isOwn_own (b : Bool) (ds : List D) : isOwn (some (.own b ds)) = true := Eq.trans rfl rfl
@[simp] theorem ex_setI (i : Nat) (ix e : E) (ρ : Slots) : ex G (.setI i ix e) ρ = ev G e ρ >>= fun p => keep p.1 >>= fun d => if isOwn p.2[i]? = true then ev G ix p.2 >>= fun q => peek q.2 q.1 >>= fun x => asI x >>= fun k => setC i q.2 d k q.2[i]? else .bad := by
  show (ev G e ρ >>= fun p => keep p.1 >>= fun d => (match p.2[i]? with
    | some (.own _ _) => ev G ix p.2 >>= fun q => peek q.2 q.1 >>= fun x => asI x >>= fun k => (match q.2[i]? with
      | some (.own b ds) => (match ixN ds.length k with
        | some j => R.ok (Fl.nx, q.2.set i (.own b (ds.set j d)))
        | none => .bad)
      | _ => .bad)
    | _ => .bad)) = _
  congr 1
  funext p
  congr 1
  funext d
  cases p.2[i]? with
  | none => rfl
  | some c =>
    cases c <;> rfl
def appC (i : Nat) (ρ : Slots) (d : D) : Option Cell → R (Fl × Slots)
  | some (.own b ds) => if sz (ds.length + 1) = true then .ok (.nx, ρ.set i (.own b (ds ++ [d]))) else .bad
  | _ => .bad
@[simp] theorem appC_own (i : Nat) (ρ : Slots) (d : D) (b : Bool) (ds : List D) : appC i ρ d (some (.own b ds)) = if sz (ds.length + 1) = true then .ok (.nx, ρ.set i (.own b (ds ++ [d]))) else .bad := Eq.trans rfl rfl
@[simp] theorem ex_app (i : Nat) (e : E) (ρ : Slots) : ex G (.app i e) ρ = if isOwn ρ[i]? = true then ev G e ρ >>= fun p => keep p.1 >>= fun d => appC i p.2 d p.2[i]? else .bad := by
  show (match ρ[i]? with
    | some (.own _ _) => ev G e ρ >>= fun p => keep p.1 >>= fun d => (match p.2[i]? with
      | some (.own b ds) => if sz (ds.length + 1) = true then R.ok (Fl.nx, p.2.set i (.own b (ds ++ [d]))) else .bad
      | _ => .bad)
    | _ => .bad) = _
  cases ρ[i]? with
  | none => rfl
  | some c =>
    cases c <;> rfl
@[simp] theorem ex_exp (e : E) (ρ : Slots) : ex G (.exp e) ρ = ev G e ρ >>= fun p => .ok (.nx, p.2) := Eq.trans rfl rfl
@[simp] theorem ex_ret (e : E) (ρ : Slots) : ex G (.ret e) ρ = ev G e ρ >>= fun p => keep p.1 >>= fun d => .ok (.rt d, p.2) := Eq.trans rfl rfl
def retC : Opd × Slots → R (Fl × Slots)
  | (.val (.list ds), ρ) => .ok (.rn ds, ρ)
  | _ => .bad
@[simp] theorem retC_lst (ds : List D) (ρ : Slots) : retC (.val (.list ds), ρ) = .ok (.rn ds, ρ) := Eq.trans rfl rfl
@[simp] theorem ex_retL (e : E) (ρ : Slots) : ex G (.retL e) ρ = ev G e ρ >>= retC := by
  show (ev G e ρ >>= fun p => (match p.1 with
    | .val (.list ds) => R.ok (Fl.rn ds, p.2)
    | _ => .bad)) = _
  congr 1
  funext p
  obtain ⟨f, ρ'⟩ := p
  cases f with
  | val d => cases d <;> rfl
  | plc j => rfl
@[simp] theorem ex_retN (ρ : Slots) : ex G .retN ρ = .ok (.rt .none, ρ) := Eq.trans rfl rfl
@[simp] theorem ex_ifs (c : E) (a b : Ss) (ρ : Slots) : ex G (.ifs c a b) ρ = evT G c ρ >>= fun p => if p.1 = true then exs G a p.2 else exs G b p.2 := Eq.trans rfl rfl
@[simp] theorem ex_fors (tg : Tg) (it : I) (b : Ss) (ρ : Slots) : ex G (.fors tg it b) ρ = evI G it ρ >>= fun p => forLoop (fun d ρ1 => putTg tg d ρ1 >>= fun ρ2 => exs G b ρ2) p.1 p.2 := Eq.trans rfl rfl
@[simp] theorem ex_whl (n : Nat) (c : E) (b : Ss) (ρ : Slots) : ex G (.whl n c b) ρ = whLoop (evT G c) (fun ρ1 => exs G b ρ1) n ρ := Eq.trans rfl rfl
@[simp] theorem ex_pass (ρ : Slots) : ex G .pass ρ = .ok (.nx, ρ) := Eq.trans rfl rfl
@[simp] theorem ex_brk (ρ : Slots) : ex G .brk ρ = .ok (.bk, ρ) := Eq.trans rfl rfl
@[simp] theorem ex_cnt (ρ : Slots) : ex G .cnt ρ = .ok (.ct, ρ) := Eq.trans rfl rfl
@[simp] theorem ex_never (ρ : Slots) : ex G .never ρ = .bad := Eq.trans rfl rfl
end
def freeC : Option Cell → Bool
  | some (.own true _) => false
  | some _ => true
  | none => false
@[simp] theorem freeC_un : freeC (some .un) = true := Eq.trans rfl rfl
@[simp] theorem freeC_dat (d : D) : freeC (some (.dat d)) = true := Eq.trans rfl rfl
@[simp] theorem freeC_own (d : List D) : freeC (some (.own false d)) = true := Eq.trans rfl rfl
@[simp] theorem freeC_bor (d : List D) : freeC (some (.own true d)) = false := Eq.trans rfl rfl
@[simp] theorem free_eq (ρ : Slots) (i : Nat) : free ρ i = freeC ρ[i]? := by unfold free freeC; rfl
@[simp] theorem putTg_nm (i : Nat) (d : D) (ρ : Slots) : putTg (.nm i) d ρ = if free ρ i = true then .ok (ρ.set i (.dat d)) else .bad := Eq.trans rfl rfl
@[simp] theorem putTg_tup (is : List Nat) (ds : List D) (ρ : Slots) : putTg (.tup is) (.tuple ds) ρ = if (is.all fun i => free ρ i) = true then putAll is ds ρ else .bad := Eq.trans rfl rfl
@[simp] theorem putAll_nil (ρ : Slots) : putAll [] [] ρ = .ok ρ := Eq.trans rfl rfl
@[simp] theorem putAll_cons (i : Nat) (is : List Nat) (d : D) (ds : List D) (ρ : Slots) : putAll (i :: is) (d :: ds) ρ = putAll is ds (ρ.set i (.dat d)) := Eq.trans rfl rfl
@[simp] theorem wipeR_nil (ρ : Slots) : wipeR ρ [] = ρ := Eq.trans rfl rfl
@[simp] theorem wipeR_cons (ρ : Slots) (v : Nat) (vs : List Nat) : wipeR ρ (v :: vs) = (wipeR ρ vs).set v .un := Eq.trans rfl rfl
@[simp] theorem unwipe_nil (ρ0 ρ : Slots) : unwipe ρ0 ρ [] = ρ := Eq.trans rfl rfl
def unwC (ρ : Slots) (v : Nat) : Option Cell → Slots
  | some c => ρ.set v c
  | none => ρ
@[simp] theorem unwC_some (ρ : Slots) (v : Nat) (c : Cell) : unwC ρ v (some c) = ρ.set v c := Eq.trans rfl rfl
@[simp] theorem unwipe_cons (ρ0 ρ : Slots) (v : Nat) (vs : List Nat) : unwipe ρ0 ρ (v :: vs) = unwC (unwipe ρ0 ρ vs) v ρ0[v]? := by
  show (match ρ0[v]? with
    | some c => (unwipe ρ0 ρ vs).set v c
    | none => unwipe ρ0 ρ vs) = _
  cases ρ0[v]? <;> rfl
@[simp] theorem slots_nm (i : Nat) : (Tg.nm i).slots = [i] := Eq.trans rfl rfl
@[simp] theorem slots_tup (is : List Nat) : (Tg.tup is).slots = is := Eq.trans rfl rfl
@[simp] theorem gd_t (r : R D) : gd true r = r := Eq.trans rfl rfl
@[simp] theorem add_ii (i j : Int) : op2 .add (.int i) (.int j) = .ok (.int (i + j)) := Eq.trans rfl rfl
@[simp] theorem sub_ii (i j : Int) : op2 .sub (.int i) (.int j) = .ok (.int (i - j)) := Eq.trans rfl rfl
@[simp] theorem mul_ii (i j : Int) : op2 .mul (.int i) (.int j) = gd (i64 i || i64 j) (.ok (.int (i * j))) := Eq.trans rfl rfl
@[simp] theorem fdiv_ii (i j : Int) : op2 .fdiv (.int i) (.int j) = gd (decide (0 < j) && decide (j < 1073741824)) (.ok (.int (i / j))) := Eq.trans rfl rfl
@[simp] theorem mod_ii (i j : Int) : op2 .mod (.int i) (.int j) = gd (decide (0 < j)) (.ok (.int (i % j))) := Eq.trans rfl rfl
@[simp] theorem pow_ii (i j : Int) : op2 .pow (.int i) (.int j) = gd (decide (0 ≤ j) && decide (j ≤ 1000000) && decide (i.natAbs < 2 ^ 64)) (.ok (.int (i ^ j.toNat))) := Eq.trans rfl rfl
@[simp] theorem lt_ii (i j : Int) : cmpD .lt (.int i) (.int j) = .ok (decide (i < j)) := Eq.trans rfl rfl
@[simp] theorem le_ii (i j : Int) : cmpD .le (.int i) (.int j) = .ok (decide (i ≤ j)) := Eq.trans rfl rfl
@[simp] theorem gt_ii (i j : Int) : cmpD .gt (.int i) (.int j) = .ok (decide (j < i)) := Eq.trans rfl rfl
@[simp] theorem ge_ii (i j : Int) : cmpD .ge (.int i) (.int j) = .ok (decide (j ≤ i)) := Eq.trans rfl rfl
@[simp] theorem eq_ii (i j : Int) : cmpD .eq (.int i) (.int j) = .ok (decide (i = j)) := by
  show (if (shp (.int i) && shp (.int j)) = true then R.ok (PyData.eqv (.int i) (.int j)) else .bad) = _
  rw [if_pos (by rfl)]
  rfl
@[simp] theorem ne_ii (i j : Int) : cmpD .ne (.int i) (.int j) = .ok (!decide (i = j)) := by
  show (if (shp (.int i) && shp (.int j)) = true then R.ok (!PyData.eqv (.int i) (.int j)) else .bad) = _
  rw [if_pos (by rfl)]
  rfl
@[simp] theorem int_i (i : Int) : biD .int (.int i) = .ok (.int i) := Eq.trans rfl rfl
@[simp] theorem len_t (xs : List D) : biD .len (.tuple xs) = .ok (.int xs.length) := Eq.trans rfl rfl
@[simp] theorem len_l (xs : List D) : biD .len (.list xs) = .ok (.int xs.length) := Eq.trans rfl rfl
@[simp] theorem tup_l (xs : List D) : biD .tuple (.list xs) = .ok (.tuple xs) := Eq.trans rfl rfl
@[simp] theorem tup_t (xs : List D) : biD .tuple (.tuple xs) = .ok (.tuple xs) := Eq.trans rfl rfl
@[simp] theorem lst_t (xs : List D) : biD .list (.tuple xs) = .ok (.list xs) := Eq.trans rfl rfl
@[simp] theorem lst_l (xs : List D) : biD .list (.list xs) = .ok (.list xs) := Eq.trans rfl rfl
@[simp] theorem abs_i (i : Int) : biD .abs (.int i) = .ok (.int (if i < 0 then -i else i)) := Eq.trans rfl rfl
@[simp] theorem isN_n (d : D) : cmpD .isN d .none = .ok (isN d) := Eq.trans rfl rfl
@[simp] theorem notN_n (d : D) : cmpD .notN d .none = .ok (!isN d) := Eq.trans rfl rfl
def ixC : Option D → R D
  | some d => .ok d
  | none => .bad
@[simp] theorem ixC_some (d : D) : ixC (some d) = .ok d := Eq.trans rfl rfl
@[simp] theorem ix_t (xs : List D) (k : Int) : ixD (.tuple xs) (.int k) = ixC (atI xs k) := by
  show (match atI xs k with | some d => R.ok d | none => .bad) = _
  cases atI xs k <;> rfl
@[simp] theorem ix_l (xs : List D) (k : Int) : ixD (.list xs) (.int k) = ixC (atI xs k) := by
  show (match atI xs k with | some d => R.ok d | none => .bad) = _
  cases atI xs k <;> rfl
theorem atI_lit {α : Type} (xs : List α) (n : Nat) (h : n < xs.length) : atI xs (n : Int) = xs[n]? := by
  unfold atI ixN
  rw [if_pos (by omega), if_pos (by omega)]
  rfl
theorem atI_n {α : Type} (xs : List α) (n : Nat) : atI xs (n : Int) = xs[n]? := by
  by_cases h : n < xs.length
  · exact atI_lit xs n h
  · unfold atI ixN
    rw [if_pos (by omega), if_neg (by omega), List.getElem?_eq_none (by omega)]
    rfl
@[simp] theorem atI_o {α : Type} (xs : List α) (n : Nat) : atI xs (no_index (OfNat.ofNat n) : Int) = xs[(OfNat.ofNat n : Nat)]? := atI_n xs n
theorem ixN_n (m n : Nat) (h : n < m) : ixN m (n : Int) = some n := by
  unfold ixN
  rw [if_pos (by omega), if_pos (by omega)]
  rfl
@[simp] theorem setC_lit (i : Nat) (ρ : Slots) (d : D) (n : Nat) (b : Bool) (ds : List D) : setC i ρ d (no_index (OfNat.ofNat n) : Int) (some (.own b ds)) = if n < ds.length then .ok (.nx, ρ.set i (.own b (ds.set (OfNat.ofNat n : Nat) d))) else .bad := by
  by_cases h : n < ds.length
  · rw [if_pos h]
    exact setC_own i ρ d _ b ds n (ixN_n _ _ h)
  · rw [if_neg h]
    show (match ixN ds.length (n : Int) with
        | some j => R.ok (Fl.nx, ρ.set i (.own b (ds.set j d)))
        | none => .bad) = _
    unfold ixN
    rw [if_pos (by omega), if_neg (by omega)]
@[simp] theorem i64_lit (n : Nat) : i64 (no_index (OfNat.ofNat n) : Int) = decide ((OfNat.ofNat n : Int) < 2 ^ 64) := by
  unfold i64
  have : decide (-(2 ^ 64) < (OfNat.ofNat n : Int)) = true := decide_eq_true (by have : (0 : Int) ≤ (n : Int) := Int.natCast_nonneg n; exact Int.lt_of_lt_of_le (by decide) this)
  rw [this, Bool.true_and]
theorem i64_of {i : Int} (h1 : -(2 ^ 64) < i) (h2 : i < 2 ^ 64) : i64 i = true := by
  unfold i64
  rw [decide_eq_true h1, decide_eq_true h2]; rfl
theorem sz_of {n : Nat} (h : n ≤ sizeLine) : sz n = true := decide_eq_true h
theorem sem_P (G : Gm) (x : Str) (n m : Nat) (b : Ss) (ds : List D) : (sigOf G x n false false m b).sem ds = finP (exs G b (slots0 m ds)) := rfl
theorem sem_N (G : Gm) (x : Str) (n m : Nat) (b : Ss) (ds : List D) : (sigOf G x n false true m b).sem ds = finN (exs G b (slots0 m ds)) := rfl
theorem sem_B (G : Gm) (x : Str) (n m : Nat) (b : Ss) (es ds : List D) : (sigOf G x n true false m b).sem (.list es :: ds) = finB (exs G b (slotsB m es ds)) := rfl
@[simp] theorem finP_rt (d : D) (ρ : Slots) : finP (.ok (.rt d, ρ)) = .ok (d, []) := Eq.trans rfl rfl
@[simp] theorem finP_nx (ρ : Slots) : finP (.ok (.nx, ρ)) = .ok (.none, []) := Eq.trans rfl rfl
@[simp] theorem finN_rn (d : List D) (ρ : Slots) : finN (.ok (.rn d, ρ)) = .ok (.list d, []) := Eq.trans rfl rfl
@[simp] theorem finB_rt (d : D) (es : List D) (ρ : Slots) : finB (.ok (.rt d, Cell.own true es :: ρ)) = .ok (d, es) := Eq.trans rfl rfl
@[simp] theorem finB_nx (es : List D) (ρ : Slots) : finB (.ok (.nx, Cell.own true es :: ρ)) = .ok (.none, es) := Eq.trans rfl rfl
@[simp] theorem i64_mod (x n : Int) (h1 : 0 < n) (h2 : n < 2 ^ 64) : i64 (x % n) = true :=
  i64_of (by have := Int.emod_nonneg x (Int.ne_of_gt h1); omega) (by have := Int.emod_lt_of_pos x h1; omega)
@[simp] theorem compLoop_nil (turn : D → Slots → R (Option D × Slots)) (ρ : Slots) : compLoop turn [] ρ = .ok ([], ρ) := Eq.trans rfl rfl
/-- a comprehension that leaves the slots as they are -/
theorem compLoop_opt (turn : D → Slots → R (Option D × Slots)) (f : D → Option D) (ρ : Slots) : ∀ ds : List D, (∀ d ∈ ds, turn d ρ = .ok (f d, ρ)) → compLoop turn ds ρ = .ok (ds.filterMap f, ρ)
  | [], _ => rfl
  | d :: r, h => by
    show (turn d ρ >>= fun p => compLoop turn r p.2 >>= fun q => R.ok ((match p.1 with | some x => x :: q.1 | none => q.1), q.2)) = _
    rw [h d List.mem_cons_self, bind_ok, compLoop_opt turn f ρ r fun x hx => h x (List.mem_cons_of_mem _ hx), bind_ok, List.filterMap_cons]
    cases f d <;> rfl
theorem compLoop_map (turn : D → Slots → R (Option D × Slots)) (f : D → D) (ρ : Slots) (ds : List D) (h : ∀ d ∈ ds, turn d ρ = .ok (some (f d), ρ)) : compLoop turn ds ρ = .ok (ds.map f, ρ) := by
  rw [compLoop_opt turn (fun d => some (f d)) ρ ds h]
  congr 2
  exact congrFun List.filterMap_eq_map ds
theorem compLoop_filter (turn : D → Slots → R (Option D × Slots)) (f : D → D) (p : D → Bool) (ρ : Slots) (ds : List D) (h : ∀ d ∈ ds, turn d ρ = .ok (if p d = true then some (f d) else none, ρ)) : compLoop turn ds ρ = .ok ((ds.filter p).map f, ρ) := by
  rw [compLoop_opt turn (fun d => if p d = true then some (f d) else none) ρ ds h]
  congr 2
  induction ds with
  | nil => rfl
  | cons d r ih =>
    rw [List.filterMap_cons, List.filter_cons]
    have ih := ih fun x hx => h x (List.mem_cons_of_mem _ hx)
    by_cases hp : p d = true
    · rw [if_pos hp, if_pos hp, List.map_cons, ← ih]
    · rw [if_neg hp, if_neg hp, ← ih]
/-- over numbers -/
theorem compLoop_ints {α : Type} (g : α → D) (turn : D → Slots → R (Option D × Slots)) (f : α → D) (ρ : Slots) (ns : List α) (h : ∀ n ∈ ns, turn (g n) ρ = .ok (some (f n), ρ)) : compLoop turn (ns.map g) ρ = .ok (ns.map f, ρ) := by
  induction ns with
  | nil => rfl
  | cons n r ih =>
    show (turn (g n) ρ >>= fun p => compLoop turn (r.map g) p.2 >>= fun q => R.ok ((match p.1 with | some x => x :: q.1 | none => q.1), q.2)) = _
    rw [h n List.mem_cons_self, bind_ok, ih fun x hx => h x (List.mem_cons_of_mem _ hx)]
    rfl
theorem compLoop_pick {α : Type} (g : α → D) (turn : D → Slots → R (Option D × Slots)) (p : α → Bool) (f : α → D) (ρ : Slots) (ns : List α) (h : ∀ n ∈ ns, turn (g n) ρ = .ok (if p n = true then some (f n) else none, ρ)) : compLoop turn (ns.map g) ρ = .ok ((ns.filter p).map f, ρ) := by
  induction ns with
  | nil => rfl
  | cons n r ih =>
    show (turn (g n) ρ >>= fun q => compLoop turn (r.map g) q.2 >>= fun t => R.ok ((match q.1 with | some x => x :: t.1 | none => t.1), t.2)) = _
    rw [h n List.mem_cons_self, bind_ok, ih fun x hx => h x (List.mem_cons_of_mem _ hx), List.filter_cons]
    by_cases hp : p n = true
    · rw [if_pos hp, if_pos hp]; rfl
    · rw [if_neg hp, if_neg hp]; rfl
/-- the outer loop of two clauses, where each turn gives what it gives -/
theorem compLoop2_map {α : Type} (g : α → D) (turn : D → Slots → R (List D × Slots)) (f : α → List D) (ρ : Slots) : ∀ ns : List α, (∀ n ∈ ns, turn (g n) ρ = .ok (f n, ρ)) → compLoop2 turn (ns.map g) ρ = .ok (ns.flatMap f, ρ)
  | [], _ => rfl
  | n :: r, h => by
    show (turn (g n) ρ >>= fun p => compLoop2 turn (r.map g) p.2 >>= fun q => R.ok (p.1 ++ q.1, q.2)) = _
    rw [h n List.mem_cons_self, bind_ok, compLoop2_map g turn f ρ r fun x hx => h x (List.mem_cons_of_mem _ hx)]
    rfl
/-- a comprehension whose turns may change the slots: J holds throughout, Q of each item -/
theorem compLoop_inv (turn : D → Slots → R (Option D × Slots)) (J : Slots → Prop) (Q : D → Prop) : ∀ (ds : List D) (ρ : Slots), J ρ → (∀ d ∈ ds, ∀ ρ, J ρ → ∃ x ρ', turn d ρ = .ok (some x, ρ') ∧ J ρ' ∧ Q x) → ∃ xs ρ', compLoop turn ds ρ = .ok (xs, ρ') ∧ J ρ' ∧ (∀ x ∈ xs, Q x) ∧ xs.length = ds.length
  | [], ρ, hJ, _ => ⟨[], ρ, rfl, hJ, (fun _ z => by cases z), rfl⟩
  | d :: r, ρ, hJ, h => by
    obtain ⟨x, ρ1, e1, J1, q1⟩ := h d List.mem_cons_self ρ hJ
    obtain ⟨xs, ρ2, e2, J2, q2, l2⟩ := compLoop_inv turn J Q r ρ1 J1 fun y hy => h y (List.mem_cons_of_mem _ hy)
    refine ⟨x :: xs, ρ2, ?_, J2, fun y hy => ?_, by rw [List.length_cons, List.length_cons, l2]⟩
    · show (turn d ρ >>= fun p => compLoop turn r p.2 >>= fun q => R.ok ((match p.1 with | some x => x :: q.1 | none => q.1), q.2)) = _
      rw [e1, bind_ok, e2]
      rfl
    · rcases List.mem_cons.mp hy with rfl | hy
      · exact q1
      · exact q2 y hy
@[simp] theorem forLoop_nil (turn : D → Slots → R (Fl × Slots)) (ρ : Slots) : forLoop turn [] ρ = .ok (.nx, ρ) := Eq.trans rfl rfl
def forC (k : Slots → R (Fl × Slots)) : Fl × Slots → R (Fl × Slots)
  | (.nx, ρ) => k ρ
  | (.ct, ρ) => k ρ
  | (.bk, ρ) => .ok (.nx, ρ)
  | p => .ok p
@[simp] theorem forC_nx (k : Slots → R (Fl × Slots)) (ρ : Slots) : forC k (.nx, ρ) = k ρ := Eq.trans rfl rfl
@[simp] theorem forC_ct (k : Slots → R (Fl × Slots)) (ρ : Slots) : forC k (.ct, ρ) = k ρ := Eq.trans rfl rfl
@[simp] theorem forC_bk (k : Slots → R (Fl × Slots)) (ρ : Slots) : forC k (.bk, ρ) = .ok (.nx, ρ) := Eq.trans rfl rfl
@[simp] theorem forC_rt (k : Slots → R (Fl × Slots)) (d : D) (ρ : Slots) : forC k (.rt d, ρ) = .ok (.rt d, ρ) := Eq.trans rfl rfl
@[simp] theorem forC_rn (k : Slots → R (Fl × Slots)) (d : List D) (ρ : Slots) : forC k (.rn d, ρ) = .ok (.rn d, ρ) := Eq.trans rfl rfl
theorem forLoop_cons (turn : D → Slots → R (Fl × Slots)) (d : D) (r : List D) (ρ : Slots) : forLoop turn (d :: r) ρ = turn d ρ >>= forC (forLoop turn r) := by
  show (turn d ρ >>= fun p => match p.1 with
    | .nx => forLoop turn r p.2
    | .ct => forLoop turn r p.2
    | .bk => .ok (.nx, p.2)
    | f => .ok (f, p.2)) = _
  congr 1
  funext p
  obtain ⟨f, ρ'⟩ := p
  cases f <;> rfl
/-- a for loop that runs through: J i holds behind i turns -/
theorem forLoop_inv (turn : D → Slots → R (Fl × Slots)) (J : Nat → Slots → Prop) : ∀ (ds : List D) (i : Nat) (ρ : Slots), J i ρ → (∀ (j : Nat) d, ds[j]? = some d → ∀ ρ, J (i + j) ρ → ∃ ρ', (turn d ρ = .ok (.nx, ρ') ∨ turn d ρ = .ok (.ct, ρ')) ∧ J (i + j + 1) ρ') → ∃ ρ', forLoop turn ds ρ = .ok (.nx, ρ') ∧ J (i + ds.length) ρ'
  | [], i, ρ, hJ, _ => ⟨ρ, rfl, hJ⟩
  | d :: r, i, ρ, hJ, h => by
    obtain ⟨ρ1, e1, J1⟩ := h 0 d rfl ρ hJ
    obtain ⟨ρ2, e2, J2⟩ := forLoop_inv turn J r (i + 1) ρ1 J1 fun j x hx ρ q => by
      have := h (j + 1) x (by simpa using hx) ρ (by rw [show i + (j + 1) = i + 1 + j from by omega]; exact q)
      rw [show i + (j + 1) = i + 1 + j from by omega] at this
      exact this
    refine ⟨ρ2, ?_, by rw [List.length_cons, show i + (r.length + 1) = i + 1 + r.length from by omega]; exact J2⟩
    rw [forLoop_cons]
    rcases e1 with e1 | e1 <;> rw [e1] <;> exact e2
/-- a for loop that looks for the first item with p: it returns f of it -/
theorem forLoop_find {α : Type} (g : α → D) (turn : D → Slots → R (Fl × Slots)) (p : α → Bool) (f : α → D) : ∀ (ns : List α) (ρ : Slots) (J : Slots → Prop), J ρ → (∀ n ∈ ns, ∀ ρ, J ρ → if p n = true then ∃ ρ', turn (g n) ρ = .ok (.rt (f n), ρ') else ∃ ρ', turn (g n) ρ = .ok (.nx, ρ') ∧ J ρ') →
    match ns.find? p with
    | some n => ∃ ρ', forLoop turn (ns.map g) ρ = .ok (.rt (f n), ρ')
    | none => ∃ ρ', forLoop turn (ns.map g) ρ = .ok (.nx, ρ') ∧ J ρ'
  | [], ρ, J, hJ, _ => ⟨ρ, rfl, hJ⟩
  | n :: r, ρ, J, hJ, h => by
    have h0 := h n List.mem_cons_self ρ hJ
    rw [List.find?_cons, List.map_cons]
    by_cases hp : p n = true
    · rw [if_pos hp] at h0
      obtain ⟨ρ', e⟩ := h0
      rw [hp]
      exact ⟨ρ', by rw [forLoop_cons, e]; rfl⟩
    · rw [if_neg hp] at h0
      obtain ⟨ρ', e, J'⟩ := h0
      have hp' : p n = false := by simpa using hp
      rw [hp']
      have ih := forLoop_find g turn p f r ρ' J J' fun m hm => h m (List.mem_cons_of_mem _ hm)
      dsimp only at ih ⊢
      have e2 : forLoop turn (g n :: r.map g) ρ = forLoop turn (r.map g) ρ' := by rw [forLoop_cons, e]; rfl
      rw [e2]
      exact ih
@[simp] theorem isB_bb (a b : Bool) : cmpD .isB (.bool a) (.bool b) = .ok (a == b) := Eq.trans rfl rfl
@[simp] theorem notB_bb (a b : Bool) : cmpD .notB (.bool a) (.bool b) = .ok (!(a == b)) := Eq.trans rfl rfl
@[simp] theorem repr_d (d : D) : biD .repr d = gd (repOk d) (.ok (.str d.shown)) := Eq.trans rfl rfl
@[simp] theorem extC_own (i : Nat) (ρ : Slots) (es : List D) (b : Bool) (ds : List D) : extC i ρ (.list es) (some (.own b ds)) = if sz (ds.length + es.length) = true then .ok (.nx, ρ.set i (.own b (ds ++ es))) else .bad := Eq.trans rfl rfl
@[simp] theorem ex_ext (G : Gm) (i : Nat) (e : E) (ρ : Slots) : ex G (.ext i e) ρ = if isOwn ρ[i]? = true then ev G e ρ >>= fun p => peek p.2 p.1 >>= fun x => extC i p.2 x p.2[i]? else .bad := Eq.trans rfl rfl
end DP

/-! DP, part 18: about data. -/
namespace DP
open PySem PySem.Spec PyProof.Rows L2
def Okd (k : Nat) (d : D) : Prop := d.canLay0 = true ∧ d.depth ≤ k
def OkA (k : Nat) (ds : List D) : Prop := PyData.canLayAll0 ds = true ∧ PyData.depthAll ds ≤ k
theorem OkA.nil {k : Nat} : OkA k [] := ⟨rfl, Nat.zero_le _⟩
theorem OkA.cons {k : Nat} {d : D} {ds : List D} (h : Okd k d) (r : OkA k ds) : OkA k (d :: ds) := by
  refine ⟨?_, ?_⟩
  · rw [PyData.canLayAll0, h.1, r.1]; rfl
  · rw [PyData.depthAll]; exact Nat.max_le.mpr ⟨h.2, r.2⟩
theorem OkA.of {k : Nat} : ∀ {ds : List D}, (∀ d ∈ ds, Okd k d) → OkA k ds
  | [], _ => .nil
  | d :: ds, h => .cons (h d List.mem_cons_self) (OkA.of fun x hx => h x (List.mem_cons_of_mem _ hx))
theorem Okd.int {k : Nat} (i : Int) : Okd k (.int i) := ⟨rfl, Nat.zero_le _⟩
theorem Okd.bool {k : Nat} (i : Bool) : Okd k (.bool i) := ⟨rfl, Nat.zero_le _⟩
theorem Okd.none {k : Nat} : Okd k .none := ⟨rfl, Nat.zero_le _⟩
theorem Okd.tup {k : Nat} {ds : List D} (h : OkA k ds) : Okd (k + 1) (.tuple ds) := by
  refine ⟨?_, ?_⟩
  · rw [PyData.canLay0]; exact h.1
  · rw [PyData.depth]; exact Nat.succ_le_succ h.2
theorem Okd.lst {k : Nat} {ds : List D} (h : OkA k ds) : Okd (k + 1) (.list ds) := by
  refine ⟨?_, ?_⟩
  · rw [PyData.canLay0]; exact h.1
  · rw [PyData.depth]; exact Nat.succ_le_succ h.2
theorem Okd.mono {j k : Nat} {d : D} (h : Okd j d) (l : j ≤ k) : Okd k d := ⟨h.1, Nat.le_trans h.2 l⟩
theorem OkA.ints {k : Nat} (ns : List Int) : OkA k (ns.map PyData.int) := .of fun d hd => by
  obtain ⟨n, _, rfl⟩ := List.mem_map.mp hd
  exact .int n
theorem shp_of {k : Nat} {d : D} (h : Okd k d) (l : k ≤ 64) : shp d = true := by
  unfold shp SeqAt.shaped
  rw [h.1, decide_eq_true (Nat.le_trans h.2 l)]; rfl
@[simp] theorem shp_int (i : Int) : shp (.int i) = true := shp_of (k := 0) (.int i) (by decide)
@[simp] theorem shp_bool (i : Bool) : shp (.bool i) = true := shp_of (k := 0) (.bool i) (by decide)
@[simp] theorem shp_none : shp .none = true := Eq.trans rfl rfl
def lotD (l : List Int) : D := .tuple (l.map PyData.int)
theorem ok_lot (l : List Int) : Okd 1 (lotD l) := .tup (.ints l)
theorem ok_lots (ls : List (List Int)) : Okd 2 (.list (ls.map lotD)) := .lst (.of fun d hd => by
  obtain ⟨l, _, rfl⟩ := List.mem_map.mp hd
  exact ok_lot l)
@[simp] theorem shp_lot (l : List Int) : shp (lotD l) = true := shp_of (ok_lot l) (by decide)
@[simp] theorem shp_lots (l : List (List Int)) : shp (.list (l.map lotD)) = true := shp_of (ok_lots l) (by decide)
mutual
theorem eqv_same : ∀ d : D, d.canLay0 = true → PyData.eqv d d = true
  | .none, _ => by rw [PyData.eqv]
  | .bool b, _ => by rw [PyData.eqv]; simp
  | .int b, _ => by rw [PyData.eqv]; simp
  | .str b, _ => by rw [PyData.eqv]; simp
  | .list xs, h => by rw [PyData.eqv]; exact eqvA_same xs (by rw [PyData.canLay0] at h; exact h)
  | .tuple xs, h => by rw [PyData.eqv]; exact eqvA_same xs (by rw [PyData.canLay0] at h; exact h)
  | .dict xs, h => by rw [PyData.canLay0] at h; cases h
theorem eqvA_same : ∀ ds : List D, PyData.canLayAll0 ds = true → PyData.eqvAll ds ds = true
  | [], _ => by rw [PyData.eqvAll]
  | d :: ds, h => by
    rw [PyData.canLayAll0, Bool.and_eq_true] at h
    rw [PyData.eqvAll, eqv_same d h.1, eqvA_same ds h.2]; rfl
end
theorem eqOk_of {d e : D} (h : shp d = true) (h2 : shp e = true) : eqOk d e = true := by
  unfold eqOk
  rw [h, h2]; rfl
theorem inOk_of {d : D} {ds : List D} (h : shp d = true) (h2 : shp (.list ds) = true) : inOk d ds = true := by
  unfold inOk
  rw [h, h2]; rfl
theorem inOk_flat {d : D} {ds : List D} (h : flat d = true) (h2 : ds.all flat = true) : inOk d ds = true := by
  unfold inOk
  rw [h, h2]; simp
theorem eq_shp {d e : D} (h : shp d = true) (h2 : shp e = true) : cmpD .eq d e = .ok (PyData.eqv d e) := by
  show (if eqOk d e = true then R.ok (PyData.eqv d e) else .bad) = _
  rw [eqOk_of h h2]; rfl
theorem ne_shp {d e : D} (h : shp d = true) (h2 : shp e = true) : cmpD .ne d e = .ok (!PyData.eqv d e) := by
  show (if eqOk d e = true then R.ok (!PyData.eqv d e) else .bad) = _
  rw [eqOk_of h h2]; rfl
@[simp] theorem eq_ss (x y : Str) : cmpD .eq (.str x) (.str y) = .ok (decide (x = y)) := by
  show (if eqOk (.str x) (.str y) = true then R.ok (PyData.eqv (.str x) (.str y)) else .bad) = _
  have : eqOk (.str x) (.str y) = true := by unfold eqOk; simp [bothS]
  rw [this, eqv_strs]; rfl
@[simp] theorem ne_ss (x y : Str) : cmpD .ne (.str x) (.str y) = .ok (!decide (x = y)) := by
  show (if eqOk (.str x) (.str y) = true then R.ok (!PyData.eqv (.str x) (.str y)) else .bad) = _
  have : eqOk (.str x) (.str y) = true := by unfold eqOk; simp [bothS]
  rw [this, eqv_strs]; rfl
/-- alike: not unlike -/
theorem ne_same {k : Nat} {d : D} (h : Okd k d) (l : k ≤ 64) : cmpD .ne d d = .ok false := by
  rw [ne_shp (shp_of h l) (shp_of h l), eqv_same d h.1]; rfl
theorem eq_same {k : Nat} {d : D} (h : Okd k d) (l : k ≤ 64) : cmpD .eq d d = .ok true := by
  rw [eq_shp (shp_of h l) (shp_of h l), eqv_same d h.1]
@[simp] theorem ne_bb (a b : Bool) : cmpD .ne (.bool a) (.bool b) = .ok (!(a == b)) := by
  rw [ne_shp (shp_bool _) (shp_bool _)]
  rfl
@[simp] theorem eq_bb (a b : Bool) : cmpD .eq (.bool a) (.bool b) = .ok (a == b) := by
  rw [eq_shp (shp_bool _) (shp_bool _)]
  rfl
theorem in_flat {d : D} {ds : List D} (h : flat d = true) (h2 : ds.all flat = true) : cmpD .inn d (.list ds) = .ok (ds.any fun z => PyData.eqv z d) := by
  show (if inOk d ds = true then R.ok (ds.any fun z => PyData.eqv z d) else .bad) = _
  rw [inOk_flat h h2]; rfl
theorem nin_flat {d : D} {ds : List D} (h : flat d = true) (h2 : ds.all flat = true) : cmpD .nin d (.list ds) = .ok (!ds.any fun z => PyData.eqv z d) := by
  show ((if inOk d ds = true then R.ok (ds.any fun z => PyData.eqv z d) else .bad) >>= fun b => R.ok (!b)) = _
  rw [inOk_flat h h2]; rfl
theorem in_flatT {d : D} {ds : List D} (h : flat d = true) (h2 : ds.all flat = true) : cmpD .inn d (.tuple ds) = .ok (ds.any fun z => PyData.eqv z d) := by
  show (if (flat d && ds.all flat) = true then R.ok (ds.any fun z => PyData.eqv z d) else .bad) = _
  rw [h, h2]; rfl
theorem nin_flatT {d : D} {ds : List D} (h : flat d = true) (h2 : ds.all flat = true) : cmpD .nin d (.tuple ds) = .ok (!ds.any fun z => PyData.eqv z d) := by
  show ((if (flat d && ds.all flat) = true then R.ok (ds.any fun z => PyData.eqv z d) else .bad) >>= fun b => R.ok (!b)) = _
  rw [h, h2]; rfl
@[simp] theorem ints_map (ns : List Int) : ints? (ns.map PyData.int) = .ok ns := by
  induction ns with
  | nil => rfl
  | cons n r ih =>
    show (ints? (r.map PyData.int) >>= fun ns => R.ok (n :: ns)) = _
    rw [ih]; rfl
@[simp] theorem bools_map {α : Type} (f : α → Bool) (xs : List α) : bools? (xs.map fun x => PyData.bool (f x)) = .ok (xs.map f) := by
  induction xs with
  | nil => rfl
  | cons n r ih =>
    show (bools? (r.map fun x => PyData.bool (f x)) >>= fun ns => R.ok (f n :: ns)) = _
    rw [ih]; rfl
@[simp] theorem sum_l (ns : List Int) : biD .sum (.list (ns.map PyData.int)) = .ok (.int ns.sum) := by
  show (ints? (ns.map PyData.int) >>= fun ns => R.ok (PyData.int ns.sum)) = _
  rw [ints_map]; rfl
@[simp] theorem sum_t (ns : List Int) : biD .sum (.tuple (ns.map PyData.int)) = .ok (.int ns.sum) := by
  show (ints? (ns.map PyData.int) >>= fun ns => R.ok (PyData.int ns.sum)) = _
  rw [ints_map]; rfl
@[simp] theorem all_l {α : Type} (f : α → Bool) (xs : List α) : biD .all (.list (xs.map fun x => PyData.bool (f x))) = .ok (.bool (xs.all f)) := by
  show (bools? (xs.map fun x => PyData.bool (f x)) >>= fun bs => R.ok (PyData.bool (bs.all id))) = _
  rw [bools_map, bind_ok, List.all_map]
  rfl
@[simp] theorem any_l {α : Type} (f : α → Bool) (xs : List α) : biD .any (.list (xs.map fun x => PyData.bool (f x))) = .ok (.bool (xs.any f)) := by
  show (bools? (xs.map fun x => PyData.bool (f x)) >>= fun bs => R.ok (PyData.bool (bs.any id))) = _
  rw [bools_map, bind_ok, List.any_map]
  rfl
theorem key_kD (p : Int × List Int) : key? (kD' p) = .ok p := by
  show (ints? (p.2.map PyData.int) >>= fun ns => R.ok (p.1, ns)) = _
  rw [ints_map]; rfl
theorem keys_map (ps : List (Int × List Int)) : keys? (ps.map kD') = .ok ps := by
  induction ps with
  | nil => rfl
  | cons n r ih =>
    show (key? (kD' n) >>= fun k => keys? (r.map kD') >>= fun ks => R.ok (k :: ks)) = _
    rw [key_kD, bind_ok, ih]; rfl
theorem sort_keys (ps : List (Int × List Int)) : biD .sorted (.list (ps.map kD')) = .ok (.list ((isort kLt ps).map kD')) := by
  cases ps with
  | nil => rfl
  | cons p r =>
    show (keys? ((p :: r).map kD') >>= fun ks => R.ok (PyData.list ((isort kLt ks).map kD'))) = _
    rw [keys_map]; rfl
theorem ins_mem {α : Type} (lt : α → α → Bool) (x : α) : ∀ (l : List α) (y : α), y ∈ ins lt x l ↔ y = x ∨ y ∈ l
  | [], y => by simp [ins]
  | z :: r, y => by
    unfold ins
    split
    · simp
    · rw [List.mem_cons, ins_mem lt x r y, List.mem_cons]
      constructor
      · rintro (h | h | h)
        · exact .inr (.inl h)
        · exact .inl h
        · exact .inr (.inr h)
      · rintro (h | h | h)
        · exact .inr (.inl h)
        · exact .inl h
        · exact .inr (.inr h)
theorem isort_mem {α : Type} (lt : α → α → Bool) : ∀ (l : List α) (y : α), y ∈ isort lt l ↔ y ∈ l
  | [], y => by simp [isort]
  | z :: r, y => by
    show y ∈ ins lt z (isort lt r) ↔ _
    rw [ins_mem, isort_mem lt r y, List.mem_cons]
theorem atI_int {ns : List Int} {i : Int} (h0 : 0 ≤ i) (h1 : i < ns.length) : atI (ns.map PyData.int) i = some (.int (ns.getD i.toNat 0)) := by
  have e := atI_n (ns.map PyData.int) i.toNat
  rw [Int.toNat_of_nonneg h0, List.getElem?_map, List.getElem?_eq_getElem (by omega)] at e
  rw [e, List.getD_eq_getElem?_getD, List.getElem?_eq_getElem (by omega)]
  rfl
theorem rngD_0 (n : Nat) : rngD 0 (n : Int) = (List.range n).map fun (i : Nat) => PyData.int (i : Int) := by
  unfold rngD
  rw [show ((n : Int) - 0).toNat = n from by omega]
  congr 1
  funext i
  rw [Int.zero_add]
theorem rngOk_0 (n : Nat) (h : n < 2 ^ 62) : rngOk 0 (n : Int) = true := by
  unfold rngOk
  have h1 : (n : Int) < 2 ^ 62 := by omega
  have h2 : -(2 ^ 62) ≤ (n : Int) := by omega
  rw [decide_eq_true h1, decide_eq_true h2]
  rfl
theorem sizeLine_is : sizeLine = 16777216 := by decide +kernel
@[simp] theorem sz_eq (n : Nat) : sz n = decide (n ≤ 16777216) := by
  unfold sz
  rw [sizeLine_is]
@[simp] theorem add_tt (xs ys : List D) : op2 .add (.tuple xs) (.tuple ys) = gd (sz (xs.length + ys.length)) (.ok (.tuple (xs ++ ys))) := Eq.trans rfl rfl
@[simp] theorem add_ll (xs ys : List D) : op2 .add (.list xs) (.list ys) = gd (sz (xs.length + ys.length)) (.ok (.list (xs ++ ys))) := Eq.trans rfl rfl
@[simp] theorem mul_ti (xs : List D) (k : Int) : op2 .mul (.tuple xs) (.int k) = gd (!xs.isEmpty && decide (2 ≤ k) && decide (k ≤ 1000) && decide (xs.length ≤ 1000)) (.ok (.tuple (List.replicate k.toNat xs).flatten)) := Eq.trans rfl rfl
theorem for_bind {β : Type} {turn : D → Slots → R (Fl × Slots)} {ds : List D} {ρ : Slots} {k : Fl × Slots → R β} {P : R β → Prop} (J : Nat → Slots → Prop) (h0 : J 0 ρ)
    (hs : ∀ (j : Nat) d, ds[j]? = some d → ∀ ρ, J j ρ → ∃ ρ', (turn d ρ = .ok (.nx, ρ') ∨ turn d ρ = .ok (.ct, ρ')) ∧ J (j + 1) ρ') (hk : ∀ ρ', J ds.length ρ' → P (k (.nx, ρ'))) : P (forLoop turn ds ρ >>= k) := by
  obtain ⟨ρ', e, j⟩ := forLoop_inv turn J ds 0 ρ h0 fun j d hd ρ hJ => by
    rw [Nat.zero_add] at hJ ⊢
    exact hs j d hd ρ hJ
  rw [Nat.zero_add] at j
  rw [e]
  exact hk ρ' j
/-- the same, the turn's run told apart: simp at it -/
theorem for_bindR {β : Type} {turn : D → Slots → R (Fl × Slots)} {ds : List D} {ρ : Slots} {k : Fl × Slots → R β} {P : R β → Prop} (J : Nat → Slots → Prop) (h0 : J 0 ρ)
    (hs : ∀ (j : Nat) d, ds[j]? = some d → ∀ ρ, J j ρ → ∀ r, turn d ρ = r → ∃ ρ', (r = .ok (.nx, ρ') ∨ r = .ok (.ct, ρ')) ∧ J (j + 1) ρ') (hk : ∀ ρ', J ds.length ρ' → P (k (.nx, ρ'))) : P (forLoop turn ds ρ >>= k) :=
  for_bind J h0 (fun j d hd ρ hJ => hs j d hd ρ hJ _ rfl) hk
theorem rng_at {n : Nat} {j : Nat} {d : D} (h : ((List.range n).map fun (i : Nat) => PyData.int (i : Int))[j]? = some d) : j < n ∧ d = .int (j : Int) := by
  have hl := (List.getElem?_eq_some_iff.mp h).1
  rw [List.length_map, List.length_range] at hl
  rw [List.getElem?_map, List.getElem?_eq_getElem (by rw [List.length_range]; exact hl), List.getElem_range] at h
  exact ⟨hl, (Option.some.inj h).symm⟩
theorem rngC_ok (i j : Int) (ρ : Slots) (h1 : -1000000 ≤ i) (h2 : i ≤ 1000000) (h3 : -1000000 ≤ j) (h4 : j ≤ 1000000) : rngC i j ρ = .ok (rngD i j, ρ) := by
  unfold rngC rngOk
  have e1 : -(2 ^ 62) ≤ i := by omega
  have e2 : i < 2 ^ 62 := by omega
  have e3 : -(2 ^ 62) ≤ j := by omega
  have e4 : j < 2 ^ 62 := by omega
  have e5 : (j - i).toNat ≤ 16777216 := by omega
  rw [decide_eq_true e1, decide_eq_true e2, decide_eq_true e3, decide_eq_true e4, sz_eq, decide_eq_true e5]
  rfl
theorem rngC_nat (n : Nat) (ρ : Slots) (h : n ≤ 1000000) : rngC 0 (n : Int) ρ = .ok ((List.range n).map (fun (i : Nat) => PyData.int (i : Int)), ρ) := by
  rw [rngC_ok 0 n ρ (by decide) (by decide) (by omega) (by omega), rngD_0]
theorem find_bind {α β : Type} {turn : D → Slots → R (Fl × Slots)} {ns : List α} {ρ : Slots} {k : Fl × Slots → R β} {P : R β → Prop} (g : α → D) (p : α → Bool) (f : α → D) {n : α} (hf : ns.find? p = some n) (J : Slots → Prop) (h0 : J ρ)
    (hs : ∀ n ∈ ns, ∀ ρ, J ρ → if p n = true then ∃ ρ', turn (g n) ρ = .ok (.rt (f n), ρ') else ∃ ρ', turn (g n) ρ = .ok (.nx, ρ') ∧ J ρ') (hk : ∀ ρ', P (k (.rt (f n), ρ'))) : P (forLoop turn (ns.map g) ρ >>= k) := by
  have e := forLoop_find g turn p f ns ρ J h0 hs
  rw [hf] at e
  obtain ⟨ρ', e⟩ := e
  rw [e]
  exact hk ρ'
def dicC (ρ : Slots) (y : D) : D → R (Opd × Slots)
  | .int i => .ok (.val (.dict [(.int i, y)]), ρ)
  | .str s => .ok (.val (.dict [(.str s, y)]), ρ)
  | _ => .bad
@[simp] theorem dicC_int (ρ : Slots) (y : D) (i : Int) : dicC ρ y (.int i) = .ok (.val (.dict [(.int i, y)]), ρ) := Eq.trans rfl rfl
@[simp] theorem dicC_str (ρ : Slots) (y : D) (i : Str) : dicC ρ y (.str i) = .ok (.val (.dict [(.str i, y)]), ρ) := Eq.trans rfl rfl
@[simp] theorem ev_dic1 (G : Gm) (k v : E) (ρ : Slots) : ev G (.dic1 k v) ρ = ev G k ρ >>= fun p => ev G v p.2 >>= fun q => peek q.2 p.1 >>= fun x => keep q.1 >>= fun y => dicC q.2 y x := by
  show (ev G k ρ >>= fun p => ev G v p.2 >>= fun q => peek q.2 p.1 >>= fun x => keep q.1 >>= fun y => (match x with
      | .int i => R.ok (Opd.val (.dict [(.int i, y)]), q.2)
      | .str s => .ok (.val (.dict [(.str s, y)]), q.2)
      | _ => .bad)) = _
  congr 1
/-- a comprehension of drawn numbers: M ρ h says that the hand h stands in the slots ρ -/
theorem comp_ints {Hd : List D → Prop} {turn : D → Slots → R (Option D × Slots)} (mk : List D → Slots) (Q : Int → Prop) : ∀ (ds : List D) (h : List D), Hd h →
    (∀ d ∈ ds, ∀ h, Hd h → ∃ (x : Int) (h' : List D), turn d (mk h) = .ok (some (.int x), mk h') ∧ Hd h' ∧ Q x) → ∃ (xs : List Int) (h' : List D), compLoop turn ds (mk h) = .ok (xs.map PyData.int, mk h') ∧ Hd h' ∧ xs.length = ds.length ∧ ∀ x ∈ xs, Q x
  | [], h, hh, _ => ⟨[], h, rfl, hh, rfl, fun x z => (by cases z)⟩
  | d :: r, h, hh, ht => by
    obtain ⟨x, h1, e1, hh1, q1⟩ := ht d List.mem_cons_self h hh
    obtain ⟨xs, h2, e2, hh2, l2, q2⟩ := comp_ints (turn := turn) mk Q r h1 hh1 fun y hy => ht y (List.mem_cons_of_mem _ hy)
    refine ⟨x :: xs, h2, ?_, hh2, by rw [List.length_cons, List.length_cons, l2], fun y hy => ?_⟩
    · show (turn d (mk h) >>= fun p => compLoop turn r p.2 >>= fun q => R.ok ((match p.1 with | some x => x :: q.1 | none => q.1), q.2)) = _
      rw [e1, bind_ok, e2]
      rfl
    · rcases List.mem_cons.mp hy with rfl | hy
      · exact q1
      · exact q2 y hy
end DP

namespace Cbasics
open PySem PySem.Spec PyProof.Rows L2 DP 
def G_is_integer : Gm := ⟨[], []⟩
def b_is_integer : Ss := (.cons (.ret (.and (.cons (.isi (.var 0) .int) (.cons (.not (.isi (.var 0) .bool)) .nil))))
    .nil)
def g_is_integer : Sig := sigOf G_is_integer "is_integer" 1 false false 1 b_is_integer
@[simp] theorem bor_is_integer : g_is_integer.bor = false := Eq.trans rfl rfl
@[simp] theorem n_is_integer : g_is_integer.n = 1 := Eq.trans rfl rfl
theorem sem_is_integer (ds : List D) : g_is_integer.sem ds = finP (exs G_is_integer b_is_integer (slots0 1 ds)) := sem_P ..
def G_is_within : Gm := ⟨[g_is_integer], []⟩
def b_is_within : Ss := (.cons (.ret (.and (.cons (.call 0 (.cons (.var 0) .nil)) (.cons (.chn .le .le (.var 1) (.var 0) (.var 2)) .nil))))
    .nil)
def g_is_within : Sig := sigOf G_is_within "is_within" 3 false false 3 b_is_within
@[simp] theorem bor_is_within : g_is_within.bor = false := Eq.trans rfl rfl
@[simp] theorem n_is_within : g_is_within.n = 3 := Eq.trans rfl rfl
@[simp] theorem fn_is_within_0 : G_is_within.fns[0]? = some g_is_integer := Eq.trans rfl rfl
theorem sem_is_within (ds : List D) : g_is_within.sem ds = finP (exs G_is_within b_is_within (slots0 3 ds)) := sem_P ..
def G_is_sized : Gm := ⟨[], []⟩
def b_is_sized : Ss := (.cons (.ret (.and (.cons (.isi (.var 0) .tuple) (.cons (.chn .le .le (.var 1) (.bi .len (.var 0)) (.var 2)) .nil))))
    .nil)
def g_is_sized : Sig := sigOf G_is_sized "is_sized" 3 false false 3 b_is_sized
@[simp] theorem bor_is_sized : g_is_sized.bor = false := Eq.trans rfl rfl
@[simp] theorem n_is_sized : g_is_sized.n = 3 := Eq.trans rfl rfl
theorem sem_is_sized (ds : List D) : g_is_sized.sem ds = finP (exs G_is_sized b_is_sized (slots0 3 ds)) := sem_P ..
def G_are_within : Gm := ⟨[g_is_within], []⟩
def b_are_within : Ss := (.cons (.ret (.and (.cons (.isi (.var 0) .tuple) (.cons (.bi .all (.comp (.call 0 (.cons (.var 3) (.cons (.var 1) (.cons (.var 2) .nil)))) (.nm 3) (.seq (.var 0)) (.lit (.bl true)))) .nil))))
    .nil)
def g_are_within : Sig := sigOf G_are_within "are_within" 3 false false 4 b_are_within
@[simp] theorem bor_are_within : g_are_within.bor = false := Eq.trans rfl rfl
@[simp] theorem n_are_within : g_are_within.n = 3 := Eq.trans rfl rfl
@[simp] theorem fn_are_within_0 : G_are_within.fns[0]? = some g_is_within := Eq.trans rfl rfl
theorem sem_are_within (ds : List D) : g_are_within.sem ds = finP (exs G_are_within b_are_within (slots0 4 ds)) := sem_P ..
def G_all_lots : Gm := ⟨[], []⟩
def b_all_lots : Ss := (.cons (.asg (.nm 1) (.lst (.cons (.tup .nil) .nil)))
    (.cons (.fors (.nm 2) (.rng (.var 0)) (.cons (.asg (.nm 1) (.bin .add (.var 1) (.comp (.bin .add (.var 4) (.tup (.cons (.var 2) .nil))) (.nm 4) (.seq (.var 1)) (.lit (.bl true)))))
    .nil))
    (.cons (.ret (.comp (.var 4) (.tup [3, 4]) (.seq (.bi .sorted (.comp (.tup (.cons (.bi .len (.var 4)) (.cons (.var 4) .nil))) (.nm 4) (.seq (.var 1)) (.lit (.bl true))))) (.lit (.bl true))))
    .nil)))
def g_all_lots : Sig := sigOf G_all_lots "all_lots" 1 false false 5 b_all_lots
@[simp] theorem bor_all_lots : g_all_lots.bor = false := Eq.trans rfl rfl
@[simp] theorem n_all_lots : g_all_lots.n = 1 := Eq.trans rfl rfl
theorem sem_all_lots (ds : List D) : g_all_lots.sem ds = finP (exs G_all_lots b_all_lots (slots0 5 ds)) := sem_P ..
def G_all_orders : Gm := ⟨[], []⟩
def b_all_orders : Ss := (.cons (.asg (.nm 1) (.lst (.cons (.tup .nil) .nil)))
    (.cons (.fors (.nm 2) (.rng (.var 0)) (.cons (.asg (.nm 1) (.comp2 (.bin .add (.var 3) (.tup (.cons (.var 4) .nil))) (.nm 3) (.seq (.var 1)) (.lit (.bl true)) (.nm 4) (.rng (.var 0)) (.cmp .nin (.var 4) (.var 3))))
    .nil))
    (.cons (.ret (.var 1))
    .nil)))
def g_all_orders : Sig := sigOf G_all_orders "all_orders" 1 false false 5 b_all_orders
@[simp] theorem bor_all_orders : g_all_orders.bor = false := Eq.trans rfl rfl
@[simp] theorem n_all_orders : g_all_orders.n = 1 := Eq.trans rfl rfl
theorem sem_all_orders (ds : List D) : g_all_orders.sem ds = finP (exs G_all_orders b_all_orders (slots0 5 ds)) := sem_P ..
def G_is_name : Gm := ⟨[], []⟩
def b_is_name : Ss := (.cons (.ret (.and (.cons (.isi (.var 0) .str) (.cons (.chn .le .le (.lit (.int 1)) (.bi .len (.var 0)) (.lit (.int 8))) (.cons (.bi .all (.comp (.chn .le .le (.lit (.str "a")) (.var 1) (.lit (.str "z"))) (.nm 1) (.seq (.var 0)) (.lit (.bl true)))) .nil)))))
    .nil)
def g_is_name : Sig := sigOf G_is_name "is_name" 1 false false 2 b_is_name
@[simp] theorem bor_is_name : g_is_name.bor = false := Eq.trans rfl rfl
@[simp] theorem n_is_name : g_is_name.n = 1 := Eq.trans rfl rfl
theorem sem_is_name (ds : List D) : g_is_name.sem ds = finP (exs G_is_name b_is_name (slots0 2 ds)) := sem_P ..
def G_common : Gm := ⟨[], []⟩
def b_common : Ss := (.cons (.par 0 1 (.bi .abs (.var 0)) (.bi .abs (.var 1)))
    (.cons (.whl 1000000 (.cmp .gt (.var 1) (.lit (.int 0))) (.cons (.par 0 1 (.var 1) (.bin .mod (.var 0) (.var 1)))
    .nil))
    (.cons (.ret (.var 0))
    .nil)))
def g_common : Sig := sigOf G_common "common" 2 false false 2 b_common
@[simp] theorem bor_common : g_common.bor = false := Eq.trans rfl rfl
@[simp] theorem n_common : g_common.n = 2 := Eq.trans rfl rfl
theorem sem_common (ds : List D) : g_common.sem ds = finP (exs G_common b_common (slots0 2 ds)) := sem_P ..
def G_fraction : Gm := ⟨[g_common], []⟩
def b_fraction : Ss := (.cons (.asg (.nm 2) (.ife (.cmp .gt (.var 1) (.lit (.int 0))) (.call 0 (.cons (.var 0) (.cons (.var 1) .nil))) (.neg (.call 0 (.cons (.var 0) (.cons (.var 1) .nil))))))
    (.cons (.ret (.tup (.cons (.bin .fdiv (.var 0) (.var 2)) (.cons (.bin .fdiv (.var 1) (.var 2)) .nil))))
    .nil))
def g_fraction : Sig := sigOf G_fraction "fraction" 2 false false 3 b_fraction
@[simp] theorem bor_fraction : g_fraction.bor = false := Eq.trans rfl rfl
@[simp] theorem n_fraction : g_fraction.n = 2 := Eq.trans rfl rfl
@[simp] theorem fn_fraction_0 : G_fraction.fns[0]? = some g_common := Eq.trans rfl rfl
theorem sem_fraction (ds : List D) : g_fraction.sem ds = finP (exs G_fraction b_fraction (slots0 3 ds)) := sem_P ..
def G_is_fraction : Gm := ⟨[g_common, g_is_integer, g_is_sized], []⟩
def b_is_fraction : Ss := (.cons (.ifs (.or (.cons (.not (.call 2 (.cons (.var 0) (.cons (.lit (.int 2)) (.cons (.lit (.int 2)) .nil))))) (.cons (.not (.bi .all (.comp (.call 1 (.cons (.var 1) .nil)) (.nm 1) (.seq (.var 0)) (.lit (.bl true))))) (.cons (.cmp .lt (.ix (.var 0) (.lit (.int 1))) (.lit (.int 1))) .nil)))) (.cons (.ret (.lit (.bl false)))
    .nil) .nil)
    (.cons (.ret (.cmp .eq (.call 0 (.cons (.ix (.var 0) (.lit (.int 0))) (.cons (.ix (.var 0) (.lit (.int 1))) .nil))) (.lit (.int 1))))
    .nil))
def g_is_fraction : Sig := sigOf G_is_fraction "is_fraction" 1 false false 2 b_is_fraction
@[simp] theorem bor_is_fraction : g_is_fraction.bor = false := Eq.trans rfl rfl
@[simp] theorem n_is_fraction : g_is_fraction.n = 1 := Eq.trans rfl rfl
@[simp] theorem fn_is_fraction_0 : G_is_fraction.fns[0]? = some g_common := Eq.trans rfl rfl
@[simp] theorem fn_is_fraction_1 : G_is_fraction.fns[1]? = some g_is_integer := Eq.trans rfl rfl
@[simp] theorem fn_is_fraction_2 : G_is_fraction.fns[2]? = some g_is_sized := Eq.trans rfl rfl
theorem sem_is_fraction (ds : List D) : g_is_fraction.sem ds = finP (exs G_is_fraction b_is_fraction (slots0 2 ds)) := sem_P ..
def G_plus : Gm := ⟨[g_fraction], []⟩
def b_plus : Ss := (.cons (.ret (.call 0 (.cons (.bin .add (.bin .mul (.ix (.var 0) (.lit (.int 0))) (.ix (.var 1) (.lit (.int 1)))) (.bin .mul (.ix (.var 1) (.lit (.int 0))) (.ix (.var 0) (.lit (.int 1))))) (.cons (.bin .mul (.ix (.var 0) (.lit (.int 1))) (.ix (.var 1) (.lit (.int 1)))) .nil))))
    .nil)
def g_plus : Sig := sigOf G_plus "plus" 2 false false 2 b_plus
@[simp] theorem bor_plus : g_plus.bor = false := Eq.trans rfl rfl
@[simp] theorem n_plus : g_plus.n = 2 := Eq.trans rfl rfl
@[simp] theorem fn_plus_0 : G_plus.fns[0]? = some g_fraction := Eq.trans rfl rfl
theorem sem_plus (ds : List D) : g_plus.sem ds = finP (exs G_plus b_plus (slots0 2 ds)) := sem_P ..
def G_power : Gm := ⟨[], []⟩
def b_power : Ss := (.cons (.asg (.nm 2) (.lit (.int 1)))
    (.cons (.fors (.nm 3) (.rng (.var 1)) (.cons (.asg (.nm 2) (.bin .mul (.var 2) (.var 0)))
    .nil))
    (.cons (.ret (.var 2))
    .nil)))
def g_power : Sig := sigOf G_power "power" 2 false false 4 b_power
@[simp] theorem bor_power : g_power.bor = false := Eq.trans rfl rfl
@[simp] theorem n_power : g_power.n = 2 := Eq.trans rfl rfl
theorem sem_power (ds : List D) : g_power.sem ds = finP (exs G_power b_power (slots0 4 ds)) := sem_P ..
def G_minus : Gm := ⟨[g_fraction], []⟩
def b_minus : Ss := (.cons (.ret (.call 0 (.cons (.bin .sub (.bin .mul (.ix (.var 0) (.lit (.int 0))) (.ix (.var 1) (.lit (.int 1)))) (.bin .mul (.ix (.var 1) (.lit (.int 0))) (.ix (.var 0) (.lit (.int 1))))) (.cons (.bin .mul (.ix (.var 0) (.lit (.int 1))) (.ix (.var 1) (.lit (.int 1)))) .nil))))
    .nil)
def g_minus : Sig := sigOf G_minus "minus" 2 false false 2 b_minus
@[simp] theorem bor_minus : g_minus.bor = false := Eq.trans rfl rfl
@[simp] theorem n_minus : g_minus.n = 2 := Eq.trans rfl rfl
@[simp] theorem fn_minus_0 : G_minus.fns[0]? = some g_fraction := Eq.trans rfl rfl
theorem sem_minus (ds : List D) : g_minus.sem ds = finP (exs G_minus b_minus (slots0 2 ds)) := sem_P ..
def G_times : Gm := ⟨[g_fraction], []⟩
def b_times : Ss := (.cons (.ret (.call 0 (.cons (.bin .mul (.ix (.var 0) (.lit (.int 0))) (.ix (.var 1) (.lit (.int 0)))) (.cons (.bin .mul (.ix (.var 0) (.lit (.int 1))) (.ix (.var 1) (.lit (.int 1)))) .nil))))
    .nil)
def g_times : Sig := sigOf G_times "times" 2 false false 2 b_times
@[simp] theorem bor_times : g_times.bor = false := Eq.trans rfl rfl
@[simp] theorem n_times : g_times.n = 2 := Eq.trans rfl rfl
@[simp] theorem fn_times_0 : G_times.fns[0]? = some g_fraction := Eq.trans rfl rfl
theorem sem_times (ds : List D) : g_times.sem ds = finP (exs G_times b_times (slots0 2 ds)) := sem_P ..
def G_over : Gm := ⟨[g_fraction], []⟩
def b_over : Ss := (.cons (.ret (.call 0 (.cons (.bin .mul (.ix (.var 0) (.lit (.int 0))) (.ix (.var 1) (.lit (.int 1)))) (.cons (.bin .mul (.ix (.var 0) (.lit (.int 1))) (.ix (.var 1) (.lit (.int 0)))) .nil))))
    .nil)
def g_over : Sig := sigOf G_over "over" 2 false false 2 b_over
@[simp] theorem bor_over : g_over.bor = false := Eq.trans rfl rfl
@[simp] theorem n_over : g_over.n = 2 := Eq.trans rfl rfl
@[simp] theorem fn_over_0 : G_over.fns[0]? = some g_fraction := Eq.trans rfl rfl
theorem sem_over (ds : List D) : g_over.sem ds = finP (exs G_over b_over (slots0 2 ds)) := sem_P ..
def G_is_less : Gm := ⟨[], []⟩
def b_is_less : Ss := (.cons (.ret (.cmp .lt (.bin .mul (.ix (.var 0) (.lit (.int 0))) (.ix (.var 1) (.lit (.int 1)))) (.bin .mul (.ix (.var 1) (.lit (.int 0))) (.ix (.var 0) (.lit (.int 1))))))
    .nil)
def g_is_less : Sig := sigOf G_is_less "is_less" 2 false false 2 b_is_less
@[simp] theorem bor_is_less : g_is_less.bor = false := Eq.trans rfl rfl
@[simp] theorem n_is_less : g_is_less.n = 2 := Eq.trans rfl rfl
theorem sem_is_less (ds : List D) : g_is_less.sem ds = finP (exs G_is_less b_is_less (slots0 2 ds)) := sem_P ..
end Cbasics

namespace Ccrabs
open PySem PySem.Spec PyProof.Rows L2 DP Cbasics
def G_check_shells : Gm := ⟨[g_is_within], [("MOST_SHELLS", (.int 12))]⟩
def b_check_shells : Ss := (.cons (.ifs (.not (.call 0 (.cons (.var 0) (.cons (.lit (.int 1)) (.cons (.cst 0) .nil))))) (.cons .never
    .nil) .nil)
    .nil)
def g_check_shells : Sig := sigOf G_check_shells "check_shells" 1 false false 1 b_check_shells
@[simp] theorem bor_check_shells : g_check_shells.bor = false := Eq.trans rfl rfl
@[simp] theorem n_check_shells : g_check_shells.n = 1 := Eq.trans rfl rfl
@[simp] theorem fn_check_shells_0 : G_check_shells.fns[0]? = some g_is_within := Eq.trans rfl rfl
@[simp] theorem cst_check_shells_0 : G_check_shells.cst[0]? = some (("MOST_SHELLS" : Str), ((.int 12) : Lit)) := Eq.trans rfl rfl
theorem sem_check_shells (ds : List D) : g_check_shells.sem ds = finP (exs G_check_shells b_check_shells (slots0 1 ds)) := sem_P ..
def G_raw_are_wishes : Gm := ⟨[g_are_within, g_is_sized], []⟩
def b_raw_are_wishes : Ss := (.cons (.ret (.and (.cons (.call 1 (.cons (.var 1) (.cons (.lit (.int 0)) (.cons (.var 0) .nil)))) (.cons (.call 0 (.cons (.var 1) (.cons (.lit (.int 0)) (.cons (.bin .sub (.var 0) (.lit (.int 1))) .nil)))) .nil))))
    .nil)
def g_raw_are_wishes : Sig := sigOf G_raw_are_wishes "raw_are_wishes" 2 false false 2 b_raw_are_wishes
@[simp] theorem bor_raw_are_wishes : g_raw_are_wishes.bor = false := Eq.trans rfl rfl
@[simp] theorem n_raw_are_wishes : g_raw_are_wishes.n = 2 := Eq.trans rfl rfl
@[simp] theorem fn_raw_are_wishes_0 : G_raw_are_wishes.fns[0]? = some g_are_within := Eq.trans rfl rfl
@[simp] theorem fn_raw_are_wishes_1 : G_raw_are_wishes.fns[1]? = some g_is_sized := Eq.trans rfl rfl
theorem sem_raw_are_wishes (ds : List D) : g_raw_are_wishes.sem ds = finP (exs G_raw_are_wishes b_raw_are_wishes (slots0 2 ds)) := sem_P ..
def G_check_wishes : Gm := ⟨[g_raw_are_wishes, g_check_shells], []⟩
def b_check_wishes : Ss := (.cons (.exp (.call 1 (.cons (.var 0) .nil)))
    (.cons (.ifs (.not (.call 0 (.cons (.var 0) (.cons (.var 1) .nil)))) (.cons .never
    .nil) .nil)
    .nil))
def g_check_wishes : Sig := sigOf G_check_wishes "check_wishes" 2 false false 2 b_check_wishes
@[simp] theorem bor_check_wishes : g_check_wishes.bor = false := Eq.trans rfl rfl
@[simp] theorem n_check_wishes : g_check_wishes.n = 2 := Eq.trans rfl rfl
@[simp] theorem fn_check_wishes_0 : G_check_wishes.fns[0]? = some g_raw_are_wishes := Eq.trans rfl rfl
@[simp] theorem fn_check_wishes_1 : G_check_wishes.fns[1]? = some g_check_shells := Eq.trans rfl rfl
theorem sem_check_wishes (ds : List D) : g_check_wishes.sem ds = finP (exs G_check_wishes b_check_wishes (slots0 2 ds)) := sem_P ..
def G_raw_taken : Gm := ⟨[], []⟩
def b_raw_taken : Ss := (.cons (.new 2 (.lst .nil))
    (.cons (.fors (.nm 3) (.seq (.var 1)) (.cons (.asg (.nm 4) (.comp (.var 5) (.nm 5) (.rng2 (.var 3) (.var 0)) (.cmp .nin (.var 5) (.var 2))))
    (.cons (.app 2 (.ife (.cmp .gt (.bi .len (.var 4)) (.lit (.int 0))) (.ix (.var 4) (.lit (.int 0))) (.lit .non)))
    .nil)))
    (.cons (.ret (.bi .tuple (.var 2)))
    .nil)))
def g_raw_taken : Sig := sigOf G_raw_taken "raw_taken" 2 false false 6 b_raw_taken
@[simp] theorem bor_raw_taken : g_raw_taken.bor = false := Eq.trans rfl rfl
@[simp] theorem n_raw_taken : g_raw_taken.n = 2 := Eq.trans rfl rfl
theorem sem_raw_taken (ds : List D) : g_raw_taken.sem ds = finP (exs G_raw_taken b_raw_taken (slots0 6 ds)) := sem_P ..
def G_taken : Gm := ⟨[g_raw_taken, g_check_wishes], []⟩
def b_taken : Ss := (.cons (.exp (.call 1 (.cons (.var 0) (.cons (.var 1) .nil))))
    (.cons (.ret (.call 0 (.cons (.var 0) (.cons (.var 1) .nil))))
    .nil))
def g_taken : Sig := sigOf G_taken "taken" 2 false false 2 b_taken
@[simp] theorem bor_taken : g_taken.bor = false := Eq.trans rfl rfl
@[simp] theorem n_taken : g_taken.n = 2 := Eq.trans rfl rfl
@[simp] theorem fn_taken_0 : G_taken.fns[0]? = some g_raw_taken := Eq.trans rfl rfl
@[simp] theorem fn_taken_1 : G_taken.fns[1]? = some g_check_wishes := Eq.trans rfl rfl
theorem sem_taken (ds : List D) : g_taken.sem ds = finP (exs G_taken b_taken (slots0 2 ds)) := sem_P ..
def G_is_over : Gm := ⟨[], []⟩
def b_is_over : Ss := (.cons (.ret (.cmp .gt (.bi .len (.comp (.var 3) (.nm 3) (.seq (.var 1)) (.cmp .ge (.var 3) (.var 2)))) (.bin .sub (.var 0) (.var 2))))
    .nil)
def g_is_over : Sig := sigOf G_is_over "is_over" 3 false false 4 b_is_over
@[simp] theorem bor_is_over : g_is_over.bor = false := Eq.trans rfl rfl
@[simp] theorem n_is_over : g_is_over.n = 3 := Eq.trans rfl rfl
theorem sem_is_over (ds : List D) : g_is_over.sem ds = finP (exs G_is_over b_is_over (slots0 4 ds)) := sem_P ..
def G_housed_told : Gm := ⟨[g_is_over, g_taken], [("FROM_SHELL", (.str "from")), ("HOUSED", (.str "housed"))]⟩
def b_housed_told : Ss := (.cons (.asg (.nm 2) (.call 1 (.cons (.var 0) (.cons (.var 1) .nil))))
    (.cons (.ifs (.cmp .nin (.lit .non) (.var 2)) (.cons (.ret (.tup (.cons (.cst 1) (.cons (.var 2) .nil))))
    .nil) .nil)
    (.cons (.ret (.tup (.cons (.cst 0) (.cons (.ix (.comp (.var 3) (.nm 3) (.rng (.var 0)) (.call 0 (.cons (.var 0) (.cons (.var 1) (.cons (.var 3) .nil))))) (.neg (.lit (.int 1)))) .nil))))
    .nil)))
def g_housed_told : Sig := sigOf G_housed_told "housed_told" 2 false false 4 b_housed_told
@[simp] theorem bor_housed_told : g_housed_told.bor = false := Eq.trans rfl rfl
@[simp] theorem n_housed_told : g_housed_told.n = 2 := Eq.trans rfl rfl
@[simp] theorem fn_housed_told_0 : G_housed_told.fns[0]? = some g_is_over := Eq.trans rfl rfl
@[simp] theorem fn_housed_told_1 : G_housed_told.fns[1]? = some g_taken := Eq.trans rfl rfl
@[simp] theorem cst_housed_told_0 : G_housed_told.cst[0]? = some (("FROM_SHELL" : Str), ((.str "from") : Lit)) := Eq.trans rfl rfl
@[simp] theorem cst_housed_told_1 : G_housed_told.cst[1]? = some (("HOUSED" : Str), ((.str "housed") : Lit)) := Eq.trans rfl rfl
theorem sem_housed_told (ds : List D) : g_housed_told.sem ds = finP (exs G_housed_told b_housed_told (slots0 4 ds)) := sem_P ..
def G_is_housed_told : Gm := ⟨[g_is_over, g_is_within, g_are_within, g_is_sized, g_taken], [("FROM_SHELL", (.str "from")), ("HOUSED", (.str "housed"))]⟩
def b_is_housed_told : Ss := (.cons (.asg (.nm 3) (.call 4 (.cons (.var 0) (.cons (.var 1) .nil))))
    (.cons (.ifs (.or (.cons (.not (.call 3 (.cons (.var 2) (.cons (.lit (.int 2)) (.cons (.lit (.int 2)) .nil))))) (.cons (.not (.isi (.ix (.var 2) (.lit (.int 0))) .str)) .nil))) (.cons (.ret (.lit (.bl false)))
    .nil) .nil)
    (.cons (.ifs (.cmp .eq (.ix (.var 2) (.lit (.int 0))) (.cst 1)) (.cons (.ret (.and (.cons (.cmp .nin (.lit .non) (.var 3)) (.cons (.call 2 (.cons (.ix (.var 2) (.lit (.int 1))) (.cons (.lit (.int 0)) (.cons (.bin .sub (.var 0) (.lit (.int 1))) .nil)))) (.cons (.cmp .eq (.ix (.var 2) (.lit (.int 1))) (.var 3)) .nil)))))
    .nil) .nil)
    (.cons (.ret (.and (.cons (.cmp .eq (.ix (.var 2) (.lit (.int 0))) (.cst 0)) (.cons (.call 1 (.cons (.ix (.var 2) (.lit (.int 1))) (.cons (.lit (.int 0)) (.cons (.bin .sub (.var 0) (.lit (.int 1))) .nil)))) (.cons (.call 0 (.cons (.var 0) (.cons (.var 1) (.cons (.ix (.var 2) (.lit (.int 1))) .nil)))) .nil)))))
    .nil))))
def g_is_housed_told : Sig := sigOf G_is_housed_told "is_housed_told" 3 false false 4 b_is_housed_told
@[simp] theorem bor_is_housed_told : g_is_housed_told.bor = false := Eq.trans rfl rfl
@[simp] theorem n_is_housed_told : g_is_housed_told.n = 3 := Eq.trans rfl rfl
@[simp] theorem fn_is_housed_told_0 : G_is_housed_told.fns[0]? = some g_is_over := Eq.trans rfl rfl
@[simp] theorem fn_is_housed_told_1 : G_is_housed_told.fns[1]? = some g_is_within := Eq.trans rfl rfl
@[simp] theorem fn_is_housed_told_2 : G_is_housed_told.fns[2]? = some g_are_within := Eq.trans rfl rfl
@[simp] theorem fn_is_housed_told_3 : G_is_housed_told.fns[3]? = some g_is_sized := Eq.trans rfl rfl
@[simp] theorem fn_is_housed_told_4 : G_is_housed_told.fns[4]? = some g_taken := Eq.trans rfl rfl
@[simp] theorem cst_is_housed_told_0 : G_is_housed_told.cst[0]? = some (("FROM_SHELL" : Str), ((.str "from") : Lit)) := Eq.trans rfl rfl
@[simp] theorem cst_is_housed_told_1 : G_is_housed_told.cst[1]? = some (("HOUSED" : Str), ((.str "housed") : Lit)) := Eq.trans rfl rfl
theorem sem_is_housed_told (ds : List D) : g_is_housed_told.sem ds = finP (exs G_is_housed_told b_is_housed_told (slots0 4 ds)) := sem_P ..
def G_check_crabs : Gm := ⟨[g_is_within, g_check_shells], []⟩
def b_check_crabs : Ss := (.cons (.exp (.call 1 (.cons (.var 0) .nil)))
    (.cons (.ifs (.not (.call 0 (.cons (.var 1) (.cons (.lit (.int 0)) (.cons (.var 0) .nil))))) (.cons .never
    .nil) .nil)
    .nil))
def g_check_crabs : Sig := sigOf G_check_crabs "check_crabs" 2 false false 2 b_check_crabs
@[simp] theorem bor_check_crabs : g_check_crabs.bor = false := Eq.trans rfl rfl
@[simp] theorem n_check_crabs : g_check_crabs.n = 2 := Eq.trans rfl rfl
@[simp] theorem fn_check_crabs_0 : G_check_crabs.fns[0]? = some g_is_within := Eq.trans rfl rfl
@[simp] theorem fn_check_crabs_1 : G_check_crabs.fns[1]? = some g_check_shells := Eq.trans rfl rfl
theorem sem_check_crabs (ds : List D) : g_check_crabs.sem ds = finP (exs G_check_crabs b_check_crabs (slots0 2 ds)) := sem_P ..
def G_ways_many : Gm := ⟨[g_check_crabs], []⟩
def b_ways_many : Ss := (.cons (.exp (.call 0 (.cons (.var 0) (.cons (.var 1) .nil))))
    (.cons (.asg (.nm 2) (.ife (.cmp .gt (.var 1) (.lit (.int 0))) (.bin .sub (.bin .add (.var 0) (.lit (.int 1))) (.var 1)) (.lit (.int 1))))
    (.cons (.fors (.nm 3) (.rng (.bin .sub (.var 1) (.lit (.int 1)))) (.cons (.asg (.nm 2) (.bin .mul (.var 2) (.bin .add (.var 0) (.lit (.int 1)))))
    .nil))
    (.cons (.ret (.var 2))
    .nil))))
def g_ways_many : Sig := sigOf G_ways_many "ways_many" 2 false false 4 b_ways_many
@[simp] theorem bor_ways_many : g_ways_many.bor = false := Eq.trans rfl rfl
@[simp] theorem n_ways_many : g_ways_many.n = 2 := Eq.trans rfl rfl
@[simp] theorem fn_ways_many_0 : G_ways_many.fns[0]? = some g_check_crabs := Eq.trans rfl rfl
theorem sem_ways_many (ds : List D) : g_ways_many.sem ds = finP (exs G_ways_many b_ways_many (slots0 4 ds)) := sem_P ..
def G_ways_to_house : Gm := ⟨[g_raw_taken, g_check_crabs], [("MOST_LISTED_SHELLS", (.int 4))]⟩
def b_ways_to_house : Ss := (.cons (.exp (.call 1 (.cons (.var 0) (.cons (.var 1) .nil))))
    (.cons (.ifs (.cmp .gt (.var 0) (.cst 0)) (.cons .never
    .nil) .nil)
    (.cons (.asg (.nm 2) (.lst (.cons (.tup .nil) .nil)))
    (.cons (.fors (.nm 3) (.rng (.var 1)) (.cons (.asg (.nm 2) (.comp2 (.bin .add (.var 4) (.tup (.cons (.var 5) .nil))) (.nm 4) (.seq (.var 2)) (.lit (.bl true)) (.nm 5) (.rng (.var 0)) (.lit (.bl true))))
    .nil))
    (.cons (.ret (.comp (.var 4) (.nm 4) (.seq (.var 2)) (.cmp .nin (.lit .non) (.call 0 (.cons (.var 0) (.cons (.var 4) .nil))))))
    .nil)))))
def g_ways_to_house : Sig := sigOf G_ways_to_house "ways_to_house" 2 false false 6 b_ways_to_house
@[simp] theorem bor_ways_to_house : g_ways_to_house.bor = false := Eq.trans rfl rfl
@[simp] theorem n_ways_to_house : g_ways_to_house.n = 2 := Eq.trans rfl rfl
@[simp] theorem fn_ways_to_house_0 : G_ways_to_house.fns[0]? = some g_raw_taken := Eq.trans rfl rfl
@[simp] theorem fn_ways_to_house_1 : G_ways_to_house.fns[1]? = some g_check_crabs := Eq.trans rfl rfl
@[simp] theorem cst_ways_to_house_0 : G_ways_to_house.cst[0]? = some (("MOST_LISTED_SHELLS" : Str), ((.int 4) : Lit)) := Eq.trans rfl rfl
theorem sem_ways_to_house (ds : List D) : g_ways_to_house.sem ds = finP (exs G_ways_to_house b_ways_to_house (slots0 6 ds)) := sem_P ..
def G_are_wishes : Gm := ⟨[g_raw_are_wishes, g_check_shells], []⟩
def b_are_wishes : Ss := (.cons (.exp (.call 1 (.cons (.var 0) .nil)))
    (.cons (.ret (.call 0 (.cons (.var 0) (.cons (.var 1) .nil))))
    .nil))
def g_are_wishes : Sig := sigOf G_are_wishes "are_wishes" 2 false false 2 b_are_wishes
@[simp] theorem bor_are_wishes : g_are_wishes.bor = false := Eq.trans rfl rfl
@[simp] theorem n_are_wishes : g_are_wishes.n = 2 := Eq.trans rfl rfl
@[simp] theorem fn_are_wishes_0 : G_are_wishes.fns[0]? = some g_raw_are_wishes := Eq.trans rfl rfl
@[simp] theorem fn_are_wishes_1 : G_are_wishes.fns[1]? = some g_check_shells := Eq.trans rfl rfl
theorem sem_are_wishes (ds : List D) : g_are_wishes.sem ds = finP (exs G_are_wishes b_are_wishes (slots0 2 ds)) := sem_P ..
def G_left_free : Gm := ⟨[g_taken], []⟩
def b_left_free : Ss := (.cons (.asg (.nm 2) (.call 0 (.cons (.var 0) (.cons (.var 1) .nil))))
    (.cons (.ret (.bi .tuple (.comp (.var 3) (.nm 3) (.rng (.var 0)) (.cmp .nin (.var 3) (.var 2)))))
    .nil))
def g_left_free : Sig := sigOf G_left_free "left_free" 2 false false 4 b_left_free
@[simp] theorem bor_left_free : g_left_free.bor = false := Eq.trans rfl rfl
@[simp] theorem n_left_free : g_left_free.n = 2 := Eq.trans rfl rfl
@[simp] theorem fn_left_free_0 : G_left_free.fns[0]? = some g_taken := Eq.trans rfl rfl
theorem sem_left_free (ds : List D) : g_left_free.sem ds = finP (exs G_left_free b_left_free (slots0 4 ds)) := sem_P ..
def G_first_bad : Gm := ⟨[g_is_over, g_check_wishes], []⟩
def b_first_bad : Ss := (.cons (.exp (.call 1 (.cons (.var 0) (.cons (.var 1) .nil))))
    (.cons (.fors (.nm 2) (.rng (.bi .len (.var 1))) (.cons (.ifs (.bi .any (.comp (.call 0 (.cons (.var 0) (.cons (.slc (.var 1) .nop (.bin .add (.var 2) (.lit (.int 1)))) (.cons (.var 3) .nil)))) (.nm 3) (.rng (.var 0)) (.lit (.bl true)))) (.cons (.ret (.var 2))
    .nil) .nil)
    .nil))
    (.cons (.ret (.lit .non))
    .nil)))
def g_first_bad : Sig := sigOf G_first_bad "first_bad" 2 false false 4 b_first_bad
@[simp] theorem bor_first_bad : g_first_bad.bor = false := Eq.trans rfl rfl
@[simp] theorem n_first_bad : g_first_bad.n = 2 := Eq.trans rfl rfl
@[simp] theorem fn_first_bad_0 : G_first_bad.fns[0]? = some g_is_over := Eq.trans rfl rfl
@[simp] theorem fn_first_bad_1 : G_first_bad.fns[1]? = some g_check_wishes := Eq.trans rfl rfl
theorem sem_first_bad (ds : List D) : g_first_bad.sem ds = finP (exs G_first_bad b_first_bad (slots0 4 ds)) := sem_P ..
def G_check_pool : Gm := ⟨[g_are_within, g_is_sized, g_check_shells], []⟩
def b_check_pool : Ss := (.cons (.exp (.call 2 (.cons (.var 0) .nil)))
    (.cons (.ifs (.or (.cons (.not (.call 1 (.cons (.var 1) (.cons (.var 0) (.cons (.var 0) .nil))))) (.cons (.not (.call 0 (.cons (.var 1) (.cons (.lit (.int 0)) (.cons (.var 0) .nil))))) .nil))) (.cons .never
    .nil) .nil)
    .nil))
def g_check_pool : Sig := sigOf G_check_pool "check_pool" 2 false false 2 b_check_pool
@[simp] theorem bor_check_pool : g_check_pool.bor = false := Eq.trans rfl rfl
@[simp] theorem n_check_pool : g_check_pool.n = 2 := Eq.trans rfl rfl
@[simp] theorem fn_check_pool_0 : G_check_pool.fns[0]? = some g_are_within := Eq.trans rfl rfl
@[simp] theorem fn_check_pool_1 : G_check_pool.fns[1]? = some g_is_sized := Eq.trans rfl rfl
@[simp] theorem fn_check_pool_2 : G_check_pool.fns[2]? = some g_check_shells := Eq.trans rfl rfl
theorem sem_check_pool (ds : List D) : g_check_pool.sem ds = finP (exs G_check_pool b_check_pool (slots0 2 ds)) := sem_P ..
def G_pool_turns : Gm := ⟨[g_raw_taken], []⟩
def b_pool_turns : Ss := (.cons (.new 2 (.lst .nil))
    (.cons (.fors (.nm 3) (.rng (.bin .add (.var 0) (.lit (.int 1)))) (.cons (.asg (.nm 4) (.bi .tuple (.comp (.bin .mod (.bin .add (.var 5) (.var 3)) (.bin .add (.var 0) (.lit (.int 1)))) (.nm 5) (.seq (.var 1)) (.lit (.bl true)))))
    (.cons (.ifs (.and (.cons (.cmp .nin (.var 0) (.var 4)) (.cons (.cmp .nin (.lit .non) (.call 0 (.cons (.var 0) (.cons (.var 4) .nil)))) .nil))) (.cons (.app 2 (.var 3))
    .nil) .nil)
    .nil)))
    (.cons (.ret (.frz 2))
    .nil)))
def g_pool_turns : Sig := sigOf G_pool_turns "pool_turns" 2 false false 6 b_pool_turns
@[simp] theorem bor_pool_turns : g_pool_turns.bor = false := Eq.trans rfl rfl
@[simp] theorem n_pool_turns : g_pool_turns.n = 2 := Eq.trans rfl rfl
@[simp] theorem fn_pool_turns_0 : G_pool_turns.fns[0]? = some g_raw_taken := Eq.trans rfl rfl
theorem sem_pool_turns (ds : List D) : g_pool_turns.sem ds = finP (exs G_pool_turns b_pool_turns (slots0 6 ds)) := sem_P ..
def G_turn_told : Gm := ⟨[g_pool_turns, g_check_pool], []⟩
def b_turn_told : Ss := (.cons (.exp (.call 1 (.cons (.var 0) (.cons (.var 1) .nil))))
    (.cons (.ret (.ix (.call 0 (.cons (.var 0) (.cons (.var 1) .nil))) (.lit (.int 0))))
    .nil))
def g_turn_told : Sig := sigOf G_turn_told "turn_told" 2 false false 2 b_turn_told
@[simp] theorem bor_turn_told : g_turn_told.bor = false := Eq.trans rfl rfl
@[simp] theorem n_turn_told : g_turn_told.n = 2 := Eq.trans rfl rfl
@[simp] theorem fn_turn_told_0 : G_turn_told.fns[0]? = some g_pool_turns := Eq.trans rfl rfl
@[simp] theorem fn_turn_told_1 : G_turn_told.fns[1]? = some g_check_pool := Eq.trans rfl rfl
theorem sem_turn_told (ds : List D) : g_turn_told.sem ds = finP (exs G_turn_told b_turn_told (slots0 2 ds)) := sem_P ..
def G_turns_many : Gm := ⟨[g_pool_turns, g_check_pool], []⟩
def b_turns_many : Ss := (.cons (.exp (.call 1 (.cons (.var 0) (.cons (.var 1) .nil))))
    (.cons (.ret (.bi .len (.call 0 (.cons (.var 0) (.cons (.var 1) .nil)))))
    .nil))
def g_turns_many : Sig := sigOf G_turns_many "turns_many" 2 false false 2 b_turns_many
@[simp] theorem bor_turns_many : g_turns_many.bor = false := Eq.trans rfl rfl
@[simp] theorem n_turns_many : g_turns_many.n = 2 := Eq.trans rfl rfl
@[simp] theorem fn_turns_many_0 : G_turns_many.fns[0]? = some g_pool_turns := Eq.trans rfl rfl
@[simp] theorem fn_turns_many_1 : G_turns_many.fns[1]? = some g_check_pool := Eq.trans rfl rfl
theorem sem_turns_many (ds : List D) : g_turns_many.sem ds = finP (exs G_turns_many b_turns_many (slots0 2 ds)) := sem_P ..
end Ccrabs

namespace L75
open PySem PySem.Spec PyProof.Rows L2 DP 
def G__law_hand : Gm := ⟨[], []⟩
def b__law_hand : Ss := (.cons (.asg (.nm 1) (.comp (.bi .abs (.bi .int (.var 2))) (.nm 2) (.seq (.slc (.var 0) .nop (.lit (.int 63)))) (.lit (.bl true))))
    (.cons (.retL (.lst (.cons (.var 1) (.cons (.lit (.int 0)) (.cons (.lit (.int 0)) (.cons (.bin .add (.lit (.int 83)) (.bin .mul (.lit (.int 5)) (.bi .len (.var 1)))) (.cons (.lit (.int 0)) .nil)))))))
    .nil))
def g__law_hand : Sig := sigOf G__law_hand "_law_hand" 1 false true 3 b__law_hand
@[simp] theorem bor__law_hand : g__law_hand.bor = false := Eq.trans rfl rfl
@[simp] theorem n__law_hand : g__law_hand.n = 1 := Eq.trans rfl rfl
theorem sem__law_hand (ds : List D) : g__law_hand.sem ds = finN (exs G__law_hand b__law_hand (slots0 3 ds)) := sem_N ..
def G__law_draw : Gm := ⟨[], []⟩
def b__law_draw : Ss := (.cons (.ifs (.and (.cons (.cmp .eq (.ix (.var 0) (.lit (.int 2))) (.lit (.int 0))) (.cons (.cmp .lt (.ix (.var 0) (.lit (.int 1))) (.bi .len (.ix (.var 0) (.lit (.int 0))))) .nil))) (.cons (.asg (.nm 3) (.ix (.ix (.var 0) (.lit (.int 0))) (.ix (.var 0) (.lit (.int 1)))))
    (.cons (.setI 0 (.lit (.int 1)) (.bin .add (.ix (.var 0) (.lit (.int 1))) (.lit (.int 1))))
    (.cons (.setI 0 (.lit (.int 3)) (.bin .mod (.bi .int (.bin .add (.bin .add (.bin .mul (.ix (.var 0) (.lit (.int 3))) (.lit (.int 48271))) (.bin .mul (.var 3) (.lit (.int 5)))) (.lit (.int 29)))) (.lit (.int 2147483587))))
    (.cons (.setI 0 (.lit (.int 2)) (.ife (.cmp .ge (.var 3) (.bin .pow (.lit (.int 10)) (.lit (.int 18)))) (.var 3) (.lit (.int 0))))
    .nil)))) .nil)
    (.cons (.ifs (.cmp .gt (.ix (.var 0) (.lit (.int 2))) (.lit (.int 0))) (.cons (.asg (.nm 4) (.bin .mod (.bi .int (.ix (.var 0) (.lit (.int 2)))) (.var 1)))
    (.cons (.setI 0 (.lit (.int 2)) (.bin .fdiv (.ix (.var 0) (.lit (.int 2))) (.var 1)))
    (.cons (.ret (.var 4))
    .nil))) .nil)
    (.cons (.setI 0 (.lit (.int 4)) (.bin .add (.ix (.var 0) (.lit (.int 4))) (.lit (.int 1))))
    (.cons (.asg (.nm 2) (.bin .mod (.bi .int (.bin .mul (.bi .int (.bin .add (.ix (.var 0) (.lit (.int 3))) (.bin .mul (.lit (.int 7877)) (.ix (.var 0) (.lit (.int 4)))))) (.lit (.int 69621)))) (.lit (.int 2147483647))))
    (.cons (.asg (.nm 2) (.bin .mod (.bi .int (.bin .mul (.var 2) (.bin .add (.bin .fdiv (.var 2) (.lit (.int 1103))) (.lit (.int 40692))))) (.lit (.int 2147483399))))
    (.cons (.asg (.nm 2) (.bin .mod (.bi .int (.bin .mul (.var 2) (.bin .add (.bin .fdiv (.var 2) (.lit (.int 2311))) (.lit (.int 48271))))) (.lit (.int 2147483629))))
    (.cons (.ret (.bin .mod (.bi .int (.bin .fdiv (.var 2) (.lit (.int 16)))) (.var 1)))
    .nil)))))))
def g__law_draw : Sig := sigOf G__law_draw "_law_draw" 2 true false 5 b__law_draw
@[simp] theorem bor__law_draw : g__law_draw.bor = true := Eq.trans rfl rfl
@[simp] theorem n__law_draw : g__law_draw.n = 2 := Eq.trans rfl rfl
theorem sem__law_draw (es ds : List D) : g__law_draw.sem (.list es :: ds) = finB (exs G__law_draw b__law_draw (slotsB 5 es ds)) := sem_B ..
def G__law_some : Gm := ⟨[g__law_draw], []⟩
def b__law_some : Ss := (.cons (.ret (.ix (.var 1) (.callB 0 0 (.cons (.bi .len (.var 1)) .nil))))
    .nil)
def g__law_some : Sig := sigOf G__law_some "_law_some" 2 true false 2 b__law_some
@[simp] theorem bor__law_some : g__law_some.bor = true := Eq.trans rfl rfl
@[simp] theorem n__law_some : g__law_some.n = 2 := Eq.trans rfl rfl
@[simp] theorem fn__law_some_0 : G__law_some.fns[0]? = some g__law_draw := Eq.trans rfl rfl
theorem sem__law_some (es ds : List D) : g__law_some.sem (.list es :: ds) = finB (exs G__law_some b__law_some (slotsB 2 es ds)) := sem_B ..
def G__law_deep : Gm := ⟨[g__law_draw, g__law_some], []⟩
def b__law_deep : Ss := (.cons (.asg (.nm 1) (.callB 1 0 (.cons (.lst (.cons (.lit .non) (.cons (.lit (.int 0)) (.cons (.lit (.str "a")) .nil)))) .nil)))
    (.cons (.fors (.nm 2) (.rng (.bin .add (.lit (.int 18)) (.callB 0 0 (.cons (.lit (.int 18)) .nil)))) (.cons (.asg (.nm 1) (.callB 1 0 (.cons (.lst (.cons (.tup (.cons (.var 1) .nil)) (.cons (.lst (.cons (.var 1) .nil)) (.cons (.dic1 (.lit (.int 0)) (.var 1)) .nil)))) .nil)))
    .nil))
    (.cons (.ret (.var 1))
    .nil)))
def g__law_deep : Sig := sigOf G__law_deep "_law_deep" 1 true false 3 b__law_deep
@[simp] theorem bor__law_deep : g__law_deep.bor = true := Eq.trans rfl rfl
@[simp] theorem n__law_deep : g__law_deep.n = 1 := Eq.trans rfl rfl
@[simp] theorem fn__law_deep_0 : G__law_deep.fns[0]? = some g__law_draw := Eq.trans rfl rfl
@[simp] theorem fn__law_deep_1 : G__law_deep.fns[1]? = some g__law_some := Eq.trans rfl rfl
theorem sem__law_deep (es ds : List D) : g__law_deep.sem (.list es :: ds) = finB (exs G__law_deep b__law_deep (slotsB 3 es ds)) := sem_B ..
end L75

namespace K75
open PySem PySem.Spec PyProof.Rows L2 DP Cbasics Ccrabs L75
/-! ### the text, and its small trees -/
def topS (i : Nat) : Stmt := PySem.Challenge.pw_beastriddles_k75_whole_crabs_housed_or_s.main.body.getD i (.Pass ⟨0, 0, 0, 0⟩)
abbrev s_is_integer : Stmt := topS 1
abbrev N_is_integer : List Str := ["thing"]
abbrev s_is_within : Stmt := topS 2
abbrev N_is_within : List Str := ["thing", "least", "most"]
abbrev s_is_sized : Stmt := topS 3
abbrev N_is_sized : List Str := ["thing", "least", "most"]
abbrev s_are_within : Stmt := topS 4
abbrev N_are_within : List Str := ["thing", "least", "most", "one"]
abbrev s_check_shells : Stmt := topS 16
abbrev N_check_shells : List Str := ["shells"]
abbrev s_raw_are_wishes : Stmt := topS 17
abbrev N_raw_are_wishes : List Str := ["shells", "thing"]
abbrev s_check_wishes : Stmt := topS 18
abbrev N_check_wishes : List Str := ["shells", "wishes"]
abbrev s_raw_taken : Stmt := topS 19
abbrev N_raw_taken : List Str := ["shells", "wishes", "found", "wish", "free", "shell"]
abbrev s_taken : Stmt := topS 20
abbrev N_taken : List Str := ["shells", "wishes"]
abbrev s_is_over : Stmt := topS 21
abbrev N_is_over : List Str := ["shells", "wishes", "shell", "wish"]
abbrev s_housed_told : Stmt := topS 22
abbrev N_housed_told : List Str := ["shells", "wishes", "some", "shell"]
abbrev s_is_housed_told : Stmt := topS 23
abbrev N_is_housed_told : List Str := ["shells", "wishes", "thing", "some"]
abbrev s_check_crabs : Stmt := topS 24
abbrev N_check_crabs : List Str := ["shells", "crabs"]
abbrev s_ways_many : Stmt := topS 25
abbrev N_ways_many : List Str := ["shells", "crabs", "found", "turn"]
abbrev s_ways_to_house : Stmt := topS 26
abbrev N_ways_to_house : List Str := ["shells", "crabs", "rows", "turn", "row", "wish"]
abbrev s__law_hand : Stmt := topS 28
abbrev N__law_hand : List Str := ["script", "cells", "cell"]
abbrev s__law_draw : Stmt := topS 29
abbrev N__law_draw : List Str := ["hand", "many", "number", "cell", "digit"]
abbrev s__law_some : Stmt := topS 30
abbrev N__law_some : List Str := ["hand", "things"]
abbrev s__law_deep : Stmt := topS 31
abbrev N__law_deep : List Str := ["hand", "thing", "turn"]
abbrev s__law_wishes : Stmt := topS 32
abbrev N__law_wishes : List Str := ["hand", "shells", "many", "low", "crab"]
def G__law_wishes : Gm := ⟨[g__law_draw], []⟩
def b__law_wishes : Ss := (.cons (.asg (.nm 2) (.ife (.cmp .eq (.callB 0 0 (.cons (.lit (.int 2)) .nil)) (.lit (.int 0))) (.callB 0 0 (.cons (.bin .add (.var 1) (.lit (.int 1))) .nil)) (.var 1)))
    (.cons (.asg (.nm 3) (.bin .add (.lit (.int 1)) (.callB 0 0 (.cons (.var 1) .nil))))
    (.cons (.ret (.bi .tuple (.comp (.callB 0 0 (.cons (.ife (.cmp .gt (.callB 0 0 (.cons (.lit (.int 3)) .nil)) (.lit (.int 0))) (.var 3) (.var 1)) .nil)) (.nm 4) (.rng (.var 2)) (.lit (.bl true)))))
    .nil)))
def g__law_wishes : Sig := sigOf G__law_wishes "_law_wishes" 2 true false 5 b__law_wishes
@[simp] theorem bor__law_wishes : g__law_wishes.bor = true := Eq.trans rfl rfl
@[simp] theorem n__law_wishes : g__law_wishes.n = 2 := Eq.trans rfl rfl
@[simp] theorem fn__law_wishes_0 : G__law_wishes.fns[0]? = some g__law_draw := Eq.trans rfl rfl
theorem sem__law_wishes (es ds : List D) : g__law_wishes.sem (.list es :: ds) = finB (exs G__law_wishes b__law_wishes (slotsB 5 es ds)) := sem_B ..
abbrev s__law_taken : Stmt := topS 33
abbrev N__law_taken : List Str := ["shells", "wishes", "found", "wish", "free", "shell"]
def G__law_taken : Gm := ⟨[], []⟩
def b__law_taken : Ss := (.cons (.new 2 (.lst .nil))
    (.cons (.fors (.nm 3) (.seq (.var 1)) (.cons (.asg (.nm 4) (.comp (.var 5) (.nm 5) (.rng2 (.var 3) (.var 0)) (.cmp .nin (.var 5) (.var 2))))
    (.cons (.app 2 (.ife (.cmp .ne (.var 4) (.lst .nil)) (.ix (.var 4) (.lit (.int 0))) (.lit .non)))
    .nil)))
    (.cons (.ret (.bi .tuple (.var 2)))
    .nil)))
def g__law_taken : Sig := sigOf G__law_taken "_law_taken" 2 false false 6 b__law_taken
@[simp] theorem bor__law_taken : g__law_taken.bor = false := Eq.trans rfl rfl
@[simp] theorem n__law_taken : g__law_taken.n = 2 := Eq.trans rfl rfl
theorem sem__law_taken (ds : List D) : g__law_taken.sem ds = finP (exs G__law_taken b__law_taken (slots0 6 ds)) := sem_P ..
abbrev s__law_froms : Stmt := topS 34
abbrev N__law_froms : List Str := ["shells", "wishes", "shell", "wish"]
def G__law_froms : Gm := ⟨[], []⟩
def b__law_froms : Ss := (.cons (.ret (.comp (.var 2) (.nm 2) (.rng (.var 0)) (.cmp .gt (.bi .len (.comp (.lit (.int 1)) (.nm 3) (.seq (.var 1)) (.cmp .ge (.var 3) (.var 2)))) (.bin .sub (.var 0) (.var 2)))))
    .nil)
def g__law_froms : Sig := sigOf G__law_froms "_law_froms" 2 false false 4 b__law_froms
@[simp] theorem bor__law_froms : g__law_froms.bor = false := Eq.trans rfl rfl
@[simp] theorem n__law_froms : g__law_froms.n = 2 := Eq.trans rfl rfl
theorem sem__law_froms (ds : List D) : g__law_froms.sem ds = finP (exs G__law_froms b__law_froms (slots0 4 ds)) := sem_P ..
abbrev s__law_good : Stmt := topS 35
abbrev N__law_good : List Str := ["shells", "wishes", "due", "shell"]
def G__law_good : Gm := ⟨[g__law_froms, g__law_taken], []⟩
def b__law_good : Ss := (.cons (.asg (.nm 2) (.call 1 (.cons (.var 0) (.cons (.var 1) .nil))))
    (.cons (.ifs (.cmp .nin (.lit .non) (.var 2)) (.cons (.ret (.lst (.cons (.tup (.cons (.lit (.str "housed")) (.cons (.var 2) .nil))) .nil)))
    .nil) .nil)
    (.cons (.ret (.comp (.tup (.cons (.lit (.str "from")) (.cons (.var 3) .nil))) (.nm 3) (.seq (.call 0 (.cons (.var 0) (.cons (.var 1) .nil)))) (.lit (.bl true))))
    .nil)))
def g__law_good : Sig := sigOf G__law_good "_law_good" 2 false false 4 b__law_good
@[simp] theorem bor__law_good : g__law_good.bor = false := Eq.trans rfl rfl
@[simp] theorem n__law_good : g__law_good.n = 2 := Eq.trans rfl rfl
@[simp] theorem fn__law_good_0 : G__law_good.fns[0]? = some g__law_froms := Eq.trans rfl rfl
@[simp] theorem fn__law_good_1 : G__law_good.fns[1]? = some g__law_taken := Eq.trans rfl rfl
theorem sem__law_good (ds : List D) : g__law_good.sem ds = finP (exs G__law_good b__law_good (slots0 4 ds)) := sem_P ..
abbrev s__law_all : Stmt := topS 36
abbrev N__law_all : List Str := ["shells", "crabs", "rows", "crab", "longer", "row", "wish"]
def G__law_all : Gm := ⟨[g__law_taken], []⟩
def b__law_all : Ss := (.cons (.asg (.nm 2) (.lst (.cons (.tup .nil) .nil)))
    (.cons (.fors (.nm 3) (.rng (.var 1)) (.cons (.new 4 (.lst .nil))
    (.cons (.fors (.nm 5) (.seq (.var 2)) (.cons (.ext 4 (.comp (.bin .add (.var 5) (.tup (.cons (.var 6) .nil))) (.nm 6) (.rng (.var 0)) (.lit (.bl true))))
    .nil))
    (.cons (.asg (.nm 2) (.frz 4))
    .nil))))
    (.cons (.ret (.comp (.var 5) (.nm 5) (.seq (.var 2)) (.cmp .nin (.lit .non) (.call 0 (.cons (.var 0) (.cons (.var 5) .nil))))))
    .nil)))
def g__law_all : Sig := sigOf G__law_all "_law_all" 2 false false 7 b__law_all
@[simp] theorem bor__law_all : g__law_all.bor = false := Eq.trans rfl rfl
@[simp] theorem n__law_all : g__law_all.n = 2 := Eq.trans rfl rfl
@[simp] theorem fn__law_all_0 : G__law_all.fns[0]? = some g__law_taken := Eq.trans rfl rfl
theorem sem__law_all (ds : List D) : g__law_all.sem ds = finP (exs G__law_all b__law_all (slots0 7 ds)) := sem_P ..
abbrev s__law_many : Stmt := topS 37
abbrev N__law_many : List Str := ["shells", "crabs", "found", "crab"]
def G__law_many : Gm := ⟨[], []⟩
def b__law_many : Ss := (.cons (.asg (.nm 2) (.ife (.cmp .gt (.var 1) (.lit (.int 0))) (.bin .sub (.bin .add (.var 0) (.lit (.int 1))) (.var 1)) (.lit (.int 1))))
    (.cons (.fors (.nm 3) (.rng (.bin .sub (.var 1) (.lit (.int 1)))) (.cons (.asg (.nm 2) (.bin .mul (.var 2) (.bin .add (.var 0) (.lit (.int 1)))))
    .nil))
    (.cons (.ret (.var 2))
    .nil)))
def g__law_many : Sig := sigOf G__law_many "_law_many" 2 false false 4 b__law_many
@[simp] theorem bor__law_many : g__law_many.bor = false := Eq.trans rfl rfl
@[simp] theorem n__law_many : g__law_many.n = 2 := Eq.trans rfl rfl
theorem sem__law_many (ds : List D) : g__law_many.sem ds = finP (exs G__law_many b__law_many (slots0 4 ds)) := sem_P ..
abbrev s__law_judged_right : Stmt := topS 38
abbrev N__law_judged_right : List Str := ["hand", "shells", "wishes", "good", "things", "again", "due", "shell", "thing", "one"]
def G__law_judged_right : Gm := ⟨[g_is_housed_told, g__law_some, g__law_deep, g_housed_told, g__law_taken, g__law_draw, g__law_good], []⟩
def b__law_judged_right : Ss := (.cons (.asg (.nm 3) (.call 6 (.cons (.var 1) (.cons (.var 2) .nil))))
    (.cons (.par 6 7 (.call 4 (.cons (.var 1) (.cons (.var 2) .nil))) (.callB 5 0 (.cons (.var 1) .nil)))
    (.cons (.asg (.nm 4) (.lst (.cons (.call 3 (.cons (.var 1) (.cons (.var 2) .nil))) (.cons (.callB 1 0 (.cons (.var 3) .nil)) (.cons (.tup (.cons (.lit (.str "housed")) (.cons (.var 6) .nil))) (.cons (.tup (.cons (.lit (.str "housed")) (.cons (.var 2) .nil))) (.cons (.tup (.cons (.lit (.str "from")) (.cons (.var 7) .nil))) (.cons (.tup (.cons (.lit (.str "from")) (.cons (.var 1) .nil))) (.cons (.tup (.cons (.lit (.str "from")) (.cons (.lit (.bl true)) .nil))) .nil)))))))))
    (.cons (.asg (.nm 4) (.bin .add (.var 4) (.lst (.cons (.tup (.cons (.lit (.str "housed")) (.cons (.bi .list (.var 6)) .nil))) (.cons (.tup (.cons (.lit (.str "housed")) (.cons (.bin .add (.var 6) (.tup (.cons (.lit (.int 0)) .nil))) .nil))) (.cons (.tup (.cons (.lit (.str "Housed")) (.cons (.var 6) .nil))) (.cons (.tup (.cons (.lit (.str "from")) .nil)) (.cons (.lst (.cons (.lit (.str "from")) (.cons (.var 7) .nil))) (.cons (.tup (.cons (.lit (.str "from")) (.cons (.lit .non) .nil))) (.cons (.lit .non) (.cons (.tup .nil) (.cons (.lit (.str "?")) .nil))))))))))))
    (.cons (.fors (.nm 5) (.rng (.lit (.int 8))) (.cons (.asg (.nm 8) (.callB 1 0 (.cons (.bin .add (.var 4) (.lst (.cons (.callB 2 0 .nil) .nil))) .nil)))
    (.cons (.ifs (.cmp .ne (.call 0 (.cons (.var 1) (.cons (.var 2) (.cons (.var 8) .nil)))) (.cmp .inn (.bi .repr (.var 8)) (.comp (.bi .repr (.var 9)) (.nm 9) (.seq (.var 3)) (.lit (.bl true))))) (.cons (.ret (.lit (.bl false)))
    .nil) .nil)
    .nil)))
    (.cons (.ret (.lit (.bl true)))
    .nil))))))
def g__law_judged_right : Sig := sigOf G__law_judged_right "_law_judged_right" 3 true false 10 b__law_judged_right
@[simp] theorem bor__law_judged_right : g__law_judged_right.bor = true := Eq.trans rfl rfl
@[simp] theorem n__law_judged_right : g__law_judged_right.n = 3 := Eq.trans rfl rfl
@[simp] theorem fn__law_judged_right_0 : G__law_judged_right.fns[0]? = some g_is_housed_told := Eq.trans rfl rfl
@[simp] theorem fn__law_judged_right_1 : G__law_judged_right.fns[1]? = some g__law_some := Eq.trans rfl rfl
@[simp] theorem fn__law_judged_right_2 : G__law_judged_right.fns[2]? = some g__law_deep := Eq.trans rfl rfl
@[simp] theorem fn__law_judged_right_3 : G__law_judged_right.fns[3]? = some g_housed_told := Eq.trans rfl rfl
@[simp] theorem fn__law_judged_right_4 : G__law_judged_right.fns[4]? = some g__law_taken := Eq.trans rfl rfl
@[simp] theorem fn__law_judged_right_5 : G__law_judged_right.fns[5]? = some g__law_draw := Eq.trans rfl rfl
@[simp] theorem fn__law_judged_right_6 : G__law_judged_right.fns[6]? = some g__law_good := Eq.trans rfl rfl
theorem sem__law_judged_right (es ds : List D) : g__law_judged_right.sem (.list es :: ds) = finB (exs G__law_judged_right b__law_judged_right (slotsB 10 es ds)) := sem_B ..
abbrev s_law : Stmt := topS 39
abbrev N_law : List Str := ["script", "hand", "turn", "few", "crabs", "shells", "wishes", "good", "told_now"]
def G_law : Gm := ⟨[g_ways_many, g__law_many, g__law_draw, g__law_all, g_ways_to_house, g__law_judged_right, g_housed_told, g__law_good, g__law_wishes, g_is_housed_told, g__law_hand], []⟩
def b_law : Ss := (.cons (.newC 1 10 (.cons (.var 0) .nil))
    (.cons (.ifs (.cmp .ne (.call 6 (.cons (.lit (.int 3)) (.cons (.tup (.cons (.lit (.int 1)) (.cons (.lit (.int 2)) (.cons (.lit (.int 1)) .nil)))) .nil))) (.tup (.cons (.lit (.str "from")) (.cons (.lit (.int 1)) .nil)))) (.cons (.ret (.lit (.bl false)))
    .nil) .nil)
    (.cons (.ifs (.cmp .ne (.call 6 (.cons (.lit (.int 3)) (.cons (.tup (.cons (.lit (.int 1)) (.cons (.lit (.int 1)) (.cons (.lit (.int 0)) .nil)))) .nil))) (.tup (.cons (.lit (.str "housed")) (.cons (.tup (.cons (.lit (.int 1)) (.cons (.lit (.int 2)) (.cons (.lit (.int 0)) .nil)))) .nil)))) (.cons (.ret (.lit (.bl false)))
    .nil) .nil)
    (.cons (.ifs (.cmp .ne (.call 0 (.cons (.lit (.int 2)) (.cons (.lit (.int 2)) .nil))) (.lit (.int 3))) (.cons (.ret (.lit (.bl false)))
    .nil) .nil)
    (.cons (.ifs (.cmp .ne (.call 0 (.cons (.lit (.int 3)) (.cons (.lit (.int 1)) .nil))) (.lit (.int 3))) (.cons (.ret (.lit (.bl false)))
    .nil) .nil)
    (.cons (.ifs (.cmp .ne (.call 4 (.cons (.lit (.int 2)) (.cons (.lit (.int 2)) .nil))) (.lst (.cons (.tup (.cons (.lit (.int 0)) (.cons (.lit (.int 0)) .nil))) (.cons (.tup (.cons (.lit (.int 0)) (.cons (.lit (.int 1)) .nil))) (.cons (.tup (.cons (.lit (.int 1)) (.cons (.lit (.int 0)) .nil))) .nil))))) (.cons (.ret (.lit (.bl false)))
    .nil) .nil)
    (.cons (.ifs (.cmp .ne (.call 0 (.cons (.lit (.int 12)) (.cons (.lit (.int 0)) .nil))) (.lit (.int 1))) (.cons (.ret (.lit (.bl false)))
    .nil) .nil)
    (.cons (.ifs (.cmp .notB (.call 9 (.cons (.lit (.int 3)) (.cons (.tup (.cons (.lit (.int 2)) (.cons (.lit (.int 2)) (.cons (.lit (.int 2)) .nil)))) (.cons (.tup (.cons (.lit (.str "from")) (.cons (.lit (.int 1)) .nil))) .nil)))) (.lit (.bl true))) (.cons (.ret (.lit (.bl false)))
    .nil) .nil)
    (.cons (.fors (.nm 2) (.rng (.lit (.int 5))) (.cons (.asg (.nm 5) (.bin .add (.lit (.int 1)) (.callB 2 1 (.cons (.lit (.int 6)) .nil))))
    (.cons (.asg (.nm 6) (.callB 8 1 (.cons (.var 5) .nil)))
    (.cons (.asg (.nm 7) (.call 7 (.cons (.var 5) (.cons (.var 6) .nil))))
    (.cons (.asg (.nm 8) (.call 6 (.cons (.var 5) (.cons (.var 6) .nil))))
    (.cons (.ifs (.cmp .eq (.var 7) (.lst .nil)) (.cons (.ret (.lit (.bl false)))
    .nil) .nil)
    (.cons (.ifs (.cmp .ne (.var 8) (.ix (.var 7) (.neg (.lit (.int 1))))) (.cons (.ret (.lit (.bl false)))
    .nil) .nil)
    (.cons (.ifs (.not (.callB 5 1 (.cons (.var 5) (.cons (.var 6) .nil)))) (.cons (.ret (.lit (.bl false)))
    .nil) .nil)
    .nil))))))))
    (.cons (.asg (.nm 3) (.bin .add (.lit (.int 1)) (.callB 2 1 (.cons (.lit (.int 4)) .nil))))
    (.cons (.asg (.nm 4) (.callB 2 1 (.cons (.bin .add (.var 3) (.lit (.int 1))) .nil)))
    (.cons (.ifs (.cmp .ne (.call 4 (.cons (.var 3) (.cons (.var 4) .nil))) (.call 3 (.cons (.var 3) (.cons (.var 4) .nil)))) (.cons (.ret (.lit (.bl false)))
    .nil) .nil)
    (.cons (.ifs (.cmp .ne (.call 0 (.cons (.var 3) (.cons (.var 4) .nil))) (.bi .len (.call 3 (.cons (.var 3) (.cons (.var 4) .nil))))) (.cons (.ret (.lit (.bl false)))
    .nil) .nil)
    (.cons (.asg (.nm 5) (.bin .add (.lit (.int 1)) (.callB 2 1 (.cons (.lit (.int 12)) .nil))))
    (.cons (.asg (.nm 4) (.callB 2 1 (.cons (.bin .add (.var 5) (.lit (.int 1))) .nil)))
    (.cons (.ret (.cmp .eq (.call 0 (.cons (.var 5) (.cons (.var 4) .nil))) (.call 1 (.cons (.var 5) (.cons (.var 4) .nil)))))
    .nil))))))))))))))))
def g_law : Sig := sigOf G_law "law" 1 false false 9 b_law
@[simp] theorem bor_law : g_law.bor = false := Eq.trans rfl rfl
@[simp] theorem n_law : g_law.n = 1 := Eq.trans rfl rfl
@[simp] theorem fn_law_0 : G_law.fns[0]? = some g_ways_many := Eq.trans rfl rfl
@[simp] theorem fn_law_1 : G_law.fns[1]? = some g__law_many := Eq.trans rfl rfl
@[simp] theorem fn_law_2 : G_law.fns[2]? = some g__law_draw := Eq.trans rfl rfl
@[simp] theorem fn_law_3 : G_law.fns[3]? = some g__law_all := Eq.trans rfl rfl
@[simp] theorem fn_law_4 : G_law.fns[4]? = some g_ways_to_house := Eq.trans rfl rfl
@[simp] theorem fn_law_5 : G_law.fns[5]? = some g__law_judged_right := Eq.trans rfl rfl
@[simp] theorem fn_law_6 : G_law.fns[6]? = some g_housed_told := Eq.trans rfl rfl
@[simp] theorem fn_law_7 : G_law.fns[7]? = some g__law_good := Eq.trans rfl rfl
@[simp] theorem fn_law_8 : G_law.fns[8]? = some g__law_wishes := Eq.trans rfl rfl
@[simp] theorem fn_law_9 : G_law.fns[9]? = some g_is_housed_told := Eq.trans rfl rfl
@[simp] theorem fn_law_10 : G_law.fns[10]? = some g__law_hand := Eq.trans rfl rfl
theorem sem_law (ds : List D) : g_law.sem ds = finP (exs G_law b_law (slots0 9 ds)) := sem_P ..
/-! ### the looks -/
theorem c_is_integer : okSs G_is_integer (defScope s_is_integer) (defScope s_is_integer) N_is_integer false b_is_integer (defBody s_is_integer) = true := by decide +kernel
theorem sc_is_integer : FnScope N_is_integer ["thing"] (defScope s_is_integer) := ⟨rfl, rfl, rfl, by decide +kernel, rfl, by decide +kernel, by decide +kernel⟩
theorem c_is_within : okSs G_is_within (defScope s_is_within) (defScope s_is_within) N_is_within false b_is_within (defBody s_is_within) = true := by decide +kernel
theorem sc_is_within : FnScope N_is_within ["thing", "least", "most"] (defScope s_is_within) := ⟨rfl, rfl, rfl, by decide +kernel, rfl, by decide +kernel, by decide +kernel⟩
theorem c_is_sized : okSs G_is_sized (defScope s_is_sized) (defScope s_is_sized) N_is_sized false b_is_sized (defBody s_is_sized) = true := by decide +kernel
theorem sc_is_sized : FnScope N_is_sized ["thing", "least", "most"] (defScope s_is_sized) := ⟨rfl, rfl, rfl, by decide +kernel, rfl, by decide +kernel, by decide +kernel⟩
theorem c_are_within : okSs G_are_within (defScope s_are_within) (defScope s_are_within) N_are_within false b_are_within (defBody s_are_within) = true := by decide +kernel
theorem sc_are_within : FnScope N_are_within ["thing", "least", "most"] (defScope s_are_within) := ⟨rfl, rfl, rfl, by decide +kernel, rfl, by decide +kernel, by decide +kernel⟩
theorem c_check_shells : okSs G_check_shells (defScope s_check_shells) (defScope s_check_shells) N_check_shells false b_check_shells (defBody s_check_shells) = true := by decide +kernel
theorem sc_check_shells : FnScope N_check_shells ["shells"] (defScope s_check_shells) := ⟨rfl, rfl, rfl, by decide +kernel, rfl, by decide +kernel, by decide +kernel⟩
theorem c_raw_are_wishes : okSs G_raw_are_wishes (defScope s_raw_are_wishes) (defScope s_raw_are_wishes) N_raw_are_wishes false b_raw_are_wishes (defBody s_raw_are_wishes) = true := by decide +kernel
theorem sc_raw_are_wishes : FnScope N_raw_are_wishes ["shells", "thing"] (defScope s_raw_are_wishes) := ⟨rfl, rfl, rfl, by decide +kernel, rfl, by decide +kernel, by decide +kernel⟩
theorem c_check_wishes : okSs G_check_wishes (defScope s_check_wishes) (defScope s_check_wishes) N_check_wishes false b_check_wishes (defBody s_check_wishes) = true := by decide +kernel
theorem sc_check_wishes : FnScope N_check_wishes ["shells", "wishes"] (defScope s_check_wishes) := ⟨rfl, rfl, rfl, by decide +kernel, rfl, by decide +kernel, by decide +kernel⟩
theorem c_raw_taken : okSs G_raw_taken (defScope s_raw_taken) (defScope s_raw_taken) N_raw_taken false b_raw_taken (defBody s_raw_taken) = true := by decide +kernel
theorem sc_raw_taken : FnScope N_raw_taken ["shells", "wishes"] (defScope s_raw_taken) := ⟨rfl, rfl, rfl, by decide +kernel, rfl, by decide +kernel, by decide +kernel⟩
theorem c_taken : okSs G_taken (defScope s_taken) (defScope s_taken) N_taken false b_taken (defBody s_taken) = true := by decide +kernel
theorem sc_taken : FnScope N_taken ["shells", "wishes"] (defScope s_taken) := ⟨rfl, rfl, rfl, by decide +kernel, rfl, by decide +kernel, by decide +kernel⟩
theorem c_is_over : okSs G_is_over (defScope s_is_over) (defScope s_is_over) N_is_over false b_is_over (defBody s_is_over) = true := by decide +kernel
theorem sc_is_over : FnScope N_is_over ["shells", "wishes", "shell"] (defScope s_is_over) := ⟨rfl, rfl, rfl, by decide +kernel, rfl, by decide +kernel, by decide +kernel⟩
theorem c_housed_told : okSs G_housed_told (defScope s_housed_told) (defScope s_housed_told) N_housed_told false b_housed_told (defBody s_housed_told) = true := by decide +kernel
theorem sc_housed_told : FnScope N_housed_told ["shells", "wishes"] (defScope s_housed_told) := ⟨rfl, rfl, rfl, by decide +kernel, rfl, by decide +kernel, by decide +kernel⟩
theorem c_is_housed_told : okSs G_is_housed_told (defScope s_is_housed_told) (defScope s_is_housed_told) N_is_housed_told false b_is_housed_told (defBody s_is_housed_told) = true := by decide +kernel
theorem sc_is_housed_told : FnScope N_is_housed_told ["shells", "wishes", "thing"] (defScope s_is_housed_told) := ⟨rfl, rfl, rfl, by decide +kernel, rfl, by decide +kernel, by decide +kernel⟩
theorem c_check_crabs : okSs G_check_crabs (defScope s_check_crabs) (defScope s_check_crabs) N_check_crabs false b_check_crabs (defBody s_check_crabs) = true := by decide +kernel
theorem sc_check_crabs : FnScope N_check_crabs ["shells", "crabs"] (defScope s_check_crabs) := ⟨rfl, rfl, rfl, by decide +kernel, rfl, by decide +kernel, by decide +kernel⟩
theorem c_ways_many : okSs G_ways_many (defScope s_ways_many) (defScope s_ways_many) N_ways_many false b_ways_many (defBody s_ways_many) = true := by decide +kernel
theorem sc_ways_many : FnScope N_ways_many ["shells", "crabs"] (defScope s_ways_many) := ⟨rfl, rfl, rfl, by decide +kernel, rfl, by decide +kernel, by decide +kernel⟩
theorem c_ways_to_house : okSs G_ways_to_house (defScope s_ways_to_house) (defScope s_ways_to_house) N_ways_to_house false b_ways_to_house (defBody s_ways_to_house) = true := by decide +kernel
theorem sc_ways_to_house : FnScope N_ways_to_house ["shells", "crabs"] (defScope s_ways_to_house) := ⟨rfl, rfl, rfl, by decide +kernel, rfl, by decide +kernel, by decide +kernel⟩
theorem c__law_hand : okSs G__law_hand (defScope s__law_hand) (defScope s__law_hand) N__law_hand false b__law_hand (defBody s__law_hand) = true := by decide +kernel
theorem sc__law_hand : FnScope N__law_hand ["script"] (defScope s__law_hand) := ⟨rfl, rfl, rfl, by decide +kernel, rfl, by decide +kernel, by decide +kernel⟩
theorem c__law_draw : okSs G__law_draw (defScope s__law_draw) (defScope s__law_draw) N__law_draw true b__law_draw (defBody s__law_draw) = true := by decide +kernel
theorem sc__law_draw : FnScope N__law_draw ["hand", "many"] (defScope s__law_draw) := ⟨rfl, rfl, rfl, by decide +kernel, rfl, by decide +kernel, by decide +kernel⟩
theorem c__law_some : okSs G__law_some (defScope s__law_some) (defScope s__law_some) N__law_some true b__law_some (defBody s__law_some) = true := by decide +kernel
theorem sc__law_some : FnScope N__law_some ["hand", "things"] (defScope s__law_some) := ⟨rfl, rfl, rfl, by decide +kernel, rfl, by decide +kernel, by decide +kernel⟩
theorem c__law_deep : okSs G__law_deep (defScope s__law_deep) (defScope s__law_deep) N__law_deep true b__law_deep (defBody s__law_deep) = true := by decide +kernel
theorem sc__law_deep : FnScope N__law_deep ["hand"] (defScope s__law_deep) := ⟨rfl, rfl, rfl, by decide +kernel, rfl, by decide +kernel, by decide +kernel⟩
theorem c__law_wishes : okSs G__law_wishes (defScope s__law_wishes) (defScope s__law_wishes) N__law_wishes true b__law_wishes (defBody s__law_wishes) = true := by decide +kernel
theorem sc__law_wishes : FnScope N__law_wishes ["hand", "shells"] (defScope s__law_wishes) := ⟨rfl, rfl, rfl, by decide +kernel, rfl, by decide +kernel, by decide +kernel⟩
theorem c__law_taken : okSs G__law_taken (defScope s__law_taken) (defScope s__law_taken) N__law_taken false b__law_taken (defBody s__law_taken) = true := by decide +kernel
theorem sc__law_taken : FnScope N__law_taken ["shells", "wishes"] (defScope s__law_taken) := ⟨rfl, rfl, rfl, by decide +kernel, rfl, by decide +kernel, by decide +kernel⟩
theorem c__law_froms : okSs G__law_froms (defScope s__law_froms) (defScope s__law_froms) N__law_froms false b__law_froms (defBody s__law_froms) = true := by decide +kernel
theorem sc__law_froms : FnScope N__law_froms ["shells", "wishes"] (defScope s__law_froms) := ⟨rfl, rfl, rfl, by decide +kernel, rfl, by decide +kernel, by decide +kernel⟩
theorem c__law_good : okSs G__law_good (defScope s__law_good) (defScope s__law_good) N__law_good false b__law_good (defBody s__law_good) = true := by decide +kernel
theorem sc__law_good : FnScope N__law_good ["shells", "wishes"] (defScope s__law_good) := ⟨rfl, rfl, rfl, by decide +kernel, rfl, by decide +kernel, by decide +kernel⟩
theorem c__law_all : okSs G__law_all (defScope s__law_all) (defScope s__law_all) N__law_all false b__law_all (defBody s__law_all) = true := by decide +kernel
theorem sc__law_all : FnScope N__law_all ["shells", "crabs"] (defScope s__law_all) := ⟨rfl, rfl, rfl, by decide +kernel, rfl, by decide +kernel, by decide +kernel⟩
theorem c__law_many : okSs G__law_many (defScope s__law_many) (defScope s__law_many) N__law_many false b__law_many (defBody s__law_many) = true := by decide +kernel
theorem sc__law_many : FnScope N__law_many ["shells", "crabs"] (defScope s__law_many) := ⟨rfl, rfl, rfl, by decide +kernel, rfl, by decide +kernel, by decide +kernel⟩
theorem c__law_judged_right : okSs G__law_judged_right (defScope s__law_judged_right) (defScope s__law_judged_right) N__law_judged_right true b__law_judged_right (defBody s__law_judged_right) = true := by decide +kernel
theorem sc__law_judged_right : FnScope N__law_judged_right ["hand", "shells", "wishes"] (defScope s__law_judged_right) := ⟨rfl, rfl, rfl, by decide +kernel, rfl, by decide +kernel, by decide +kernel⟩
theorem c_law : okSs G_law (defScope s_law) (defScope s_law) N_law false b_law (defBody s_law) = true := by decide +kernel
theorem sc_law : FnScope N_law ["script"] (defScope s_law) := ⟨rfl, rfl, rfl, by decide +kernel, rfl, by decide +kernel, by decide +kernel⟩
/-! ### what they keep -/
section
variable {P : Program} {w : World} {K : Frag} {mg : Str → Option Value} {base : Heap}
/-- the names of the module -/
structure Top (K : Frag) (mg : Str → Option Value) : Prop where
  blt : ∀ x ∈ bNames, mg x = none
  sm : List.lookup sysModules K = none
  v_MOST_SHELLS : ∃ u, mg "MOST_SHELLS" = some u ∧ RelV (litV (.int 12)) u
  v_FROM_SHELL : ∃ u, mg "FROM_SHELL" = some u ∧ RelV (litV (.str "from")) u
  v_HOUSED : ∃ u, mg "HOUSED" = some u ∧ RelV (litV (.str "housed")) u
  v_MOST_LISTED_SHELLS : ∃ u, mg "MOST_LISTED_SHELLS" = some u ∧ RelV (litV (.int 4)) u
  f_is_integer : ∃ f fd, mg "is_integer" = some (.ref f) ∧ Fun K "is_integer" "is_integer" s_is_integer f fd
  f_is_within : ∃ f fd, mg "is_within" = some (.ref f) ∧ Fun K "is_within" "is_within" s_is_within f fd
  f_is_sized : ∃ f fd, mg "is_sized" = some (.ref f) ∧ Fun K "is_sized" "is_sized" s_is_sized f fd
  f_are_within : ∃ f fd, mg "are_within" = some (.ref f) ∧ Fun K "are_within" "are_within" s_are_within f fd
  f_check_shells : ∃ f fd, mg "check_shells" = some (.ref f) ∧ Fun K "check_shells" "check_shells" s_check_shells f fd
  f_raw_are_wishes : ∃ f fd, mg "raw_are_wishes" = some (.ref f) ∧ Fun K "raw_are_wishes" "raw_are_wishes" s_raw_are_wishes f fd
  f_check_wishes : ∃ f fd, mg "check_wishes" = some (.ref f) ∧ Fun K "check_wishes" "check_wishes" s_check_wishes f fd
  f_raw_taken : ∃ f fd, mg "raw_taken" = some (.ref f) ∧ Fun K "raw_taken" "raw_taken" s_raw_taken f fd
  f_taken : ∃ f fd, mg "taken" = some (.ref f) ∧ Fun K "taken" "taken" s_taken f fd
  f_is_over : ∃ f fd, mg "is_over" = some (.ref f) ∧ Fun K "is_over" "is_over" s_is_over f fd
  f_housed_told : ∃ f fd, mg "housed_told" = some (.ref f) ∧ Fun K "housed_told" "housed_told" s_housed_told f fd
  f_is_housed_told : ∃ f fd, mg "is_housed_told" = some (.ref f) ∧ Fun K "is_housed_told" "is_housed_told" s_is_housed_told f fd
  f_check_crabs : ∃ f fd, mg "check_crabs" = some (.ref f) ∧ Fun K "check_crabs" "check_crabs" s_check_crabs f fd
  f_ways_many : ∃ f fd, mg "ways_many" = some (.ref f) ∧ Fun K "ways_many" "ways_many" s_ways_many f fd
  f_ways_to_house : ∃ f fd, mg "ways_to_house" = some (.ref f) ∧ Fun K "ways_to_house" "ways_to_house" s_ways_to_house f fd
  f__law_hand : ∃ f fd, mg "_law_hand" = some (.ref f) ∧ Fun K "_law_hand" "_law_hand" s__law_hand f fd
  f__law_draw : ∃ f fd, mg "_law_draw" = some (.ref f) ∧ Fun K "_law_draw" "_law_draw" s__law_draw f fd
  f__law_some : ∃ f fd, mg "_law_some" = some (.ref f) ∧ Fun K "_law_some" "_law_some" s__law_some f fd
  f__law_deep : ∃ f fd, mg "_law_deep" = some (.ref f) ∧ Fun K "_law_deep" "_law_deep" s__law_deep f fd
  f__law_wishes : ∃ f fd, mg "_law_wishes" = some (.ref f) ∧ Fun K "_law_wishes" "_law_wishes" s__law_wishes f fd
  f__law_taken : ∃ f fd, mg "_law_taken" = some (.ref f) ∧ Fun K "_law_taken" "_law_taken" s__law_taken f fd
  f__law_froms : ∃ f fd, mg "_law_froms" = some (.ref f) ∧ Fun K "_law_froms" "_law_froms" s__law_froms f fd
  f__law_good : ∃ f fd, mg "_law_good" = some (.ref f) ∧ Fun K "_law_good" "_law_good" s__law_good f fd
  f__law_all : ∃ f fd, mg "_law_all" = some (.ref f) ∧ Fun K "_law_all" "_law_all" s__law_all f fd
  f__law_many : ∃ f fd, mg "_law_many" = some (.ref f) ∧ Fun K "_law_many" "_law_many" s__law_many f fd
  f__law_judged_right : ∃ f fd, mg "_law_judged_right" = some (.ref f) ∧ Fun K "_law_judged_right" "_law_judged_right" s__law_judged_right f fd
  f_law : ∃ f fd, mg "law" = some (.ref f) ∧ Fun K "law" "law" s_law f fd
theorem o_is_integer (T : Top K mg) {f : Addr} {fd : FuncData} (F : Fun K "is_integer" "is_integer" s_is_integer f fd) : FnG P w K mg base CX0 1 f fd ["thing"] (spOf K g_is_integer) :=
  fn_ok F sc_is_integer rfl (fun _ => by decide) ⟨T.blt, fns_nil, cst_nil, T.sm⟩ c_is_integer
theorem h_is_integer (T : Top K mg) : HasFn P w K mg base 1 g_is_integer := by
  obtain ⟨f, fd, m, F⟩ := T.f_is_integer
  exact ⟨f, fd, ["thing"], m, F.kp, F.binds fun _ _ _ _ _ _ us hl => match us, hl with | [_], _ => rfl, o_is_integer T F⟩
theorem o_is_within (T : Top K mg) {f : Addr} {fd : FuncData} (F : Fun K "is_within" "is_within" s_is_within f fd) : FnG P w K mg base CX0 2 f fd ["thing", "least", "most"] (spOf K g_is_within) :=
  fn_ok F sc_is_within rfl (fun _ => by decide) ⟨T.blt, fns_cons ((h_is_integer T).mono (by decide)) (fns_nil), cst_nil, T.sm⟩ c_is_within
theorem h_is_within (T : Top K mg) : HasFn P w K mg base 2 g_is_within := by
  obtain ⟨f, fd, m, F⟩ := T.f_is_within
  exact ⟨f, fd, ["thing", "least", "most"], m, F.kp, F.binds fun _ _ _ _ _ _ us hl => match us, hl with | [_, _, _], _ => rfl, o_is_within T F⟩
theorem o_is_sized (T : Top K mg) {f : Addr} {fd : FuncData} (F : Fun K "is_sized" "is_sized" s_is_sized f fd) : FnG P w K mg base CX0 1 f fd ["thing", "least", "most"] (spOf K g_is_sized) :=
  fn_ok F sc_is_sized rfl (fun _ => by decide) ⟨T.blt, fns_nil, cst_nil, T.sm⟩ c_is_sized
theorem h_is_sized (T : Top K mg) : HasFn P w K mg base 1 g_is_sized := by
  obtain ⟨f, fd, m, F⟩ := T.f_is_sized
  exact ⟨f, fd, ["thing", "least", "most"], m, F.kp, F.binds fun _ _ _ _ _ _ us hl => match us, hl with | [_, _, _], _ => rfl, o_is_sized T F⟩
theorem o_are_within (T : Top K mg) {f : Addr} {fd : FuncData} (F : Fun K "are_within" "are_within" s_are_within f fd) : FnG P w K mg base CX0 3 f fd ["thing", "least", "most"] (spOf K g_are_within) :=
  fn_ok F sc_are_within rfl (fun _ => by decide) ⟨T.blt, fns_cons ((h_is_within T).mono (by decide)) (fns_nil), cst_nil, T.sm⟩ c_are_within
theorem h_are_within (T : Top K mg) : HasFn P w K mg base 3 g_are_within := by
  obtain ⟨f, fd, m, F⟩ := T.f_are_within
  exact ⟨f, fd, ["thing", "least", "most"], m, F.kp, F.binds fun _ _ _ _ _ _ us hl => match us, hl with | [_, _, _], _ => rfl, o_are_within T F⟩
theorem o_check_shells (T : Top K mg) {f : Addr} {fd : FuncData} (F : Fun K "check_shells" "check_shells" s_check_shells f fd) : FnG P w K mg base CX0 3 f fd ["shells"] (spOf K g_check_shells) :=
  fn_ok F sc_check_shells rfl (fun _ => by decide) ⟨T.blt, fns_cons ((h_is_within T).mono (by decide)) (fns_nil), cst_cons T.v_MOST_SHELLS (cst_nil), T.sm⟩ c_check_shells
theorem h_check_shells (T : Top K mg) : HasFn P w K mg base 3 g_check_shells := by
  obtain ⟨f, fd, m, F⟩ := T.f_check_shells
  exact ⟨f, fd, ["shells"], m, F.kp, F.binds fun _ _ _ _ _ _ us hl => match us, hl with | [_], _ => rfl, o_check_shells T F⟩
theorem o_raw_are_wishes (T : Top K mg) {f : Addr} {fd : FuncData} (F : Fun K "raw_are_wishes" "raw_are_wishes" s_raw_are_wishes f fd) : FnG P w K mg base CX0 4 f fd ["shells", "thing"] (spOf K g_raw_are_wishes) :=
  fn_ok F sc_raw_are_wishes rfl (fun _ => by decide) ⟨T.blt, fns_cons ((h_are_within T).mono (by decide)) (fns_cons ((h_is_sized T).mono (by decide)) (fns_nil)), cst_nil, T.sm⟩ c_raw_are_wishes
theorem h_raw_are_wishes (T : Top K mg) : HasFn P w K mg base 4 g_raw_are_wishes := by
  obtain ⟨f, fd, m, F⟩ := T.f_raw_are_wishes
  exact ⟨f, fd, ["shells", "thing"], m, F.kp, F.binds fun _ _ _ _ _ _ us hl => match us, hl with | [_, _], _ => rfl, o_raw_are_wishes T F⟩
theorem o_check_wishes (T : Top K mg) {f : Addr} {fd : FuncData} (F : Fun K "check_wishes" "check_wishes" s_check_wishes f fd) : FnG P w K mg base CX0 5 f fd ["shells", "wishes"] (spOf K g_check_wishes) :=
  fn_ok F sc_check_wishes rfl (fun _ => by decide) ⟨T.blt, fns_cons ((h_raw_are_wishes T).mono (by decide)) (fns_cons ((h_check_shells T).mono (by decide)) (fns_nil)), cst_nil, T.sm⟩ c_check_wishes
theorem h_check_wishes (T : Top K mg) : HasFn P w K mg base 5 g_check_wishes := by
  obtain ⟨f, fd, m, F⟩ := T.f_check_wishes
  exact ⟨f, fd, ["shells", "wishes"], m, F.kp, F.binds fun _ _ _ _ _ _ us hl => match us, hl with | [_, _], _ => rfl, o_check_wishes T F⟩
theorem o_raw_taken (T : Top K mg) {f : Addr} {fd : FuncData} (F : Fun K "raw_taken" "raw_taken" s_raw_taken f fd) : FnG P w K mg base CX0 1 f fd ["shells", "wishes"] (spOf K g_raw_taken) :=
  fn_ok F sc_raw_taken rfl (fun _ => by decide) ⟨T.blt, fns_nil, cst_nil, T.sm⟩ c_raw_taken
theorem h_raw_taken (T : Top K mg) : HasFn P w K mg base 1 g_raw_taken := by
  obtain ⟨f, fd, m, F⟩ := T.f_raw_taken
  exact ⟨f, fd, ["shells", "wishes"], m, F.kp, F.binds fun _ _ _ _ _ _ us hl => match us, hl with | [_, _], _ => rfl, o_raw_taken T F⟩
theorem o_taken (T : Top K mg) {f : Addr} {fd : FuncData} (F : Fun K "taken" "taken" s_taken f fd) : FnG P w K mg base CX0 6 f fd ["shells", "wishes"] (spOf K g_taken) :=
  fn_ok F sc_taken rfl (fun _ => by decide) ⟨T.blt, fns_cons ((h_raw_taken T).mono (by decide)) (fns_cons ((h_check_wishes T).mono (by decide)) (fns_nil)), cst_nil, T.sm⟩ c_taken
theorem h_taken (T : Top K mg) : HasFn P w K mg base 6 g_taken := by
  obtain ⟨f, fd, m, F⟩ := T.f_taken
  exact ⟨f, fd, ["shells", "wishes"], m, F.kp, F.binds fun _ _ _ _ _ _ us hl => match us, hl with | [_, _], _ => rfl, o_taken T F⟩
theorem o_is_over (T : Top K mg) {f : Addr} {fd : FuncData} (F : Fun K "is_over" "is_over" s_is_over f fd) : FnG P w K mg base CX0 1 f fd ["shells", "wishes", "shell"] (spOf K g_is_over) :=
  fn_ok F sc_is_over rfl (fun _ => by decide) ⟨T.blt, fns_nil, cst_nil, T.sm⟩ c_is_over
theorem h_is_over (T : Top K mg) : HasFn P w K mg base 1 g_is_over := by
  obtain ⟨f, fd, m, F⟩ := T.f_is_over
  exact ⟨f, fd, ["shells", "wishes", "shell"], m, F.kp, F.binds fun _ _ _ _ _ _ us hl => match us, hl with | [_, _, _], _ => rfl, o_is_over T F⟩
theorem o_housed_told (T : Top K mg) {f : Addr} {fd : FuncData} (F : Fun K "housed_told" "housed_told" s_housed_told f fd) : FnG P w K mg base CX0 7 f fd ["shells", "wishes"] (spOf K g_housed_told) :=
  fn_ok F sc_housed_told rfl (fun _ => by decide) ⟨T.blt, fns_cons ((h_is_over T).mono (by decide)) (fns_cons ((h_taken T).mono (by decide)) (fns_nil)), cst_cons T.v_FROM_SHELL (cst_cons T.v_HOUSED (cst_nil)), T.sm⟩ c_housed_told
theorem h_housed_told (T : Top K mg) : HasFn P w K mg base 7 g_housed_told := by
  obtain ⟨f, fd, m, F⟩ := T.f_housed_told
  exact ⟨f, fd, ["shells", "wishes"], m, F.kp, F.binds fun _ _ _ _ _ _ us hl => match us, hl with | [_, _], _ => rfl, o_housed_told T F⟩
theorem o_is_housed_told (T : Top K mg) {f : Addr} {fd : FuncData} (F : Fun K "is_housed_told" "is_housed_told" s_is_housed_told f fd) : FnG P w K mg base CX0 7 f fd ["shells", "wishes", "thing"] (spOf K g_is_housed_told) :=
  fn_ok F sc_is_housed_told rfl (fun _ => by decide) ⟨T.blt, fns_cons ((h_is_over T).mono (by decide)) (fns_cons ((h_is_within T).mono (by decide)) (fns_cons ((h_are_within T).mono (by decide)) (fns_cons ((h_is_sized T).mono (by decide)) (fns_cons ((h_taken T).mono (by decide)) (fns_nil))))), cst_cons T.v_FROM_SHELL (cst_cons T.v_HOUSED (cst_nil)), T.sm⟩ c_is_housed_told
theorem h_is_housed_told (T : Top K mg) : HasFn P w K mg base 7 g_is_housed_told := by
  obtain ⟨f, fd, m, F⟩ := T.f_is_housed_told
  exact ⟨f, fd, ["shells", "wishes", "thing"], m, F.kp, F.binds fun _ _ _ _ _ _ us hl => match us, hl with | [_, _, _], _ => rfl, o_is_housed_told T F⟩
theorem o_check_crabs (T : Top K mg) {f : Addr} {fd : FuncData} (F : Fun K "check_crabs" "check_crabs" s_check_crabs f fd) : FnG P w K mg base CX0 4 f fd ["shells", "crabs"] (spOf K g_check_crabs) :=
  fn_ok F sc_check_crabs rfl (fun _ => by decide) ⟨T.blt, fns_cons ((h_is_within T).mono (by decide)) (fns_cons ((h_check_shells T).mono (by decide)) (fns_nil)), cst_nil, T.sm⟩ c_check_crabs
theorem h_check_crabs (T : Top K mg) : HasFn P w K mg base 4 g_check_crabs := by
  obtain ⟨f, fd, m, F⟩ := T.f_check_crabs
  exact ⟨f, fd, ["shells", "crabs"], m, F.kp, F.binds fun _ _ _ _ _ _ us hl => match us, hl with | [_, _], _ => rfl, o_check_crabs T F⟩
theorem o_ways_many (T : Top K mg) {f : Addr} {fd : FuncData} (F : Fun K "ways_many" "ways_many" s_ways_many f fd) : FnG P w K mg base CX0 5 f fd ["shells", "crabs"] (spOf K g_ways_many) :=
  fn_ok F sc_ways_many rfl (fun _ => by decide) ⟨T.blt, fns_cons ((h_check_crabs T).mono (by decide)) (fns_nil), cst_nil, T.sm⟩ c_ways_many
theorem h_ways_many (T : Top K mg) : HasFn P w K mg base 5 g_ways_many := by
  obtain ⟨f, fd, m, F⟩ := T.f_ways_many
  exact ⟨f, fd, ["shells", "crabs"], m, F.kp, F.binds fun _ _ _ _ _ _ us hl => match us, hl with | [_, _], _ => rfl, o_ways_many T F⟩
theorem o_ways_to_house (T : Top K mg) {f : Addr} {fd : FuncData} (F : Fun K "ways_to_house" "ways_to_house" s_ways_to_house f fd) : FnG P w K mg base CX0 5 f fd ["shells", "crabs"] (spOf K g_ways_to_house) :=
  fn_ok F sc_ways_to_house rfl (fun _ => by decide) ⟨T.blt, fns_cons ((h_raw_taken T).mono (by decide)) (fns_cons ((h_check_crabs T).mono (by decide)) (fns_nil)), cst_cons T.v_MOST_LISTED_SHELLS (cst_nil), T.sm⟩ c_ways_to_house
theorem h_ways_to_house (T : Top K mg) : HasFn P w K mg base 5 g_ways_to_house := by
  obtain ⟨f, fd, m, F⟩ := T.f_ways_to_house
  exact ⟨f, fd, ["shells", "crabs"], m, F.kp, F.binds fun _ _ _ _ _ _ us hl => match us, hl with | [_, _], _ => rfl, o_ways_to_house T F⟩
theorem o__law_hand (T : Top K mg) {f : Addr} {fd : FuncData} (F : Fun K "_law_hand" "_law_hand" s__law_hand f fd) : FnG P w K mg base CX0 1 f fd ["script"] (spOf K g__law_hand) :=
  fn_ok F sc__law_hand rfl (fun _ => by decide) ⟨T.blt, fns_nil, cst_nil, T.sm⟩ c__law_hand
theorem h__law_hand (T : Top K mg) : HasFn P w K mg base 1 g__law_hand := by
  obtain ⟨f, fd, m, F⟩ := T.f__law_hand
  exact ⟨f, fd, ["script"], m, F.kp, F.binds fun _ _ _ _ _ _ us hl => match us, hl with | [_], _ => rfl, o__law_hand T F⟩
theorem o__law_draw (T : Top K mg) {f : Addr} {fd : FuncData} (F : Fun K "_law_draw" "_law_draw" s__law_draw f fd) : FnG P w K mg base CX0 1 f fd ["hand", "many"] (spOf K g__law_draw) :=
  fn_ok F sc__law_draw rfl (fun _ => by decide) ⟨T.blt, fns_nil, cst_nil, T.sm⟩ c__law_draw
theorem h__law_draw (T : Top K mg) : HasFn P w K mg base 1 g__law_draw := by
  obtain ⟨f, fd, m, F⟩ := T.f__law_draw
  exact ⟨f, fd, ["hand", "many"], m, F.kp, F.binds fun _ _ _ _ _ _ us hl => match us, hl with | [_, _], _ => rfl, o__law_draw T F⟩
theorem o__law_some (T : Top K mg) {f : Addr} {fd : FuncData} (F : Fun K "_law_some" "_law_some" s__law_some f fd) : FnG P w K mg base CX0 2 f fd ["hand", "things"] (spOf K g__law_some) :=
  fn_ok F sc__law_some rfl (fun _ => by decide) ⟨T.blt, fns_cons ((h__law_draw T).mono (by decide)) (fns_nil), cst_nil, T.sm⟩ c__law_some
theorem h__law_some (T : Top K mg) : HasFn P w K mg base 2 g__law_some := by
  obtain ⟨f, fd, m, F⟩ := T.f__law_some
  exact ⟨f, fd, ["hand", "things"], m, F.kp, F.binds fun _ _ _ _ _ _ us hl => match us, hl with | [_, _], _ => rfl, o__law_some T F⟩
theorem o__law_deep (T : Top K mg) {f : Addr} {fd : FuncData} (F : Fun K "_law_deep" "_law_deep" s__law_deep f fd) : FnG P w K mg base CX0 3 f fd ["hand"] (spOf K g__law_deep) :=
  fn_ok F sc__law_deep rfl (fun _ => by decide) ⟨T.blt, fns_cons ((h__law_draw T).mono (by decide)) (fns_cons ((h__law_some T).mono (by decide)) (fns_nil)), cst_nil, T.sm⟩ c__law_deep
theorem h__law_deep (T : Top K mg) : HasFn P w K mg base 3 g__law_deep := by
  obtain ⟨f, fd, m, F⟩ := T.f__law_deep
  exact ⟨f, fd, ["hand"], m, F.kp, F.binds fun _ _ _ _ _ _ us hl => match us, hl with | [_], _ => rfl, o__law_deep T F⟩
theorem o__law_wishes (T : Top K mg) {f : Addr} {fd : FuncData} (F : Fun K "_law_wishes" "_law_wishes" s__law_wishes f fd) : FnG P w K mg base CX0 2 f fd ["hand", "shells"] (spOf K g__law_wishes) :=
  fn_ok F sc__law_wishes rfl (fun _ => by decide) ⟨T.blt, fns_cons ((h__law_draw T).mono (by decide)) (fns_nil), cst_nil, T.sm⟩ c__law_wishes
theorem h__law_wishes (T : Top K mg) : HasFn P w K mg base 2 g__law_wishes := by
  obtain ⟨f, fd, m, F⟩ := T.f__law_wishes
  exact ⟨f, fd, ["hand", "shells"], m, F.kp, F.binds fun _ _ _ _ _ _ us hl => match us, hl with | [_, _], _ => rfl, o__law_wishes T F⟩
theorem o__law_taken (T : Top K mg) {f : Addr} {fd : FuncData} (F : Fun K "_law_taken" "_law_taken" s__law_taken f fd) : FnG P w K mg base CX0 1 f fd ["shells", "wishes"] (spOf K g__law_taken) :=
  fn_ok F sc__law_taken rfl (fun _ => by decide) ⟨T.blt, fns_nil, cst_nil, T.sm⟩ c__law_taken
theorem h__law_taken (T : Top K mg) : HasFn P w K mg base 1 g__law_taken := by
  obtain ⟨f, fd, m, F⟩ := T.f__law_taken
  exact ⟨f, fd, ["shells", "wishes"], m, F.kp, F.binds fun _ _ _ _ _ _ us hl => match us, hl with | [_, _], _ => rfl, o__law_taken T F⟩
theorem o__law_froms (T : Top K mg) {f : Addr} {fd : FuncData} (F : Fun K "_law_froms" "_law_froms" s__law_froms f fd) : FnG P w K mg base CX0 1 f fd ["shells", "wishes"] (spOf K g__law_froms) :=
  fn_ok F sc__law_froms rfl (fun _ => by decide) ⟨T.blt, fns_nil, cst_nil, T.sm⟩ c__law_froms
theorem h__law_froms (T : Top K mg) : HasFn P w K mg base 1 g__law_froms := by
  obtain ⟨f, fd, m, F⟩ := T.f__law_froms
  exact ⟨f, fd, ["shells", "wishes"], m, F.kp, F.binds fun _ _ _ _ _ _ us hl => match us, hl with | [_, _], _ => rfl, o__law_froms T F⟩
theorem o__law_good (T : Top K mg) {f : Addr} {fd : FuncData} (F : Fun K "_law_good" "_law_good" s__law_good f fd) : FnG P w K mg base CX0 2 f fd ["shells", "wishes"] (spOf K g__law_good) :=
  fn_ok F sc__law_good rfl (fun _ => by decide) ⟨T.blt, fns_cons ((h__law_froms T).mono (by decide)) (fns_cons ((h__law_taken T).mono (by decide)) (fns_nil)), cst_nil, T.sm⟩ c__law_good
theorem h__law_good (T : Top K mg) : HasFn P w K mg base 2 g__law_good := by
  obtain ⟨f, fd, m, F⟩ := T.f__law_good
  exact ⟨f, fd, ["shells", "wishes"], m, F.kp, F.binds fun _ _ _ _ _ _ us hl => match us, hl with | [_, _], _ => rfl, o__law_good T F⟩
theorem o__law_all (T : Top K mg) {f : Addr} {fd : FuncData} (F : Fun K "_law_all" "_law_all" s__law_all f fd) : FnG P w K mg base CX0 2 f fd ["shells", "crabs"] (spOf K g__law_all) :=
  fn_ok F sc__law_all rfl (fun _ => by decide) ⟨T.blt, fns_cons ((h__law_taken T).mono (by decide)) (fns_nil), cst_nil, T.sm⟩ c__law_all
theorem h__law_all (T : Top K mg) : HasFn P w K mg base 2 g__law_all := by
  obtain ⟨f, fd, m, F⟩ := T.f__law_all
  exact ⟨f, fd, ["shells", "crabs"], m, F.kp, F.binds fun _ _ _ _ _ _ us hl => match us, hl with | [_, _], _ => rfl, o__law_all T F⟩
theorem o__law_many (T : Top K mg) {f : Addr} {fd : FuncData} (F : Fun K "_law_many" "_law_many" s__law_many f fd) : FnG P w K mg base CX0 1 f fd ["shells", "crabs"] (spOf K g__law_many) :=
  fn_ok F sc__law_many rfl (fun _ => by decide) ⟨T.blt, fns_nil, cst_nil, T.sm⟩ c__law_many
theorem h__law_many (T : Top K mg) : HasFn P w K mg base 1 g__law_many := by
  obtain ⟨f, fd, m, F⟩ := T.f__law_many
  exact ⟨f, fd, ["shells", "crabs"], m, F.kp, F.binds fun _ _ _ _ _ _ us hl => match us, hl with | [_, _], _ => rfl, o__law_many T F⟩
theorem o__law_judged_right (T : Top K mg) {f : Addr} {fd : FuncData} (F : Fun K "_law_judged_right" "_law_judged_right" s__law_judged_right f fd) : FnG P w K mg base CX0 8 f fd ["hand", "shells", "wishes"] (spOf K g__law_judged_right) :=
  fn_ok F sc__law_judged_right rfl (fun _ => by decide) ⟨T.blt, fns_cons ((h_is_housed_told T).mono (by decide)) (fns_cons ((h__law_some T).mono (by decide)) (fns_cons ((h__law_deep T).mono (by decide)) (fns_cons ((h_housed_told T).mono (by decide)) (fns_cons ((h__law_taken T).mono (by decide)) (fns_cons ((h__law_draw T).mono (by decide)) (fns_cons ((h__law_good T).mono (by decide)) (fns_nil))))))), cst_nil, T.sm⟩ c__law_judged_right
theorem h__law_judged_right (T : Top K mg) : HasFn P w K mg base 8 g__law_judged_right := by
  obtain ⟨f, fd, m, F⟩ := T.f__law_judged_right
  exact ⟨f, fd, ["hand", "shells", "wishes"], m, F.kp, F.binds fun _ _ _ _ _ _ us hl => match us, hl with | [_, _, _], _ => rfl, o__law_judged_right T F⟩
theorem o_law (T : Top K mg) {f : Addr} {fd : FuncData} (F : Fun K "law" "law" s_law f fd) : FnG P w K mg base CX0 9 f fd ["script"] (spOf K g_law) :=
  fn_ok F sc_law rfl (fun _ => by decide) ⟨T.blt, fns_cons ((h_ways_many T).mono (by decide)) (fns_cons ((h__law_many T).mono (by decide)) (fns_cons ((h__law_draw T).mono (by decide)) (fns_cons ((h__law_all T).mono (by decide)) (fns_cons ((h_ways_to_house T).mono (by decide)) (fns_cons ((h__law_judged_right T).mono (by decide)) (fns_cons ((h_housed_told T).mono (by decide)) (fns_cons ((h__law_good T).mono (by decide)) (fns_cons ((h__law_wishes T).mono (by decide)) (fns_cons ((h_is_housed_told T).mono (by decide)) (fns_cons ((h__law_hand T).mono (by decide)) (fns_nil))))))))))), cst_nil, T.sm⟩ c_law
theorem h_law (T : Top K mg) : HasFn P w K mg base 9 g_law := by
  obtain ⟨f, fd, m, F⟩ := T.f_law
  exact ⟨f, fd, ["script"], m, F.kp, F.binds fun _ _ _ _ _ _ us hl => match us, hl with | [_], _ => rfl, o_law T F⟩
theorem law_all (T : Top K mg) {a : Addr} (h : mg "law" = some (.ref a)) : ∃ fd : FuncData, (∀ (s : Shared) (u : Value), BindsTo s fd ⟨[u], []⟩ [("script", u)]) ∧ ∀ base : Heap, FnG P w K mg base CX0 9 a fd ["script"] (spOf K g_law) := by
  obtain ⟨f, fd, m, F⟩ := T.f_law
  obtain rfl : f = a := Value.ref.inj (Option.some.inj (m.symm.trans h))
  exact ⟨fd, fun_bind F fun _ _ _ _ _ _ _ => rfl, fun base => o_law T F⟩
end
end K75

namespace Cbasics
open PySem PySem.Spec PyProof.Rows L2 DP
/-! ### numbers, tuples -/
def isI : D → Bool
  | .int _ => true
  | _ => false
def wi (a b : Int) : D → Bool
  | .int i => decide (a ≤ i) && decide (i ≤ b)
  | _ => false
theorem sp_is_integer (d : D) : g_is_integer.sem [d] = .ok (.bool (isI d), []) := by
  rw [sem_is_integer]
  cases d <;> simp [b_is_integer, slots0, tyD, isI]
theorem sp_is_within (d : D) (a b : Int) : g_is_within.sem [d, .int a, .int b] = .ok (.bool (wi a b d), []) := by
  rw [sem_is_within]
  cases d with
  | int i =>
    by_cases h : a ≤ i <;> simp [b_is_within, slots0, sp_is_integer, isI, wi, h]
  | _ => simp [b_is_within, slots0, sp_is_integer, isI, wi]
theorem sp_is_sized (d : D) (a b : Int) : g_is_sized.sem [d, .int a, .int b] = .ok (.bool (match d with | .tuple xs => decide (a ≤ (xs.length : Int)) && decide ((xs.length : Int) ≤ b) | _ => false), []) := by
  rw [sem_is_sized]
  cases d with
  | tuple xs => by_cases h : a ≤ (xs.length : Int) <;> simp [b_is_sized, slots0, tyD, h]
  | _ => simp [b_is_sized, slots0, tyD]
theorem sp_are_within (d : D) (a b : Int) : g_are_within.sem [d, .int a, .int b] = .ok (.bool (match d with | .tuple xs => xs.all (wi a b) | _ => false), []) := by
  rw [sem_are_within]
  cases d with
  | tuple xs =>
    simp [b_are_within, slots0, tyD]
    rw [compLoop_map (f := fun d => .bool (wi a b d))]
    · simp
    · intro d _
      simp [sp_is_within]
  | _ => simp [b_are_within, slots0, tyD]
/-! ### lots -/
def Fn : Nat → List (List Int)
  | 0 => [[]]
  | n + 1 => Fn n ++ (Fn n).map (· ++ [(n : Int)])
theorem Fn_len : ∀ n, (Fn n).length = 2 ^ n
  | 0 => rfl
  | n + 1 => by
    show (Fn n ++ (Fn n).map (· ++ [(n : Int)])).length = _
    rw [List.length_append, List.length_map, Fn_len n, Nat.pow_succ]; omega
theorem Fn_few : ∀ n, ∀ l ∈ Fn n, l.length ≤ n ∧ ∀ i ∈ l, 0 ≤ i ∧ i < n
  | 0, l, h => by
    rw [List.mem_singleton.mp h]
    exact ⟨Nat.le_refl _, fun i z => by cases z⟩
  | n + 1, l, h => by
    rcases List.mem_append.mp h with h | h
    · obtain ⟨h1, h2⟩ := Fn_few n l h
      exact ⟨by omega, fun i hi => by have := h2 i hi; omega⟩
    · obtain ⟨l0, h0, rfl⟩ := List.mem_map.mp h
      obtain ⟨h1, h2⟩ := Fn_few n l0 h0
      refine ⟨by rw [List.length_append]; simp; omega, fun i hi => ?_⟩
      rcases List.mem_append.mp hi with hi | hi
      · have := h2 i hi; omega
      · rw [List.mem_singleton.mp hi]; omega
def key (l : List Int) : Int × List Int := (l.length, l)
def Lots (n : Nat) : List (List Int) := (isort kLt ((Fn n).map key)).map (·.2)
theorem Lots_mem (n : Nat) (l : List Int) : l ∈ Lots n ↔ l ∈ Fn n := by
  unfold Lots
  rw [List.mem_map]
  constructor
  · rintro ⟨p, hp, rfl⟩
    obtain ⟨l0, h0, rfl⟩ := List.mem_map.mp ((isort_mem _ _ _).mp hp)
    exact h0
  · exact fun h => ⟨key l, (isort_mem _ _ _).mpr (List.mem_map.mpr ⟨l, h, rfl⟩), rfl⟩
theorem pow8 {n : Nat} (h : n ≤ 11) : 2 ^ n ≤ 2048 := Nat.pow_le_pow_right (by decide) h
theorem sp_all_lots (n : Nat) (h : n ≤ 11) : g_all_lots.sem [.int n] = .ok (.list ((Lots n).map lotD), []) := by
  rw [sem_all_lots]
  have hr := fun ρ => rngC_nat n ρ (by omega)
  simp [b_all_lots, slots0, hr]
  refine for_bind (P := fun r => finP r = _) (fun j ρ => ∃ c, ρ = [Cell.dat (.int n), .dat (.list ((Fn j).map lotD)), c, .un, .un] ∧ freeC (some c) = true) ⟨.un, rfl, rfl⟩ (fun j d hd ρ hJ => ?_) (fun ρ hJ => ?_)
  · obtain ⟨hj, rfl⟩ := rng_at hd
    obtain ⟨c, rfl, hc⟩ := hJ
    have hp := pow8 (n := j) (by omega)
    have hf : (Fn j).length + (Fn j).length ≤ 16777216 := by rw [Fn_len]; omega
    refine ⟨[Cell.dat (.int n), .dat (.list ((Fn (j + 1)).map lotD)), .dat (.int j), .un, .un], .inl ?_, _, rfl, rfl⟩
    simp [hc]
    rw [compLoop_ints (f := fun l => lotD (l ++ [(j : Int)]))]
    · simp [hf, Fn, Function.comp_def]
    · intro l hl
      have hl2 := (Fn_few j l hl).1
      have hl3 : l.length + 1 ≤ 16777216 := by omega
      simp [lotD, hl3]
  · obtain ⟨c, rfl, hc⟩ := hJ
    simp
    rw [compLoop_ints (f := fun l => kD' (key l))]
    · simp
      rw [show (Fn n).map (fun l => kD' (key l)) = ((Fn n).map key).map kD' from by rw [List.map_map]; rfl, sort_keys]
      simp
      rw [compLoop_ints (f := fun p => lotD p.2)]
      · simp [Lots, Function.comp_def]
      · intro p hp
        simp [kD', lotD]
    · intro l hl
      simp [lotD, kD', key]

end Cbasics

namespace Ccrabs
open PySem PySem.Spec PyProof.Rows L2 DP Cbasics
/-! ### crabs: what the defs reckon -/
def oD : Option Int → D
  | none => .none
  | some i => .int i
/-- the numbers from a, below b -/
def rg (a b : Int) : List Int := (List.range (b - a).toNat).map fun (i : Nat) => a + (i : Int)
theorem mem_rg {a b x : Int} : x ∈ rg a b ↔ a ≤ x ∧ x < b := by
  unfold rg
  rw [List.mem_map]
  constructor
  · rintro ⟨i, hi, rfl⟩
    rw [List.mem_range] at hi
    omega
  · rintro ⟨h1, h2⟩
    exact ⟨(x - a).toNat, List.mem_range.mpr (by omega), by omega⟩
theorem rngC_rg (a b : Int) (ρ : Slots) (h1 : -1000000 ≤ a) (h2 : a ≤ 1000000) (h3 : -1000000 ≤ b) (h4 : b ≤ 1000000) : rngC a b ρ = .ok ((rg a b).map PyData.int, ρ) := by
  rw [rngC_ok a b ρ h1 h2 h3 h4]
  unfold rngD rg
  rw [List.map_map]
  rfl
def hasI (F : List (Option Int)) (i : Int) : Bool := F.contains (some i)
def hasN (F : List (Option Int)) : Bool := F.contains none
def nxt (s : Int) (F : List (Option Int)) (w : Int) : Option Int := ((rg w s).filter fun i => !hasI F i).head?
def tk1 (s : Int) (F : List (Option Int)) (w : Int) : List (Option Int) := F ++ [nxt s F w]
def tk (s : Int) (ws : List Int) : List (Option Int) := ws.foldl (tk1 s) []
theorem tk_snoc (s : Int) (ws : List Int) (w : Int) : tk s (ws ++ [w]) = tk1 s (tk s ws) w := by
  unfold tk
  rw [List.foldl_append]
  rfl
theorem tk_len (s : Int) : ∀ (ws : List Int) (F : List (Option Int)), (ws.foldl (tk1 s) F).length = F.length + ws.length
  | [], F => rfl
  | w :: r, F => by
    show ((r.foldl (tk1 s) (tk1 s F w))).length = _
    rw [tk_len s r, tk1, List.length_append, List.length_cons]
    simp
    omega
theorem eqv_oi (o : Option Int) (i : Int) : PyData.eqv (oD o) (.int i) = decide (o = some i) := by
  cases o with
  | none => rfl
  | some j => show PyData.eqv (.int j) (.int i) = _; rw [PyData.eqv, Bool.eq_iff_iff]; simp
theorem eqv_on (o : Option Int) : PyData.eqv (oD o) .none = decide (o = none) := by
  cases o with
  | none => rfl
  | some j => rfl
theorem okd_o (F : List (Option Int)) {k : Nat} : OkA k (F.map oD) := .of fun d hd => by
  obtain ⟨o, _, rfl⟩ := List.mem_map.mp hd
  cases o with
  | none => exact .none
  | some j => exact .int j
theorem any_some (F : List (Option Int)) (i : Int) : ((F.map oD).any fun z => PyData.eqv z (.int i)) = hasI F i := by
  induction F with
  | nil => rfl
  | cons o r ih =>
    unfold hasI at ih ⊢
    rw [List.map_cons, List.any_cons, ih, eqv_oi, List.contains_cons]
    congr 1
    rw [Bool.eq_iff_iff]
    simp
    exact eq_comm
theorem any_none (F : List (Option Int)) : ((F.map oD).any fun z => PyData.eqv z .none) = hasN F := by
  induction F with
  | nil => rfl
  | cons o r ih =>
    unfold hasN at ih ⊢
    rw [List.map_cons, List.any_cons, ih, eqv_on, List.contains_cons]
    congr 1
    rw [Bool.eq_iff_iff]
    simp
    exact eq_comm
theorem flat_o (F : List (Option Int)) : (F.map oD).all flat = true := by
  rw [List.all_map, List.all_eq_true]
  intro o _
  cases o <;> rfl
theorem nin_l (F : List (Option Int)) (i : Int) : cmpD .nin (.int i) (.list (F.map oD)) = .ok (!hasI F i) := by
  rw [nin_flat rfl (flat_o F), any_some]
theorem nin_t (F : List (Option Int)) : cmpD .nin .none (.tuple (F.map oD)) = .ok (!hasN F) := by
  rw [nin_flatT rfl (flat_o F), any_none]
theorem in_t (F : List (Option Int)) : cmpD .inn .none (.tuple (F.map oD)) = .ok (hasN F) := by
  rw [in_flatT rfl (flat_o F), any_none]
structure Small (s : Int) (ws : List Int) : Prop where
  s0 : -1000 ≤ s
  s1 : s ≤ 1000
  w : ∀ w ∈ ws, -1000 ≤ w ∧ w ≤ 1000
  l : ws.length ≤ 1000
theorem sp_raw_taken {s : Int} {ws : List Int} (h : Small s ws) : g_raw_taken.sem [.int s, .tuple (ws.map PyData.int)] = .ok (.tuple ((tk s ws).map oD), []) := by
  rw [sem_raw_taken]
  simp [b_raw_taken, slots0]
  refine for_bind (P := fun r => finP r = _) (fun j ρ => ∃ c d, ρ = [Cell.dat (.int s), .dat (.tuple (ws.map PyData.int)), .own false ((tk s (ws.take j)).map oD), c, d, .un] ∧ freeC (some c) = true ∧ freeC (some d) = true) ⟨.un, .un, rfl, rfl, rfl⟩ (fun j d hd ρ hJ => ?_) (fun ρ hJ => ?_)
  · obtain ⟨c, d4, rfl, hc, hd4⟩ := hJ
    rw [List.getElem?_map] at hd
    obtain ⟨w, hw, rfl⟩ : ∃ w, ws[j]? = some w ∧ d = .int w := by
      cases e : ws[j]? with
      | none => rw [e] at hd; cases hd
      | some w => rw [e] at hd; exact ⟨w, rfl, (Option.some.inj hd).symm⟩
    have hwm := h.w w (List.mem_of_getElem? hw)
    have hj : j < ws.length := (List.getElem?_eq_some_iff.mp hw).1
    have hr := fun ρ => rngC_rg w s ρ (by omega) (by omega) (by have := h.s0; omega) (by have := h.s1; omega)
    have ht : ws.take (j + 1) = ws.take j ++ [w] := by rw [List.take_add_one, hw]; rfl
    generalize hF : tk s (ws.take j) = F at *
    have hFl : F.length = j := by rw [← hF, tk, tk_len]; simp; omega
    have hsz : F.length + 1 ≤ 16777216 := by have := h.l; omega
    obtain ⟨E, hE⟩ : ∃ E, E = (rg w s).filter fun i => !hasI F i := ⟨_, rfl⟩
    have h1 : tk1 s F w = F ++ [E.head?] := by rw [hE]; rfl
    refine ⟨[Cell.dat (.int s), .dat (.tuple (ws.map PyData.int)), .own false ((tk1 s F w).map oD), .dat (.int w), .dat (.list (E.map PyData.int)), .un], .inl ?_, _, _, by rw [ht, tk_snoc, hF], rfl, rfl⟩
    simp [hc, hr]
    rw [compLoop_pick (p := fun i => !hasI F i) (f := PyData.int), ← hE, h1]
    · cases E with
      | nil => simp [hd4, hsz, oD]
      | cons x r => simp [hd4, hsz, oD]
    · intro i _
      cases e : hasI F i <;> simp [nin_l, e]
  · obtain ⟨c, d4, rfl, hc, hd4⟩ := hJ
    simp

/-! ### asked arguments -/
structure Wi (s : Int) (ws : List Int) : Prop where
  s0 : 1 ≤ s
  s1 : s ≤ 12
  w : ∀ w ∈ ws, 0 ≤ w ∧ w < s
  l : (ws.length : Int) ≤ s
theorem Wi.small {s : Int} {ws : List Int} (h : Wi s ws) : Small s ws := ⟨by have := h.s0; omega, by have := h.s1; omega, fun w hw => by have := h.w w hw; have := h.s1; omega, by have := h.l; have := h.s1; omega⟩
theorem all_wi {a b : Int} {ws : List Int} (h : ∀ w ∈ ws, a ≤ w ∧ w ≤ b) : (ws.map PyData.int).all (wi a b) = true := by
  rw [List.all_map, List.all_eq_true]
  intro x hx
  obtain ⟨h1, h2⟩ := h x hx
  show (decide (a ≤ x) && decide (x ≤ b)) = true
  rw [decide_eq_true h1, decide_eq_true h2]; rfl
theorem sp_check_shells {s : Int} (h0 : 1 ≤ s) (h1 : s ≤ 12) : g_check_shells.sem [.int s] = .ok (.none, []) := by
  rw [sem_check_shells]
  simp [b_check_shells, slots0, sp_is_within, wi, h0, h1]
theorem sp_raw_are_wishes {s : Int} {ws : List Int} (h : Wi s ws) : g_raw_are_wishes.sem [.int s, .tuple (ws.map PyData.int)] = .ok (.bool true, []) := by
  rw [sem_raw_are_wishes]
  have a := all_wi (a := 0) (b := s - 1) (ws := ws) fun w hw => by have := h.w w hw; omega
  have l := h.l
  simp only [List.all_map] at a
  simp [b_raw_are_wishes, slots0, sp_is_sized, sp_are_within, l, a]
theorem sp_check_wishes {s : Int} {ws : List Int} (h : Wi s ws) : g_check_wishes.sem [.int s, .tuple (ws.map PyData.int)] = .ok (.none, []) := by
  rw [sem_check_wishes]
  simp [b_check_wishes, slots0, sp_check_shells h.s0 h.s1, sp_raw_are_wishes h]
theorem sp_taken {s : Int} {ws : List Int} (h : Wi s ws) : g_taken.sem [.int s, .tuple (ws.map PyData.int)] = .ok (.tuple ((tk s ws).map oD), []) := by
  rw [sem_taken]
  simp [b_taken, slots0, sp_check_wishes h, sp_raw_taken h.small]
/-- more wish it, or one behind, than there are -/
def ov (s : Int) (ws : List Int) (i : Int) : Bool := decide (s - i < ((ws.filter fun w => decide (i ≤ w)).length : Int))
theorem sp_is_over (s : Int) (ws : List Int) (i : Int) : g_is_over.sem [.int s, .tuple (ws.map PyData.int), .int i] = .ok (.bool (ov s ws i), []) := by
  rw [sem_is_over]
  simp [b_is_over, slots0]
  rw [compLoop_pick (p := fun w => decide (i ≤ w)) (f := PyData.int)]
  · simp [ov]
  · intro w _
    by_cases h : i ≤ w <;> simp [h]
def frs (s : Int) (ws : List Int) : List Int := (rg 0 s).filter (ov s ws)
theorem atI_last (xs : List D) (x : D) : atI (xs ++ [x]) (-1) = some x := by
  unfold atI ixN
  have h : (1 : Int) ≤ (xs.length : Int) + 1 := by omega
  have h2 : (-1 + ((xs.length : Int) + 1)).toNat = xs.length := by omega
  simp [h, h2]
theorem last_l {xs : List Int} {l : Int} (h : xs.getLast? = some l) : atI (xs.map PyData.int) (-1) = some (.int l) := by
  obtain ⟨ys, rfl⟩ := List.getLast?_eq_some_iff.mp h
  rw [List.map_append]
  exact atI_last _ _
def toldD (s : Int) (ws : List Int) (l : Int) : D := if hasN (tk s ws) = true then .tuple [.str "from", .int l] else .tuple [.str "housed", .tuple ((tk s ws).map oD)]
theorem sp_housed_told {s : Int} {ws : List Int} (h : Wi s ws) {l : Int} (hl : hasN (tk s ws) = true → (frs s ws).getLast? = some l) : g_housed_told.sem [.int s, .tuple (ws.map PyData.int)] = .ok (toldD s ws l, []) := by
  rw [sem_housed_told]
  have t := sp_taken h
  have hr := fun ρ => rngC_rg 0 s ρ (by decide) (by decide) (by have := h.s0; omega) (by have := h.s1; omega)
  cases e : hasN (tk s ws) with
  | false => simp only [toldD, e]; simp [b_housed_told, slots0, t, nin_t, e]
  | true =>
    have hl := last_l (hl e)
    simp only [toldD, e]
    simp [b_housed_told, slots0, t, nin_t, e, hr]
    rw [compLoop_pick (p := ov s ws) (f := PyData.int)]
    · rw [show (rg 0 s).filter (ov s ws) = frs s ws from rfl]
      simp [hl]
    · intro i _
      cases e2 : ov s ws i <;> simp [sp_is_over, e2]
/-- what is_housed_told says of a thing -/
def hzt (s : Int) (ws : List Int) : D → Bool
  | .tuple [.str x, y] => if x = "housed" then !hasN (tk s ws) && (match y with
      | .tuple ds => ds.all (wi 0 (s - 1)) && PyData.eqvAll ds ((tk s ws).map oD)
      | _ => false)
    else decide (x = "from") && (match y with
      | .int i => wi 0 (s - 1) (.int i) && ov s ws i
      | _ => false)
  | _ => false
theorem shp_wi {a b : Int} : ∀ {ds : List D}, ds.all (wi a b) = true → OkA 0 ds
  | [], _ => .nil
  | d :: r, h => by
    obtain ⟨h1, h2⟩ := band (show (wi a b d && r.all (wi a b)) = true from h)
    refine .cons ?_ (shp_wi h2)
    cases d with
    | int i => exact .int i
    | _ => cases h1
theorem sp_is_housed_told {s : Int} {ws : List Int} (h : Wi s ws) (d : D) : g_is_housed_told.sem [.int s, .tuple (ws.map PyData.int), d] = .ok (.bool (hzt s ws d), []) := by
  rw [sem_is_housed_told]
  have t := sp_taken h
  have no2 : ∀ xs : List D, xs.length ≠ 2 → d = .tuple xs → finP (exs G_is_housed_told b_is_housed_told (slots0 4 [.int s, .tuple (ws.map PyData.int), .tuple xs])) = .ok (.bool false, []) := fun xs hl _ => by
    have hl2 : ¬ ((2 : Int) ≤ xs.length ∧ (xs.length : Int) ≤ 2) := by omega
    have hb : (decide ((2 : Int) ≤ xs.length) && decide ((xs.length : Int) ≤ 2)) = false := by simpa using hl2
    simp [b_is_housed_told, slots0, t, sp_is_sized, hb]
  match d, no2 with
  | .tuple [.str x, y], _ =>
    by_cases hx : x = "housed"
    · subst hx
      cases hn : hasN (tk s ws) with
      | true => simp [b_is_housed_told, slots0, t, sp_is_sized, tyD, nin_t, hzt, hn]
      | false =>
        cases y with
        | tuple ds =>
          cases ha : ds.all (wi 0 (s - 1)) with
          | false => simp [b_is_housed_told, slots0, t, sp_is_sized, tyD, nin_t, hzt, hn, sp_are_within, ha]
          | true =>
            have sd : cmpD .eq (.tuple ds) (.tuple ((tk s ws).map oD)) = .ok (PyData.eqvAll ds ((tk s ws).map oD)) := by
              rw [eq_shp (shp_of (k := 1) (.tup (shp_wi ha)) (by decide)) (shp_of (k := 1) (.tup (okd_o _)) (by decide)), PyData.eqv]
            simp [b_is_housed_told, slots0, t, sp_is_sized, tyD, nin_t, hzt, hn, sp_are_within, ha, sd]
        | _ => simp [b_is_housed_told, slots0, t, sp_is_sized, tyD, nin_t, hzt, hn, sp_are_within]
    · by_cases hf : x = "from"
      · subst hf
        cases y with
        | int i =>
          cases hw : wi 0 (s - 1) (.int i) with
          | false => simp [b_is_housed_told, slots0, t, sp_is_sized, tyD, hx, hzt, sp_is_within, hw]
          | true => simp [b_is_housed_told, slots0, t, sp_is_sized, tyD, hx, hzt, sp_is_within, hw, sp_is_over]
        | _ => simp [b_is_housed_told, slots0, t, sp_is_sized, tyD, hx, hzt, sp_is_within, wi]
      · simp [b_is_housed_told, slots0, t, sp_is_sized, tyD, hx, hf, hzt]
  | .tuple [.none, y], _ => simp [b_is_housed_told, slots0, t, sp_is_sized, tyD, hzt]
  | .tuple [.bool _, y], _ => simp [b_is_housed_told, slots0, t, sp_is_sized, tyD, hzt]
  | .tuple [.int _, y], _ => simp [b_is_housed_told, slots0, t, sp_is_sized, tyD, hzt]
  | .tuple [.list _, y], _ => simp [b_is_housed_told, slots0, t, sp_is_sized, tyD, hzt]
  | .tuple [.tuple _, y], _ => simp [b_is_housed_told, slots0, t, sp_is_sized, tyD, hzt]
  | .tuple [.dict _, y], _ => simp [b_is_housed_told, slots0, t, sp_is_sized, tyD, hzt]
  | .tuple [], n => exact n _ (by decide) rfl
  | .tuple [x], n => rw [n [x] (by simp) rfl]; simp [hzt]
  | .tuple (x :: y :: z :: r), n => rw [n (x :: y :: z :: r) (by simp) rfl]; simp [hzt]
  | .none, _ => simp [b_is_housed_told, slots0, t, sp_is_sized, hzt]
  | .bool _, _ => simp [b_is_housed_told, slots0, t, sp_is_sized, hzt]
  | .int _, _ => simp [b_is_housed_told, slots0, t, sp_is_sized, hzt]
  | .str _, _ => simp [b_is_housed_told, slots0, t, sp_is_sized, hzt]
  | .list _, _ => simp [b_is_housed_told, slots0, t, sp_is_sized, hzt]
  | .dict _, _ => simp [b_is_housed_told, slots0, t, sp_is_sized, hzt]
/-! ### how many ways -/
theorem sp_check_crabs {s k : Int} (h0 : 1 ≤ s) (h1 : s ≤ 12) (k0 : 0 ≤ k) (k1 : k ≤ s) : g_check_crabs.sem [.int s, .int k] = .ok (.none, []) := by
  rw [sem_check_crabs]
  simp [b_check_crabs, slots0, sp_check_shells h0 h1, sp_is_within, wi, k0, k1]
def wmN (a b : Int) : Nat → Int
  | 0 => a
  | n + 1 => wmN a b n * b
def wm (s k : Int) : Int := wmN (if 0 < k then s + 1 - k else 1) (s + 1) (k - 1).toNat
theorem i64_small {i : Int} (h : -1000000 ≤ i) (h2 : i ≤ 1000000) : i64 i = true := by
  unfold i64
  have h1 : -(2 ^ 64) < i := by omega
  have h3 : i < 2 ^ 64 := by omega
  rw [decide_eq_true h1, decide_eq_true h3]; rfl
theorem rg_at {a b : Int} {j : Nat} {d : D} (h : ((rg a b).map PyData.int)[j]? = some d) : j < (b - a).toNat ∧ d = .int (a + j) := by
  rw [List.getElem?_map] at h
  unfold rg at h
  have hl : j < (b - a).toNat := by
    cases e : ((List.range (b - a).toNat).map fun (i : Nat) => a + (i : Int))[j]? with
    | none => rw [e] at h; cases h
    | some x =>
      have := (List.getElem?_eq_some_iff.mp e).1
      simpa using this
  rw [List.getElem?_map, List.getElem?_eq_getElem (by rw [List.length_range]; exact hl), List.getElem_range] at h
  exact ⟨hl, (Option.some.inj h).symm⟩
theorem rg_len (a b : Int) : (rg a b).length = (b - a).toNat := by unfold rg; rw [List.length_map, List.length_range]
theorem sp_ways_many {s k : Int} (h0 : 1 ≤ s) (h1 : s ≤ 12) (k0 : 0 ≤ k) (k1 : k ≤ s) : g_ways_many.sem [.int s, .int k] = .ok (.int (wm s k), []) := by
  rw [sem_ways_many]
  have hr := fun ρ => rngC_rg 0 (k - 1) ρ (by decide) (by decide) (by omega) (by omega)
  obtain ⟨a, ha⟩ : ∃ a, a = (if 0 < k then s + 1 - k else 1) := ⟨_, rfl⟩
  have hi := i64_small (i := s + 1) (by omega) (by omega)
  have key : ∀ ρ, ρ = [Cell.dat (.int s), .dat (.int k), .dat (.int a), .un] → finP (forLoop (fun d ρ1 => putTg (.nm 3) d ρ1 >>= fun ρ2 => exs G_ways_many (.cons (.asg (.nm 2) (.bin .mul (.var 2) (.bin .add (.var 0) (.lit (.int 1))))) .nil) ρ2) ((rg 0 (k - 1)).map PyData.int) ρ >>= seqC (exs G_ways_many (.cons (.ret (.var 2)) .nil))) = .ok (.int (wm s k), []) := by
    rintro ρ rfl
    refine for_bind (P := fun r => finP r = _) (fun j ρ => ∃ c, ρ = [Cell.dat (.int s), .dat (.int k), .dat (.int (wmN a (s + 1) j)), c] ∧ freeC (some c) = true) ⟨.un, rfl, rfl⟩ (fun j d hd ρ hJ => ?_) (fun ρ hJ => ?_)
    · obtain ⟨c, rfl, hc⟩ := hJ
      obtain ⟨hj, rfl⟩ := rg_at hd
      refine ⟨[Cell.dat (.int s), .dat (.int k), .dat (.int (wmN a (s + 1) (j + 1))), .dat (.int (0 + j))], .inl ?_, _, rfl, rfl⟩
      simp [hc, hi, wmN]
    · obtain ⟨c, rfl, hc⟩ := hJ
      rw [List.length_map, rg_len] at *
      simp [wm, ha]
  by_cases hk : 0 < k
  · rw [if_pos hk] at ha
    subst ha
    simp [b_ways_many, slots0, sp_check_crabs h0 h1 k0 k1, hk, hr]
    simpa using key _ rfl
  · rw [if_neg hk] at ha
    subst ha
    simp [b_ways_many, slots0, sp_check_crabs h0 h1 k0 k1, hk, hr]
    simpa using key _ rfl
/-- all rows of so many wishes -/
def rowsN (s : Int) : Nat → List (List Int)
  | 0 => [[]]
  | n + 1 => (rowsN s n).flatMap fun r => (rg 0 s).map fun w => r ++ [w]
theorem rowsN_mem {s : Int} : ∀ {n : Nat} {r : List Int}, r ∈ rowsN s n → r.length = n ∧ ∀ w ∈ r, 0 ≤ w ∧ w < s
  | 0, r, h => by
    rw [List.mem_singleton.mp h]
    exact ⟨rfl, fun w z => by cases z⟩
  | n + 1, r, h => by
    obtain ⟨r0, h0, h⟩ := List.mem_flatMap.mp h
    obtain ⟨w, hw, rfl⟩ := List.mem_map.mp h
    obtain ⟨a, b⟩ := rowsN_mem h0
    refine ⟨by rw [List.length_append, a]; rfl, fun x hx => ?_⟩
    rcases List.mem_append.mp hx with hx | hx
    · exact b x hx
    · rw [List.mem_singleton.mp hx]; exact mem_rg.mp hw
theorem rowsN_len (s : Int) : ∀ n, (rowsN s n).length = s.toNat ^ n
  | 0 => rfl
  | n + 1 => by
    show ((rowsN s n).flatMap _).length = _
    rw [List.length_flatMap]
    have : ∀ l : List (List Int), (l.map fun a => ((rg 0 s).map fun w => a ++ [w]).length).sum = l.length * s.toNat := fun l => by
      induction l with
      | nil => simp
      | cons x r ih =>
        rw [List.map_cons, List.sum_cons, ih, List.length_map, rg_len, List.length_cons, Nat.succ_mul, Int.sub_zero]
        omega
    rw [this, rowsN_len s n, Nat.pow_succ]
theorem sp_ways_to_house {s : Int} {k : Nat} (h0 : 1 ≤ s) (h1 : s ≤ 4) (k1 : (k : Int) ≤ s) : g_ways_to_house.sem [.int s, .int k] = .ok (.list (((rowsN s k).filter fun r => !hasN (tk s r)).map lotD), []) := by
  rw [sem_ways_to_house]
  have hr := fun ρ => rngC_rg 0 s ρ (by decide) (by decide) (by omega) (by omega)
  have hr2 := fun ρ => rngC_nat k ρ (by omega)
  have h4 : ¬ (4 : Int) < s := by omega
  simp [b_ways_to_house, slots0, sp_check_crabs h0 (show s ≤ 12 by omega) (show (0 : Int) ≤ k by omega) k1, h4, hr2]
  refine for_bind (P := fun r => finP r = _) (fun j ρ => ∃ c, ρ = [Cell.dat (.int s), .dat (.int k), .dat (.list ((rowsN s j).map lotD)), c, .un, .un] ∧ freeC (some c) = true) ⟨.un, rfl, rfl⟩ (fun j d hd ρ hJ => ?_) (fun ρ hJ => ?_)
  · obtain ⟨c, rfl, hc⟩ := hJ
    obtain ⟨hj, rfl⟩ := rng_at hd
    refine ⟨[Cell.dat (.int s), .dat (.int k), .dat (.list ((rowsN s (j + 1)).map lotD)), .dat (.int j), .un, .un], .inl ?_, _, rfl, rfl⟩
    have hle : ((rowsN s (j + 1)).map lotD).length ≤ 16777216 := by
      rw [List.length_map, rowsN_len]
      have a : s.toNat ^ (j + 1) ≤ 4 ^ (j + 1) := Nat.pow_le_pow_left (by omega) _
      have b : 4 ^ (j + 1) ≤ 4 ^ 4 := Nat.pow_le_pow_right (by decide) (by omega)
      omega
    simp [hc]
    rw [compLoop2_map lotD (f := fun r => (rg 0 s).map fun w => lotD (r ++ [w]))]
    · have e : (rowsN s j).flatMap (fun r => (rg 0 s).map fun w => lotD (r ++ [w])) = (rowsN s (j + 1)).map lotD := by
        rw [rowsN, List.map_flatMap]
        congr 1
        funext r
        rw [List.map_map]
        rfl
      rw [e]
      simp only [List.length_map] at hle
      simp [hle]
    · intro r hr'
      have hl := (rowsN_mem hr').1
      have hl2 : r.length + 1 ≤ 16777216 := by omega
      simp [turnC2, hr, lotD]
      rw [compLoop_ints (f := fun w => lotD (r ++ [w]))]
      · simp [lotD]
      · intro w _
        simp [hl2, lotD]
  · obtain ⟨c, rfl, hc⟩ := hJ
    simp
    rw [compLoop_pick (p := fun r => !hasN (tk s r)) (f := lotD)]
    · simp
    · intro r hr'
      obtain ⟨a, b⟩ := rowsN_mem hr'
      have t := sp_raw_taken (s := s) (ws := r) ⟨by omega, by omega, fun w hw => by have := b w hw; omega, by omega⟩
      cases e : hasN (tk s r) <;> simp [lotD, t, nin_t, e]
end Ccrabs

namespace Ccrabs
open PySem PySem.Spec PyProof.Rows L2 DP Cbasics
/-! ### the fact of crabs: all are housed, or there is a shell that too many wish -/
theorem nodup_sub {α : Type} [DecidableEq α] : ∀ {l m : List α}, l.Nodup → (∀ x ∈ l, x ∈ m) → l.length ≤ m.length
  | [], _, _, _ => Nat.zero_le _
  | x :: l, m, h, s => by
    obtain ⟨h1, h2⟩ := List.nodup_cons.mp h
    have hx := s x List.mem_cons_self
    have ih := nodup_sub (m := m.erase x) h2 fun y hy => (List.mem_erase_of_ne (fun z => h1 (by rw [← z]; exact hy))).mpr (s y (List.mem_cons_of_mem _ hy))
    rw [List.length_erase_of_mem hx] at ih
    have : 0 < m.length := List.length_pos_of_mem hx
    rw [List.length_cons]
    omega
theorem rg_pw (a b : Int) : (rg a b).Pairwise (· < ·) := by
  unfold rg
  rw [List.pairwise_map]
  exact List.pairwise_lt_range.imp fun h => by omega
theorem rg_nd (a b : Int) : (rg a b).Nodup := (rg_pw a b).imp fun h => by omega
def cg (F : List (Option Int)) (i : Int) : Nat := ((F.filterMap id).filter fun x => decide (i ≤ x)).length
def cw (ws : List Int) (i : Int) : Nat := (ws.filter fun w => decide (i ≤ w)).length
theorem cw_snoc (ws : List Int) (w i : Int) : cw (ws ++ [w]) i = cw ws i + (if i ≤ w then 1 else 0) := by
  unfold cw
  rw [List.filter_append, List.length_append]
  by_cases h : i ≤ w <;> simp [h]
theorem cg_some (F : List (Option Int)) (x i : Int) : cg (F ++ [some x]) i = cg F i + (if i ≤ x then 1 else 0) := by
  unfold cg
  rw [List.filterMap_append, List.filter_append, List.length_append]
  by_cases h : i ≤ x <;> simp [h]
theorem cg_none (F : List (Option Int)) (i : Int) : cg (F ++ [none]) i = cg F i := by
  unfold cg
  rw [List.filterMap_append, List.filter_append, List.length_append]
  simp
structure PI (s : Int) (vs : List Int) (F : List (Option Int)) : Prop where
  nd : (F.filterMap id).Nodup
  rgn : ∀ x, some x ∈ F → 0 ≤ x ∧ x < s
  J : ∀ i, 0 ≤ i → (i = 0 ∨ some (i - 1) ∉ F) → cg F i ≤ cw vs i
  L : none ∉ F → ∀ i, cw vs i ≤ cg F i
  over : none ∈ F → ∃ i, 0 ≤ i ∧ i < s ∧ s - i < (cw vs i : Int)
theorem hasI_iff {F : List (Option Int)} {i : Int} : hasI F i = true ↔ some i ∈ F := by unfold hasI; simp
theorem nxt_some {s w x : Int} {F : List (Option Int)} (h : nxt s F w = some x) : w ≤ x ∧ x < s ∧ some x ∉ F ∧ ∀ y, w ≤ y → y < x → some y ∈ F := by
  unfold nxt at h
  rw [List.head?_filter, List.find?_eq_some_iff_append] at h
  obtain ⟨h1, as, bs, e, h2⟩ := h
  have hm : x ∈ rg w s := by rw [e]; simp
  obtain ⟨a, b⟩ := mem_rg.mp hm
  refine ⟨a, b, fun z => ?_, fun y hy1 hy2 => ?_⟩
  · rw [hasI_iff.mpr z] at h1; cases h1
  · have hy : y ∈ rg w s := mem_rg.mpr ⟨hy1, by omega⟩
    have pw := rg_pw w s
    rw [e] at hy pw
    rcases List.mem_append.mp hy with hy | hy
    · have := h2 y hy
      rw [Bool.not_not] at this
      exact hasI_iff.mp this
    · rcases List.mem_cons.mp hy with hy | hy
      · omega
      · have := (List.pairwise_cons.mp (List.pairwise_append.mp pw).2.1).1 y hy
        omega
theorem nxt_none {s w : Int} {F : List (Option Int)} (h : nxt s F w = none) : ∀ y, w ≤ y → y < s → some y ∈ F := by
  intro y h1 h2
  unfold nxt at h
  rw [List.head?_eq_none_iff, List.filter_eq_nil_iff] at h
  have := h y (mem_rg.mpr ⟨h1, h2⟩)
  by_cases hh : hasI F y = true
  · exact hasI_iff.mp hh
  · simp [hh] at this
theorem low_of {s : Int} {F : List (Option Int)} : ∀ n : Nat, (∀ y : Int, (n : Int) ≤ y → y < s → some y ∈ F) → ∃ i : Nat, i ≤ n ∧ (∀ y : Int, (i : Int) ≤ y → y < s → some y ∈ F) ∧ ((i : Int) = 0 ∨ some ((i : Int) - 1) ∉ F)
  | 0, h => ⟨0, Nat.le_refl _, h, .inl rfl⟩
  | n + 1, h => by
    by_cases hn : some (n : Int) ∈ F
    · obtain ⟨i, h1, h2, h3⟩ := low_of n fun y a b => by
        by_cases hy : y = n
        · rw [hy]; exact hn
        · exact h y (by omega) b
      exact ⟨i, by omega, h2, h3⟩
    · exact ⟨n + 1, Nat.le_refl _, h, .inr (by rw [show ((n + 1 : Nat) : Int) - 1 = n from by omega]; exact hn)⟩
theorem mem_fm {F : List (Option Int)} {x : Int} : x ∈ F.filterMap id ↔ some x ∈ F := by
  rw [List.mem_filterMap]
  exact ⟨fun ⟨o, h1, h2⟩ => by rw [← show o = some x from h2]; exact h1, fun h => ⟨some x, h, rfl⟩⟩
theorem PI.step {s w : Int} {vs : List Int} {F : List (Option Int)} (p : PI s vs F) (h0 : 0 ≤ w) (h1 : w < s) : PI s (vs ++ [w]) (tk1 s F w) := by
  unfold tk1
  cases e : nxt s F w with
  | some x =>
    obtain ⟨a1, a2, a3, a4⟩ := nxt_some e
    refine ⟨?_, fun y hy => ?_, fun i hi hc => ?_, fun hn i => ?_, fun hn => ?_⟩
    · rw [List.filterMap_append, List.nodup_append]
      refine ⟨p.nd, by simp, fun y hy z hz => ?_⟩
      have hz : z = x := by simpa using hz
      rw [hz]
      intro q
      exact a3 (mem_fm.mp (q ▸ hy))
    · rcases List.mem_append.mp hy with hy | hy
      · exact p.rgn y hy
      · have : y = x := by simpa using hy
        omega
    · have hF : i = 0 ∨ some (i - 1) ∉ F := hc.imp id fun z q => z (List.mem_append_left _ q)
      have := p.J i hi hF
      rw [cg_some, cw_snoc]
      by_cases c1 : i ≤ x
      · by_cases c2 : i ≤ w
        · rw [if_pos c1, if_pos c2]; omega
        · exfalso
          rcases hF with z | z
          · omega
          · exact z (a4 (i - 1) (by omega) (by omega))
      · rw [if_neg c1]; omega
    · have := p.L (fun z => hn (List.mem_append_left _ z)) i
      rw [cg_some, cw_snoc]
      by_cases c2 : i ≤ w
      · rw [if_pos c2, if_pos (by omega)]; omega
      · rw [if_neg c2]; omega
    · have : none ∈ F := by simpa using hn
      obtain ⟨i, b1, b2, b3⟩ := p.over this
      refine ⟨i, b1, b2, ?_⟩
      rw [cw_snoc]
      omega
  | none =>
    have a := nxt_none e
    refine ⟨?_, fun y hy => ?_, fun i hi hc => ?_, fun hn i => ?_, fun hn => ?_⟩
    · rw [List.filterMap_append]
      simpa using p.nd
    · exact p.rgn y (by simpa using hy)
    · have hF : i = 0 ∨ some (i - 1) ∉ F := hc.imp id fun z q => z (List.mem_append_left _ q)
      have := p.J i hi hF
      rw [cg_none, cw_snoc]
      omega
    · exact absurd (List.mem_append_right _ (by simp)) hn
    · obtain ⟨i, b1, b2, b3⟩ := low_of (s := s) (F := F) w.toNat fun y c1 c2 => a y (by omega) c2
      have hJ := p.J i (by omega) b3
      have hl : (rg i s).length ≤ cg F i := nodup_sub (rg_nd _ _) fun y hy => by
        obtain ⟨c1, c2⟩ := mem_rg.mp hy
        exact List.mem_filter.mpr ⟨mem_fm.mpr (b2 y c1 c2), by simpa using c1⟩
      rw [rg_len] at hl
      refine ⟨i, by omega, by omega, ?_⟩
      rw [cw_snoc, if_pos (by omega)]
      omega
theorem pi_all {s : Int} : ∀ (ws vs : List Int) (F : List (Option Int)), PI s vs F → (∀ w ∈ ws, 0 ≤ w ∧ w < s) → PI s (vs ++ ws) (ws.foldl (tk1 s) F)
  | [], vs, F, p, _ => by rw [List.append_nil]; exact p
  | w :: r, vs, F, p, h => by
    obtain ⟨h1, h2⟩ := h w List.mem_cons_self
    have q := pi_all r (vs ++ [w]) (tk1 s F w) (p.step h1 h2) fun x hx => h x (List.mem_cons_of_mem _ hx)
    rw [List.append_assoc] at q
    exact q
theorem pi_tk {s : Int} {ws : List Int} (h : Wi s ws) : PI s ws (tk s ws) := by
  have p0 : PI s [] [] := ⟨List.nodup_nil, fun x z => (by cases z), fun i _ _ => Nat.le_refl _, fun _ i => Nat.le_refl _, fun z => (by cases z)⟩
  exact pi_all ws [] [] p0 h.w
theorem hasN_iff {F : List (Option Int)} : hasN F = true ↔ none ∈ F := by unfold hasN; simp
theorem ov_iff {s i : Int} {ws : List Int} : ov s ws i = true ↔ s - i < (cw ws i : Int) := by unfold ov cw; simp
/-- not all are housed: there is a shell that too many wish -/
theorem frs_ne {s : Int} {ws : List Int} (h : Wi s ws) (hn : hasN (tk s ws) = true) : frs s ws ≠ [] := by
  obtain ⟨i, a, b, c⟩ := (pi_tk h).over (hasN_iff.mp hn)
  intro z
  unfold frs at z
  rw [List.filter_eq_nil_iff] at z
  exact z i (mem_rg.mpr ⟨a, b⟩) (ov_iff.mpr c)
/-- all are housed: there is none -/
theorem ov_no {s : Int} {ws : List Int} (h : Wi s ws) (hn : hasN (tk s ws) = false) {i : Int} (h0 : 0 ≤ i) (h1 : i < s) : ov s ws i = false := by
  have p := pi_tk h
  have nn : none ∉ tk s ws := fun z => by rw [hasN_iff.mpr z] at hn; cases hn
  have a := p.L nn i
  have b : cg (tk s ws) i ≤ (rg i s).length := by
    refine nodup_sub (p.nd.filter _) fun y hy => ?_
    obtain ⟨y1, y2⟩ := List.mem_filter.mp hy
    have := p.rgn y (mem_fm.mp y1)
    exact mem_rg.mpr ⟨by simpa using y2, this.2⟩
  rw [rg_len] at b
  rw [Bool.eq_false_iff]
  intro z
  have := ov_iff.mp z
  omega
end Ccrabs

namespace L75
open PySem PySem.Spec PyProof.Rows L2 DP
/-- what a hand is: cells, the place in them, what is left of a big one, the state, the count -/
def Hd (h : List D) : Prop := ∃ (cs : List Int) (p b s c : Int), h = [.list (cs.map PyData.int), .int p, .int b, .int s, .int c] ∧ 0 ≤ p
/-- an answer that is a number below m, and a hand -/
def Drw (m : Int) (r : R (D × List D)) : Prop := ∃ (d : Int) (h : List D), r = .ok (.int d, h) ∧ 0 ≤ d ∧ d < m ∧ Hd h
theorem Drw.mk {m : Int} (d : Int) (cs : List Int) (p b s c : Int) (h1 : 0 ≤ d) (h2 : d < m) (h3 : 0 ≤ p) : Drw m (.ok (.int d, [.list (cs.map PyData.int), .int p, .int b, .int s, .int c])) := ⟨d, _, rfl, h1, h2, cs, p, b, s, c, rfl, h3⟩
theorem Drw.mod {m : Int} (hm : 0 < m) (x : Int) (cs : List Int) (p b s c : Int) (h3 : 0 ≤ p) : Drw m (.ok (.int (x % m), [.list (cs.map PyData.int), .int p, .int b, .int s, .int c])) :=
  .mk _ cs p b s c (Int.emod_nonneg _ (Int.ne_of_gt hm)) (Int.emod_lt_of_pos _ hm) h3
theorem sp_draw {h : List D} (hh : Hd h) (m : Int) (hm : 0 < m) (hm2 : m < 1073741824) : Drw m (g__law_draw.sem [.list h, .int m]) := by
  obtain ⟨cs, p, b, s, c, rfl, hp⟩ := hh
  rw [sem__law_draw]
  by_cases hb : b = 0
  · by_cases hl : p < cs.length
    · obtain ⟨z, hz⟩ : ∃ z, cs[p.toNat]? = some z := ⟨cs[p.toNat]'(by omega), List.getElem?_eq_getElem (by omega)⟩
      have ha : atI (cs.map PyData.int) p = some (.int z) := by
        have e := atI_n (cs.map PyData.int) p.toNat
        rw [Int.toNat_of_nonneg hp, List.getElem?_map, hz] at e
        exact e
      by_cases hz1 : 1000000000000000000 ≤ z
      · have hz2 : 0 < z := by omega
        simp [b__law_draw, slotsB, hm, hm2, hb, hl, ha, hz1, hz2]
        exact .mod hm _ _ _ _ _ _ (by omega)
      · simp [b__law_draw, slotsB, hm, hm2, hb, hl, ha, hz1]
        exact .mod hm _ _ _ _ _ _ (by omega)
    · simp [b__law_draw, slotsB, hm, hm2, hb, hl]
      exact .mod hm _ _ _ _ _ _ hp
  · by_cases hb2 : 0 < b
    · simp [b__law_draw, slotsB, hm, hm2, hb, hb2]
      exact .mod hm _ _ _ _ _ _ hp
    · simp [b__law_draw, slotsB, hm, hm2, hb, hb2]
      exact .mod hm _ _ _ _ _ _ hp
/-- one of some things -/
theorem sp_some {h : List D} (hh : Hd h) (xs : List D) (h0 : 0 < xs.length) (h1 : xs.length < 1000000) : ∃ x h', g__law_some.sem [.list h, .list xs] = .ok (x, h') ∧ x ∈ xs ∧ Hd h' := by
  rw [sem__law_some]
  obtain ⟨d, h', e, d0, d1, hh'⟩ := sp_draw hh (xs.length : Int) (by omega) (by omega)
  obtain ⟨x, hx⟩ : ∃ x, xs[d.toNat]? = some x := ⟨xs[d.toNat]'(by omega), List.getElem?_eq_getElem (by omega)⟩
  have ha : atI xs d = some x := by
    have e := atI_n xs d.toNat
    rw [Int.toNat_of_nonneg d0, hx] at e
    exact e
  refine ⟨x, h', ?_, List.mem_of_getElem? hx, hh'⟩
  simp [b__law_some, slotsB, e, ha]
theorem sp_hand (ns : List Int) (h : ns.length ≤ 63) : ∃ h', g__law_hand.sem [.list (ns.map PyData.int)] = .ok (.list h', []) ∧ Hd h' := by
  rw [sem__law_hand]
  have e1 : slcD (.list (ns.map PyData.int)) none (some 63) = .ok (.list (ns.map PyData.int)) := by
    have e : DP.cutD (ns.map PyData.int) none (some 63) = ns.map PyData.int := by
      unfold DP.cutD
      rw [HT.sIx_none, show HT.sIx (ns.map PyData.int).length (ns.map PyData.int).length (some 63) = min 63 (ns.map PyData.int).length from HT.sIx_nat _ _ 63]
      rw [List.drop_zero, List.take_of_length_le (by rw [List.length_map]; omega)]
    show R.ok (PyData.list (DP.cutD _ _ _)) = _
    rw [e]
  simp [b__law_hand, slots0, e1]
  rw [compLoop_ints (f := fun i : Int => PyData.int (if i < 0 then -i else i))]
  · simp

    exact ⟨ns.map (fun i : Int => if i < 0 then -i else i), 0, 0, _, 0, by rw [List.map_map]; rfl, by decide⟩
  · intro n hn
    simp
/-- deep things: one thing in a tuple, a list or a dict, over and over -/
inductive Deep : Nat → D → Prop
  | non : Deep 0 .none
  | zero : Deep 0 (.int 0)
  | a : Deep 0 (.str "a")
  | tup {n : Nat} {d : D} : Deep n d → Deep (n + 1) (.tuple [d])
  | lst {n : Nat} {d : D} : Deep n d → Deep (n + 1) (.list [d])
  | dic {n : Nat} {d : D} : Deep n d → Deep (n + 1) (.dict [(.int 0, d)])
theorem sp_deep {h : List D} (hh : Hd h) : ∃ (x : D) (h' : List D) (n : Nat), g__law_deep.sem [.list h] = .ok (x, h') ∧ Hd h' ∧ Deep n x ∧ 18 ≤ n ∧ n ≤ 35 := by
  rw [sem__law_deep]
  obtain ⟨x, h1, e1, hx, hh1⟩ := sp_some hh [.none, .int 0, .str "a"] (by decide) (by decide)
  obtain ⟨d, h2, e2, d0, d1, hh2⟩ := sp_draw hh1 18 (by decide) (by decide)
  obtain ⟨n, rfl⟩ : ∃ n : Nat, d = (n : Int) := ⟨d.toNat, by omega⟩
  have hx0 : Deep 0 x := by
    have hx : x = .none ∨ x = .int 0 ∨ x = .str "a" := by simpa using hx
    rcases hx with rfl | rfl | rfl
    · exact .non
    · exact .zero
    · exact .a
  have hr : ∀ ρ, rngC 0 (18 + (n : Int)) ρ = .ok ((List.range (18 + n)).map (fun (i : Nat) => PyData.int (i : Int)), ρ) := fun ρ => by
    rw [show (18 + (n : Int)) = ((18 + n : Nat) : Int) from by omega]
    exact rngC_nat _ ρ (by omega)
  simp [b__law_deep, slotsB, e1, e2, hr]
  suffices q : ∀ r, (∃ x h', finB r = .ok (x, h') ∧ Hd h' ∧ Deep (18 + n) x) → ∃ x h', finB r = .ok (x, h') ∧ Hd h' ∧ ∃ m, Deep m x ∧ 18 ≤ m ∧ m ≤ 35 by
    refine q _ ?_
    refine for_bind (P := fun r => ∃ x h', finB r = .ok (x, h') ∧ Hd h' ∧ Deep (18 + n) x) (fun j ρ => ∃ h t c, ρ = [Cell.own true h, .dat t, c] ∧ Hd h ∧ freeC (some c) = true ∧ Deep j t) ⟨h2, x, .un, rfl, hh2, rfl, hx0⟩ (fun j d hd ρ hJ => ?_) (fun ρ hJ => ?_)
    · obtain ⟨h, t, c, rfl, hh, hc, ht⟩ := hJ
      obtain ⟨y, h3, e3, hy, hh3⟩ := sp_some hh [.tuple [t], .list [t], .dict [(.int 0, t)]] (by simp) (by simp)
      have hy : y = .tuple [t] ∨ y = .list [t] ∨ y = .dict [(.int 0, t)] := by simpa using hy
      refine ⟨[Cell.own true h3, .dat y, .dat d], .inl ?_, h3, y, .dat d, rfl, hh3, rfl, ?_⟩
      · simp [hc, e3]
      · rcases hy with rfl | rfl | rfl
        · exact .tup ht
        · exact .lst ht
        · exact .dic ht
    · obtain ⟨h, t, c, rfl, hh, hc, ht⟩ := hJ
      simp
      exact ⟨_, _, ⟨rfl, rfl⟩, hh, by simpa using ht⟩
  exact fun r ⟨x, h', e, hh, hd⟩ => ⟨x, h', e, hh, _, hd, by omega, by omega⟩
end L75

/-! DP: what repr shows tells the data apart. -/
namespace DP
open PySem PySem.Spec PyProof.Rows L2
def cs (x : Str) : List Nat := x.cps.toList
theorem cs_app (x y : Str) : cs (x ++ y) = cs x ++ cs y := by
  show (x.cps ++ y.cps).toList = _
  rw [Array.toList_append]
  rfl
theorem cs_inj {x y : Str} (h : cs x = cs y) : x = y := by
  obtain ⟨a⟩ := x
  obtain ⟨b⟩ := y
  exact congrArg Str.mk (Array.toList_inj.mp h)
/-- behind the first of some texts -/
def tl (e : List Nat) : List (List Nat) → List Nat
  | [] => e
  | y :: r => 44 :: 32 :: (y ++ tl e r)
theorem tl_app (e a : List Nat) : ∀ l : List (List Nat), tl e l ++ a = tl (e ++ a) l
  | [] => rfl
  | y :: r => by
    show 44 :: 32 :: ((y ++ tl e r) ++ a) = 44 :: 32 :: (y ++ tl (e ++ a) r)
    rw [List.append_assoc, tl_app e a r]
theorem cs_join : ∀ (t : Str) (r : List Str), cs (Str.join ", " (t :: r)) = cs t ++ tl [] (r.map cs)
  | t, [] => by
    show cs t = _
    exact (List.append_nil _).symm
  | t, u :: r => by
    show cs (t ++ (", " : Str) ++ Str.join ", " (u :: r)) = _
    rw [cs_app, cs_app, cs_join u r]
    show (cs t ++ [44, 32]) ++ _ = _
    rw [List.append_assoc]
    rfl
theorem cs_from : ∀ (ts : List Str) (k : Nat) (acc : Str), cs (textFrom (k + 1) acc ts) = cs acc ++ tl [] (ts.map cs)
  | [], k, acc => (List.append_nil _).symm
  | t :: r, k, acc => by
    show cs (textFrom (k + 1 + 1) (acc ++ (if k + 1 > 0 then ", " else "" : String) ++ t) r) = _
    rw [cs_from r (k + 1), cs_app, cs_app, if_pos (Nat.succ_pos k)]
    show ((cs acc ++ [44, 32]) ++ cs t) ++ _ = cs acc ++ (44 :: 32 :: (cs t ++ tl [] (r.map cs)))
    simp
theorem cs_list : ∀ ts : List Str, cs (listText ts) = 91 :: (match ts.map cs with
    | [] => [93]
    | t :: r => t ++ tl [93] r)
  | [] => rfl
  | t :: r => by
    show cs (textFrom (0 + 1) (("[" : String) ++ (if 0 > 0 then ", " else "" : String) ++ t) r ++ "]") = _
    rw [cs_app, cs_from, cs_app, cs_app]
    show ((([91] ++ cs (Str.ofString (if (0 : Nat) > 0 then ", " else ""))) ++ cs t) ++ tl [] (r.map cs)) ++ [93] = 91 :: (cs t ++ tl [93] (r.map cs))
    rw [if_neg (by decide), List.append_assoc, tl_app]
    rfl
theorem cs_tup : ∀ ts : List Str, cs (tupleText ts) = 40 :: (match ts.map cs with
    | [] => [41]
    | [t] => t ++ [44, 41]
    | t :: u :: r => t ++ tl [41] (u :: r))
  | [] => rfl
  | [t] => by
    show cs (("(" : Str) ++ Str.join ", " [t] ++ (if ([t] : List Str).length == 1 then ",)" else ")" : String)) = _
    rw [cs_app, cs_app, cs_join]
    show ([40] ++ (cs t ++ [])) ++ [44, 41] = 40 :: (cs t ++ [44, 41])
    simp
  | t :: u :: r => by
    show cs (("(" : Str) ++ Str.join ", " (t :: u :: r) ++ (if (t :: u :: r : List Str).length == 1 then ",)" else ")" : String)) = _
    rw [cs_app, cs_app, cs_join]
    have e : ((t :: u :: r : List Str).length == 1) = false := rfl
    rw [e]
    show ([40] ++ (cs t ++ tl [] ((u :: r).map cs))) ++ [41] = 40 :: (cs t ++ tl [41] ((u :: r).map cs))
    rw [List.append_assoc, List.append_assoc, tl_app]
    rfl
/-- what may stand behind a thing -/
def Stop (a : List Nat) : Prop := a = [] ∨ ∃ c r, a = c :: r ∧ (c = 44 ∨ c = 41 ∨ c = 93 ∨ c = 125 ∨ c = 58)
theorem Stop.tl {e : List Nat} (h : Stop e) : ∀ l : List (List Nat), Stop (tl e l)
  | [] => h
  | y :: r => .inr ⟨44, _, rfl, .inl rfl⟩
theorem stop44 (r : List Nat) : Stop (44 :: r) := .inr ⟨44, r, rfl, .inl rfl⟩
theorem stop41 (r : List Nat) : Stop (41 :: r) := .inr ⟨41, r, rfl, .inr (.inl rfl)⟩
theorem stop93 (r : List Nat) : Stop (93 :: r) := .inr ⟨93, r, rfl, .inr (.inr (.inl rfl))⟩
/-! numbers -/
def dg (n : Nat) : List Nat := (Nat.toDigits 10 n).map Char.toNat
theorem dg_isD {n c : Nat} (h : c ∈ dg n) : 48 ≤ c ∧ c ≤ 57 := by
  obtain ⟨x, hx, rfl⟩ := List.mem_map.mp h
  have := Nat.isDigit_of_mem_toDigits (by decide) (by decide) hx
  unfold Char.isDigit at this
  simp only [Bool.and_eq_true, decide_eq_true_eq] at this
  obtain ⟨h1, h2⟩ := this
  exact ⟨h1, h2⟩
theorem dg_inj0 {n m : Nat} (h : dg n = dg m) : n = m := by
  have h2 : Nat.toDigits 10 n = Nat.toDigits 10 m := by
    unfold dg at h
    refine List.map_inj_right (f := Char.toNat) (fun x y e => ?_) |>.mp h
    exact Char.toNat_inj.mp e
  have a := Nat.ofDigitChars_toDigits (b := 10) (n := n) (by decide) (by decide)
  have b := Nat.ofDigitChars_toDigits (b := 10) (n := m) (by decide) (by decide)
  rw [h2, b] at a
  exact a.symm
theorem dg_ne (n : Nat) : dg n ≠ [] := by
  intro h
  by_cases h0 : n = 0
  · subst h0; cases h
  · have h2 : Nat.toDigits 10 n = [] := by
      unfold dg at h
      exact List.map_eq_nil_iff.mp h
    have a := Nat.ofDigitChars_toDigits (b := 10) (n := n) (by decide) (by decide)
    rw [h2] at a
    exact h0 a.symm
theorem dg_inj {n m : Nat} (h : dg n = dg m) : n = m := by
  have h2 : Nat.toDigits 10 n = Nat.toDigits 10 m := by
    unfold dg at h
    refine List.map_inj_right (f := Char.toNat) (fun x y e => ?_) |>.mp h
    exact Char.toNat_inj.mp e
  have a := Nat.ofDigitChars_toDigits (b := 10) (n := n) (by decide) (by decide)
  have b := Nat.ofDigitChars_toDigits (b := 10) (n := m) (by decide) (by decide)
  rw [h2, b] at a
  exact a.symm
theorem cs_of (s : String) : cs (Str.ofString s) = s.toList.map Char.toNat := by
  unfold cs
  rw [Str.ofString_eq_toList]
theorem cs_int (i : Int) : cs (PyData.shown (.int i)) = if 0 ≤ i then dg i.toNat else 45 :: dg (-i).toNat := by
  rw [PyData.shown, cs_of]
  cases i with
  | ofNat n =>
    rw [if_pos (show 0 ≤ Int.ofNat n from Int.natCast_nonneg n)]
    show (Nat.repr n).toList.map Char.toNat = _
    simp [dg, Nat.repr]
  | negSucc n =>
    rw [if_neg (by omega)]
    show ("-" ++ Nat.repr (n + 1)).toList.map Char.toNat = 45 :: dg (n + 1)
    simp [dg, Nat.repr]
theorem span_dg : ∀ {l m a b : List Nat}, (∀ c ∈ l, 48 ≤ c ∧ c ≤ 57) → (∀ c ∈ m, 48 ≤ c ∧ c ≤ 57) → Stop a → Stop b → l ++ a = m ++ b → l = m ∧ a = b
  | [], [], a, b, _, _, _, _, h => ⟨rfl, h⟩
  | x :: l, [], a, b, hl, _, _, hb, h => by
    exfalso
    have h : x :: (l ++ a) = b := h
    have hx := hl x List.mem_cons_self
    rcases hb with rfl | ⟨c, r, rfl, hc⟩
    · cases h
    · have := (List.cons.inj h).1
      omega
  | [], y :: m, a, b, _, hm, ha, _, h => by
    exfalso
    have h : a = y :: (m ++ b) := h
    have hx := hm y List.mem_cons_self
    rcases ha with rfl | ⟨c, r, rfl, hc⟩
    · cases h
    · have := (List.cons.inj h).1
      omega
  | x :: l, y :: m, a, b, hl, hm, ha, hb, h => by
    obtain ⟨h1, h2⟩ := List.cons.inj (show x :: (l ++ a) = y :: (m ++ b) from h)
    obtain ⟨h3, h4⟩ := span_dg (fun c hc => hl c (List.mem_cons_of_mem _ hc)) (fun c hc => hm c (List.mem_cons_of_mem _ hc)) ha hb h2
    exact ⟨by rw [h1, h3], h4⟩
/-! texts -/
/-- letters alone -/
def plainS (x : Str) : Bool := (cs x).all fun c => decide (63 ≤ c ∧ c ≤ 122 ∧ c ≠ 92)
theorem repr_char {c : Nat} (h : 63 ≤ c ∧ c ≤ 122 ∧ c ≠ 92) (q : Nat) (hq : q = 39) : Builtin.Str.reprChar q c = [c] := by
  subst hq
  obtain ⟨h1, h2, h3⟩ := h
  have : c ∈ (List.range 123).filter fun c => decide (63 ≤ c ∧ c ≤ 122 ∧ c ≠ 92) := List.mem_filter.mpr ⟨List.mem_range.mpr (by omega), by simp; omega⟩
  have all : ∀ c ∈ (List.range 123).filter fun c => decide (63 ≤ c ∧ c ≤ 122 ∧ c ≠ 92), Builtin.Str.reprChar 39 c = [c] := by decide +kernel
  exact all c this
theorem cs_str {x : Str} (h : plainS x = true) : cs (PyData.shown (.str x)) = 39 :: (cs x ++ [39]) := by
  have hp : ∀ c ∈ x.cps.toList, 63 ≤ c ∧ c ≤ 122 ∧ c ≠ 92 := fun c hc => of_decide_eq_true (List.all_eq_true.mp h c hc)
  rw [PyData.shown]
  have n39 : x.cps.contains 39 = false := by
    rw [Bool.eq_false_iff]
    intro z
    rw [← Array.contains_toList, List.contains_iff_mem] at z
    have := hp 39 z
    omega
  have hq : reprQuote x = 39 := by
    unfold reprQuote
    rw [n39]
    rfl
  show ((x.cps.foldl (fun out c => out ++ (Builtin.Str.reprChar (reprQuote x) c).toArray) #[reprQuote x]).push (reprQuote x)).toList = _
  rw [hq, Array.toList_push, ← Array.foldl_toList]
  have key : ∀ (l : List Nat) (acc : Array Nat), (∀ c ∈ l, 63 ≤ c ∧ c ≤ 122 ∧ c ≠ 92) → (l.foldl (fun out c => out ++ (Builtin.Str.reprChar 39 c).toArray) acc).toList = acc.toList ++ l := by
    intro l
    induction l with
    | nil => intro acc _; simp
    | cons c r ih =>
      intro acc hl
      rw [List.foldl_cons, ih _ fun x hx => hl x (List.mem_cons_of_mem _ hx), repr_char (hl c List.mem_cons_self) 39 rfl]
      simp
  rw [key _ _ hp]
  rfl
theorem span_q : ∀ {l m a b : List Nat}, (∀ c ∈ l, c ≠ 39) → (∀ c ∈ m, c ≠ 39) → l ++ 39 :: a = m ++ 39 :: b → l = m ∧ a = b
  | [], [], a, b, _, _, h => ⟨rfl, (List.cons.inj h).2⟩
  | x :: l, [], a, b, hl, _, h => absurd (List.cons.inj (show x :: (l ++ 39 :: a) = 39 :: b from h)).1 (hl x List.mem_cons_self)
  | [], y :: m, a, b, _, hm, h => absurd (List.cons.inj (show 39 :: a = y :: (m ++ 39 :: b) from h)).1.symm (hm y List.mem_cons_self)
  | x :: l, y :: m, a, b, hl, hm, h => by
    obtain ⟨h1, h2⟩ := List.cons.inj (show x :: (l ++ 39 :: a) = y :: (m ++ 39 :: b) from h)
    obtain ⟨h3, h4⟩ := span_q (fun c hc => hl c (List.mem_cons_of_mem _ hc)) (fun c hc => hm c (List.mem_cons_of_mem _ hc)) h2
    exact ⟨by rw [h1, h3], h4⟩
/-! the first sign tells the kind -/
def kindOf : D → Nat
  | .none => 0 | .bool _ => 1 | .int _ => 2 | .str _ => 3 | .list _ => 4 | .tuple _ => 5 | .dict _ => 6
def kindC (c : Nat) : Nat := if c = 78 then 0 else if c = 84 ∨ c = 70 then 1 else if c = 45 ∨ (48 ≤ c ∧ c ≤ 57) then 2 else if c = 39 ∨ c = 34 then 3 else if c = 91 then 4 else if c = 40 then 5 else if c = 123 then 6 else 7
theorem head_of (d : D) : ∃ c r, cs d.shown = c :: r ∧ kindC c = kindOf d := by
  cases d with
  | none => rw [PyData.shown]; exact ⟨78, _, rfl, rfl⟩
  | bool b => rw [PyData.shown]; cases b <;> exact ⟨_, _, rfl, rfl⟩
  | int i =>
    rw [cs_int]
    split
    · cases e : dg i.toNat with
      | nil => exact absurd e (dg_ne _)
      | cons c r =>
        refine ⟨c, r, rfl, ?_⟩
        have := dg_isD (n := i.toNat) (c := c) (by rw [e]; exact List.mem_cons_self)
        show kindC c = 2
        unfold kindC
        rw [if_neg (by omega), if_neg (by omega), if_pos (.inr this)]
    · exact ⟨_, _, rfl, rfl⟩
  | str x =>
    rw [PyData.shown]
    have : ∃ r, cs (reprText x) = reprQuote x :: r := by
      show ∃ r, ((x.cps.foldl (fun out c => out ++ (Builtin.Str.reprChar (reprQuote x) c).toArray) #[reprQuote x]).push (reprQuote x)).toList = _
      rw [Array.toList_push, ← Array.foldl_toList]
      have key : ∀ (q : Nat) (l : List Nat) (acc : Array Nat), ∃ r, (l.foldl (fun out c => out ++ (Builtin.Str.reprChar q c).toArray) acc).toList = acc.toList ++ r := by
        intro q l
        induction l with
        | nil => exact fun acc => ⟨[], by simp⟩
        | cons c r ih =>
          intro acc
          obtain ⟨r2, h2⟩ := ih (acc ++ (Builtin.Str.reprChar q c).toArray)
          exact ⟨Builtin.Str.reprChar q c ++ r2, by rw [List.foldl_cons, h2]; simp⟩
      obtain ⟨r, hr⟩ := key (reprQuote x) x.cps.toList #[reprQuote x]
      exact ⟨r ++ [reprQuote x], by rw [hr]; simp⟩
    obtain ⟨r, hr⟩ := this
    refine ⟨_, r, hr, ?_⟩
    unfold reprQuote
    split <;> rfl
  | list xs => rw [PyData.shown, cs_list]; exact ⟨91, _, rfl, rfl⟩
  | tuple xs => rw [PyData.shown, cs_tup]; exact ⟨40, _, rfl, rfl⟩
  | dict xs =>
    rw [PyData.shown]
    refine ⟨123, ?_, ?_, rfl⟩
    · exact cs (Str.join ", " (PyData.shownKv xs)) ++ [125]
    · show cs (("{" : Str) ++ Str.join ", " (PyData.shownKv xs) ++ ("}" : String)) = _
      rw [cs_app, cs_app]
      show ([123] ++ _) ++ [125] = _
      simp
theorem kind_eq {d e : D} {a b : List Nat} (h : cs d.shown ++ a = cs e.shown ++ b) : kindOf d = kindOf e := by
  obtain ⟨c, r, h1, h2⟩ := head_of d
  obtain ⟨c', r', h1', h2'⟩ := head_of e
  rw [h1, h1'] at h
  rw [← h2, ← h2', (List.cons.inj (show c :: (r ++ a) = c' :: (r' ++ b) from h)).1]
theorem no_head {d : D} {c : Nat} {r a : List Nat} (h : cs d.shown ++ a = c :: r) (hc : kindC c = 7) : False := by
  obtain ⟨c', r', h1, h2⟩ := head_of d
  rw [h1] at h
  have := (List.cons.inj (show c' :: (r' ++ a) = c :: r from h)).1
  rw [this, hc] at h2
  cases d <;> cases h2
mutual
/-- plain texts, numbers, None, True, False, tuples and lists of these -/
def goodD : D → Bool
  | .none | .bool _ | .int _ => true
  | .str x => plainS x
  | .list xs => goodA xs
  | .tuple xs => goodA xs
  | .dict _ => false
def goodA : List D → Bool
  | [] => true
  | d :: r => goodD d && goodA r
end
mutual
/-- the texts are plain where no dict is above them -/
def niceD : D → Bool
  | .str x => plainS x
  | .list xs => niceA xs
  | .tuple xs => niceA xs
  | .none | .bool _ | .int _ | .dict _ => true
def niceA : List D → Bool
  | [] => true
  | d :: r => niceD d && niceA r
end
abbrev shs (xs : List D) : List (List Nat) := (PyData.shownAll xs).map cs
theorem shs_cons (x : D) (r : List D) : shs (x :: r) = cs x.shown :: shs r := by
  show ((PyData.shownAll (x :: r)).map cs) = _
  rw [PyData.shownAll]
  rfl
theorem shs_nil : shs [] = [] := by
  show ((PyData.shownAll []).map cs) = _
  rw [PyData.shownAll]
  rfl
def bodyL : List (List Nat) → List Nat
  | [] => [93]
  | t :: r => t ++ tl [93] r
def bodyT : List (List Nat) → List Nat
  | [] => [41]
  | [t] => t ++ [44, 41]
  | t :: u :: r => t ++ tl [41] (u :: r)
theorem cs_lst (xs : List D) : cs (PyData.shown (.list xs)) = 91 :: bodyL (shs xs) := by
  rw [PyData.shown, cs_list]
  unfold shs bodyL
  cases (PyData.shownAll xs).map cs <;> rfl
theorem cs_tpl (xs : List D) : cs (PyData.shown (.tuple xs)) = 40 :: bodyT (shs xs) := by
  rw [PyData.shown, cs_tup]
  unfold shs bodyT
  rcases (PyData.shownAll xs).map cs with _ | ⟨t, _ | ⟨u, r⟩⟩ <;> rfl
/-- what repr shows tells the data apart -/
def Apart (e : D) : Prop := ∀ (d : D) (a b : List Nat), niceD d = true → cs d.shown ++ a = cs e.shown ++ b → Stop a → Stop b → d = e ∧ a = b
def ApartA (es : List D) : Prop := ∀ (c : Nat) (ds : List D) (a b : List Nat), kindC c = 7 → c ≠ 44 → niceA ds = true → tl (c :: a) (shs ds) = tl (c :: b) (shs es) → Stop (c :: a) → Stop (c :: b) → ds = es ∧ a = b
theorem tl_stop {c : Nat} {a : List Nat} (h : Stop (c :: a)) (l : List (List Nat)) : Stop (tl (c :: a) l) := h.tl l
theorem apart_list {es : List D} (h1 : ∀ e ∈ es, Apart e) (h2 : ∀ e r, es = e :: r → ApartA r) : Apart (.list es) := by
  intro d a b nd h sa sb
  have hk := kind_eq h
  cases d <;> first | (cases hk; done) | skip
  rename_i ds
  rw [cs_lst, cs_lst] at h
  have h := (List.cons.inj (show 91 :: (bodyL (shs ds) ++ a) = 91 :: (bodyL (shs es) ++ b) from h)).2
  rw [niceD] at nd
  cases ds with
  | nil =>
    cases es with
    | nil =>
      rw [shs_nil] at h
      exact ⟨rfl, (List.cons.inj h).2⟩
    | cons e r =>
      exfalso
      rw [shs_nil, shs_cons] at h
      have h : 93 :: a = (cs e.shown ++ tl [93] (shs r)) ++ b := h
      rw [List.append_assoc] at h
      exact no_head h.symm (by decide)
  | cons x t =>
    cases es with
    | nil =>
      exfalso
      rw [shs_nil, shs_cons] at h
      have h : (cs x.shown ++ tl [93] (shs t)) ++ a = 93 :: b := h
      rw [List.append_assoc] at h
      exact no_head h (by decide)
    | cons e r =>
      rw [shs_cons, shs_cons] at h
      have h : (cs x.shown ++ tl [93] (shs t)) ++ a = (cs e.shown ++ tl [93] (shs r)) ++ b := h
      rw [List.append_assoc, List.append_assoc, tl_app, tl_app] at h
      obtain ⟨n1, n2⟩ := band (show (niceD x && niceA t) = true by rw [niceA] at nd; exact nd)
      obtain ⟨e1, e2⟩ := h1 e List.mem_cons_self x _ _ n1 h (tl_stop (stop93 _) _) (tl_stop (stop93 _) _)
      obtain ⟨e3, e4⟩ := h2 e r rfl 93 t a b (by decide) (by decide) n2 e2 (stop93 _) (stop93 _)
      exact ⟨by rw [e1, e3], e4⟩
theorem apart_tup {es : List D} (h1 : ∀ e ∈ es, Apart e) (h2 : ∀ e r, es = e :: r → ApartA r) : Apart (.tuple es) := by
  intro d a b nd h sa sb
  have hk := kind_eq h
  cases d <;> first | (cases hk; done) | skip
  rename_i ds
  rw [cs_tpl, cs_tpl] at h
  have h := (List.cons.inj (show 40 :: (bodyT (shs ds) ++ a) = 40 :: (bodyT (shs es) ++ b) from h)).2
  rw [niceD] at nd
  -- a tuple's body, item by item
  have body : ∀ (x : D) (t : List D) (a : List Nat), ∃ z, bodyT (shs (x :: t)) ++ a = cs x.shown ++ 44 :: z ∧ ((t = [] ∧ z = 41 :: a) ∨ (∃ y u, t = y :: u ∧ 44 :: z = tl (41 :: a) (shs t) ∧ z = 32 :: (cs y.shown ++ tl (41 :: a) (shs u)))) := by
    intro x t a
    rw [shs_cons]
    cases t with
    | nil =>
      rw [shs_nil]
      exact ⟨41 :: a, by show (cs x.shown ++ [44, 41]) ++ a = _; rw [List.append_assoc]; rfl, .inl ⟨rfl, rfl⟩⟩
    | cons y u =>
      rw [shs_cons]
      refine ⟨_, ?_, .inr ⟨y, u, rfl, rfl, rfl⟩⟩
      show (cs x.shown ++ tl [41] (cs y.shown :: shs u)) ++ a = _
      rw [List.append_assoc, tl_app]
      rfl
  cases ds with
  | nil =>
    cases es with
    | nil =>
      rw [shs_nil] at h
      exact ⟨rfl, (List.cons.inj h).2⟩
    | cons e r =>
      exfalso
      obtain ⟨z, hz, _⟩ := body e r b
      rw [hz, shs_nil] at h
      exact no_head (h.symm : _ = 41 :: a) (by decide)
  | cons x t =>
    obtain ⟨z, hz, cz⟩ := body x t a
    cases es with
    | nil =>
      exfalso
      rw [hz, shs_nil] at h
      exact no_head (h : _ = 41 :: b) (by decide)
    | cons e r =>
      obtain ⟨w, hw, cw⟩ := body e r b
      rw [hz, hw] at h
      obtain ⟨n1, n2⟩ := band (show (niceD x && niceA t) = true by rw [niceA] at nd; exact nd)
      obtain ⟨e1, e2⟩ := h1 e List.mem_cons_self x _ _ n1 h (stop44 _) (stop44 _)
      have e2 := (List.cons.inj e2).2
      rcases cz with ⟨rfl, rfl⟩ | ⟨y, u, rfl, gz, fz⟩ <;> rcases cw with ⟨rfl, rfl⟩ | ⟨y', u', rfl, gw, fw⟩
      · exact ⟨by rw [e1], (List.cons.inj e2).2⟩
      · rw [fw] at e2; exact absurd (List.cons.inj e2).1 (by decide)
      · rw [fz] at e2; exact absurd (List.cons.inj e2).1 (by decide)
      · obtain ⟨e3, e4⟩ := h2 e (y' :: u') rfl 41 (y :: u) a b (by decide) (by decide) n2 (by rw [← gz, ← gw, e2]) (stop41 _) (stop41 _)
        exact ⟨by rw [e1, e3], e4⟩
mutual
theorem apart : ∀ e : D, goodD e = true → Apart e
  | .none, _ => fun d a b nd h sa sb => by
    have hk := kind_eq h
    cases d <;> first | (cases hk; done) | skip
    exact ⟨rfl, List.append_cancel_left h⟩
  | .bool k, _ => fun d a b nd h sa sb => by
    have hk := kind_eq h
    cases d <;> first | (cases hk; done) | skip
    rename_i k2
    rw [PyData.shown, PyData.shown] at h
    cases k <;> cases k2
    · exact ⟨rfl, List.append_cancel_left h⟩
    · exact absurd (List.cons.inj (show 84 :: _ = 70 :: _ from h)).1 (by decide)
    · exact absurd (List.cons.inj (show 70 :: _ = 84 :: _ from h)).1 (by decide)
    · exact ⟨rfl, List.append_cancel_left h⟩
  | .int i, _ => fun d a b nd h sa sb => by
    have hk := kind_eq h
    cases d <;> first | (cases hk; done) | skip
    rename_i j
    rw [cs_int, cs_int] at h
    have bad : ∀ (n : Nat) (l : List Nat) (c d : List Nat), 45 :: l ++ c = dg n ++ d → False := fun n l c d h => by
      cases e : dg n with
      | nil => exact dg_ne _ e
      | cons x r =>
        rw [e] at h
        have := dg_isD (n := n) (c := x) (by rw [e]; exact List.mem_cons_self)
        have := (List.cons.inj (show 45 :: (l ++ c) = x :: (r ++ d) from h)).1
        omega
    by_cases hi : 0 ≤ i <;> by_cases hj : 0 ≤ j
    · rw [if_pos hi, if_pos hj] at h
      obtain ⟨e1, e2⟩ := span_dg (fun c hc => dg_isD hc) (fun c hc => dg_isD hc) sa sb h
      have := dg_inj e1
      exact ⟨by congr 1; omega, e2⟩
    · rw [if_pos hi, if_neg hj] at h
      exact (bad _ _ _ _ h).elim
    · rw [if_neg hi, if_pos hj] at h
      exact (bad _ _ _ _ h.symm).elim
    · rw [if_neg hi, if_neg hj] at h
      obtain ⟨e1, e2⟩ := span_dg (fun c hc => dg_isD hc) (fun c hc => dg_isD hc) sa sb (List.cons.inj (show 45 :: (_ ++ a) = 45 :: (_ ++ b) from h)).2
      have := dg_inj e1
      exact ⟨by congr 1; omega, e2⟩
  | .str x, g => fun d a b nd h sa sb => by
    have hk := kind_eq h
    cases d <;> first | (cases hk; done) | skip
    rename_i y
    rw [niceD] at nd
    rw [goodD] at g
    rw [cs_str nd, cs_str g] at h
    have h := (List.cons.inj (show 39 :: ((cs y ++ [39]) ++ a) = 39 :: ((cs x ++ [39]) ++ b) from h)).2
    rw [List.append_assoc, List.append_assoc] at h
    have q : ∀ {z : Str}, plainS z = true → ∀ c ∈ cs z, c ≠ 39 := fun hz c hc => by
      have : 63 ≤ c ∧ c ≤ 122 ∧ c ≠ 92 := of_decide_eq_true (List.all_eq_true.mp hz c hc)
      omega
    obtain ⟨e1, e2⟩ := span_q (q nd) (q g) h
    exact ⟨by rw [cs_inj e1], e2⟩
  | .list es, g => by
    rw [goodD] at g
    exact apart_list (apartAll es g) fun e r z => apartA r (by subst z; rw [goodA] at g; exact (band g).2)
  | .tuple es, g => by
    rw [goodD] at g
    exact apart_tup (apartAll es g) fun e r z => apartA r (by subst z; rw [goodA] at g; exact (band g).2)
  | .dict _, g => by rw [goodD] at g; cases g
theorem apartAll : ∀ es : List D, goodA es = true → ∀ e ∈ es, Apart e
  | [], _, e, h => by cases h
  | x :: r, g, e, h => by
    rw [goodA] at g
    obtain ⟨g1, g2⟩ := band g
    by_cases hx : e = x
    · rw [hx]; exact apart x g1
    · exact apartAll r g2 e ((List.mem_cons.mp h).resolve_left hx)
theorem apartA : ∀ es : List D, goodA es = true → ApartA es
  | [], _ => fun c ds a b hc h44 nd h sa sb => by
    rw [shs_nil] at h
    cases ds with
    | nil => rw [shs_nil] at h; exact ⟨rfl, (List.cons.inj h).2⟩
    | cons y t =>
      rw [shs_cons] at h
      exact absurd (List.cons.inj (show 44 :: _ = c :: b from h)).1.symm h44
  | e :: r, g => fun c ds a b hc h44 nd h sa sb => by
    rw [goodA] at g
    obtain ⟨g1, g2⟩ := band g
    rw [shs_cons] at h
    cases ds with
    | nil =>
      rw [shs_nil] at h
      exact absurd (List.cons.inj (show c :: a = 44 :: _ from h)).1 h44
    | cons y t =>
      rw [shs_cons] at h
      obtain ⟨n1, n2⟩ := band (show (niceD y && niceA t) = true by rw [niceA] at nd; exact nd)
      have h := (List.cons.inj (List.cons.inj (show 44 :: 32 :: (cs y.shown ++ tl (c :: a) (shs t)) = 44 :: 32 :: (cs e.shown ++ tl (c :: b) (shs r)) from h)).2).2
      obtain ⟨e1, e2⟩ := apart e g1 y _ _ n1 h (tl_stop sa _) (tl_stop sb _)
      obtain ⟨e3, e4⟩ := apartA r g2 c t a b hc h44 n2 e2 sa sb
      exact ⟨by rw [e1, e3], e4⟩
end
theorem shown_inj {d e : D} (hd : niceD d = true) (he : goodD e = true) (h : d.shown = e.shown) : d = e :=
  (apart e he d [] [] hd (by rw [h]) (.inl rfl) (.inl rfl)).1
/-! ### what repr can show -/
mutual
/-- small numbers and short texts, whatever holds them -/
def smallD : D → Bool
  | .none | .bool _ => true
  | .int i => decide (i.natAbs < 10 ^ 30)
  | .str x => x.cps.toList.all fun c => decide (c < 128)
  | .list xs | .tuple xs => smallA xs
  | .dict kvs => smallK kvs
def smallA : List D → Bool
  | [] => true
  | d :: r => smallD d && smallA r
def smallK : List (D × D) → Bool
  | [] => true
  | (k, v) :: r => smallD k && smallD v && smallK r
end
theorem int_len {i : Int} (h : i.natAbs < 10 ^ 30) : (PyData.shown (.int i)).length ≤ 40 := by
  have e : (PyData.shown (.int i)).length = (cs (PyData.shown (.int i))).length := by
    show (PyData.shown (.int i)).cps.size = (PyData.shown (.int i)).cps.toList.length
    rw [Array.length_toList]
  rw [e, cs_int]
  have d : ∀ n : Nat, n < 10 ^ 30 → (dg n).length ≤ 30 := fun n hn => by
    unfold dg
    rw [List.length_map]
    exact (Nat.length_toDigits_le_iff (by decide) (by decide)).mpr hn
  split
  · exact Nat.le_trans (d _ (by omega)) (by decide)
  · exact Nat.le_trans (Nat.succ_le_succ (d _ (by omega))) (by decide)
mutual
theorem small_show : ∀ d : D, smallD d = true → d.showable = true ∧ d.leavesShort 40 = true
  | .none, _ => ⟨rfl, rfl⟩
  | .bool _, _ => ⟨rfl, rfl⟩
  | .int i, h => by
    rw [smallD, decide_eq_true_eq] at h
    refine ⟨?_, ?_⟩
    · rw [PyData.showable, decide_eq_true_eq]
      by_cases h0 : i.natAbs = 0
      · rw [h0]; decide
      · refine (Nat.log2_lt h0).mpr (Nat.lt_trans h ?_)
        decide +kernel
    · rw [PyData.leavesShort, decide_eq_true_eq]
      exact int_len h
  | .str x, h => by
    rw [smallD, List.all_eq_true] at h
    refine ⟨by rw [PyData.showable], ?_⟩
    rw [PyData.leavesShort, List.all_eq_true]
    intro c hc
    have := of_decide_eq_true (h c hc)
    exact decide_eq_true (Nat.lt_trans this (by decide))
  | .list xs, h => by
    rw [smallD] at h
    rw [PyData.showable, PyData.leavesShort]
    exact small_showA xs h
  | .tuple xs, h => by
    rw [smallD] at h
    rw [PyData.showable, PyData.leavesShort]
    exact small_showA xs h
  | .dict kvs, h => by
    rw [smallD] at h
    rw [PyData.showable, PyData.leavesShort]
    exact small_showK kvs h
theorem small_showA : ∀ xs : List D, smallA xs = true → PyData.showableAll xs = true ∧ PyData.leavesShortAll 40 xs = true
  | [], _ => ⟨by rw [PyData.showableAll], by rw [PyData.leavesShortAll]⟩
  | d :: r, h => by
    rw [smallA] at h
    obtain ⟨h1, h2⟩ := band h
    obtain ⟨a, b⟩ := small_show d h1
    obtain ⟨c, e⟩ := small_showA r h2
    rw [PyData.showableAll, PyData.leavesShortAll, a, b, c, e]
    exact ⟨rfl, rfl⟩
theorem small_showK : ∀ xs : List (D × D), smallK xs = true → PyData.showableKv xs = true ∧ PyData.leavesShortKv 40 xs = true
  | [], _ => ⟨by rw [PyData.showableKv], by rw [PyData.leavesShortKv]⟩
  | (k, v) :: r, h => by
    rw [smallK] at h
    obtain ⟨h, h3⟩ := band h
    obtain ⟨h1, h2⟩ := band h
    obtain ⟨a, b⟩ := small_show k h1
    obtain ⟨a2, b2⟩ := small_show v h2
    obtain ⟨c, e⟩ := small_showK r h3
    rw [PyData.showableKv, PyData.leavesShortKv, a, b, a2, b2, c, e]
    exact ⟨rfl, rfl⟩
end
theorem repOk_of {d : D} (h : smallD d = true) (hb : d.bulk ≤ 300000) (hd : d.depth ≤ 64) : repOk d = true := by
  obtain ⟨a, b⟩ := small_show d h
  have c := PyData.shown_le_bulk 40 (by decide) d b
  unfold repOk
  have e : d.shown.length ≤ sizeLine := by rw [sizeLine_is]; omega
  rw [a, decide_eq_true e, decide_eq_true hd]
  rfl
theorem small_ints {ns : List Int} (h : ∀ n ∈ ns, n.natAbs < 10 ^ 30) : smallA (ns.map PyData.int) = true := by
  induction ns with
  | nil => rfl
  | cons n r ih =>
    rw [List.map_cons, smallA, smallD, decide_eq_true (h n List.mem_cons_self), ih fun x hx => h x (List.mem_cons_of_mem _ hx)]
    rfl
theorem bulk_flat {ds : List D} (h : ∀ d ∈ ds, d.bulk = 0) : PyData.bulkAll ds = ds.length := by
  induction ds with
  | nil => rw [PyData.bulkAll]; rfl
  | cons d r ih =>
    rw [PyData.bulkAll, h d List.mem_cons_self, ih fun x hx => h x (List.mem_cons_of_mem _ hx), List.length_cons]
    omega
theorem depth_flat {ds : List D} (h : ∀ d ∈ ds, d.depth = 0) : PyData.depthAll ds = 0 := by
  induction ds with
  | nil => rw [PyData.depthAll]
  | cons d r ih =>
    rw [PyData.depthAll, h d List.mem_cons_self, ih fun x hx => h x (List.mem_cons_of_mem _ hx)]
    rfl
/-- a thing that repr can show, and tell from others: its bulk, its depth -/
structure Fit (d : D) (b k : Nat) : Prop where
  s : smallD d = true
  n : niceD d = true
  b : d.bulk ≤ b
  d : d.depth ≤ k
structure FitA (ds : List D) (b k : Nat) : Prop where
  s : smallA ds = true
  n : niceA ds = true
  b : PyData.bulkAll ds ≤ b
  d : PyData.depthAll ds ≤ k
theorem FitA.nil {k : Nat} : FitA [] 0 k := ⟨by rw [smallA], by rw [niceA], by rw [PyData.bulkAll]; exact Nat.le_refl _, by rw [PyData.depthAll]; exact Nat.zero_le _⟩
theorem FitA.cons {d : D} {ds : List D} {b c k : Nat} (h : Fit d b k) (r : FitA ds c k) : FitA (d :: ds) (b + 1 + c) k :=
  ⟨by rw [smallA, h.s, r.s]; rfl, by rw [niceA, h.n, r.n]; rfl, by rw [PyData.bulkAll]; have := h.b; have := r.b; omega, by rw [PyData.depthAll]; exact Nat.max_le.mpr ⟨h.d, r.d⟩⟩
theorem Fit.tup {ds : List D} {b k : Nat} (h : FitA ds b k) : Fit (.tuple ds) b (k + 1) :=
  ⟨by rw [smallD]; exact h.s, by rw [niceD]; exact h.n, by rw [PyData.bulk]; exact h.b, by rw [PyData.depth]; exact Nat.succ_le_succ h.d⟩
theorem Fit.lst {ds : List D} {b k : Nat} (h : FitA ds b k) : Fit (.list ds) b (k + 1) :=
  ⟨by rw [smallD]; exact h.s, by rw [niceD]; exact h.n, by rw [PyData.bulk]; exact h.b, by rw [PyData.depth]; exact Nat.succ_le_succ h.d⟩
theorem Fit.none {k : Nat} : Fit .none 0 k := ⟨rfl, rfl, Nat.le_refl _, Nat.zero_le _⟩
theorem Fit.bool {k : Nat} (x : Bool) : Fit (.bool x) 0 k := ⟨rfl, rfl, Nat.le_refl _, Nat.zero_le _⟩
theorem Fit.int {k : Nat} {i : Int} (h : i.natAbs < 10 ^ 30) : Fit (.int i) 0 k := ⟨by rw [smallD, decide_eq_true h], rfl, Nat.le_refl _, Nat.zero_le _⟩
theorem Fit.str {k b : Nat} {x : Str} (h : plainS x = true) (hb : x.cps.size ≤ b) : Fit (.str x) b k := by
  refine ⟨?_, by rw [niceD]; exact h, by rw [PyData.bulk]; exact hb, Nat.zero_le _⟩
  rw [smallD, List.all_eq_true]
  intro c hc
  have := of_decide_eq_true (List.all_eq_true.mp h c hc)
  exact decide_eq_true (by omega)
theorem Fit.mono {d : D} {b b' k k' : Nat} (h : Fit d b k) (hb : b ≤ b') (hk : k ≤ k') : Fit d b' k' := ⟨h.s, h.n, Nat.le_trans h.b hb, Nat.le_trans h.d hk⟩
theorem FitA.mono {d : List D} {b b' k k' : Nat} (h : FitA d b k) (hb : b ≤ b') (hk : k ≤ k') : FitA d b' k' := ⟨h.s, h.n, Nat.le_trans h.b hb, Nat.le_trans h.d hk⟩
theorem FitA.of {ds : List D} {b k : Nat} (h : ∀ d ∈ ds, Fit d b k) : FitA ds (ds.length * (b + 1)) k := by
  induction ds with
  | nil => exact FitA.nil.mono (Nat.zero_le _) (Nat.le_refl _)
  | cons d r ih =>
    refine (FitA.cons (h d List.mem_cons_self) (ih fun x hx => h x (List.mem_cons_of_mem _ hx))).mono ?_ (Nat.le_refl _)
    rw [List.length_cons, Nat.succ_mul]
    omega
theorem FitA.app {ds es : List D} {b c k : Nat} (h : FitA ds b k) (r : FitA es c k) : FitA (ds ++ es) (b + c) k := by
  induction ds generalizing b with
  | nil => exact r.mono (by omega) (Nat.le_refl _)
  | cons d t ih =>
    obtain ⟨h1, h2, h3, h4⟩ := h
    rw [smallA] at h1
    rw [niceA] at h2
    rw [PyData.bulkAll] at h3
    rw [PyData.depthAll] at h4
    obtain ⟨s1, s2⟩ := band h1
    obtain ⟨n1, n2⟩ := band h2
    exact (FitA.cons (d := d) (b := d.bulk) ⟨s1, n1, Nat.le_refl _, Nat.le_trans (Nat.le_max_left _ _) h4⟩ (ih (b := PyData.bulkAll t) ⟨s2, n2, Nat.le_refl _, Nat.le_trans (Nat.le_max_right _ _) h4⟩)).mono (by omega) (Nat.le_refl _)
theorem Fit.rep {d : D} {b k : Nat} (h : Fit d b k) (hb : b ≤ 300000) (hk : k ≤ 64) : repOk d = true := repOk_of h.s (Nat.le_trans h.b hb) (Nat.le_trans h.d hk)
/-- repr(x) in [repr(one) for one in good] -/
theorem in_shown {x : D} {gs : List D} (hx : niceD x = true) (hg : ∀ g ∈ gs, goodD g = true) : cmpD .inn (.str x.shown) (.list (gs.map fun g => PyData.str g.shown)) = .ok (gs.any fun g => decide (g.shown = x.shown)) ∧ ((gs.any fun g => decide (g.shown = x.shown)) = true ↔ x ∈ gs) := by
  refine ⟨?_, ?_⟩
  · rw [in_flat rfl (by rw [List.all_map, List.all_eq_true]; intro g _; rfl), List.any_map]
    congr 2
  · rw [List.any_eq_true]
    constructor
    · rintro ⟨g, hm, e⟩
      rw [shown_inj hx (hg g hm) (of_decide_eq_true e).symm]
      exact hm
    · exact fun hm => ⟨x, hm, decide_eq_true rfl⟩
end DP

namespace K75
open PySem PySem.Spec PyProof.Rows L2 DP Cbasics Ccrabs L75
theorem ne_nil (E : List Int) : cmpD .ne (.list (E.map PyData.int)) (.list []) = .ok (!E.isEmpty) := by
  rw [ne_shp (shp_of (k := 1) (.lst (.ints _)) (by decide)) (shp_of (k := 1) (.lst .nil) (by decide)), PyData.eqv]
  cases E with
  | nil => rfl
  | cons x r => rfl
theorem sp_law_taken {s : Int} {ws : List Int} (h : Small s ws) : g__law_taken.sem [.int s, .tuple (ws.map PyData.int)] = .ok (.tuple ((tk s ws).map oD), []) := by
  rw [sem__law_taken]
  simp [b__law_taken, slots0]
  refine for_bind (P := fun r => finP r = _) (fun j ρ => ∃ c d, ρ = [Cell.dat (.int s), .dat (.tuple (ws.map PyData.int)), .own false ((tk s (ws.take j)).map oD), c, d, .un] ∧ freeC (some c) = true ∧ freeC (some d) = true) ⟨.un, .un, rfl, rfl, rfl⟩ (fun j d hd ρ hJ => ?_) (fun ρ hJ => ?_)
  · obtain ⟨c, d4, rfl, hc, hd4⟩ := hJ
    rw [List.getElem?_map] at hd
    obtain ⟨w, hw, rfl⟩ : ∃ w, ws[j]? = some w ∧ d = .int w := by
      cases e : ws[j]? with
      | none => rw [e] at hd; cases hd
      | some w => rw [e] at hd; exact ⟨w, rfl, (Option.some.inj hd).symm⟩
    have hwm := h.w w (List.mem_of_getElem? hw)
    have hj : j < ws.length := (List.getElem?_eq_some_iff.mp hw).1
    have hr := fun ρ => rngC_rg w s ρ (by omega) (by omega) (by have := h.s0; omega) (by have := h.s1; omega)
    have ht : ws.take (j + 1) = ws.take j ++ [w] := by rw [List.take_add_one, hw]; rfl
    generalize hF : tk s (ws.take j) = F at *
    have hFl : F.length = j := by rw [← hF, tk, tk_len]; simp; omega
    have hsz : F.length + 1 ≤ 16777216 := by have := h.l; omega
    obtain ⟨E, hE⟩ : ∃ E, E = (rg w s).filter fun i => !hasI F i := ⟨_, rfl⟩
    have h1 : tk1 s F w = F ++ [E.head?] := by rw [hE]; rfl
    refine ⟨[Cell.dat (.int s), .dat (.tuple (ws.map PyData.int)), .own false ((tk1 s F w).map oD), .dat (.int w), .dat (.list (E.map PyData.int)), .un], .inl ?_, _, _, by rw [ht, tk_snoc, hF], rfl, rfl⟩
    simp [hc, hr]
    rw [compLoop_pick (p := fun i => !hasI F i) (f := PyData.int), ← hE, h1]
    · have ne := ne_nil E
      cases E with
      | nil => simp only [List.map_nil] at ne; simp [hd4, hsz, oD, ne]
      | cons x r => simp only [List.map_cons] at ne; simp [hd4, hsz, oD, ne]
    · intro i _
      cases e : hasI F i <;> simp [nin_l, e]
  · obtain ⟨c, d4, rfl, hc, hd4⟩ := hJ
    simp
theorem sp_law_froms {s : Int} {ws : List Int} (h : Wi s ws) : g__law_froms.sem [.int s, .tuple (ws.map PyData.int)] = .ok (.list ((Ccrabs.frs s ws).map PyData.int), []) := by
  rw [sem__law_froms]
  have hr := fun ρ => rngC_rg 0 s ρ (by decide) (by decide) (by have := h.s0; omega) (by have := h.s1; omega)
  simp [b__law_froms, slots0, hr]
  rw [compLoop_pick (p := ov s ws) (f := PyData.int)]
  · simp [Ccrabs.frs]
  · intro i _
    simp
    rw [compLoop_pick (p := fun w => decide (i ≤ w)) (f := fun _ => PyData.int 1)]
    · by_cases e : ov s ws i = true
      · have e2 := ov_iff.mp e
        unfold cw at e2
        simp [e, e2]
      · have e2 : ¬ s - i < (cw ws i : Int) := fun z => e (ov_iff.mpr z)
        unfold cw at e2
        simp [e, e2]
    · intro w _
      by_cases h : i ≤ w <;> simp [h]
def fromD (i : Int) : D := .tuple [.str "from", .int i]
def housD (s : Int) (ws : List Int) : D := .tuple [.str "housed", .tuple ((tk s ws).map oD)]
/-- all that is right -/
def gdD (s : Int) (ws : List Int) : List D := if hasN (tk s ws) = true then (Ccrabs.frs s ws).map fromD else [housD s ws]
theorem sp_law_good {s : Int} {ws : List Int} (h : Wi s ws) : g__law_good.sem [.int s, .tuple (ws.map PyData.int)] = .ok (.list (gdD s ws), []) := by
  rw [sem__law_good]
  have t := sp_law_taken h.small
  cases e : hasN (tk s ws) with
  | false => simp [b__law_good, slots0, t, nin_t, e, gdD, housD]
  | true =>
    simp [b__law_good, slots0, t, nin_t, e, gdD, sp_law_froms h]
    rw [compLoop_ints (f := fromD)]
    · simp
    · intro i _
      simp [fromD]
theorem sp_law_many {s k : Int} (h0 : 1 ≤ s) (h1 : s ≤ 12) (k0 : 0 ≤ k) (k1 : k ≤ s) : g__law_many.sem [.int s, .int k] = .ok (.int (wm s k), []) := by
  rw [sem__law_many]
  have hr := fun ρ => rngC_rg 0 (k - 1) ρ (by decide) (by decide) (by omega) (by omega)
  obtain ⟨a, ha⟩ : ∃ a, a = (if 0 < k then s + 1 - k else 1) := ⟨_, rfl⟩
  have hi := i64_small (i := s + 1) (by omega) (by omega)
  have key : ∀ ρ, ρ = [Cell.dat (.int s), .dat (.int k), .dat (.int a), .un] → finP (forLoop (fun d ρ1 => putTg (.nm 3) d ρ1 >>= fun ρ2 => exs G__law_many (.cons (.asg (.nm 2) (.bin .mul (.var 2) (.bin .add (.var 0) (.lit (.int 1))))) .nil) ρ2) ((rg 0 (k - 1)).map PyData.int) ρ >>= seqC (exs G__law_many (.cons (.ret (.var 2)) .nil))) = .ok (.int (wm s k), []) := by
    rintro ρ rfl
    refine for_bind (P := fun r => finP r = _) (fun j ρ => ∃ c, ρ = [Cell.dat (.int s), .dat (.int k), .dat (.int (wmN a (s + 1) j)), c] ∧ freeC (some c) = true) ⟨.un, rfl, rfl⟩ (fun j d hd ρ hJ => ?_) (fun ρ hJ => ?_)
    · obtain ⟨c, rfl, hc⟩ := hJ
      obtain ⟨hj, rfl⟩ := rg_at hd
      refine ⟨[Cell.dat (.int s), .dat (.int k), .dat (.int (wmN a (s + 1) (j + 1))), .dat (.int (0 + j))], .inl ?_, _, rfl, rfl⟩
      simp [hc, hi, wmN]
    · obtain ⟨c, rfl, hc⟩ := hJ
      rw [List.length_map, rg_len] at *
      simp [wm, ha]
  by_cases hk : 0 < k
  · rw [if_pos hk] at ha
    subst ha
    simp [b__law_many, slots0, hk, hr]
    simpa using key _ rfl
  · rw [if_neg hk] at ha
    subst ha
    simp [b__law_many, slots0, hk, hr]
    simpa using key _ rfl
theorem sp_law_all {s : Int} {k : Nat} (h0 : 1 ≤ s) (h1 : s ≤ 4) (k1 : (k : Int) ≤ s) : g__law_all.sem [.int s, .int k] = .ok (.list (((rowsN s k).filter fun r => !hasN (tk s r)).map lotD), []) := by
  rw [sem__law_all]
  have hr := fun ρ => rngC_rg 0 s ρ (by decide) (by decide) (by omega) (by omega)
  have hr2 := fun ρ => rngC_nat k ρ (by omega)
  simp [b__law_all, slots0, hr2]
  refine for_bindR (P := fun r => finP r = _) (fun j ρ => ∃ c d e, ρ = [Cell.dat (.int s), .dat (.int k), .dat (.list ((rowsN s j).map lotD)), c, d, e, .un] ∧ freeC (some c) = true ∧ freeC (some d) = true ∧ freeC (some e) = true) ⟨.un, .un, .un, rfl, rfl, rfl, rfl⟩ (fun j d hd ρ hJ r hr' => ?_) (fun ρ hJ => ?_)
  · obtain ⟨c, d4, d5, rfl, hc, hd4, hd5⟩ := hJ
    obtain ⟨hj, rfl⟩ := rng_at hd
    have hle : ∀ l : List (List Int), l.length ≤ (rowsN s j).length → (l.flatMap fun r => (rg 0 s).map fun w => r ++ [w]).length ≤ 16777216 := by
      intro l hl
      rw [List.length_flatMap]
      have : ∀ l : List (List Int), (l.map fun a => ((rg 0 s).map fun w => a ++ [w]).length).sum = l.length * s.toNat := fun l => by
        induction l with
        | nil => simp
        | cons x r ih =>
          rw [List.map_cons, List.sum_cons, ih, List.length_map, rg_len, List.length_cons, Nat.succ_mul, Int.sub_zero]
          omega
      rw [this]
      rw [rowsN_len] at hl
      have a : s.toNat ^ j ≤ 4 ^ j := Nat.pow_le_pow_left (by omega) _
      have b : 4 ^ j ≤ 4 ^ 4 := Nat.pow_le_pow_right (by decide) (by omega)
      have c : l.length * s.toNat ≤ 256 * 4 := Nat.mul_le_mul (by omega) (by omega)
      omega
    simp [hc, hd4] at hr'
    subst hr'
    refine for_bind (P := fun (r : R (Fl × Slots)) => ∃ ρ' : Slots, (r = .ok (Fl.nx, ρ') ∨ r = .ok (Fl.ct, ρ')) ∧ ∃ c d e, ρ' = [Cell.dat (.int s), .dat (.int k), .dat (.list ((rowsN s (j + 1)).map lotD)), c, d, e, .un] ∧ freeC (some c) = true ∧ freeC (some d) = true ∧ freeC (some e) = true) (fun i ρ => ∃ c, ρ = [Cell.dat (.int s), .dat (.int k), .dat (.list ((rowsN s j).map lotD)), .dat (.int j), .own false ((((rowsN s j).take i).flatMap fun r => (rg 0 s).map fun w => r ++ [w]).map lotD), c, .un] ∧ freeC (some c) = true) ⟨d5, rfl, hd5⟩ (fun i d hd ρ hJ => ?_) (fun ρ hJ => ?_)
    · obtain ⟨c5, rfl, hc5⟩ := hJ
      rw [List.getElem?_map] at hd
      obtain ⟨r, hr', rfl⟩ : ∃ r, (rowsN s j)[i]? = some r ∧ d = lotD r := by
        cases e : (rowsN s j)[i]? with
        | none => rw [e] at hd; cases hd
        | some w => rw [e] at hd; exact ⟨w, rfl, (Option.some.inj hd).symm⟩
      have ht : (rowsN s j).take (i + 1) = (rowsN s j).take i ++ [r] := by rw [List.take_add_one, hr']; rfl
      have hl := hle ((rowsN s j).take (i + 1)) (by rw [List.length_take]; omega)
      rw [ht, List.flatMap_append] at hl
      rw [ht, List.flatMap_append]
      have e1 : ([r].flatMap fun r => (rg 0 s).map fun w => r ++ [w]) = (rg 0 s).map fun w => r ++ [w] := by simp
      rw [e1] at hl ⊢
      refine ⟨[Cell.dat (.int s), .dat (.int k), .dat (.list ((rowsN s j).map lotD)), .dat (.int j), .own false ((((rowsN s j).take i).flatMap (fun r => (rg 0 s).map fun w => r ++ [w]) ++ (rg 0 s).map fun w => r ++ [w]).map lotD), .dat (lotD r), .un], .inl ?_, _, rfl, rfl⟩
      have hrl := (rowsN_mem (List.mem_of_getElem? hr')).1
      have hl2 : r.length + 1 ≤ 16777216 := by omega
      rw [List.length_append, List.length_map] at hl
      generalize hG : ((rowsN s j).take i).flatMap (fun r => (rg 0 s).map fun w => r ++ [w]) = G at *
      simp [hc5, hr]
      rw [compLoop_ints (f := fun w => lotD (r ++ [w]))]
      · simp [hl, Function.comp_def]
      · intro w _
        simp [hl2, lotD]
    · obtain ⟨c5, rfl, hc5⟩ := hJ
      have e : ((rowsN s j).map lotD).length = (rowsN s j).length := List.length_map ..
      rw [e, List.take_length]
      refine ⟨[Cell.dat (.int s), .dat (.int k), .dat (.list ((rowsN s (j + 1)).map lotD)), .dat (.int j), .dat (.list ((rowsN s (j + 1)).map lotD)), c5, .un], .inl ?_, _, _, _, rfl, rfl, rfl, hc5⟩
      simp [hd4, rowsN]
  · obtain ⟨c, d4, d5, rfl, hc, hd4, hd5⟩ := hJ
    simp
    rw [compLoop_pick (p := fun r => !hasN (tk s r)) (f := lotD)]
    · simp
    · intro r hr'
      obtain ⟨a, b⟩ := rowsN_mem hr'
      have t := sp_law_taken (s := s) (ws := r) ⟨by omega, by omega, fun w hw => by have := b w hw; omega, by omega⟩
      cases e : hasN (tk s r) <;> simp [lotD, t, nin_t, e]
end K75

namespace K75
open PySem PySem.Spec PyProof.Rows L2 DP Cbasics Ccrabs L75
theorem sp_wishes {h : List D} (hh : Hd h) {s : Int} (s0 : 1 ≤ s) (s1 : s ≤ 12) : ∃ (ws : List Int) (h' : List D), g__law_wishes.sem [.list h, .int s] = .ok (.tuple (ws.map PyData.int), h') ∧ Hd h' ∧ Wi s ws := by
  rw [sem__law_wishes]
  obtain ⟨a, h1, e1, a0, a1, hh1⟩ := sp_draw hh 2 (by decide) (by decide)
  obtain ⟨m, h2, em, m0, m1, hh2⟩ : ∃ (m : Int) (h2 : List D), (ev G__law_wishes (.ife (.cmp .eq (.callB 0 0 (.cons (.lit (.int 2)) .nil)) (.lit (.int 0))) (.callB 0 0 (.cons (.bin .add (.var 1) (.lit (.int 1))) .nil)) (.var 1)) [Cell.own true h, .dat (.int s), .un, .un, .un]) = .ok (.val (.int m), [Cell.own true h2, .dat (.int s), .un, .un, .un]) ∧ 0 ≤ m ∧ m ≤ s ∧ Hd h2 := by
    by_cases ha : a = 0
    · obtain ⟨m, h2, e2, m0, m1, hh2⟩ := sp_draw hh1 (s + 1) (by omega) (by omega)
      exact ⟨m, h2, by simp [e1, ha, e2], m0, by omega, hh2⟩
    · exact ⟨s, h1, by simp [e1, ha], by omega, by omega, hh1⟩
  obtain ⟨l, h3, e3, l0, l1, hh3⟩ := sp_draw hh2 s (by omega) (by omega)
  obtain ⟨n, rfl⟩ : ∃ n : Nat, m = (n : Int) := ⟨m.toNat, by omega⟩
  have hr := fun ρ => rngC_nat n ρ (by omega)
  obtain ⟨ws, h4, e4, hh4, l4, q4⟩ := comp_ints (Hd := Hd) (turn := turnC G__law_wishes (E.callB 0 0 (Es.cons ((E.cmp Oc.gt (E.callB 0 0 (Es.cons (E.lit (Lit.int 3)) Es.nil)) (E.lit (Lit.int 0))).ife (E.var 3) (E.var 1)) Es.nil)) (Tg.nm 4) (E.lit (Lit.bl true))) (fun h => [Cell.own true h, .dat (.int s), .dat (.int (n : Int)), .dat (.int (1 + l)), .un]) (fun x => 0 ≤ x ∧ x < s)
    ((List.range n).map fun (i : Nat) => PyData.int (i : Int)) h3 hh3 fun d _ h hh => by
      obtain ⟨b, h5, e5, b0, b1, hh5⟩ := sp_draw hh 3 (by decide) (by decide)
      by_cases hb : 0 < b
      · obtain ⟨x, h6, e6, x0, x1, hh6⟩ := sp_draw hh5 (1 + l) (by omega) (by omega)
        exact ⟨x, h6, by simp [e5, hb, e6], hh6, x0, by omega⟩
      · obtain ⟨x, h6, e6, x0, x1, hh6⟩ := sp_draw hh5 s (by omega) (by omega)
        exact ⟨x, h6, by simp [e5, hb, e6], hh6, x0, x1⟩
  refine ⟨ws, h4, ?_, hh4, ⟨s0, s1, q4, by rw [l4, List.length_map, List.length_range]; exact m1⟩⟩
  rw [b__law_wishes, slotsB]
  simp only [exs_cons, ex_asg]
  show finB ((ev G__law_wishes _ [Cell.own true h, .dat (.int s), .un, .un, .un] >>= _) >>= _) = _
  rw [em]
  simp [e3, hr, e4]
/-! ### what is right, and what is told so -/
theorem tk_wi {s : Int} {ws : List Int} (h : Wi s ws) (hn : hasN (tk s ws) = false) : ∃ xs : List Int, (tk s ws).map oD = xs.map PyData.int ∧ ∀ x ∈ xs, 0 ≤ x ∧ x ≤ s - 1 := by
  have p := pi_tk h
  have nn : none ∉ tk s ws := fun z => by rw [hasN_iff.mpr z] at hn; cases hn
  have key : ∀ F : List (Option Int), none ∉ F → (∀ x, some x ∈ F → 0 ≤ x ∧ x < s) → ∃ xs : List Int, F.map oD = xs.map PyData.int ∧ ∀ x ∈ xs, 0 ≤ x ∧ x ≤ s - 1 := by
    intro F
    induction F with
    | nil => exact fun _ _ => ⟨[], rfl, fun x z => by cases z⟩
    | cons o r ih =>
      intro hF hr
      cases o with
      | none => exact absurd List.mem_cons_self hF
      | some x =>
        obtain ⟨xs, e, q⟩ := ih (fun z => hF (List.mem_cons_of_mem _ z)) fun y hy => hr y (List.mem_cons_of_mem _ hy)
        have := hr x List.mem_cons_self
        refine ⟨x :: xs, by rw [List.map_cons, List.map_cons, e]; rfl, fun y hy => ?_⟩
        rcases List.mem_cons.mp hy with rfl | hy
        · omega
        · exact q y hy
  exact key _ nn p.rgn
theorem eqvA_oD {a b : Int} : ∀ {ds : List D} {F : List (Option Int)}, ds.all (wi a b) = true → PyData.eqvAll ds (F.map oD) = true → ds = F.map oD
  | [], [], _, _ => rfl
  | [], o :: F, _, h => by rw [List.map_cons, PyData.eqvAll] at h; cases h
  | d :: ds, [], _, h => by rw [List.map_nil, PyData.eqvAll] at h; cases h
  | d :: ds, o :: F, hw, h => by
    obtain ⟨h1, h2⟩ := band (show (wi a b d && ds.all (wi a b)) = true from hw)
    rw [List.map_cons, PyData.eqvAll] at h
    obtain ⟨h3, h4⟩ := band h
    rw [List.map_cons, eqvA_oD h2 h4]
    cases d with
    | int i =>
      cases o with
      | none => cases h3
      | some j =>
        have h3 : PyData.eqv (.int i) (.int j) = true := h3
        rw [PyData.eqv] at h3
        have : i = j := by simpa using h3
        rw [this]
        rfl
    | _ => cases h1
theorem hzt_iff {s : Int} {ws : List Int} (h : Wi s ws) (d : D) : hzt s ws d = true ↔ d ∈ gdD s ws := by
  constructor
  · intro q
    unfold hzt at q
    split at q
    · rename_i x y
      split at q
      · rename_i hx
        subst hx
        obtain ⟨q1, q2⟩ := band q
        have hn : hasN (tk s ws) = false := by simpa using q1
        cases y <;> first | (cases q2; done) | skip
        rename_i ds
        obtain ⟨q3, q4⟩ := band q2
        rw [eqvA_oD q3 q4]
        unfold gdD
        rw [hn, if_neg (by decide)]
        exact List.mem_singleton.mpr rfl
      · obtain ⟨q1, q2⟩ := band q
        have hx := of_decide_eq_true q1
        subst hx
        cases y <;> first | (cases q2; done) | skip
        rename_i i
        obtain ⟨q3, q4⟩ := band q2
        obtain ⟨w1, w2⟩ := band (show (decide (0 ≤ i) && decide (i ≤ s - 1)) = true from q3)
        have w1 := of_decide_eq_true w1
        have w2 := of_decide_eq_true w2
        have hn : hasN (tk s ws) = true := by
          cases e : hasN (tk s ws) with
          | true => rfl
          | false => rw [ov_no h e w1 (by omega)] at q4; cases q4
        unfold gdD
        rw [if_pos hn]
        exact List.mem_map.mpr ⟨i, List.mem_filter.mpr ⟨mem_rg.mpr ⟨w1, by omega⟩, q4⟩, rfl⟩
    · cases q
  · intro hm
    unfold gdD at hm
    split at hm
    · obtain ⟨i, hi, rfl⟩ := List.mem_map.mp hm
      obtain ⟨i1, i2⟩ := List.mem_filter.mp hi
      obtain ⟨i1, i3⟩ := mem_rg.mp i1
      have hi3 : i ≤ s - 1 := by omega
      unfold hzt fromD
      have nx : ¬ (Str.ofString "from" = Str.ofString "housed") := by decide +kernel
      dsimp only
      rw [if_neg nx, i2, wi, decide_eq_true i1, decide_eq_true hi3]
      decide +kernel
    · rename_i hn
      have hn : hasN (tk s ws) = false := by simpa using hn
      rw [List.mem_singleton.mp hm]
      obtain ⟨xs, e, q⟩ := tk_wi h hn
      unfold hzt housD
      dsimp only
      rw [if_pos rfl, hn, e, all_wi q, eqvA_same _ (OkA.ints (k := 0) xs).1]
      rfl
theorem good_ints (xs : List Int) : goodA (xs.map PyData.int) = true := by
  induction xs with
  | nil => rfl
  | cons x r ih => rw [List.map_cons, goodA, ih]; rfl
theorem good_oD (F : List (Option Int)) : goodA (F.map oD) = true := by
  induction F with
  | nil => rfl
  | cons x r ih => rw [List.map_cons, goodA, ih]; cases x <;> rfl
theorem plain_from : plainS "from" = true := by decide +kernel
theorem plain_housed : plainS "housed" = true := by decide +kernel
theorem gd_good {s : Int} {ws : List Int} : ∀ g ∈ gdD s ws, goodD g = true := by
  intro g hg
  unfold gdD at hg
  split at hg
  · obtain ⟨i, _, rfl⟩ := List.mem_map.mp hg
    unfold fromD
    rw [goodD, goodA, goodD, plain_from]
    rfl
  · rw [List.mem_singleton.mp hg]
    unfold housD
    rw [goodD, goodA, goodD, plain_housed, goodA, goodD, good_oD]
    rfl
theorem fit_oD {F : List (Option Int)} (h : ∀ x, some x ∈ F → x.natAbs < 10 ^ 30) {k : Nat} : FitA (F.map oD) (F.length * 1) k := by
  have := FitA.of (ds := F.map oD) (b := 0) (k := k) fun d hd => by
    obtain ⟨o, ho, rfl⟩ := List.mem_map.mp hd
    cases o with
    | none => exact .none
    | some x => exact .int (h x ho)
  rw [List.length_map] at this
  exact this
theorem fit_ints {xs : List Int} (h : ∀ x ∈ xs, x.natAbs < 10 ^ 30) {k : Nat} : FitA (xs.map PyData.int) (xs.length * 1) k := by
  have := FitA.of (ds := xs.map PyData.int) (b := 0) (k := k) fun d hd => by
    obtain ⟨o, ho, rfl⟩ := List.mem_map.mp hd
    exact .int (h o ho)
  rw [List.length_map] at this
  exact this
theorem fit_deep : ∀ {n : Nat} {d : D}, Deep n d → Fit d (3 * n + 1) (n + 1)
  | _, _, .non => Fit.mono (k := 0) .none (by omega) (by omega)
  | _, _, .zero => Fit.mono (k := 0) (.int (by decide)) (by omega) (by omega)
  | _, _, .a => .str (by decide +kernel) (by decide)
  | _, _, .tup h => (Fit.tup (FitA.cons (fit_deep h) .nil)).mono (by omega) (by omega)
  | _, _, .lst h => (Fit.lst (FitA.cons (fit_deep h) .nil)).mono (by omega) (by omega)
  | _, _, .dic (n := n) (d := d) h => by
    obtain ⟨h1, h2, h3, h4⟩ := fit_deep h
    refine ⟨?_, by rw [niceD], ?_, ?_⟩
    · rw [smallD, smallK, h1, smallK]
      decide
    · rw [PyData.bulk, PyData.bulkKv, PyData.bulkKv]
      have : PyData.bulk (.int 0) = 0 := rfl
      omega
    · rw [PyData.depth, PyData.depthKv, PyData.depthKv]
      have : PyData.depth (.int 0) = 0 := rfl
      omega
end K75

namespace K75
open PySem PySem.Spec PyProof.Rows L2 DP Cbasics Ccrabs L75
theorem fit_two {x : Str} {d : D} {b : Nat} (h : plainS x = true) (hb : x.cps.size ≤ 10) (f : Fit d b 3) : Fit (.tuple [.str x, d]) (b + 20) 4 :=
  (Fit.tup (FitA.cons (Fit.str h hb) (FitA.cons f .nil))).mono (by omega) (by omega)
theorem sp_judged {h : List D} (hh : Hd h) {s : Int} {ws : List Int} (w : Wi s ws) : ∃ h', g__law_judged_right.sem [.list h, .int s, .tuple (ws.map PyData.int)] = .ok (.bool true, h') ∧ Hd h' := by
  rw [sem__law_judged_right]
  have s0 := w.s0
  have s1 := w.s1
  have p := pi_tk w
  have hl0 : (tk s ws).length = ws.length := by rw [tk, tk_len]; simp
  have hwl := w.l
  obtain ⟨l, hl⟩ : ∃ l, hasN (tk s ws) = true → (Ccrabs.frs s ws).getLast? = some l := by
    cases e : (Ccrabs.frs s ws).getLast? with
    | some l => exact ⟨l, fun _ => rfl⟩
    | none => exact ⟨0, fun z => absurd (List.getLast?_eq_none_iff.mp e) (frs_ne w z)⟩
  have gl : 0 < (gdD s ws).length ∧ (gdD s ws).length ≤ 12 := by
    unfold gdD
    split
    · rename_i hn
      rw [List.length_map]
      refine ⟨List.length_pos_iff.mpr (frs_ne w hn), ?_⟩
      have := List.length_filter_le (ov s ws) (rg 0 s)
      rw [rg_len] at this
      unfold Ccrabs.frs
      omega
    · exact ⟨by simp, by simp⟩
  have e1 := sp_law_good w
  have e2 := sp_law_taken w.small
  have e3 := sp_housed_told w hl
  obtain ⟨d, h1, e4, d0, d1, hh1⟩ := sp_draw hh s (by omega) (by omega)
  obtain ⟨g, h2, e5, hg, hh2⟩ := sp_some hh1 (gdD s ws) gl.1 (by omega)
  have fT : Fit (.tuple ((tk s ws).map oD)) 40 3 := (Fit.tup (fit_oD (k := 0) fun x hx => by have := p.rgn x hx; omega)).mono (by omega) (by omega)
  have fW : Fit (.tuple (ws.map PyData.int)) 40 3 := (Fit.tup (fit_ints (k := 0) fun x hx => by have := w.w x hx; omega)).mono (by omega) (by omega)
  have fI : ∀ i : Int, -100 ≤ i → i ≤ 100 → ∀ b k, Fit (.int i) b k := fun i h1 h2 b k => (Fit.int (k := 0) (by omega)).mono (by omega) (by omega)
  have fG : ∀ t ∈ gdD s ws, Fit t 100 4 := by
    intro t ht
    unfold gdD at ht
    split at ht
    · obtain ⟨i, hi, rfl⟩ := List.mem_map.mp ht
      obtain ⟨i1, i2⟩ := List.mem_filter.mp hi
      obtain ⟨i1, i3⟩ := mem_rg.mp i1
      exact (fit_two plain_from (by decide +kernel) (fI i (by omega) (by omega) 0 3)).mono (by omega) (by omega)
    · rw [List.mem_singleton.mp ht]
      exact (fit_two plain_housed (by decide +kernel) fT).mono (by omega) (by omega)
  have hlr : ∀ ρ, rngC 0 8 ρ = .ok ((List.range 8).map (fun (i : Nat) => PyData.int (i : Int)), ρ) := fun ρ => rngC_nat 8 ρ (by decide)
  have hsz : (tk s ws).length + 1 ≤ 16777216 := by omega
  simp [b__law_judged_right, slotsB, e1, e2, e3, e4, e5, hlr, hsz]
  refine for_bindR (P := fun r => ∃ h', finB r = .ok (.bool true, h') ∧ Hd h') (fun j ρ => ∃ h TH c5 c8, ρ = [Cell.own true h, .dat (.int s), .dat (.tuple (ws.map PyData.int)), .dat (.list (gdD s ws)), .dat (.list TH), c5, .dat (.tuple ((tk s ws).map oD)), .dat (.int d), c8, .un] ∧ Hd h ∧ TH.length = 16 ∧ (∀ t ∈ TH, Fit t 200 40) ∧ freeC (some c5) = true ∧ freeC (some c8) = true)
    ⟨h2, _, .un, .un, rfl, hh2, rfl, ?_, rfl, rfl⟩ (fun j dd hd ρ hJ r hr => ?_) (fun ρ hJ => ?_)
  · intro t ht
    have f1 : Fit (toldD s ws l) 100 4 := by
      unfold toldD
      split
      · rename_i hn
        have := hl hn
        have hm := List.mem_of_getLast? this
        obtain ⟨i1, i2⟩ := List.mem_filter.mp hm
        obtain ⟨i1, i3⟩ := mem_rg.mp i1
        exact (fit_two plain_from (by decide +kernel) (fI l (by omega) (by omega) 0 3)).mono (by omega) (by omega)
      · exact (fit_two plain_housed (by decide +kernel) fT).mono (by omega) (by omega)
    have fTl : Fit (.list ((tk s ws).map oD)) 40 3 := (Fit.lst (fit_oD (k := 0) fun x hx => by have := p.rgn x hx; omega)).mono (by omega) (by omega)
    have fT0 : Fit (.tuple ((tk s ws).map oD ++ [.int 0])) 60 3 := (Fit.tup (FitA.app (fit_oD (k := 0) fun x hx => by have := p.rgn x hx; omega) (FitA.cons (fI 0 (by omega) (by omega) 0 0) .nil))).mono (by omega) (by omega)
    simp only [List.mem_cons, List.mem_nil_iff, or_false] at ht
    rcases ht with rfl | rfl | rfl | rfl | rfl | rfl | rfl | rfl | rfl | rfl | rfl | rfl | rfl | rfl | rfl | rfl
    · exact f1.mono (by omega) (by omega)
    · exact (fG _ hg).mono (by omega) (by omega)
    · exact (fit_two plain_housed (by decide +kernel) fT).mono (by omega) (by omega)
    · exact (fit_two plain_housed (by decide +kernel) fW).mono (by omega) (by omega)
    · exact (fit_two plain_from (by decide +kernel) (fI d (by omega) (by omega) 0 3)).mono (by omega) (by omega)
    · exact (fit_two plain_from (by decide +kernel) (fI s (by omega) (by omega) 0 3)).mono (by omega) (by omega)
    · exact (fit_two plain_from (by decide +kernel) (Fit.bool true)).mono (by omega) (by omega)
    · exact (fit_two plain_housed (by decide +kernel) fTl).mono (by omega) (by omega)
    · exact (fit_two plain_housed (by decide +kernel) fT0).mono (by omega) (by omega)
    · exact (fit_two (by decide +kernel) (by decide +kernel) fT).mono (by omega) (by omega)
    · exact (Fit.tup (FitA.cons (Fit.str (b := 10) (k := 0) plain_from (by decide +kernel)) .nil)).mono (by omega) (by omega)
    · exact (Fit.lst (FitA.cons (Fit.str (b := 10) (k := 0) plain_from (by decide +kernel)) (FitA.cons (fI d (by omega) (by omega) 0 0) .nil))).mono (by omega) (by omega)
    · exact (fit_two plain_from (by decide +kernel) .none).mono (by omega) (by omega)
    · exact Fit.mono (k := 0) .none (by omega) (by omega)
    · exact (Fit.tup (k := 0) FitA.nil).mono (by omega) (by omega)
    · exact (Fit.str (b := 10) (k := 0) (by decide +kernel) (by decide +kernel)).mono (by omega) (by omega)
  · obtain ⟨h, TH, c5, c8, rfl, hh, hTl, hTf, f5, f8⟩ := hJ
    obtain ⟨x, h3, n, e6, hh3, hx, n0, n1⟩ := sp_deep hh
    obtain ⟨t, h4, e7, ht, hh4⟩ := sp_some hh3 (TH ++ [x]) (by simp) (by simp; omega)
    have ft : Fit t 200 40 := by
      rcases List.mem_append.mp ht with ht | ht
      · exact hTf t ht
      · rw [List.mem_singleton.mp ht]
        exact (fit_deep hx).mono (by omega) (by omega)
    have rt := ft.rep (by omega) (by omega)
    have e8 := sp_is_housed_told w t
    obtain ⟨i1, i2⟩ := in_shown (x := t) (gs := gdD s ws) ft.n gd_good
    have key : hzt s ws t = ((gdD s ws).any fun g => decide (g.shown = t.shown)) := by
      rw [Bool.eq_iff_iff, hzt_iff w, i2]
    rw [← key] at i1
    have hsz2 : TH.length + 1 ≤ 16777216 := by omega
    simp [f5, f8, e6, e7, hsz2, e8, rt] at hr
    rw [compLoop_map (f := fun g => PyData.str g.shown)] at hr
    · simp [i1] at hr
      subst hr
      exact ⟨_, .inl rfl, h4, TH, _, _, rfl, hh4, hTl, hTf, rfl, rfl⟩
    · intro g hgm
      have rg := (fG g hgm).rep (by omega) (by omega)
      simp [rg]
  · obtain ⟨h, TH, c5, c8, rfl, hh, hTl, hTf, f5, f8⟩ := hJ
    simp
    exact hh
end K75

namespace K75
open PySem PySem.Spec PyProof.Rows L2 DP Cbasics Ccrabs L75
theorem k1 : g_housed_told.sem [.int 3, .tuple [.int 1, .int 2, .int 1]] = .ok (.tuple [.str "from", .int 1], []) := by kernel_rfl
theorem k2 : g_housed_told.sem [.int 3, .tuple [.int 1, .int 1, .int 0]] = .ok (.tuple [.str "housed", .tuple [.int 1, .int 2, .int 0]], []) := by kernel_rfl
theorem k3 : g_ways_many.sem [.int 2, .int 2] = .ok (.int 3, []) := by kernel_rfl
theorem k4 : g_ways_many.sem [.int 3, .int 1] = .ok (.int 3, []) := by kernel_rfl
theorem k5 : g_ways_to_house.sem [.int 2, .int 2] = .ok (.list [.tuple [.int 0, .int 0], .tuple [.int 0, .int 1], .tuple [.int 1, .int 0]], []) := by kernel_rfl
theorem k6 : g_ways_many.sem [.int 12, .int 0] = .ok (.int 1, []) := by kernel_rfl
theorem k7 : g_is_housed_told.sem [.int 3, .tuple [.int 2, .int 2, .int 2], .tuple [.str "from", .int 1]] = .ok (.bool true, []) := by kernel_rfl
theorem c1 : cmpD .ne (.tuple [.str "from", .int 1]) (.tuple [.str "from", .int 1]) = .ok false := by kernel_rfl
theorem c2 : cmpD .ne (.tuple [.str "housed", .tuple [.int 1, .int 2, .int 0]]) (.tuple [.str "housed", .tuple [.int 1, .int 2, .int 0]]) = .ok false := by kernel_rfl
theorem c5 : cmpD .ne (.list [.tuple [.int 0, .int 0], .tuple [.int 0, .int 1], .tuple [.int 1, .int 0]]) (.list [.tuple [.int 0, .int 0], .tuple [.int 0, .int 1], .tuple [.int 1, .int 0]]) = .ok false := by kernel_rfl
theorem ok_str {k : Nat} {x : Str} (h : PyData.canLay0 (.str x) = true) : Okd k (.str x) := ⟨h, Nat.zero_le _⟩
theorem ok_from (i : Int) : Okd 1 (fromD i) := .tup (.cons (ok_str (by decide +kernel)) (.cons (.int _) .nil))
theorem ok_hous (s : Int) (ws : List Int) : Okd 2 (housD s ws) := .tup (.cons (ok_str (by decide +kernel)) (.cons (.tup (okd_o _)) .nil))
theorem ok_gd (s : Int) (ws : List Int) : Okd 3 (.list (gdD s ws)) := .lst (.of fun d hd => by
  unfold gdD at hd
  split at hd
  · obtain ⟨i, _, rfl⟩ := List.mem_map.mp hd
    exact (ok_from i).mono (by decide)
  · rw [List.mem_singleton.mp hd]
    exact ok_hous s ws)
theorem last_gd {s : Int} {ws : List Int} (w : Wi s ws) {l : Int} (hl : hasN (tk s ws) = true → (Ccrabs.frs s ws).getLast? = some l) : atI (gdD s ws) (-1) = some (toldD s ws l) ∧ Okd 2 (toldD s ws l) := by
  unfold gdD toldD
  cases hn : hasN (tk s ws) with
  | true =>
    rw [if_pos rfl, if_pos rfl]
    obtain ⟨ys, e⟩ := List.getLast?_eq_some_iff.mp (hl hn)
    rw [e, List.map_append]
    exact ⟨Ccrabs.atI_last _ _, (ok_from l).mono (by decide)⟩
  | false =>
    rw [if_neg (by decide), if_neg (by decide)]
    exact ⟨Ccrabs.atI_last [] _, ok_hous s ws⟩
theorem sp_turn {h : List D} (hh : Hd h) {s : Int} {ws : List Int} (w : Wi s ws) : ∃ l h', g__law_good.sem [.int s, .tuple (ws.map PyData.int)] = .ok (.list (gdD s ws), []) ∧ g_housed_told.sem [.int s, .tuple (ws.map PyData.int)] = .ok (toldD s ws l, []) ∧ cmpD .eq (.list (gdD s ws)) (.list []) = .ok false ∧
    atI (gdD s ws) (-1) = some (toldD s ws l) ∧ cmpD .ne (toldD s ws l) (toldD s ws l) = .ok false ∧ g__law_judged_right.sem [.list h, .int s, .tuple (ws.map PyData.int)] = .ok (.bool true, h') ∧ Hd h' := by
  obtain ⟨l, hl⟩ : ∃ l, hasN (tk s ws) = true → (Ccrabs.frs s ws).getLast? = some l := by
    cases e : (Ccrabs.frs s ws).getLast? with
    | some l => exact ⟨l, fun _ => rfl⟩
    | none => exact ⟨0, fun z => absurd (List.getLast?_eq_none_iff.mp e) (frs_ne w z)⟩
  obtain ⟨h', e, hh'⟩ := sp_judged hh w
  obtain ⟨a, b⟩ := last_gd w hl
  refine ⟨l, h', sp_law_good w, sp_housed_told w hl, ?_, a, ne_same b (by decide), e, hh'⟩
  rw [eq_shp (shp_of (ok_gd s ws) (by decide)) (shp_of (k := 1) (.lst .nil) (by decide)), PyData.eqv]
  cases e : gdD s ws with
  | nil => rw [e] at a; cases a
  | cons x r => rw [PyData.eqvAll]
theorem ways_all : ∀ s ∈ [1, 2, 3, 4], ∀ k ∈ List.range 5, k ≤ s → wm (s : Nat) (k : Nat) = (((rowsN (s : Nat) k).filter fun r => !hasN (tk (s : Nat) r)).length : Int) := by decide +kernel
theorem law_true (ns : List Int) (h : ns.length ≤ 63) : g_law.sem [.list (ns.map PyData.int)] = .ok (.bool true, []) := by
  rw [sem_law]
  obtain ⟨hd, e0, hh⟩ := sp_hand ns h
  have hr : ∀ ρ, rngC 0 5 ρ = .ok ((List.range 5).map (fun (i : Nat) => PyData.int (i : Int)), ρ) := fun ρ => rngC_nat 5 ρ (by decide)
  simp [b_law, slots0, e0, k1, k2, k3, k4, k5, k6, k7, c1, c2, c5, hr]
  refine for_bindR (P := fun r => finP r = _) (fun j ρ => ∃ h c2 c5 c6 c7 c8, ρ = [Cell.dat (.list (ns.map PyData.int)), .own false h, c2, .un, .un, c5, c6, c7, c8] ∧ Hd h ∧ freeC (some c2) = true ∧ freeC (some c5) = true ∧ freeC (some c6) = true ∧ freeC (some c7) = true ∧ freeC (some c8) = true)
    ⟨hd, .un, .un, .un, .un, .un, rfl, hh, rfl, rfl, rfl, rfl, rfl⟩ (fun j d hd ρ hJ r hr => ?_) (fun ρ hJ => ?_)
  · obtain ⟨h, c2, c5, c6, c7, c8, rfl, hh, f2, f5, f6, f7, f8⟩ := hJ
    obtain ⟨a, h1, e1, a0, a1, hh1⟩ := sp_draw hh 6 (by decide) (by decide)
    obtain ⟨ws, h2, e2, hh2, w⟩ := sp_wishes hh1 (s := 1 + a) (by omega) (by omega)
    generalize hs : 1 + a = s at *
    obtain ⟨l, h3, e3, e4, e5, e6, e7, e8, hh3⟩ := sp_turn hh2 w
    simp [f2, f5, f6, f7, f8, e1, hs, e2, e3, e4, e5, e6, e7, e8] at hr
    subst hr
    exact ⟨_, .inl rfl, h3, _, _, _, _, _, rfl, hh3, rfl, rfl, rfl, rfl, rfl⟩
  · obtain ⟨h, c2, c5, c6, c7, c8, rfl, hh, f2, f5, f6, f7, f8⟩ := hJ
    obtain ⟨a, h1, e1, a0, a1, hh1⟩ := sp_draw hh 4 (by decide) (by decide)
    obtain ⟨n, rfl⟩ : ∃ n : Nat, a = (n : Int) := ⟨a.toNat, by omega⟩
    obtain ⟨b, h2, e2, b0, b1, hh2⟩ := sp_draw hh1 (1 + (n : Int) + 1) (by omega) (by omega)
    obtain ⟨k, rfl⟩ : ∃ k : Nat, b = (k : Int) := ⟨b.toNat, by omega⟩
    obtain ⟨c, h3, e3, c0, c1, hh3⟩ := sp_draw hh2 12 (by decide) (by decide)
    obtain ⟨d, h4, e4, d0, d1, hh4⟩ := sp_draw hh3 (1 + c + 1) (by omega) (by omega)
    have w1 := sp_ways_to_house (s := 1 + (n : Int)) (k := k) (by omega) (by omega) (by omega)
    have w2 := sp_law_all (s := 1 + (n : Int)) (k := k) (by omega) (by omega) (by omega)
    have w3 := sp_ways_many (s := 1 + (n : Int)) (k := k) (by omega) (by omega) (by omega) (by omega)
    have w4 := sp_ways_many (s := 1 + c) (k := d) (by omega) (by omega) (by omega) (by omega)
    have w5 := sp_law_many (s := 1 + c) (k := d) (by omega) (by omega) (by omega) (by omega)
    have q := ways_all (n + 1) (by simp; omega) k (List.mem_range.mpr (by omega)) (by omega)
    rw [show ((n + 1 : Nat) : Int) = 1 + (n : Int) from by omega] at q
    generalize hL : (rowsN (1 + (n : Int)) k).filter (fun r => !hasN (tk (1 + (n : Int)) r)) = L at *
    have n1 : cmpD .ne (.list (L.map lotD)) (.list (L.map lotD)) = .ok false := ne_same (ok_lots _) (by decide)
    simp [f5, f6, f7, f8, e1, e2, e3, e4, w1, w2, w3, w4, w5, n1, q]
end K75

open PySem PySem.W PyProof.Rows
set_option maxHeartbeats 0 in
theorem PySem.Challenge.cw_beastriddles_k75_whole_crabs_housed_or_s_holds : PySem.Challenge.rw_beastriddles_k75_whole_crabs_housed_or_s.Holds := by
  w_on; o_law; k_head; (case hw => w_witness2)
  k_fill
  refine DP.law_walk (l := PySem.Challenge.rw_beastriddles_k75_whole_crabs_housed_or_s) (p := "script") (k := 9) (g := K75.g_law) rfl rfl ⟨rfl, by decide, by decide⟩ (fun w h Y => PySem.W.kIn_of Y) rfl rfl rfl K75.law_true ?imp ?smK ?F
  case imp => exact rfl
  case smK => exact fun w => rfl
  case F =>
    intro w mg fa h KX G hmg
    refine K75.law_all ?T hmg
    case T =>
      refine ⟨?blt, ?sm, ?v_MOST_SHELLS, ?v_FROM_SHELL, ?v_HOUSED, ?v_MOST_LISTED_SHELLS, ?f_is_integer, ?f_is_within, ?f_is_sized, ?f_are_within, ?f_check_shells, ?f_raw_are_wishes, ?f_check_wishes, ?f_raw_taken, ?f_taken, ?f_is_over, ?f_housed_told, ?f_is_housed_told, ?f_check_crabs, ?f_ways_many, ?f_ways_to_house, ?f__law_hand, ?f__law_draw, ?f__law_some, ?f__law_deep, ?f__law_wishes, ?f__law_taken, ?f__law_froms, ?f__law_good, ?f__law_all, ?f__law_many, ?f__law_judged_right, ?f_law⟩
      case sm => exact rfl
      case blt =>
        intro x hx
        simp only [DP.bNames, List.mem_cons, List.mem_nil_iff, or_false] at hx
        rcases hx with rfl | rfl | rfl | rfl | rfl | rfl | rfl | rfl | rfl | rfl | rfl | rfl | rfl | rfl <;> refine PySem.W.mg_none_of KX G ?_ <;> k_is
      case v_MOST_SHELLS => refine' ⟨_, PySem.W.mg_of KX G ?a, ?b⟩; (case a => k_is); (case b => exact ⟨_, rfl⟩)
      case v_FROM_SHELL => refine' ⟨_, PySem.W.mg_of KX G ?a, ?b⟩; (case a => k_is); (case b => exact ⟨_, rfl⟩)
      case v_HOUSED => refine' ⟨_, PySem.W.mg_of KX G ?a, ?b⟩; (case a => k_is); (case b => exact ⟨_, rfl⟩)
      case v_MOST_LISTED_SHELLS => refine' ⟨_, PySem.W.mg_of KX G ?a, ?b⟩; (case a => k_is); (case b => exact ⟨_, rfl⟩)
      case f_is_integer => refine' ⟨_, _, PySem.W.mg_of KX G ?a, L2.fun_mk ?l ?c ?k⟩; (case a => k_is); (case l => k_is); (case c => k_is); (case k => k_is)
      case f_is_within => refine' ⟨_, _, PySem.W.mg_of KX G ?a, L2.fun_mk ?l ?c ?k⟩; (case a => k_is); (case l => k_is); (case c => k_is); (case k => k_is)
      case f_is_sized => refine' ⟨_, _, PySem.W.mg_of KX G ?a, L2.fun_mk ?l ?c ?k⟩; (case a => k_is); (case l => k_is); (case c => k_is); (case k => k_is)
      case f_are_within => refine' ⟨_, _, PySem.W.mg_of KX G ?a, L2.fun_mk ?l ?c ?k⟩; (case a => k_is); (case l => k_is); (case c => k_is); (case k => k_is)
      case f_check_shells => refine' ⟨_, _, PySem.W.mg_of KX G ?a, L2.fun_mk ?l ?c ?k⟩; (case a => k_is); (case l => k_is); (case c => k_is); (case k => k_is)
      case f_raw_are_wishes => refine' ⟨_, _, PySem.W.mg_of KX G ?a, L2.fun_mk ?l ?c ?k⟩; (case a => k_is); (case l => k_is); (case c => k_is); (case k => k_is)
      case f_check_wishes => refine' ⟨_, _, PySem.W.mg_of KX G ?a, L2.fun_mk ?l ?c ?k⟩; (case a => k_is); (case l => k_is); (case c => k_is); (case k => k_is)
      case f_raw_taken => refine' ⟨_, _, PySem.W.mg_of KX G ?a, L2.fun_mk ?l ?c ?k⟩; (case a => k_is); (case l => k_is); (case c => k_is); (case k => k_is)
      case f_taken => refine' ⟨_, _, PySem.W.mg_of KX G ?a, L2.fun_mk ?l ?c ?k⟩; (case a => k_is); (case l => k_is); (case c => k_is); (case k => k_is)
      case f_is_over => refine' ⟨_, _, PySem.W.mg_of KX G ?a, L2.fun_mk ?l ?c ?k⟩; (case a => k_is); (case l => k_is); (case c => k_is); (case k => k_is)
      case f_housed_told => refine' ⟨_, _, PySem.W.mg_of KX G ?a, L2.fun_mk ?l ?c ?k⟩; (case a => k_is); (case l => k_is); (case c => k_is); (case k => k_is)
      case f_is_housed_told => refine' ⟨_, _, PySem.W.mg_of KX G ?a, L2.fun_mk ?l ?c ?k⟩; (case a => k_is); (case l => k_is); (case c => k_is); (case k => k_is)
      case f_check_crabs => refine' ⟨_, _, PySem.W.mg_of KX G ?a, L2.fun_mk ?l ?c ?k⟩; (case a => k_is); (case l => k_is); (case c => k_is); (case k => k_is)
      case f_ways_many => refine' ⟨_, _, PySem.W.mg_of KX G ?a, L2.fun_mk ?l ?c ?k⟩; (case a => k_is); (case l => k_is); (case c => k_is); (case k => k_is)
      case f_ways_to_house => refine' ⟨_, _, PySem.W.mg_of KX G ?a, L2.fun_mk ?l ?c ?k⟩; (case a => k_is); (case l => k_is); (case c => k_is); (case k => k_is)
      case f__law_hand => refine' ⟨_, _, PySem.W.mg_of KX G ?a, L2.fun_mk ?l ?c ?k⟩; (case a => k_is); (case l => k_is); (case c => k_is); (case k => k_is)
      case f__law_draw => refine' ⟨_, _, PySem.W.mg_of KX G ?a, L2.fun_mk ?l ?c ?k⟩; (case a => k_is); (case l => k_is); (case c => k_is); (case k => k_is)
      case f__law_some => refine' ⟨_, _, PySem.W.mg_of KX G ?a, L2.fun_mk ?l ?c ?k⟩; (case a => k_is); (case l => k_is); (case c => k_is); (case k => k_is)
      case f__law_deep => refine' ⟨_, _, PySem.W.mg_of KX G ?a, L2.fun_mk ?l ?c ?k⟩; (case a => k_is); (case l => k_is); (case c => k_is); (case k => k_is)
      case f__law_wishes => refine' ⟨_, _, PySem.W.mg_of KX G ?a, L2.fun_mk ?l ?c ?k⟩; (case a => k_is); (case l => k_is); (case c => k_is); (case k => k_is)
      case f__law_taken => refine' ⟨_, _, PySem.W.mg_of KX G ?a, L2.fun_mk ?l ?c ?k⟩; (case a => k_is); (case l => k_is); (case c => k_is); (case k => k_is)
      case f__law_froms => refine' ⟨_, _, PySem.W.mg_of KX G ?a, L2.fun_mk ?l ?c ?k⟩; (case a => k_is); (case l => k_is); (case c => k_is); (case k => k_is)
      case f__law_good => refine' ⟨_, _, PySem.W.mg_of KX G ?a, L2.fun_mk ?l ?c ?k⟩; (case a => k_is); (case l => k_is); (case c => k_is); (case k => k_is)
      case f__law_all => refine' ⟨_, _, PySem.W.mg_of KX G ?a, L2.fun_mk ?l ?c ?k⟩; (case a => k_is); (case l => k_is); (case c => k_is); (case k => k_is)
      case f__law_many => refine' ⟨_, _, PySem.W.mg_of KX G ?a, L2.fun_mk ?l ?c ?k⟩; (case a => k_is); (case l => k_is); (case c => k_is); (case k => k_is)
      case f__law_judged_right => refine' ⟨_, _, PySem.W.mg_of KX G ?a, L2.fun_mk ?l ?c ?k⟩; (case a => k_is); (case l => k_is); (case c => k_is); (case k => k_is)
      case f_law => refine' ⟨_, _, PySem.W.mg_of KX G ?a, L2.fun_mk ?l ?c ?k⟩; (case a => k_is); (case l => k_is); (case c => k_is); (case k => k_is)
