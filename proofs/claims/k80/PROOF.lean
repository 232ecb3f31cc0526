import PyProof.Rows.All
import Wide.All
import OpenK.AllK
import Wide.FinOn
import PyProof.EqAt
import PyProof.EqKinds
import PyProof.TupleCall
import HandS.ForMost
import HandS.ForExc
import HandS.IsInst
import HandS.TupAny
import HandS.SortInts
import HandS.Deep
import HandS.Conv
import HandS.Zip
import HandS.Style
import HandS.Lambda
import HandS.TupMul
import KE.KDflt
import HandS.SetFor
import HandS.Ends
import HandS.EndTab
import HandS.ExcIs
import PySem.Challenge.RW_beastriddles_k80_whole_beavers_step_by_s
set_option Elab.async false
set_option linter.all false
set_option maxRecDepth 100000
set_option maxHeartbeats 4000000
/-! DP: a big-step reading of plain Python over data (PyData), on the hand layer. Part 1: data in the abstract heap, slots, outcomes. -/
namespace DP
open PySem PySem.Spec PyProof.Rows L2
abbrev D := PyData
abbrev Frag := PySem.W.Frag
def kD : Key → D
  | .inl i => .int i
  | .inr x => .str x

/-! ### data in a heap -/
/-- a list: one that is told, or one of the module's own -/
def LsK (K : Frag) (F : Hp) (a : Addr) (xs : List V) : Prop :=
  Rd F a (.lst xs) ∨ ∃ (its : List Value) (n : Nat), K.lookup a = some { cls := .type "list", data := .seq its.toArray n } ∧ Vals xs its ∧ its.length ≤ sizeLine
theorem LsK.sq {K : Frag} {F : Hp} {a : Addr} {xs : List V} (h : LsK K F a xs) : SqL K F a xs := by
  rcases h with h | ⟨its, n, h1, h2, h3⟩
  · exact .inl h
  · exact .inr ⟨_, its.toArray, n, h1, rfl, rfl, rfl, by rw [List.size_toArray]; exact h3, by simpa using h2⟩
mutual
inductive Rp (K : Frag) (F : Hp) : V → D → Prop
  | non : Rp K F .non .none
  | bl (b : Bool) : Rp K F (.bl b) (.bool b)
  | int (i : Int) : Rp K F (.int i) (.int i)
  | str (x : Str) : Rp K F (.str x) (.str x)
  | lst {a : Addr} {xs : List V} {ds : List D} : LsK K F a xs → Rps K F xs ds → xs.length ≤ sizeLine → Rp K F (.ref a) (.list ds)
  | tup {a : Addr} {xs : List V} {ds : List D} : SqT K F a xs → Rps K F xs ds → xs.length ≤ sizeLine → Rp K F (.ref a) (.tuple ds)
  | dic {a : Addr} {kvs : List (Key × V)} {ds : List (D × D)} : F a = some (.dK kvs) → Rpk K F kvs ds → Rp K F (.ref a) (.dict ds)
inductive Rps (K : Frag) (F : Hp) : List V → List D → Prop
  | nil : Rps K F [] []
  | cons {v : V} {vs : List V} {d : D} {ds : List D} : Rp K F v d → Rps K F vs ds → Rps K F (v :: vs) (d :: ds)
inductive Rpk (K : Frag) (F : Hp) : List (Key × V) → List (D × D) → Prop
  | nil : Rpk K F [] []
  | cons {k : Key} {v : V} {d : D} {kvs : List (Key × V)} {ds : List (D × D)} : Rp K F v d → Rpk K F kvs ds → Rpk K F ((k, v) :: kvs) ((kD k, d) :: ds)
end
section
variable {K : Frag} {F F' : Hp}
theorem Same.seqT {a : Addr} {xs : List V} (e : Same F F') (h : SqT K F a xs) : SqT K F' a xs := by
  rcases h with (h | ⟨o, h⟩) | h
  · exact .inl (.inl (e _ _ h))
  · exact .inl (.inr ⟨o, e _ _ h⟩)
  · exact .inr h
theorem Same.lsk {a : Addr} {xs : List V} (e : Same F F') (h : LsK K F a xs) : LsK K F' a xs := by
  rcases h with (h | ⟨u, h⟩) | h
  · exact .inl (.inl (e _ _ h))
  · exact .inl (.inr ⟨u, e _ _ h⟩)
  · exact .inr h
theorem Same.rd {a : Addr} {o : HO} (e : Same F F') (h : Rd F a o) : Rd F' a o := by
  rcases h with h | ⟨u, h⟩
  · exact .inl (e _ _ h)
  · exact .inr ⟨u, e _ _ h⟩
mutual
theorem Rp.mono (s : Same F F') : ∀ {v : V} {d : D}, Rp K F v d → Rp K F' v d
  | _, _, .non => .non
  | _, _, .bl b => .bl b
  | _, _, .int i => .int i
  | _, _, .str x => .str x
  | _, _, .lst h r z => .lst (Same.lsk s h) (Rps.mono s r) z
  | _, _, .tup h r z => .tup (Same.seqT s h) (Rps.mono s r) z
  | _, _, .dic h r => .dic (s _ _ h) (Rpk.mono s r)
theorem Rps.mono (s : Same F F') : ∀ {vs : List V} {ds : List D}, Rps K F vs ds → Rps K F' vs ds
  | _, _, .nil => .nil
  | _, _, .cons h r => .cons (Rp.mono s h) (Rps.mono s r)
theorem Rpk.mono (s : Same F F') : ∀ {vs : List (Key × V)} {ds : List (D × D)}, Rpk K F vs ds → Rpk K F' vs ds
  | _, _, .nil => .nil
  | _, _, .cons h r => .cons (Rp.mono s h) (Rpk.mono s r)
end
theorem Rps.len : ∀ {vs : List V} {ds : List D}, Rps K F vs ds → vs.length = ds.length
  | _, _, .nil => rfl
  | _, _, .cons _ r => by rw [List.length_cons, List.length_cons, Rps.len r]
theorem Rps.get : ∀ {vs : List V} {ds : List D} {i : Nat} {d : D}, Rps K F vs ds → ds[i]? = some d → ∃ v, vs[i]? = some v ∧ Rp K F v d
  | _, _, _, _, .nil, h => by simp at h
  | _, _, 0, _, .cons h _, e => by simp at e; subst e; exact ⟨_, rfl, h⟩
  | _, _, i + 1, _, .cons _ r, e => by
    obtain ⟨v, h1, h2⟩ := Rps.get (i := i) r (by simpa using e)
    exact ⟨v, by simpa using h1, h2⟩
theorem Rps.getV : ∀ {vs : List V} {ds : List D} {i : Nat} {v : V}, Rps K F vs ds → vs[i]? = some v → ∃ d, ds[i]? = some d ∧ Rp K F v d
  | _, _, _, _, .nil, h => by simp at h
  | _, _, 0, _, .cons h _, e => by simp at e; subst e; exact ⟨_, rfl, h⟩
  | _, _, i + 1, _, .cons _ r, e => by
    obtain ⟨v, h1, h2⟩ := Rps.getV (i := i) r (by simpa using e)
    exact ⟨v, by simpa using h1, h2⟩
theorem Rps.append : ∀ {vs ws : List V} {ds es : List D}, Rps K F vs ds → Rps K F ws es → Rps K F (vs ++ ws) (ds ++ es)
  | _, _, _, _, .nil, h => h
  | _, _, _, _, .cons h r, q => .cons h (Rps.append r q)
theorem Rps.take : ∀ {vs : List V} {ds : List D} (n : Nat), Rps K F vs ds → Rps K F (vs.take n) (ds.take n)
  | _, _, 0, _ => .nil
  | _, _, _ + 1, .nil => .nil
  | _, _, n + 1, .cons h r => .cons h (Rps.take n r)
theorem Rps.drop : ∀ {vs : List V} {ds : List D} (n : Nat), Rps K F vs ds → Rps K F (vs.drop n) (ds.drop n)
  | _, _, 0, r => r
  | _, _, _ + 1, .nil => .nil
  | _, _, n + 1, .cons _ r => Rps.drop n r
theorem Rps.set {v : V} {d : D} (h : Rp K F v d) : ∀ {vs : List V} {ds : List D} (i : Nat), Rps K F vs ds → Rps K F (vs.set i v) (ds.set i d)
  | _, _, _, .nil => .nil
  | _, _, 0, .cons _ r => .cons h r
  | _, _, i + 1, .cons q r => .cons q (Rps.set h i r)
theorem Rps.rep {vs : List V} {ds : List D} (h : Rps K F vs ds) : ∀ k : Nat, Rps K F (List.replicate k vs).flatten (List.replicate k ds).flatten
  | 0 => .nil
  | k + 1 => by
    rw [List.replicate_succ, List.replicate_succ, List.flatten_cons, List.flatten_cons]
    exact h.append (Rps.rep h k)
theorem Rps.reverse : ∀ {vs : List V} {ds : List D}, Rps K F vs ds → Rps K F vs.reverse ds.reverse
  | _, _, .nil => .nil
  | _, _, .cons h r => by
    rw [List.reverse_cons, List.reverse_cons]
    exact (Rps.reverse r).append (.cons h .nil)
theorem Rps.ints : ∀ (ns : List Int), Rps K F (ns.map V.int) (ns.map PyData.int)
  | [] => .nil
  | n :: r => .cons (.int n) (Rps.ints r)
theorem Rps.intsV : ∀ {vs : List V} {ns : List Int}, Rps K F vs (ns.map PyData.int) → vs = ns.map V.int
  | _, [], .nil => rfl
  | _, n :: r, .cons h t => by
    cases h
    rw [List.map_cons, Rps.intsV t]
theorem Rps.boolsV : ∀ {vs : List V} {ns : List Bool}, Rps K F vs (ns.map PyData.bool) → vs = ns.map V.bl
  | _, [], .nil => rfl
  | _, n :: r, .cons h t => by
    cases h
    rw [List.map_cons, Rps.boolsV t]
end

/-! ### slots -/
/-- a slot: nothing that is told; data; a list of its own (b: lent by the caller) -/
inductive Cell where
  | un | dat (d : D) | own (b : Bool) (ds : List D)
abbrev Slots : Type := List Cell
def CellOk (K : Frag) (F H : Hp) (o : Option V) : Cell → Prop
  | .un => True
  | .dat d => ∃ v, o = some v ∧ Rp K F v d
  | .own _ ds => ∃ l xs, o = some (.ref l) ∧ F l = none ∧ H l = some (.lst xs) ∧ Rps K F xs ds ∧ xs.length ≤ sizeLine
/-- the address of an owned slot -/
def Own (σ : L2.St) (ρ : Slots) (l : Addr) : Prop := ∃ (i : Nat) (b : Bool) (ds : List D), ρ[i]? = some (Cell.own b ds) ∧ σ[i]? = some (some (V.ref l))
/-- the tables of code objects that stand, and the names of what they tell -/
class Tb where
  l : List (Addr × Str)
/-- neither a table nor what a table tells of -/
def NT (o : HO) : Prop := (∀ ps, o ≠ .tbl ps) ∧ ∀ f, o ≠ .ext f
theorem NT.lst (xs : List V) : NT (.lst xs) := ⟨fun _ z => (by cases z), fun _ z => (by cases z)⟩
theorem NT.dK (xs : List (Key × V)) : NT (.dK xs) := ⟨fun _ z => (by cases z), fun _ z => (by cases z)⟩
theorem tabS_upd {H : Hp} {p P : Addr} {o : HO} {q : Str} (t : LamX.TabS H P q) (h : ∀ o', H p = some o' → NT o') : LamX.TabS (upd H p o) P q := by
  obtain ⟨ps, h1, h2, h3⟩ := t
  have hP : P ≠ p := fun z => by subst z; exact (h _ h1).1 _ rfl
  refine ⟨ps, by rw [upd_ne hP]; exact h1, h2, fun pos cv hc => ?_⟩
  obtain ⟨c, e1, e2⟩ := h3 pos cv hc
  have hcp : c ≠ p := fun z => by subst z; exact (h _ e2).2 _ rfl
  exact ⟨c, e1, by rw [upd_ne hcp]; exact e2⟩
theorem tabS_del {H : Hp} {p P : Addr} {q : Str} (t : LamX.TabS H P q) (h : ∀ o', H p = some o' → NT o') : LamX.TabS (fun a => if a = p then none else H a) P q := by
  obtain ⟨ps, h1, h2, h3⟩ := t
  have hP : P ≠ p := fun z => by subst z; exact (h _ h1).1 _ rfl
  refine ⟨ps, (if_neg hP).trans h1, h2, fun pos cv hc => ?_⟩
  obtain ⟨c, e1, e2⟩ := h3 pos cv hc
  have hcp : c ≠ p := fun z => by subst z; exact (h _ e2).2 _ rfl
  exact ⟨c, e1, (if_neg hcp).trans e2⟩
theorem nt_none {H : Hp} {p : Addr} (h : H p = none) : ∀ o', H p = some o' → NT o' := fun o' z => by rw [h] at z; cases z
theorem nt_lst {H : Hp} {p : Addr} {xs : List V} (h : H p = some (.lst xs)) : ∀ o', H p = some o' → NT o' := fun o' z => by
  rw [h] at z
  rw [← Option.some.inj z]
  exact .lst xs
theorem nt_dK {H : Hp} {p : Addr} {xs : List (Key × V)} (h : H p = some (.dK xs)) : ∀ o', H p = some o' → NT o' := fun o' z => by
  rw [h] at z
  rw [← Option.some.inj z]
  exact .dK xs
/-- no table is told as data -/
def NoT (F : Hp) : Prop := ∀ a ps, F a ≠ some (.tbl ps)
theorem not_upd {F : Hp} {p : Addr} {o : HO} (n : NoT F) (ho : ∀ ps, o ≠ .tbl ps) : NoT (upd F p o) := fun a ps z => by
  by_cases h : a = p
  · subst h; rw [upd_same] at z; exact ho ps (Option.some.inj z)
  · rw [upd_ne h] at z; exact n a ps z
/-- the tables that are told stand so -/
def TbOk [Tb] (F H : Hp) : Prop := LamX.Tabs Tb.l H ∧ NoT F
theorem tbok_upd [Tb] {F H : Hp} {p : Addr} {o : HO} (t : TbOk F H) (h : ∀ o', H p = some o' → NT o') : TbOk F (upd H p o) := ⟨fun q hq => tabS_upd (t.1 q hq) h, t.2⟩
theorem tbok_upd2 [Tb] {F H : Hp} {p : Addr} {o : HO} (t : TbOk F H) (h : ∀ o', H p = some o' → NT o') (ho : ∀ ps, o ≠ .tbl ps) : TbOk (upd F p o) (upd H p o) := ⟨fun q hq => tabS_upd (t.1 q hq) h, not_upd t.2 ho⟩
theorem tbok_del [Tb] {F H : Hp} {p : Addr} (t : TbOk F H) (h : ∀ o', H p = some o' → NT o') : TbOk F (fun a => if a = p then none else H a) := ⟨fun q hq => tabS_del (t.1 q hq) h, t.2⟩
/-- a mark at the module table's place: nothing new is laid there -/
def Sm (F : Hp) : Prop := ∃ o, F sysModules = some (.frz o (.own 0))
theorem Sm.up {F F' : Hp} (h : Sm F) (s : Same F F') : Sm F' := let ⟨o, e⟩ := h; ⟨o, s _ _ e⟩
structure EnvOk [Tb] (K : Frag) (F H : Hp) (σ : L2.St) (ρ : Slots) : Prop where
  sub : Same F H
  len : σ.length = ρ.length
  cell : ∀ (i : Nat) (c : Cell), ρ[i]? = some c → CellOk K F H (σ[i]?.getD none) c
  sep : ∀ (i j : Nat) (l : Addr) (b b' : Bool) (ds ds' : List D), ρ[i]? = some (Cell.own b ds) → ρ[j]? = some (Cell.own b' ds') → σ[i]? = some (some (V.ref l)) → σ[j]? = some (some (V.ref l)) → i = j
  sm : Sm F
  tb : TbOk F H
/-- what a part of a run leaves of the heap: B may change -/
structure Ext [Tb] (B : Addr → Prop) (F H F' H' : Hp) : Prop where
  f : Same F F'
  h' : ∀ a o, H a = some o → ¬ B a → (∀ ps, o ≠ .tbl ps) → H' a = some o
  n : ∀ a, F' a ≠ none → F a ≠ none ∨ H a = none ∨ B a
  d : ∀ a, H a ≠ none → H' a ≠ none
  t : TbOk F H → TbOk F' H'
section
variable [Tb] {K : Frag} {B B' : Addr → Prop} {F H F1 H1 F2 H2 : Hp} {σ : L2.St} {ρ ρ1 ρ2 : Slots}
theorem Ext.h (e : Ext B F H F1 H1) (a : Addr) (o : HO) (x : H a = some o) (nb : ¬ B a) (nt : ∀ ps, o ≠ .tbl ps := by (intro ps z; cases z)) : H1 a = some o := e.h' a o x nb nt
theorem Ext.refl : Ext B F H F H := ⟨fun _ _ h => h, fun _ _ h _ _ => h, fun _ h => .inl h, fun _ h => h, fun t => t⟩
theorem Ext.trans (a : Ext B F H F1 H1) (b : Ext B' F1 H1 F2 H2) (hb : ∀ l, B' l → B l ∨ H l = none) : Ext B F H F2 H2 := by
  refine ⟨a.f.trans b.f, fun c o e n nt => ?_, fun c e => ?_, fun c e => b.d c (a.d c e), fun t => b.t (a.t t)⟩
  · have e1 := a.h' c o e n nt
    refine b.h' c o e1 (fun q => ?_) nt
    rcases hb c q with z | z
    · exact n z
    · rw [e] at z; cases z
  · rcases b.n c e with z | z | z
    · exact a.n c z
    · by_cases hc : H c = none
      · exact .inr (.inl hc)
      · by_cases hB : B c
        · exact .inr (.inr hB)
        · obtain ⟨o, ho⟩ := Option.ne_none_iff_exists'.mp hc
          exact absurd z (a.d c (by rw [ho]; simp))
    · rcases hb c z with z | z
      · exact .inr (.inr z)
      · exact .inr (.inl z)
theorem Ext.mono (a : Ext B F H F1 H1) (h : ∀ l, B l → B' l) : Ext B' F H F1 H1 :=
  ⟨a.f, fun c o e n nt => a.h' c o e (fun q => n (h c q)) nt, fun c e => (a.n c e).imp id (Or.imp id (h c)), a.d, a.t⟩
theorem Ext.free (a : Ext B F H F1 H1) {l : Addr} (h : H1 l = none) : H l = none := by
  cases e : H l with
  | none => rfl
  | some o => exact absurd h (a.d l (by rw [e]; simp))
/-- a new object laid, kept as data -/
theorem Ext.laid {p : Addr} {o : HO} (s : Same F H) (h : H p = none) (ho : ∀ ps, o ≠ .tbl ps := by (intro ps z; cases z)) : Ext B F H (upd F p o) (upd H p o) := by
  have hF : F p = none := s.free h
  refine ⟨fun c x e => ?_, fun c x e _ _ => ?_, fun c e => ?_, fun c e => ?_, fun t => tbok_upd2 t (nt_none h) ho⟩
  · rw [upd_ne (ne_of_none e hF)]; exact e
  · rw [upd_ne (ne_of_none e h)]; exact e
  · by_cases hc : c = p
    · subst hc; exact .inr (.inl h)
    · rw [upd_ne hc] at e; exact .inl e
  · by_cases hc : c = p
    · subst hc; rw [upd_same]; simp
    · rw [upd_ne hc]; exact e
/-- a new object laid, not told as data -/
theorem Ext.laidH {p : Addr} {o : HO} (h : H p = none) : Ext B F H F (upd H p o) := by
  refine ⟨fun c x e => e, fun c x e _ _ => ?_, fun c e => .inl e, fun c e => ?_, fun t => tbok_upd t (nt_none h)⟩
  · rw [upd_ne (ne_of_none e h)]; exact e
  · by_cases hc : c = p
    · subst hc; rw [upd_same]; simp
    · rw [upd_ne hc]; exact e
theorem CellOk.ext {o : Option V} {c : Cell} (h : CellOk K F H o c) (e : Ext B F H F1 H1) (hb : ∀ l b ds, c = .own b ds → o = some (.ref l) → ¬ B l) : CellOk K F1 H1 o c := by
  cases c with
  | un => trivial
  | dat d => obtain ⟨v, h1, h2⟩ := h; exact ⟨v, h1, h2.mono e.f⟩
  | own b ds =>
    obtain ⟨l, xs, h1, h2, h3, h4, h5⟩ := h
    have nb := hb l b ds rfl h1
    refine ⟨l, xs, h1, ?_, e.h _ _ h3 nb, h4.mono e.f, h5⟩
    cases q : F1 l with
    | none => rfl
    | some u =>
      rcases e.n l (by rw [q]; simp) with z | z | z
      · exact absurd h2 z
      · rw [h3] at z; cases z
      · exact absurd z nb
/-- the slots stay where nothing of theirs is changed -/
theorem EnvOk.ext (h : EnvOk K F H σ ρ) (e : Ext B F H F1 H1) (s : Same F1 H1) (hb : ∀ l, Own σ ρ l → ¬ B l) : EnvOk K F1 H1 σ ρ := by
  refine ⟨s, h.len, fun i c hc => ?_, h.sep, h.sm.up e.f, e.t h.tb⟩
  refine (h.cell i c hc).ext e fun l b ds ec eo => hb l ⟨i, b, ds, by rw [hc, ec], ?_⟩
  cases q : σ[i]? with
  | none => rw [q] at eo; cases eo
  | some u => rw [q] at eo; exact congrArg some eo
theorem sub_upd {p : Addr} {o : HO} (s : Same F H) (h : H p = none) : Same (upd F p o) (upd H p o) := fun c x e => by
  by_cases hc : c = p
  · subst hc; rw [upd_same] at e; rw [upd_same]; exact e
  · rw [upd_ne hc] at e; rw [upd_ne hc]; exact s _ _ e
theorem sub_updH {p : Addr} {o : HO} (s : Same F H) (h : F p = none) : Same F (upd H p o) := fun c x e => by
  rw [upd_ne (ne_of_none e h)]; exact s _ _ e
theorem Ext.nil_own {B : Addr → Prop} (e : Ext (fun _ => False) F H F1 H1) : Ext B F H F1 H1 := e.mono fun _ z => z.elim
end

/-! ### outcomes -/
inductive R (α : Type) where
  | ok (a : α) | exc (c : Str) (fs : List (Str × D)) | bad
def R.bind {α β : Type} : R α → (α → R β) → R β
  | .ok a, f => f a
  | .exc c fs, _ => .exc c fs
  | .bad, _ => .bad
/-- where nothing may be let out -/
def nx {α : Type} : R α → R α
  | .exc _ _ => .bad
  | r => r
@[simp] theorem nx_o {α : Type} (a : α) : nx (R.ok a) = .ok a := Eq.trans rfl rfl
@[simp] theorem nx_e {α : Type} (c : Str) (fs : List (Str × D)) : nx (R.exc c fs : R α) = .bad := Eq.trans rfl rfl
@[simp] theorem nx_b {α : Type} : nx (R.bad : R α) = .bad := Eq.trans rfl rfl
theorem nx_ok {α : Type} {r : R α} {a : α} (h : nx r = .ok a) : r = .ok a := by
  cases r <;> first | exact h | cases h
instance : Monad R where
  pure := .ok
  bind := R.bind
@[simp] theorem bind_ok {α β : Type} (a : α) (f : α → R β) : (R.ok a >>= f) = f a := Eq.trans rfl rfl
@[simp] theorem bind_bad {α β : Type} (f : α → R β) : ((R.bad : R α) >>= f) = .bad := Eq.trans rfl rfl
@[simp] theorem bind_exc {α β : Type} (c : Str) (fs : List (Str × D)) (f : α → R β) : ((R.exc c fs : R α) >>= f) = .exc c fs := Eq.trans rfl rfl
@[simp] theorem pure_ok {α : Type} (a : α) : (pure a : R α) = .ok a := Eq.trans rfl rfl
end DP

/-! DP, part 2: the small tree and what it does to data. -/
namespace DP
open PySem PySem.Spec PyProof.Rows L2

inductive O2 where
  | add | sub | mul | fdiv | mod | pow
inductive Oc where
  | eq | ne | lt | le | gt | ge | isN | notN | inn | nin | isB | notB
inductive Lit where
  | non | bl (b : Bool) | int (i : Int) | str (x : Str)
inductive Bi where
  | len | all | any | sum | tuple | list | sorted | abs | int | str | repr | max | min
/-- methods of a list with one operand -/
inductive Mo where
  | cnt | idx
inductive Ty where
  | int | bool | tuple | list | str
inductive Tg where
  | nm (i : Nat) | tup (is : List Nat)
mutual
inductive E where
  | var (i : Nat) | frz (i : Nat) | lit (l : Lit) | cst (j : Nat)
  | tup (es : Es) | lst (es : Es)
  | bin (o : O2) (a b : E) | cmp (o : Oc) (a b : E) | chn (o1 o2 : Oc) (a b c : E)
  | neg (a : E) | not (a : E) | and (es : Es) | or (es : Es) | ife (c a b : E)
  | ix (a i : E) | slc (a lo hi : E) | nop
  | call (j : Nat) (es : Es) | callB (j i : Nat) (es : Es)
  | bi (f : Bi) (a : E) | isi (a : E) (t : Ty)
  | comp (elt : E) (tg : Tg) (it : I) (cond : E)
  | comp2 (elt : E) (tg : Tg) (it : I) (cond : E) (tg2 : Tg) (it2 : I) (cond2 : E)
  | dic1 (k v : E)
  | word (j : Nat) (e : E)
  | b2 (mx : Bool) (a b : E) | mth (m : Mo) (a b : E) | lrg (it : I)
inductive Es where
  | nil | cons (e : E) (es : Es)
inductive I where
  | seq (a : E) | rng (a : E) | rng2 (a b : E) | zip (a b : E) | enm (a : E)
end

/-! ### what the operators do to data -/
def sz (n : Nat) : Bool := decide (n ≤ sizeLine)
def gd (b : Bool) (r : R D) : R D := if b = true then r else .bad
def i64 (i : Int) : Bool := decide (-(2 ^ 64) < i) && decide (i < 2 ^ 64)
def op2 : O2 → D → D → R D
  | .add, .int i, .int j => .ok (.int (i + j))
  | .add, .tuple xs, .tuple ys => gd (sz (xs.length + ys.length)) (.ok (.tuple (xs ++ ys)))
  | .add, .list xs, .list ys => gd (sz (xs.length + ys.length)) (.ok (.list (xs ++ ys)))
  | .add, .str x, .str y => gd (sz (x.length + y.length)) (.ok (.str (x ++ y)))
  | .sub, .int i, .int j => .ok (.int (i - j))
  | .mul, .int i, .int j => gd (i64 i || i64 j) (.ok (.int (i * j)))
  | .mul, .tuple xs, .int k => gd (!xs.isEmpty && decide (2 ≤ k) && decide (k ≤ 1000) && decide (xs.length ≤ 1000)) (.ok (.tuple (List.replicate k.toNat xs).flatten))
  | .mul, .list xs, .int k => gd (decide (-(2 ^ 63) ≤ k) && decide (k < 2 ^ 63) && sz (xs.length * k.toNat)) (.ok (.list (List.replicate k.toNat xs).flatten))
  | .fdiv, .int i, .int j => gd (decide (0 < j) && decide (j < 1073741824)) (.ok (.int (i / j)))
  | .mod, .int i, .int j => gd (decide (0 < j)) (.ok (.int (i % j)))
  | .pow, .int i, .int j => gd (decide (0 ≤ j) && decide (j ≤ 1000000) && decide (i.natAbs < 2 ^ 64)) (.ok (.int (i ^ j.toNat)))
  | _, _, _ => .bad
def ints? : List D → R (List Int)
  | [] => .ok []
  | .int i :: r => ints? r >>= fun ns => .ok (i :: ns)
  | _ :: _ => .bad
def bools? : List D → R (List Bool)
  | [] => .ok []
  | .bool i :: r => bools? r >>= fun ns => .ok (i :: ns)
  | _ :: _ => .bad
/-- flat things: what `in` looks through item by item -/
def flat : D → Bool
  | .none | .bool _ | .int _ | .str _ => true
  | _ => false
def shp (d : D) : Bool := SeqAt.shaped d
def items? : D → R (List D)
  | .tuple xs => .ok xs
  | .list xs => .ok xs
  | _ => .bad
def isN : D → Bool
  | .none => true
  | _ => false
def bothS : D → D → Bool
  | .str _, .str _ => true
  | _, _ => false
def eqOk (d e : D) : Bool := (shp d && shp e) || bothS d e
def inOk (x : D) (ds : List D) : Bool := (shp x && shp (.list ds)) || (flat x && ds.all flat)
def inD (x y : D) : R Bool := match y with
  | .list ds => if inOk x ds = true then .ok (ds.any fun z => PyData.eqv z x) else .bad
  | .tuple ds => if (flat x && ds.all flat) = true then .ok (ds.any fun z => PyData.eqv z x) else .bad
  | _ => .bad
def cmpD : Oc → D → D → R Bool
  | .eq, d, e => if eqOk d e = true then .ok (PyData.eqv d e) else .bad
  | .ne, d, e => if eqOk d e = true then .ok (!PyData.eqv d e) else .bad
  | .lt, .int i, .int j => .ok (decide (i < j))
  | .le, .int i, .int j => .ok (decide (i ≤ j))
  | .gt, .int i, .int j => .ok (decide (j < i))
  | .ge, .int i, .int j => .ok (decide (j ≤ i))
  | .lt, .tuple xs, .tuple ys => ints? xs >>= fun ns => ints? ys >>= fun ms => .ok (HT.lexLt ns ms)
  | .isN, d, .none => .ok (isN d)
  | .notN, d, .none => .ok (!isN d)
  | .isB, .bool a, .bool b => .ok (a == b)
  | .notB, .bool a, .bool b => .ok (!(a == b))
  | .inn, x, y => inD x y
  | .nin, x, y => inD x y >>= fun b => .ok (!b)
  | _, _, _ => .bad
def ixN' (n : Nat) (i : Int) : Option Nat := ixN n i
def ixD (a i : D) : R D := match a, i with
  | .tuple xs, .int k => (match atI xs k with | some d => .ok d | none => .bad)
  | .list xs, .int k => (match atI xs k with | some d => .ok d | none => .bad)
  | _, _ => .bad
def cutD (xs : List D) (lo hi : Option Int) : List D := (xs.drop (HT.sIx xs.length 0 lo)).take (HT.sIx xs.length xs.length hi - HT.sIx xs.length 0 lo)
def slcD (a : D) (lo hi : Option Int) : R D := match a with
  | .tuple xs => .ok (.tuple (cutD xs lo hi))
  | .list xs => .ok (.list (cutD xs lo hi))
  | _ => .bad
def tyD : Ty → D → Bool
  | .int, .int _ => true
  | .int, .bool _ => true
  | .bool, .bool _ => true
  | .tuple, .tuple _ => true
  | .list, .list _ => true
  | .str, .str _ => true
  | _, _ => false
/-- a pair of a number and a tuple of numbers -/
def key? : D → R (Int × List Int)
  | .tuple [.int i, .tuple ds] => ints? ds >>= fun ns => .ok (i, ns)
  | _ => .bad
def keys? : List D → R (List (Int × List Int))
  | [] => .ok []
  | d :: r => key? d >>= fun k => keys? r >>= fun ks => .ok (k :: ks)
def kLt (p q : Int × List Int) : Bool := if p.1 = q.1 then HT.lexLt p.2 q.2 else decide (p.1 < q.1)
/-- put in its place, behind those that are alike -/
def ins {α : Type} (lt : α → α → Bool) (x : α) : List α → List α
  | [] => [x]
  | y :: r => if lt x y = true then x :: y :: r else y :: ins lt x r
def isort {α : Type} (lt : α → α → Bool) : List α → List α
  | [] => []
  | x :: r => ins lt x (isort lt r)
def kD' (p : Int × List Int) : D := .tuple [.int p.1, .tuple (p.2.map PyData.int)]
def sortD (ds : List D) : R D := match ints? ds with
  | .ok ns => .ok (.list ((isort (fun a b : Int => decide (a < b)) ns).map PyData.int))
  | _ => keys? ds >>= fun ks => .ok (.list ((isort kLt ks).map kD'))
/-- what repr can show -/
def repOk (d : D) : Bool := d.showable && decide (d.shown.length ≤ sizeLine) && decide (d.depth ≤ 64)
def maxI : List Int → Int
  | [] => 0
  | n :: r => r.foldl max n
def minI : List Int → Int
  | [] => 0
  | n :: r => r.foldl min n
def isL : D → R Unit
  | .list _ => .ok ()
  | _ => .bad
def mtD : Mo → D → D → R D
  | .cnt, .list ds, y => if (flat y && ds.all flat) = true then .ok (.int (ds.countP (fun z => PyData.eqv z y) : Nat)) else .bad
  | .idx, .list ds, y => if (flat y && ds.all flat) = true then (match ds.findIdx? (fun z => PyData.eqv z y) with | some j => .ok (.int (j : Nat)) | none => .bad) else .bad
  | _, _, _ => .bad
def zipD : D → D → R (List D)
  | .list xs, .list ys => .ok (List.zipWith (fun a b => PyData.tuple [a, b]) xs ys)
  | .tuple xs, .tuple ys => .ok (List.zipWith (fun a b => PyData.tuple [a, b]) xs ys)
  | _, _ => .bad
def enmD (xs : List D) : List D := xs.mapIdx fun i a => PyData.tuple [.int (i : Nat), a]
def enmC : D → R (List D)
  | .list xs => .ok (enmD xs)
  | _ => .bad
def biD : Bi → D → R D
  | .len, .tuple xs => .ok (.int xs.length)
  | .len, .list xs => .ok (.int xs.length)
  | .all, .list xs => bools? xs >>= fun bs => .ok (.bool (bs.all id))
  | .any, .list xs => bools? xs >>= fun bs => .ok (.bool (bs.any id))
  | .sum, .list xs => ints? xs >>= fun ns => .ok (.int ns.sum)
  | .sum, .tuple xs => ints? xs >>= fun ns => .ok (.int ns.sum)
  | .tuple, .list xs => .ok (.tuple xs)
  | .tuple, .tuple xs => .ok (.tuple xs)
  | .list, .list xs => .ok (.list xs)
  | .list, .tuple xs => .ok (.list xs)
  | .sorted, .list xs => sortD xs
  | .abs, .int i => .ok (.int (if i < 0 then -i else i))
  | .int, .int i => .ok (.int i)
  | .repr, d => gd (repOk d) (.ok (.str d.shown))
  | .max, .list xs => ints? xs >>= fun ns => if ns.isEmpty = true then .bad else .ok (.int (maxI ns))
  | .min, .list xs => ints? xs >>= fun ns => if ns.isEmpty = true then .bad else .ok (.int (minI ns))
  | _, _ => .bad
def litD : Lit → D
  | .non => .none
  | .bl b => .bool b
  | .int i => .int i
  | .str x => .str x

/-! ### the run -/
/-- a def as its callers know it: bor: its first parameter is a list that is lent; nw: it hands back a list just made; what comes back, and what stands in the lent list then -/
structure Sig where
  name : Str
  n : Nat
  bor : Bool
  nw : Bool
  sem : List D → R (D × List D)
/-- a def that calls what it gets, and tells of it: what comes back, by what the call gave -/
structure Wd where
  name : Str
  sem : R D → R D
structure Gm where
  fns : List Sig
  cst : List (Str × Lit)
  exn : List Str
  wds : List Wd
inductive Opd where
  | val (d : D) | plc (i : Nat)
/-- the data that an operand has by now -/
def peek (ρ : Slots) : Opd → R D
  | .val d => .ok d
  | .plc i => match ρ[i]? with
    | some (.own _ ds) => .ok (.list ds)
    | _ => .bad
def keep : Opd → R D
  | .val d => .ok d
  | .plc _ => .bad
def rdVar (ρ : Slots) (i : Nat) : R (Opd × Slots) := match ρ[i]? with
  | some (.dat d) => .ok (.val d, ρ)
  | some (.own _ _) => .ok (.plc i, ρ)
  | _ => .bad
def asB : D → R Bool
  | .bool b => .ok b
  | _ => .bad
def asI : D → R Int
  | .int i => .ok i
  | _ => .bad
/-- a target takes an item -/
def putAll : List Nat → List D → Slots → R Slots
  | [], [], ρ => .ok ρ
  | i :: is, d :: ds, ρ => putAll is ds (ρ.set i (.dat d))
  | _, _, _ => .bad
/-- slots that no one has lent -/
def free (ρ : Slots) (i : Nat) : Bool := match ρ[i]? with
  | some (.own true _) => false
  | some _ => true
  | none => false
def putTg : Tg → D → Slots → R Slots
  | .nm i, d, ρ => if free ρ i = true then .ok (ρ.set i (.dat d)) else .bad
  | .tup is, .tuple ds, ρ => if (is.all fun i => free ρ i) = true then putAll is ds ρ else .bad
  | .tup _, _, _ => .bad
def Tg.slots : Tg → List Nat
  | .nm i => [i]
  | .tup is => is
def wipeR (ρ : Slots) : List Nat → Slots
  | [] => ρ
  | v :: vs => (wipeR ρ vs).set v .un
/-- behind a block: the block's own names are the outer ones again -/
def unwipe (ρ0 ρ : Slots) : List Nat → Slots
  | [] => ρ
  | v :: vs => match ρ0[v]? with
    | some c => (unwipe ρ0 ρ vs).set v c
    | none => unwipe ρ0 ρ vs
/-- one turn of a comprehension -/
def compLoop (turn : D → Slots → R (Option D × Slots)) : List D → Slots → R (List D × Slots)
  | [], ρ => .ok ([], ρ)
  | d :: r, ρ => turn d ρ >>= fun p => compLoop turn r p.2 >>= fun q => .ok ((match p.1 with | some x => x :: q.1 | none => q.1), q.2)
/-- the outer loop of a comprehension of two clauses -/
def compLoop2 (turn : D → Slots → R (List D × Slots)) : List D → Slots → R (List D × Slots)
  | [], ρ => .ok ([], ρ)
  | d :: r, ρ => turn d ρ >>= fun p => compLoop2 turn r p.2 >>= fun q => .ok (p.1 ++ q.1, q.2)
def rngD (lo hi : Int) : List D := (List.range (hi - lo).toNat).map fun (i : Nat) => PyData.int (lo + i)
def rngOk (lo hi : Int) : Bool := decide (-(2 ^ 62) ≤ lo) && decide (lo < 2 ^ 62) && decide (-(2 ^ 62) ≤ hi) && decide (hi < 2 ^ 62)
/-- a slice's end, perhaps left out -/
def part (e : E) (r : R (Opd × Slots)) (ρ : Slots) : R (Option Int × Slots) := match e with
  | .nop => .ok (none, ρ)
  | _ => r >>= fun p => peek p.2 p.1 >>= fun x => asI x >>= fun i => .ok (some i, p.2)
def callC : Option Sig → List D → Slots → R (Opd × Slots)
  | some g, ds, ρ => if (!g.bor && decide (ds.length = g.n)) = true then g.sem ds >>= fun r => .ok (.val r.1, ρ) else .bad
  | none, _, _ => .bad
def callBC : Option Sig → Nat → List D → Slots → Option Cell → R (Opd × Slots)
  | some g, i, es, ρ, some (.own b ds) => if (g.bor && decide (es.length + 1 = g.n)) = true then nx (g.sem (.list ds :: es)) >>= fun r => .ok (.val r.1, ρ.set i (.own b r.2)) else .bad
  | _, _, _, _, _ => .bad
def isOwn : Option Cell → Bool
  | some (.own _ _) => true
  | _ => false
/-- the slots as a lambda sees them -/
def hide (ρ : Slots) : Slots := ρ.map fun c => match c with
  | .own _ _ => .un
  | c => c
def wordC : Option Wd → R D → Slots → R (Opd × Slots)
  | some w, r, ρ => nx (w.sem r) >>= fun d => .ok (.val d, ρ)
  | none, _, _ => .bad
/-- without words -/
def Gm.noW (G : Gm) : Gm := ⟨G.fns, G.cst, G.exn, []⟩
mutual
def ev (G : Gm) : E → Slots → R (Opd × Slots)
  | .var i, ρ => rdVar ρ i
  | .frz i, ρ => (match ρ[i]? with
    | some (.dat d) => .ok (.val d, ρ)
    | some (.own false ds) => .ok (.val (.list ds), ρ.set i (.dat (.list ds)))
    | _ => .bad)
  | .lit l, ρ => .ok (.val (litD l), ρ)
  | .cst j, ρ => (match G.cst[j]? with | some p => .ok (.val (litD p.2), ρ) | none => .bad)
  | .tup es, ρ => evs G es ρ >>= fun p => if sz p.1.length = true then .ok (.val (.tuple p.1), p.2) else .bad
  | .lst es, ρ => evs G es ρ >>= fun p => if sz p.1.length = true then .ok (.val (.list p.1), p.2) else .bad
  | .bin o a b, ρ => ev G a ρ >>= fun p => ev G b p.2 >>= fun q => peek q.2 p.1 >>= fun x => peek q.2 q.1 >>= fun y => op2 o x y >>= fun d => .ok (.val d, q.2)
  | .cmp o a b, ρ => ev G a ρ >>= fun p => ev G b p.2 >>= fun q => peek q.2 p.1 >>= fun x => peek q.2 q.1 >>= fun y => cmpD o x y >>= fun d => .ok (.val (.bool d), q.2)
  | .chn o1 o2 a b c, ρ => ev G a ρ >>= fun p => ev G b p.2 >>= fun q => peek q.2 p.1 >>= fun x => peek q.2 q.1 >>= fun y => cmpD o1 x y >>= fun k =>
      if k = true then ev G c q.2 >>= fun t => peek t.2 q.1 >>= fun y => peek t.2 t.1 >>= fun z => cmpD o2 y z >>= fun k2 => .ok (.val (.bool k2), t.2) else .ok (.val (.bool false), q.2)
  | .neg a, ρ => ev G a ρ >>= fun p => peek p.2 p.1 >>= fun x => asI x >>= fun i => .ok (.val (.int (-i)), p.2)
  | .not a, ρ => ev G a ρ >>= fun p => peek p.2 p.1 >>= fun x => asB x >>= fun b => .ok (.val (.bool (!b)), p.2)
  | .and es, ρ => evAnd G es ρ
  | .or es, ρ => evOr G es ρ
  | .ife c a b, ρ => ev G c ρ >>= fun p => peek p.2 p.1 >>= fun x => asB x >>= fun k => if k = true then ev G a p.2 else ev G b p.2
  | .ix a i, ρ => ev G a ρ >>= fun p => ev G i p.2 >>= fun q => peek q.2 p.1 >>= fun x => peek q.2 q.1 >>= fun y => ixD x y >>= fun d => .ok (.val d, q.2)
  | .slc a lo hi, ρ => ev G a ρ >>= fun p => part lo (ev G lo p.2) p.2 >>= fun q => part hi (ev G hi q.2) q.2 >>= fun t => peek t.2 p.1 >>= fun x => slcD x q.1 t.1 >>= fun d => .ok (.val d, t.2)
  | .nop, _ => .bad
  | .call j es, ρ => evs G es ρ >>= fun p => callC G.fns[j]? p.1 p.2
  | .callB j i es, ρ => if isOwn ρ[i]? = true then evs G es ρ >>= fun p => callBC G.fns[j]? i p.1 p.2 p.2[i]? else .bad
  | .bi f a, ρ => ev G a ρ >>= fun p => peek p.2 p.1 >>= fun x => biD f x >>= fun d => .ok (.val d, p.2)
  | .isi a t, ρ => ev G a ρ >>= fun p => peek p.2 p.1 >>= fun x => .ok (.val (.bool (tyD t x)), p.2)
  | .comp elt tg it cond, ρ => evI G it ρ >>= fun p =>
      compLoop (fun d ρ1 => nx (putTg tg d (wipeR ρ1 tg.slots) >>= fun ρ2 => ev G cond ρ2 >>= fun c => peek c.2 c.1 >>= fun x => asB x >>= fun k =>
        if k = true then ev G elt c.2 >>= fun y => keep y.1 >>= fun d' => .ok (some d', unwipe ρ1 y.2 tg.slots) else .ok (none, unwipe ρ1 c.2 tg.slots))) p.1 p.2 >>= fun q => .ok (.val (.list q.1), q.2)
  | .comp2 elt tg it cond tg2 it2 cond2, ρ => evI G it ρ >>= fun p =>
      compLoop2 (fun d ρ1 => nx (putTg tg d (wipeR ρ1 (tg.slots ++ tg2.slots)) >>= fun ρ2 => ev G cond ρ2 >>= fun c => peek c.2 c.1 >>= fun x => asB x >>= fun k =>
        if k = true then evI G it2 c.2 >>= fun p2 =>
          compLoop (fun d2 ρ3 => nx (putTg tg2 d2 (wipeR ρ3 tg2.slots) >>= fun ρ4 => ev G cond2 ρ4 >>= fun c2 => peek c2.2 c2.1 >>= fun x2 => asB x2 >>= fun k2 =>
            if k2 = true then ev G elt c2.2 >>= fun y => keep y.1 >>= fun d' => .ok (some d', unwipe ρ3 y.2 tg2.slots) else .ok (none, unwipe ρ3 c2.2 tg2.slots))) p2.1 p2.2 >>= fun q => .ok (q.1, unwipe ρ1 q.2 (tg.slots ++ tg2.slots))
        else .ok ([], unwipe ρ1 c.2 (tg.slots ++ tg2.slots)))) p.1 p.2 >>= fun q => if sz q.1.length = true then .ok (.val (.list q.1), q.2) else .bad
  | .dic1 k v, ρ => ev G k ρ >>= fun p => ev G v p.2 >>= fun q => peek q.2 p.1 >>= fun x => keep q.1 >>= fun y => (match x with
      | .int i => .ok (.val (.dict [(.int i, y)]), q.2)
      | .str s => .ok (.val (.dict [(.str s, y)]), q.2)
      | _ => .bad)
  | .word j e, ρ => wordC G.wds[j]? (ev G.noW e (hide ρ) >>= fun p => keep p.1) ρ
  | .b2 mx a b, ρ => ev G a ρ >>= fun p => ev G b p.2 >>= fun q => peek q.2 p.1 >>= fun x => peek q.2 q.1 >>= fun y => asI x >>= fun i => asI y >>= fun j => .ok (.val (.int (if (if mx = true then decide (i < j) else decide (j < i)) = true then j else i)), q.2)
  | .mth m a b, ρ => ev G a ρ >>= fun p => peek p.2 p.1 >>= fun x0 => isL x0 >>= fun _ => ev G b p.2 >>= fun q => peek q.2 p.1 >>= fun x => peek q.2 q.1 >>= fun y => mtD m x y >>= fun d => .ok (.val d, q.2)
  | .lrg it, ρ => evI G it ρ >>= fun p => .ok (.val (.list p.1), p.2)
def evs (G : Gm) : Es → Slots → R (List D × Slots)
  | .nil, ρ => .ok ([], ρ)
  | .cons e es, ρ => ev G e ρ >>= fun p => keep p.1 >>= fun d => evs G es p.2 >>= fun q => .ok (d :: q.1, q.2)
def evAnd (G : Gm) : Es → Slots → R (Opd × Slots)
  | .nil, _ => .bad
  | .cons e .nil, ρ => ev G e ρ
  | .cons e (.cons e2 es), ρ => ev G e ρ >>= fun p => peek p.2 p.1 >>= fun x => asB x >>= fun k => if k = true then evAnd G (.cons e2 es) p.2 else .ok (.val (.bool false), p.2)
def evOr (G : Gm) : Es → Slots → R (Opd × Slots)
  | .nil, _ => .bad
  | .cons e .nil, ρ => ev G e ρ
  | .cons e (.cons e2 es), ρ => ev G e ρ >>= fun p => peek p.2 p.1 >>= fun x => asB x >>= fun k => if k = true then .ok (.val (.bool true), p.2) else evOr G (.cons e2 es) p.2
def evI (G : Gm) : I → Slots → R (List D × Slots)
  | .seq a, ρ => ev G a ρ >>= fun p => keep p.1 >>= fun x => items? x >>= fun ds => .ok (ds, p.2)
  | .rng a, ρ => ev G a ρ >>= fun p => peek p.2 p.1 >>= fun x => asI x >>= fun i => if (rngOk 0 i && sz i.toNat) = true then .ok (rngD 0 i, p.2) else .bad
  | .rng2 a b, ρ => ev G a ρ >>= fun p => ev G b p.2 >>= fun q => peek q.2 p.1 >>= fun x => peek q.2 q.1 >>= fun y => asI x >>= fun i => asI y >>= fun j =>
      if (rngOk i j && sz (j - i).toNat) = true then .ok (rngD i j, q.2) else .bad
  | .zip a b, ρ => ev G a ρ >>= fun p => keep p.1 >>= fun x => ev G b p.2 >>= fun q => keep q.1 >>= fun y => zipD x y >>= fun ds => .ok (ds, q.2)
  | .enm a, ρ => ev G a ρ >>= fun p => keep p.1 >>= fun x => enmC x >>= fun ds => .ok (ds, p.2)
end
example (G : Gm) (l : Lit) (ρ : Slots) : ev G (.lit l) ρ = .ok (.val (litD l), ρ) := rfl
example (G : Gm) (ρ : Slots) : ev G (.and (.cons (.lit (.bl true)) (.cons (.lit (.bl false)) .nil))) ρ = .ok (.val (.bool false), ρ) := rfl
example (d : D) : ev ⟨[], [], [], []⟩ (.comp (.tup (.cons (.var 0) (.cons (.var 1) .nil))) (.nm 0) (.rng2 (.lit (.int 1)) (.lit (.int 3))) (.lit (.bl true))) [.un, .dat d] = .ok (.val (.list [.tuple [.int 1, d], .tuple [.int 2, d]]), [.un, .dat d]) := rfl
end DP

/-! DP, part 3: the operators keep what the small tree says. -/
namespace DP
open PySem PySem.Spec PyProof.Rows L2
variable [Tb]
section
variable {K : Frag} {F H : Hp} {x y : V} {d e : D}
/-- an operand's data: told as data, or a list of one's own as it stands -/
def Wk (K : Frag) (F H : Hp) (x : V) (d : D) : Prop :=
  Rp K F x d ∨ ∃ l xs ds, x = .ref l ∧ d = .list ds ∧ H l = some (.lst xs) ∧ Rps K F xs ds ∧ xs.length ≤ sizeLine
theorem Wk.int {i : Int} (h : Wk K F H x (.int i)) : x = .int i := by
  rcases h with h | ⟨_, _, _, _, e, _⟩
  · cases h; rfl
  · cases e
theorem Wk.str {i : Str} (h : Wk K F H x (.str i)) : x = .str i := by
  rcases h with h | ⟨_, _, _, _, e, _⟩
  · cases h; rfl
  · cases e
theorem Wk.bool {i : Bool} (h : Wk K F H x (.bool i)) : x = .bl i := by
  rcases h with h | ⟨_, _, _, _, e, _⟩
  · cases h; rfl
  · cases e
theorem Wk.none (h : Wk K F H x .none) : x = .non := by
  rcases h with h | ⟨_, _, _, _, e, _⟩
  · cases h; rfl
  · cases e
theorem Wk.lst {ds : List D} (s : Same F H) (h : Wk K F H x (.list ds)) : ∃ a xs, x = .ref a ∧ LsK K H a xs ∧ Rps K F xs ds ∧ xs.length ≤ sizeLine := by
  rcases h with h | ⟨l, xs, ds', e1, e2, h1, h2, h3⟩
  · cases h with
    | lst a b c => exact ⟨_, _, rfl, Same.lsk s a, b, c⟩
  · cases e2
    exact ⟨l, xs, e1, .inl (.inl h1), h2, h3⟩
theorem Wk.tup {ds : List D} (s : Same F H) (h : Wk K F H x (.tuple ds)) : ∃ a xs, x = .ref a ∧ SqT K H a xs ∧ Rps K F xs ds ∧ xs.length ≤ sizeLine ∧ SqT K F a xs := by
  rcases h with h | ⟨_, _, _, _, e, _⟩
  · cases h with
    | tup a b c => exact ⟨_, _, rfl, Same.seqT s a, b, c, a⟩
  · cases e
mutual
theorem Rp.dp (s : Same F H) : ∀ {x : V} {d : D}, Rp K F x d → d.canLay0 = true → Dp K H x d
  | _, _, .non, _ => .non
  | _, _, .bl b, _ => .bl b
  | _, _, .int i, _ => .int i
  | _, _, .str z, _ => .str z
  | _, _, .lst h r _, l => .lst (Same.lsk s h).sq (Rps.dp s r (by simpa [PyData.canLay0] using l))
  | _, _, .tup h r _, l => .tup (Same.seqT s h) (Rps.dp s r (by simpa [PyData.canLay0] using l))
  | _, _, .dic h r, l => by simp [PyData.canLay0] at l
theorem Rps.dp (s : Same F H) : ∀ {xs : List V} {ds : List D}, Rps K F xs ds → PyData.canLayAll0 ds = true → DpAll K H xs ds
  | _, _, .nil, _ => .nil
  | _, _, .cons h r, l => by
    rw [PyData.canLayAll0, Bool.and_eq_true] at l
    exact .cons (Rp.dp s h l.1) (Rps.dp s r l.2)
end
theorem Wk.dp (s : Same F H) (h : Wk K F H x d) (l : d.canLay0 = true) : Dp K H x d := by
  rcases h with h | ⟨a, xs, ds, e1, e2, h1, h2, h3⟩
  · exact h.dp s l
  · subst e1 e2
    exact .lst (.inl (.inl h1)) (h2.dp s (by simpa [PyData.canLay0] using l))
/-- what is wanted behind an operation that gives d -/
def Res (K : Frag) (F H : Hp) (Q : VK) (d : D) : Prop := ∀ v F' H', Ext (fun _ => False) F H F' H' → Same F' H' → Rp K F' v d → Q v H'
theorem Res.pure {Q : VK} (s : Same F H) (q : Res K F H Q d) (r : Rp K F x d) : Q x H := q x F H Ext.refl s r
theorem Res.lst {Q : VK} {p : Addr} {xs : List V} {ds : List D} (s : Same F H) (q : Res K F H Q (.list ds)) (r : Rps K F xs ds) (z : xs.length ≤ sizeLine) (h : H p = none) : Q (.ref p) (upd H p (.lst xs)) := by
  have e : Ext (fun _ => False) F H (upd F p (.lst xs)) (upd H p (.lst xs)) := Ext.laid s h
  exact q _ _ _ e (sub_upd s h) (.lst (.inl (.inl upd_same)) (r.mono e.f) z)
theorem Res.tup {Q : VK} {p : Addr} {xs : List V} {ds : List D} (s : Same F H) (q : Res K F H Q (.tuple ds)) (r : Rps K F xs ds) (z : xs.length ≤ sizeLine) (h : H p = none) : Q (.ref p) (upd H p (.tup xs)) := by
  have e : Ext (fun _ => False) F H (upd F p (.tup xs)) (upd H p (.tup xs)) := Ext.laid s h
  exact q _ _ _ e (sub_upd s h) (.tup (.inl (.inl upd_same)) (r.mono e.f) z)
end
/-- a two-place operation, by data -/
def rO (K : Frag) (f : D → D → R D) : R2 := fun x y H Q => ∃ F dx dy d, Same F H ∧ Wk K F H x dx ∧ Wk K F H y dy ∧ f dx dy = .ok d ∧ Res K F H Q d
def cmpR (o : Oc) (x y : D) : R D := cmpD o x y >>= fun b => .ok (.bool b)

omit [Tb] in
theorem gd_ok {b : Bool} {r : R D} {d : D} (h : gd b r = .ok d) : b = true ∧ r = .ok d := by
  unfold gd at h
  split at h
  · exact ⟨by assumption, h⟩
  · cases h
omit [Tb] in
theorem sz_le {n : Nat} (h : sz n = true) : n ≤ sizeLine := of_decide_eq_true h
theorem OpR.imp {X : Cx} {f : Value → Value → Sem Value} {r r' : R2} (h : OpR X f r) (i : ∀ x y H Q, r' x y H Q → r x y H Q) : OpR X f r' := fun pins s σ H x y v u Q I rx ry q => h pins s σ H x y v u Q I rx ry (i _ _ _ _ q)
section
variable {X : Cx}
theorem Inv.lstR {pins : List (Addr × Obj)} {σ : L2.St} {H : Hp} {s : Shared} {l : Addr} {xs : List V} (I : L2.Inv X pins σ H s) (hH : LsK X.K H l xs) :
    xs.length ≤ sizeLine ∧ ∃ (its : List Value) (n : Nat), Vals xs its ∧ xs.length = its.length ∧ s.heap.get? l = some { cls := .type "list", data := .seq its.toArray n } := by
  rcases hH with hH | ⟨its, n, h1, h2, h3⟩
  · obtain ⟨z, its, n, r, e⟩ := (hH.ok I.hok : ObjOk X.prog X.w H s.heap l (.lst xs))
    exact ⟨z, its, n, r, r.length, e⟩
  · have hl := h2.length
    exact ⟨by omega, its, n, h2, hl, I.kIn l _ h1⟩
/-- list + list, whatever may change -/
theorem op_catL : OpR X (binaryOp .Add) (fun x y H Q => ∃ l b xs zs, x = .ref l ∧ y = .ref b ∧ LsK X.K H l xs ∧ LsK X.K H b zs ∧ xs.length + zs.length ≤ sizeLine ∧ ∀ p, H p = none → Q (.ref p) (upd H p (.lst (xs ++ zs)))) := by
  intro pins s σ H x y v u Q I rx ry h
  obtain ⟨l, b, xs, zs, rfl, rfl, hH, hB, hz, q⟩ := h
  cases rx
  cases ry
  obtain ⟨z, its, n, r, hl, e⟩ := Inv.lstR I hH
  obtain ⟨z2, its2, n2, r2, hl2, e2⟩ := Inv.lstR I hB
  refine PySem.P.add_list e e2 ?_ (by rw [List.size_toArray, List.size_toArray]; omega)
  have ea : its.toArray ++ its2.toArray = (its ++ its2).toArray := by simp
  rw [ea]
  exact ⟨.ref _, _, I.lnew (t' := s.toks) (r.append r2) (by rw [List.length_append]; omega), rfl, q _ I.fresh⟩
theorem op_repL : OpR X (binaryOp .Mult) (fun x y H Q => ∃ l k xs, x = .ref l ∧ y = .int k ∧ LsK X.K H l xs ∧ -(2 ^ 63) ≤ k ∧ k < 2 ^ 63 ∧ xs.length * k.toNat ≤ sizeLine ∧
  ∀ p, H p = none → Q (.ref p) (upd H p (.lst (List.replicate k.toNat xs).flatten))) := by
  intro pins s σ H x y v u Q I rx ry h
  obtain ⟨l, k, xs, rfl, rfl, hH, h1, h2, hz, q⟩ := h
  cases rx
  obtain ⟨t, rfl⟩ := ry
  obtain ⟨z, its, n, r, hl, e⟩ := Inv.lstR I hH
  have hlen : its.toArray.size * k.toNat ≤ sizeLine := by rw [List.size_toArray, ← hl]; exact hz
  have hcap : ¬ its.toArray.size * k.toNat > (2 ^ 63 - 1) / 8 := by
    have : (sizeLine : Nat) ≤ (2 ^ 63 - 1) / 8 := by decide
    omega
  have hfit : ¬ (!Builtin.List.listFitsIndex k) = true := by
    rw [fitsIndex_both h1 h2]
    exact Bool.false_ne_true
  have hlong : ¬ Builtin.List.listTooLong (its.toArray.size * k.toNat) = true := by
    rw [notLongL hlen]
    exact Bool.false_ne_true
  have hnew : List.foldl (fun x1 x2 => x1 ++ x2) #[] (List.replicate (if its.toArray.isEmpty = true then 0 else k.toNat) its.toArray) = (List.replicate k.toNat its).flatten.toArray := by
    have f0 : ∀ m : Nat, List.foldl (fun x1 x2 => x1 ++ x2) #[] (List.replicate m its.toArray) = (List.replicate m its).flatten.toArray := fun m => by
      have := foldl_rep its m []
      rw [List.nil_append] at this
      exact this
    rw [f0]
    cases its with
    | nil => simp
    | cons a r' => rw [if_neg (by simp)]
  refine wpAny_binaryOp_repeat_ref (T := "list") (U := "int") (by decide) ⟨_, e, rfl⟩ (fun s' => typeIs_int s' k t) noFill_list_mul F.fills_int_mul F.slot_int_rmul repeat_list F.slot_int_index.lookup
    (call_meets F.slot_int_rmul (typeIs_int s k t) F.entry_int_rmul (F.args_int_rmul_2 _ _) (int___rmul___int_list k t l its.toArray n)
      ⟨e, rfl, ⟨_, e, rfl⟩, call_meets F.slot_list_mul ⟨_, e, rfl⟩ F.entry_list_mul (F.args_list_mul_2 _ _) (AutoListH.list___mul___list_int_3 l its.toArray n k t hfit hcap hlong) ⟨e, ?_⟩⟩)
  rw [hnew]
  exact ⟨.ref _, _, I.lnew (t' := s.toks) (r.rep k.toNat) (by rw [PyProof.Rows.lm_len_rep_flat, Nat.mul_comm]; exact hz), rfl, q _ I.fresh⟩

/-! ### the two-place operators -/
omit [Tb] in
theorem band {a b : Bool} (h : (a && b) = true) : a = true ∧ b = true := Bool.and_eq_true_iff.mp h
omit [Tb] in
theorem i64_ok {i : Int} (h : i64 i = true) : -(2 ^ 64) < i ∧ i < 2 ^ 64 := let ⟨a, b⟩ := band h; ⟨of_decide_eq_true a, of_decide_eq_true b⟩
theorem opD_add : OpR X (binaryOp .Add) (rO X.K (op2 .add)) := by
  intro pins s σ H x y v u Q I rx ry h
  obtain ⟨F, dx, dy, d, hs, hx, hy, e, q⟩ := h
  cases dx with
  | int i =>
    cases dy with
    | int j =>
      cases e
      obtain rfl := hx.int
      obtain rfl := hy.int
      exact op_add pins s σ H _ _ v u Q I rx ry ⟨i, j, rfl, rfl, q.pure hs (.int _)⟩
    | _ => cases e
  | str i =>
    cases dy with
    | str j =>
      obtain ⟨e1, e2⟩ := gd_ok e
      cases e2
      obtain rfl := hx.str
      obtain rfl := hy.str
      exact op_add_str pins s σ H _ _ v u Q I rx ry ⟨i, j, rfl, rfl, sz_le e1, q.pure hs (.str _)⟩
    | _ => cases e
  | tuple xs =>
    cases dy with
    | tuple ys =>
      obtain ⟨e1, e2⟩ := gd_ok e
      cases e2
      obtain ⟨a, vs, rfl, h1, h2, h3, h1F⟩ := hx.tup hs
      obtain ⟨b, ws, rfl, k1, k2, k3, k1F⟩ := hy.tup hs
      have l1 := h2.len
      have l2 := k2.len
      have e1 := sz_le e1
      refine op_catA pins s σ H _ _ v u Q I rx ry ⟨a, b, vs, ws, rfl, rfl, h1, k1, by omega, fun z => ?_, fun _ z => ?_, fun _ _ p hp => ?_⟩
      · subst z
        cases h2
        exact q.pure hs (.tup k1F k2 k3)
      · subst z
        cases k2
        rw [List.append_nil] at q
        exact q.pure hs (.tup h1F h2 h3)
      · exact q.tup hs (h2.append k2) (by rw [List.length_append]; omega) hp
    | _ => cases e
  | list xs =>
    cases dy with
    | list ys =>
      obtain ⟨e1, e2⟩ := gd_ok e
      cases e2
      obtain ⟨a, vs, rfl, h1, h2, h3⟩ := hx.lst hs
      obtain ⟨b, ws, rfl, k1, k2, k3⟩ := hy.lst hs
      have l1 := h2.len
      have l2 := k2.len
      have e1 := sz_le e1
      exact op_catL pins s σ H _ _ v u Q I rx ry ⟨a, b, vs, ws, rfl, rfl, h1, k1, by omega, fun p hp => q.lst hs (h2.append k2) (by rw [List.length_append]; omega) hp⟩
    | _ => cases e
  | _ => cases e
theorem opD_sub : OpR X (binaryOp .Sub) (rO X.K (op2 .sub)) := by
  intro pins s σ H x y v u Q I rx ry h
  obtain ⟨F, dx, dy, d, hs, hx, hy, e, q⟩ := h
  cases dx with
  | int i =>
    cases dy with
    | int j =>
      cases e
      obtain rfl := hx.int
      obtain rfl := hy.int
      exact op_sub pins s σ H _ _ v u Q I rx ry ⟨i, j, rfl, rfl, q.pure hs (.int _)⟩
    | _ => cases e
  | _ => cases e
theorem opD_mul : OpR X (binaryOp .Mult) (rO X.K (op2 .mul)) := by
  intro pins s σ H x y v u Q I rx ry h
  obtain ⟨F, dx, dy, d, hs, hx, hy, e, q⟩ := h
  cases dx with
  | int i =>
    cases dy with
    | int j =>
      obtain ⟨e1, e2⟩ := gd_ok e
      cases e2
      obtain rfl := hx.int
      obtain rfl := hy.int
      refine op_mul pins s σ H _ _ v u Q I rx ry ⟨i, j, rfl, rfl, ?_, q.pure hs (.int _)⟩
      rcases Bool.or_eq_true_iff.mp e1 with z | z
      · exact .inl (i64_ok z)
      · exact .inr (i64_ok z)
    | _ => cases e
  | tuple xs =>
    cases dy with
    | int k =>
      obtain ⟨e1, e2⟩ := gd_ok e
      cases e2
      obtain ⟨e1, c4⟩ := band e1
      obtain ⟨e1, c3⟩ := band e1
      obtain ⟨c1, c2⟩ := band e1
      obtain rfl := hy.int
      obtain ⟨a, vs, rfl, h1, h2, h3, h1F⟩ := hx.tup hs
      have l1 := h2.len
      have c2 := of_decide_eq_true c2
      have c3 := of_decide_eq_true c3
      have c4 := of_decide_eq_true c4
      refine op_repT pins s σ H _ _ v u Q I rx ry ⟨a, k, vs, rfl, rfl, h1, fun z => ?_, c2, c3, by omega, fun p hp => ?_⟩
      · subst z
        cases h2
        cases c1
      · refine q.tup hs (h2.rep k.toNat) ?_ hp
        rw [PyProof.Rows.lm_len_rep_flat, sizeLine_eq]
        have a1 : k.toNat * vs.length ≤ 1000 * 1000 := Nat.mul_le_mul (by omega) (by omega)
        omega
    | _ => cases e
  | list xs =>
    cases dy with
    | int k =>
      obtain ⟨e1, e2⟩ := gd_ok e
      cases e2
      obtain ⟨e1, c3⟩ := band e1
      obtain ⟨c1, c2⟩ := band e1
      obtain rfl := hy.int
      obtain ⟨a, vs, rfl, h1, h2, h3⟩ := hx.lst hs
      have l1 := h2.len
      have c3 := sz_le c3
      rw [← l1] at c3
      exact op_repL pins s σ H _ _ v u Q I rx ry ⟨a, k, vs, rfl, rfl, h1, of_decide_eq_true c1, of_decide_eq_true c2, c3, fun p hp =>
        q.lst hs (h2.rep k.toNat) (by rw [PyProof.Rows.lm_len_rep_flat, Nat.mul_comm]; exact c3) hp⟩
    | _ => cases e
  | _ => cases e
theorem opD_fdiv : OpR X (binaryOp .FloorDiv) (rO X.K (op2 .fdiv)) := by
  intro pins s σ H x y v u Q I rx ry h
  obtain ⟨F, dx, dy, d, hs, hx, hy, e, q⟩ := h
  cases dx with
  | int i =>
    cases dy with
    | int j =>
      obtain ⟨e1, e2⟩ := gd_ok e
      cases e2
      obtain ⟨c1, c2⟩ := band e1
      obtain rfl := hx.int
      obtain rfl := hy.int
      exact op_fdiv pins s σ H _ _ v u Q I rx ry ⟨i, j, rfl, rfl, ⟨of_decide_eq_true c1, of_decide_eq_true c2⟩, q.pure hs (.int _)⟩
    | _ => cases e
  | _ => cases e
theorem opD_mod : OpR X (binaryOp .Mod) (rO X.K (op2 .mod)) := by
  intro pins s σ H x y v u Q I rx ry h
  obtain ⟨F, dx, dy, d, hs, hx, hy, e, q⟩ := h
  cases dx with
  | int i =>
    cases dy with
    | int j =>
      obtain ⟨e1, e2⟩ := gd_ok e
      cases e2
      obtain rfl := hx.int
      obtain rfl := hy.int
      exact op_mod pins s σ H _ _ v u Q I rx ry ⟨i, j, rfl, rfl, of_decide_eq_true e1, q.pure hs (.int _)⟩
    | _ => cases e
  | _ => cases e
theorem opD_pow : OpR X (binaryOp .Pow) (rO X.K (op2 .pow)) := by
  intro pins s σ H x y v u Q I rx ry h
  obtain ⟨F, dx, dy, d, hs, hx, hy, e, q⟩ := h
  cases dx with
  | int i =>
    cases dy with
    | int j =>
      obtain ⟨e1, e2⟩ := gd_ok e
      cases e2
      obtain ⟨e1, c3⟩ := band e1
      obtain ⟨c1, c2⟩ := band e1
      obtain rfl := hx.int
      obtain rfl := hy.int
      exact op_pow pins s σ H _ _ v u Q I rx ry ⟨i, j, rfl, rfl, ⟨of_decide_eq_true c1, of_decide_eq_true c2, of_decide_eq_true c3⟩, q.pure hs (.int _)⟩
    | _ => cases e
  | _ => cases e
def opOf : O2 → Operator
  | .add => .Add | .sub => .Sub | .mul => .Mult | .fdiv => .FloorDiv | .mod => .Mod | .pow => .Pow
theorem opD (o : O2) : OpR X (binaryOp (opOf o)) (rO X.K (op2 o)) := by
  cases o
  · exact opD_add
  · exact opD_sub
  · exact opD_mul
  · exact opD_fdiv
  · exact opD_mod
  · exact opD_pow

/-! ### comparisons -/
def cmpOf : Oc → CmpOp
  | .eq => .Eq | .ne => .NotEq | .lt => .Lt | .le => .LtE | .gt => .Gt | .ge => .GtE | .isN => .Is | .notN => .IsNot | .inn => .In | .nin => .NotIn | .isB => .Is | .notB => .IsNot
/-- a comparison's answer is a truth value -/
def rC (K : Frag) (f : D → D → R Bool) : R2 := fun x y H Q => ∃ F dx dy b, Same F H ∧ Wk K F H x dx ∧ Wk K F H y dy ∧ f dx dy = .ok b ∧ Q (.bl b) H
theorem isN_of {F H : Hp} {x : V} {d : D} {K : Frag} (h : Wk K F H x d) : decide (x = V.non) = isN d := by
  rcases h with h | ⟨l, xs, ds, rfl, rfl, _⟩
  · cases h <;> first | rfl | exact decide_eq_false (fun z => by cases z)
  · exact decide_eq_false (fun z => by cases z)
omit [Tb] in
theorem shp_lay {d : D} (h : shp d = true) : d.canLay0 = true := SeqAt.canLay_of_shaped h
theorem flat_rp {K : Frag} {F H : Hp} {x : V} {d : D} (h : Wk K F H x d) (f : flat d = true) : flatV x = true := by
  cases d with
  | none => rw [h.none]; rfl
  | bool b => rw [h.bool]; rfl
  | int i => rw [h.int]; rfl
  | str i => rw [h.str]; rfl
  | _ => cases f
theorem eqV_eqv {K : Frag} {F H F' H' : Hp} {x y : V} {d e : D} (hx : Wk K F H x d) (hy : Wk K F' H' y e) (fd : flat d = true) (fe : flat e = true) : eqV y x = PyData.eqv e d := by
  cases d with
  | none =>
    rw [hx.none]
    cases e with
    | none => rw [hy.none]; rfl
    | bool b => rw [hy.bool]; rfl
    | int i => rw [hy.int]; rfl
    | str i => rw [hy.str]; rfl
    | _ => cases fe
  | bool b =>
    rw [hx.bool]
    cases e with
    | none => rw [hy.none]; rfl
    | bool b => rw [hy.bool]; first | rfl | (simp [eqV, PyData.eqv])
    | int i => rw [hy.int]; first | rfl | (simp [eqV, PyData.eqv])
    | str i => rw [hy.str]; rfl
    | _ => cases fe
  | int b =>
    rw [hx.int]
    cases e with
    | none => rw [hy.none]; rfl
    | bool b => rw [hy.bool]; first | rfl | (simp [eqV, PyData.eqv])
    | int i => rw [hy.int]; first | rfl | (simp [eqV, PyData.eqv])
    | str i => rw [hy.str]; rfl
    | _ => cases fe
  | str b =>
    rw [hx.str]
    cases e with
    | none => rw [hy.none]; rfl
    | bool b => rw [hy.bool]; rfl
    | int i => rw [hy.int]; rfl
    | str i => rw [hy.str]; first | rfl | (simp [eqV, PyData.eqv])
    | _ => cases fe
  | _ => cases fd
theorem inV_any {K : Frag} {F H : Hp} {x : V} {d : D} (hx : Wk K F H x d) (fd : flat d = true) : ∀ {vs : List V} {ds : List D}, Rps K F vs ds → ds.all flat = true → vs.all flatV = true ∧ inV x vs = ds.any fun z => PyData.eqv z d
  | _, _, .nil, _ => ⟨rfl, rfl⟩
  | _, _, .cons (v := v) (d := z) h r, f => by
    obtain ⟨f1, f2⟩ := band (show (flat z && _) = true from f)
    obtain ⟨g1, g2⟩ := inV_any hx fd r f2
    refine ⟨?_, ?_⟩
    · show (flatV v && _) = true
      rw [flat_rp (H := H) (Or.inl h) f1]
      exact g1
    · have e := eqV_eqv hx (H' := H) (Or.inl h) fd f1
      show (eqV v x || inV x _) = (PyData.eqv z d || _)
      rw [e, g2]
omit [Tb] in
theorem ints?_eq : ∀ {ds : List D} {ns : List Int}, ints? ds = .ok ns → ds = ns.map PyData.int
  | [], ns, h => by cases h; rfl
  | .int i :: r, ns, h => by
    have h : (ints? r >>= fun ns => .ok (i :: ns)) = R.ok ns := h
    cases e : ints? r with
    | ok ms =>
      rw [e] at h
      cases h
      rw [ints?_eq e]
      rfl
    | exc => rw [e] at h; cases h
    | bad => rw [e] at h; cases h
  | .none :: r, ns, h => by cases h
  | .bool _ :: r, ns, h => by cases h
  | .str _ :: r, ns, h => by cases h
  | .list _ :: r, ns, h => by cases h
  | .tuple _ :: r, ns, h => by cases h
  | .dict _ :: r, ns, h => by cases h
omit [Tb] in
theorem ints?_map : ∀ ns : List Int, ints? (ns.map PyData.int) = .ok ns
  | [] => rfl
  | n :: r => by
    show (ints? (r.map PyData.int) >>= fun ns => .ok (n :: ns)) = _
    rw [ints?_map r]
    rfl
omit [Tb] in
theorem bools?_eq : ∀ {ds : List D} {ns : List Bool}, bools? ds = .ok ns → ds = ns.map PyData.bool
  | [], ns, h => by cases h; rfl
  | .bool i :: r, ns, h => by
    have h : (bools? r >>= fun ns => .ok (i :: ns)) = R.ok ns := h
    cases e : bools? r with
    | ok ms =>
      rw [e] at h
      cases h
      rw [bools?_eq e]
      rfl
    | exc => rw [e] at h; cases h
    | bad => rw [e] at h; cases h
  | .none :: r, ns, h => by cases h
  | .int _ :: r, ns, h => by cases h
  | .str _ :: r, ns, h => by cases h
  | .list _ :: r, ns, h => by cases h
  | .tuple _ :: r, ns, h => by cases h
  | .dict _ :: r, ns, h => by cases h
omit [Tb] in
theorem bools?_map : ∀ ns : List Bool, bools? (ns.map PyData.bool) = .ok ns
  | [] => rfl
  | n :: r => by
    show (bools? (r.map PyData.bool) >>= fun ns => .ok (n :: ns)) = _
    rw [bools?_map r]
    rfl
omit [Tb] in
theorem ok_bind {α β : Type} {r : R α} {f : α → R β} {b : β} (h : (r >>= f) = .ok b) : ∃ a, r = .ok a ∧ f a = .ok b := by
  cases r with
  | ok a => exact ⟨a, rfl, h⟩
  | exc => cases h
  | bad => cases h
omit [Tb] in
theorem eqv_strs (x y : Str) : PyData.eqv (.str x) (.str y) = decide (x = y) := by
  rw [PyData.eqv, Bool.eq_iff_iff]
  simp
omit [Tb] in
theorem dec_strs (x y : Str) : decide (V.str x = V.str y) = decide (x = y) := by
  rw [Bool.eq_iff_iff]
  simp
theorem opC (hu : X.A.units + 65 < cLine) (o : Oc) : OpR X (compareOp (cmpOf o)) (rC X.K (cmpD o)) := by
  intro pins s σ H x y v u Q I rx ry h
  obtain ⟨F, dx, dy, b, hs, hx, hy, e, q⟩ := h
  have hu0 : X.A.units + 64 < cLine := by omega
  have hu1 : X.A.units < cLine := by omega
  cases o with
  | eq =>
    have e : (if eqOk dx dy = true then R.ok (PyData.eqv dx dy) else .bad) = .ok b := e
    split at e
    · rename_i c
      cases e
      rcases Bool.or_eq_true_iff.mp c with c | c
      · obtain ⟨c1, c2⟩ := band c
        exact op_eqD hu0 pins s σ H x y v u Q I rx ry ⟨dx, dy, hx.dp hs (shp_lay c1), hy.dp hs (shp_lay c2), c1, c2, q⟩
      · cases dx <;> cases dy <;> first | (cases c; done) | skip
        obtain rfl := hx.str
        obtain rfl := hy.str
        refine op_eq pins s σ H _ _ v u Q I rx ry ⟨rfl, ?_⟩
        rw [eqv_strs] at q
        rw [dec_strs]
        exact q
    · cases e
  | ne =>
    have e : (if eqOk dx dy = true then R.ok (!PyData.eqv dx dy) else .bad) = .ok b := e
    split at e
    · rename_i c
      cases e
      rcases Bool.or_eq_true_iff.mp c with c | c
      · obtain ⟨c1, c2⟩ := band c
        exact op_neD hu0 pins s σ H x y v u Q I rx ry ⟨dx, dy, hx.dp hs (shp_lay c1), hy.dp hs (shp_lay c2), c1, c2, q⟩
      · cases dx <;> cases dy <;> first | (cases c; done) | skip
        obtain rfl := hx.str
        obtain rfl := hy.str
        refine op_ne pins s σ H _ _ v u Q I rx ry ⟨rfl, ?_⟩
        rw [eqv_strs] at q
        rw [dec_strs]
        exact q
    · cases e
  | lt =>
    cases dx with
    | int i =>
      cases dy with
      | int j =>
        cases e
        obtain rfl := hx.int
        obtain rfl := hy.int
        exact op_lt pins s σ H _ _ v u Q I rx ry ⟨i, j, rfl, rfl, q⟩
      | _ => cases e
    | tuple xs =>
      cases dy with
      | tuple ys =>
        obtain ⟨ns, e1, e⟩ := ok_bind (show (ints? xs >>= fun ns => ints? ys >>= fun ms => R.ok (HT.lexLt ns ms)) = .ok b from e)
        obtain ⟨ms, e2, e⟩ := ok_bind e
        cases e
        obtain ⟨a, vs, rfl, h1, h2, h3, _⟩ := hx.tup hs
        obtain ⟨c, ws, rfl, k1, k2, k3, _⟩ := hy.tup hs
        rw [ints?_eq e1] at h2
        rw [ints?_eq e2] at k2
        rw [h2.intsV] at h1
        rw [k2.intsV] at k1
        exact op_ltT hu1 pins s σ H _ _ v u Q I rx ry ⟨a, c, ns, ms, rfl, rfl, h1, k1, q⟩
      | _ => cases e
    | _ => cases e
  | le =>
    cases dx with
    | int i =>
      cases dy with
      | int j =>
        cases e
        obtain rfl := hx.int
        obtain rfl := hy.int
        exact op_le pins s σ H _ _ v u Q I rx ry ⟨i, j, rfl, rfl, q⟩
      | _ => cases e
    | _ => cases e
  | gt =>
    cases dx with
    | int i =>
      cases dy with
      | int j =>
        cases e
        obtain rfl := hx.int
        obtain rfl := hy.int
        exact op_gt pins s σ H _ _ v u Q I rx ry ⟨i, j, rfl, rfl, q⟩
      | _ => cases e
    | _ => cases e
  | ge =>
    cases dx with
    | int i =>
      cases dy with
      | int j =>
        cases e
        obtain rfl := hx.int
        obtain rfl := hy.int
        exact op_ge pins s σ H _ _ v u Q I rx ry ⟨i, j, rfl, rfl, q⟩
      | _ => cases e
    | _ => cases e
  | isN =>
    cases dy with
    | none =>
      obtain rfl := hy.none
      have e : R.ok (isN dx) = .ok b := e
      cases e
      refine op_isN pins s σ H _ _ v u Q I rx ry ⟨rfl, ?_⟩
      rw [isN_of hx]
      exact q
    | _ => cases e
  | notN =>
    cases dy with
    | none =>
      obtain rfl := hy.none
      have e : R.ok (!isN dx) = .ok b := e
      cases e
      refine op_notN pins s σ H _ _ v u Q I rx ry ⟨rfl, ?_⟩
      rw [isN_of hx]
      exact q
    | _ => cases e
  | isB =>
    cases dx with
    | bool a =>
      cases dy with
      | bool b2 =>
        have e : R.ok (a == b2) = .ok b := e
        cases e
        obtain rfl := hx.bool
        obtain rfl := hy.bool
        exact op_isBl pins s σ H _ _ v u Q I rx ry ⟨a, b2, rfl, rfl, by rw [← Bool.beq_eq_decide_eq]; exact q⟩
      | _ => cases e
    | _ => cases e
  | notB =>
    cases dx with
    | bool a =>
      cases dy with
      | bool b2 =>
        have e : R.ok (!(a == b2)) = .ok b := e
        cases e
        obtain rfl := hx.bool
        obtain rfl := hy.bool
        exact op_notBl pins s σ H _ _ v u Q I rx ry ⟨a, b2, rfl, rfl, by rw [← Bool.beq_eq_decide_eq]; exact q⟩
      | _ => cases e
    | _ => cases e
  | inn =>
    cases dy with
    | list ds =>
      have e : (if inOk dx ds = true then R.ok (ds.any fun z => PyData.eqv z dx) else .bad) = .ok b := e
      split at e
      · rename_i c
        cases e
        rcases Bool.or_eq_true_iff.mp c with c | c
        · obtain ⟨c1, c2⟩ := band c
          exact op_inD hu pins s σ H x y v u Q I rx ry ⟨dx, ds, hx.dp hs (shp_lay c1), hy.dp hs (shp_lay c2), c1, c2, q⟩
        · obtain ⟨c1, c2⟩ := band c
          obtain ⟨a, vs, rfl, h1, h2, h3⟩ := hy.lst hs
          obtain ⟨f1, f2⟩ := inV_any hx c1 h2 c2
          refine op_in_seq pins s σ H x _ v u Q I rx ry ⟨a, vs, rfl, .inl h1.sq, flat_rp hx c1, f1, ?_⟩
          show Q (.bl (inV x vs)) H
          rw [f2]
          exact q
      · cases e
    | tuple ds =>
      have e : (if (flat dx && ds.all flat) = true then R.ok (ds.any fun z => PyData.eqv z dx) else .bad) = .ok b := e
      split at e
      · rename_i c
        cases e
        obtain ⟨c1, c2⟩ := band c
        obtain ⟨a, vs, rfl, h1, h2, h3, _⟩ := hy.tup hs
        obtain ⟨f1, f2⟩ := inV_any hx c1 h2 c2
        refine op_in_seq pins s σ H x _ v u Q I rx ry ⟨a, vs, rfl, .inr h1, flat_rp hx c1, f1, ?_⟩
        show Q (.bl (inV x vs)) H
        rw [f2]
        exact q
      · cases e
    | _ => cases e
  | nin =>
    obtain ⟨b', e1, e2⟩ := ok_bind (show (inD dx dy >>= fun b => R.ok (!b)) = .ok b from e)
    cases e2
    cases dy with
    | list ds =>
      have e : (if inOk dx ds = true then R.ok (ds.any fun z => PyData.eqv z dx) else .bad) = .ok b' := e1
      split at e
      · rename_i c
        cases e
        rcases Bool.or_eq_true_iff.mp c with c | c
        · obtain ⟨c1, c2⟩ := band c
          exact op_notInD hu pins s σ H x y v u Q I rx ry ⟨dx, ds, hx.dp hs (shp_lay c1), hy.dp hs (shp_lay c2), c1, c2, q⟩
        · obtain ⟨c1, c2⟩ := band c
          obtain ⟨a, vs, rfl, h1, h2, h3⟩ := hy.lst hs
          obtain ⟨f1, f2⟩ := inV_any hx c1 h2 c2
          refine op_notIn_seq pins s σ H x _ v u Q I rx ry ⟨a, vs, rfl, .inl h1.sq, flat_rp hx c1, f1, ?_⟩
          show Q (.bl (!inV x vs)) H
          rw [f2]
          exact q
      · cases e
    | tuple ds =>
      have e : (if (flat dx && ds.all flat) = true then R.ok (ds.any fun z => PyData.eqv z dx) else .bad) = .ok b' := e1
      split at e
      · rename_i c
        cases e
        obtain ⟨c1, c2⟩ := band c
        obtain ⟨a, vs, rfl, h1, h2, h3, _⟩ := hy.tup hs
        obtain ⟨f1, f2⟩ := inV_any hx c1 h2 c2
        refine op_notIn_seq pins s σ H x _ v u Q I rx ry ⟨a, vs, rfl, .inr h1, flat_rp hx c1, f1, ?_⟩
        show Q (.bl (!inV x vs)) H
        rw [f2]
        exact q
      · cases e
    | _ => cases e1

/-! ### items, slices, one-place built-ins -/
theorem atI_rps {K : Frag} {F : Hp} {vs : List V} {ds : List D} {k : Int} {d : D} (r : Rps K F vs ds) (h : atI ds k = some d) : ∃ v, atI vs k = some v ∧ Rp K F v d := by
  unfold atI at h ⊢
  rw [r.len]
  cases e : ixN ds.length k with
  | none => rw [e] at h; cases h
  | some j =>
    rw [e] at h
    exact r.get (i := j) h
theorem ixR : IxR X (rO X.K ixD) := by
  intro value slice pins s σ H x y v u Q I rx ry h hsub
  obtain ⟨F, dx, dy, d, hs, hx, hy, e, q⟩ := h
  cases dx with
  | tuple xs =>
    cases dy with
    | int k =>
      have e : (match atI xs k with | some d => R.ok d | none => .bad) = .ok d := e
      split at e
      · rename_i d' e1
        cases e
        obtain rfl := hy.int
        obtain ⟨a, vs, rfl, h1, h2, h3, _⟩ := hx.tup hs
        obtain ⟨w, g1, g2⟩ := atI_rps h2 e1
        exact ix_tup value slice pins s σ H _ _ v u Q I rx ry ⟨a, vs, k, w, rfl, rfl, h1, g1, q.pure hs g2⟩ hsub
      · cases e
    | _ => cases e
  | list xs =>
    cases dy with
    | int k =>
      have e : (match atI xs k with | some d => R.ok d | none => .bad) = .ok d := e
      split at e
      · rename_i d' e1
        cases e
        obtain rfl := hy.int
        obtain ⟨a, vs, rfl, h1, h2, h3⟩ := hx.lst hs
        obtain ⟨w, g1, g2⟩ := atI_rps h2 e1
        exact ix_list value slice pins s σ H _ _ v u Q I rx ry ⟨a, vs, k, w, rfl, rfl, h1.sq, g1, q.pure hs g2⟩ hsub
      · cases e
    | _ => cases e
  | _ => cases e
def rSlD (K : Frag) : V → Option Int → Option Int → Hp → VK → Prop := fun x lo hi H Q => ∃ F dx d, Same F H ∧ Wk K F H x dx ∧ slcD dx lo hi = .ok d ∧ Res K F H Q d
theorem cut_rps {K : Frag} {F : Hp} {vs : List V} {ds : List D} (r : Rps K F vs ds) (lo hi : Option Int) : Rps K F (cutV vs lo hi) (cutD ds lo hi) := by
  unfold cutV cutD
  rw [r.len]
  exact (r.drop _).take _
theorem slR : SlR X (rSlD X.K) := by
  have h1 : SlR X (fun x lo hi H Q => (∃ F dx d ds, dx = PyData.tuple ds ∧ Same F H ∧ Wk X.K F H x dx ∧ slcD dx lo hi = .ok d ∧ Res X.K F H Q d)) := by
    intro pins s σ H x v vl vu lo hi sl Q I rx hsl pl pu h
    obtain ⟨F, dx, d, ds, rfl, hs, hx, e, q⟩ := h
    cases e
    obtain ⟨a, vs, rfl, h1, h2, h3, h1F⟩ := hx.tup hs
    refine sl_tupA pins s σ H _ v vl vu lo hi sl Q I rx hsl pl pu ⟨a, vs, rfl, h1, fun z => ?_, fun _ p hp => q.tup hs (cut_rps h2 lo hi) (Nat.le_trans (cutV_length _ _ _) h3) hp⟩
    have e2 : cutD ds lo hi = ds := by
      unfold cutD
      rw [← h2.len, z.1, z.2, List.drop_zero, Nat.sub_zero, h2.len, List.take_length]
    rw [e2] at q
    exact q.pure hs (.tup h1F h2 h3)
  have h2 : SlR X (fun x lo hi H Q => (∃ F dx d ds, dx = PyData.list ds ∧ Same F H ∧ Wk X.K F H x dx ∧ slcD dx lo hi = .ok d ∧ Res X.K F H Q d)) := by
    intro pins s σ H x v vl vu lo hi sl Q I rx hsl pl pu h
    obtain ⟨F, dx, d, ds, rfl, hs, hx, e, q⟩ := h
    cases e
    obtain ⟨a, vs, rfl, h1, h2, h3⟩ := hx.lst hs
    exact sl_list pins s σ H _ v vl vu lo hi sl Q I rx hsl pl pu ⟨a, vs, rfl, h1.sq, fun p hp => q.lst hs (cut_rps h2 lo hi) (Nat.le_trans (cutV_length _ _ _) h3) hp⟩
  intro pins s σ H x v vl vu lo hi sl Q I rx hsl pl pu h
  refine (h1.or h2) pins s σ H x v vl vu lo hi sl Q I rx hsl pl pu ?_
  obtain ⟨F, dx, d, hs, hx, e, q⟩ := h
  cases dx with
  | tuple ds => exact .inl ⟨F, _, d, ds, rfl, hs, hx, e, q⟩
  | list ds => exact .inr ⟨F, _, d, ds, rfl, hs, hx, e, q⟩
  | _ => cases e
/-- a call of a built-in with one operand -/
def rB (K : Frag) (f : D → R D) : List V → Hp → VK → Prop := fun vs H Q => ∃ F x dx d, vs = [x] ∧ Same F H ∧ Wk K F H x dx ∧ f dx = .ok d ∧ Res K F H Q d
def tyN : D → String
  | .none => "NoneType" | .bool _ => "bool" | .int _ => "int" | .str _ => "str" | .list _ => "list" | .tuple _ => "tuple" | .dict _ => "dict"
theorem ty_of {K : Frag} {F H : Hp} {x : V} {d : D} (s : Same F H) (h : Wk K F H x d) : TyX K H x (.type (tyN d)) := by
  cases d with
  | none => rw [h.none]; exact .base .non
  | bool b => rw [h.bool]; exact .base (.bl _)
  | int b => rw [h.int]; exact .base (.int _)
  | str b => rw [h.str]; exact .base (.str _)
  | list ds =>
    obtain ⟨a, xs, rfl, h1, _⟩ := h.lst s
    rcases h1 with (h1 | ⟨o, h1⟩) | ⟨its, n, h1, _⟩
    · exact .base (.lst h1)
    · exact .base (.frz h1)
    · exact .kList h1 rfl
  | tuple ds =>
    obtain ⟨a, xs, rfl, h1, _⟩ := h.tup s
    rcases h1 with (h1 | ⟨o, h1⟩) | ⟨o, its, n, h1, h2, _⟩
    · exact .base (.tup h1)
    · exact .fTuple h1
    · exact .kTuple h1 h2
  | dict ds =>
    rcases h with h | ⟨_, _, _, _, e, _⟩
    · cases h with
      | dic h1 _ => exact .base (.dK (s _ _ h1))
    · cases e
def tyName : Ty → String
  | .int => "int" | .bool => "bool" | .tuple => "tuple" | .list => "list" | .str => "str"
def rIsiD (K : Frag) (t : Ty) : List V → Hp → VK → Prop := fun vs H Q => ∃ F x dx, vs = [x, .ty (tyName t)] ∧ Same F H ∧ Wk K F H x dx ∧ Q (.bl (tyD t dx)) H
theorem isiD (t : Ty) : CallR X (.builtin "isinstance") (rIsiD X.K t) := by
  intro pins s σ H xs us Q I r h
  obtain ⟨F, x, dx, rfl, hs, hx, q⟩ := h
  have key : kitB (tyN dx) (tyName t) = some (tyD t dx) := by
    cases dx <;> cases t <;> (simp only [tyN, tyName, tyD]; decide +kernel)
  exact call_isi pins s σ H _ us Q I r ⟨x, .ty (tyName t), .type (tyN dx), .type (tyName t), tyD t dx, rfl, .ty _, ty_of hs hx, kit_ty key, q⟩
end
end DP

/-! DP, part 4: sorted, the one-place built-ins. -/
namespace DPs
open PySem PyProof.Rows Srt SrtO
section
variable {prog : Program} {w : World} {A : Around} {E : Value → Shared → Prop} {s : Shared}
abbrev Ky := Int × List Int
/-- a pair of a number and a tuple of numbers -/
def IsKR (h : Heap) (v : Value) (k : Ky) : Prop := ∃ a o t b n, v = .ref a ∧ h.get? a = some o ∧ o.cls = .type "tuple" ∧ o.data = .seq #[.int k.1 t, .ref b] n ∧ ∃ its, IsTup h b its ∧ IntsAre its.toList k.2
theorem IsKR.keeps {h h' : Heap} {v : Value} {k : Ky} (p : IsKR h v k) (e : ∀ b o, h.get? b = some o → o.cls = .type "tuple" → h'.get? b = some o) : IsKR h' v k := by
  obtain ⟨a, o, t, b, n, e1, e2, e3, e4, its, ⟨ob, g1, g2, g3⟩, i⟩ := p
  exact ⟨a, o, t, b, n, e1, e _ _ e2 e3, e3, e4, its, ⟨ob, e _ _ g1 g2, g2, g3⟩, i⟩
theorem lexLt_irr : ∀ xs : List Int, HT.lexLt xs xs = false
  | [] => rfl
  | x :: r => by rw [HT.lexLt_cons, if_pos rfl]; exact lexLt_irr r
theorem lexLt_asym : ∀ xs ys : List Int, HT.lexLt xs ys = true → HT.lexLt ys xs = false
  | [], [], h => by cases h
  | [], _ :: _, _ => rfl
  | _ :: _, [], h => by cases h
  | x :: xs, y :: ys, h => by
    rw [HT.lexLt_cons] at h ⊢
    by_cases e : x = y
    · rw [if_pos e] at h
      rw [if_pos e.symm]
      exact lexLt_asym xs ys h
    · rw [if_neg e] at h
      rw [if_neg (fun z => e z.symm)]
      have := of_decide_eq_true h
      exact decide_eq_false (by omega)
theorem lexLt_tr : ∀ xs ys zs : List Int, HT.lexLt ys xs = false → HT.lexLt zs ys = false → HT.lexLt zs xs = false
  | [], _, [], _, _ => rfl
  | [], [], _ :: _, _, h => h
  | [], _ :: _, z :: zs, h, h2 => rfl
  | _ :: _, [], [], h, _ => h
  | _ :: _, [], _ :: _, h, _ => by cases h
  | _ :: _, _ :: _, [], _, h => by cases h
  | x :: xs, y :: ys, z :: zs, h1, h2 => by
    rw [HT.lexLt_cons] at h1 h2 ⊢
    by_cases e1 : y = x
    · rw [if_pos e1] at h1
      by_cases e2 : z = y
      · rw [if_pos e2] at h2
        rw [if_pos (e2.trans e1)]
        exact lexLt_tr xs ys zs h1 h2
      · rw [if_neg e2] at h2
        have := of_decide_eq_false h2
        rw [if_neg (by omega)]
        exact decide_eq_false (by omega)
    · rw [if_neg e1] at h1
      have a := of_decide_eq_false h1
      by_cases e2 : z = y
      · rw [if_neg (by omega)]
        exact decide_eq_false (by omega)
      · rw [if_neg e2] at h2
        have b := of_decide_eq_false h2
        rw [if_neg (by omega)]
        exact decide_eq_false (by omega)
theorem lexLt_tot : ∀ xs ys : List Int, HT.lexLt xs ys = false → HT.lexLt ys xs = false → xs = ys
  | [], [], _, _ => rfl
  | [], _ :: _, h, _ => by cases h
  | _ :: _, [], _, h => by cases h
  | x :: xs, y :: ys, h1, h2 => by
    rw [HT.lexLt_cons] at h1 h2
    by_cases e : x = y
    · rw [if_pos e] at h1
      rw [if_pos e.symm] at h2
      rw [e, lexLt_tot xs ys h1 h2]
    · rw [if_neg e] at h1
      rw [if_neg (fun z => e z.symm)] at h2
      have a := of_decide_eq_false h1
      have b := of_decide_eq_false h2
      omega
theorem kLt_asym (p q : Ky) (h : DP.kLt p q = true) : DP.kLt q p = false := by
  unfold DP.kLt at h ⊢
  by_cases e : p.1 = q.1
  · rw [if_pos e] at h; rw [if_pos e.symm]; exact lexLt_asym _ _ h
  · rw [if_neg e] at h; rw [if_neg (fun z => e z.symm)]
    have := of_decide_eq_true h
    exact decide_eq_false (by omega)
theorem kLt_tr (x y z : Ky) (h1 : DP.kLt y x = false) (h2 : DP.kLt z y = false) : DP.kLt z x = false := by
  unfold DP.kLt at h1 h2 ⊢
  by_cases e1 : y.1 = x.1
  · rw [if_pos e1] at h1
    by_cases e2 : z.1 = y.1
    · rw [if_pos e2] at h2; rw [if_pos (e2.trans e1)]; exact lexLt_tr _ _ _ h1 h2
    · rw [if_neg e2] at h2
      have := of_decide_eq_false h2
      rw [if_neg (by omega)]; exact decide_eq_false (by omega)
  · rw [if_neg e1] at h1
    have a := of_decide_eq_false h1
    by_cases e2 : z.1 = y.1
    · rw [if_neg (by omega)]; exact decide_eq_false (by omega)
    · rw [if_neg e2] at h2
      have b := of_decide_eq_false h2
      rw [if_neg (by omega)]; exact decide_eq_false (by omega)
theorem kLt_tot (p q : Ky) (h1 : DP.kLt p q = false) (h2 : DP.kLt q p = false) : p = q := by
  unfold DP.kLt at h1 h2
  by_cases e : p.1 = q.1
  · rw [if_pos e] at h1; rw [if_pos e.symm] at h2
    exact Prod.ext e (lexLt_tot _ _ h1 h2)
  · rw [if_neg e] at h1; rw [if_neg (fun z => e z.symm)] at h2
    have a := of_decide_eq_false h1
    have b := of_decide_eq_false h2
    omega
theorem swo_k (k : Value → Ky) : Swo fun v u => DP.kLt (k v) (k u) := ⟨fun x y h => kLt_asym _ _ h, fun x y z h1 h2 => kLt_tr _ _ _ h1 h2⟩

/-! ### the order on lists -/
section
variable {α : Type} {lt : α → α → Bool}
/-- nothing behind is less -/
abbrev SrtL (lt : α → α → Bool) (l : List α) : Prop := l.Pairwise fun x y => lt y x = false
theorem ins_perm (x : α) : ∀ l : List α, (DP.ins lt x l).Perm (x :: l)
  | [] => .refl _
  | y :: r => by
    unfold DP.ins
    split
    · exact .refl _
    · exact ((ins_perm x r).cons y).trans (.swap x y r)
theorem isort_perm : ∀ l : List α, (DP.isort lt l).Perm l
  | [] => .refl _
  | x :: r => (ins_perm x _).trans ((isort_perm r).cons x)
theorem ins_srt (as : ∀ x y, lt x y = true → lt y x = false) (tr : ∀ x y z, lt y x = false → lt z y = false → lt z x = false) (x : α) : ∀ l : List α, SrtL lt l → SrtL lt (DP.ins lt x l)
  | [], _ => List.pairwise_singleton _ _
  | y :: r, h => by
    obtain ⟨h1, h2⟩ := List.pairwise_cons.mp h
    unfold DP.ins
    split
    · rename_i e
      refine List.pairwise_cons.mpr ⟨fun z hz => ?_, h⟩
      rcases List.mem_cons.mp hz with rfl | hz
      · exact as _ _ e
      · exact tr x y z (as _ _ e) (h1 z hz)
    · rename_i e
      refine List.pairwise_cons.mpr ⟨fun z hz => ?_, ins_srt as tr x r h2⟩
      rcases List.mem_cons.mp ((ins_perm x r).mem_iff.mp hz) with rfl | hz
      · exact Bool.eq_false_iff.mpr e
      · exact h1 z hz
theorem isort_srt (as : ∀ x y, lt x y = true → lt y x = false) (tr : ∀ x y z, lt y x = false → lt z y = false → lt z x = false) : ∀ l : List α, SrtL lt (DP.isort lt l)
  | [] => List.Pairwise.nil
  | x :: r => ins_srt as tr x _ (isort_srt as tr r)
theorem srt_one (tot : ∀ x y, lt x y = false → lt y x = false → x = y) : ∀ {a b : List α}, a.Perm b → SrtL lt a → SrtL lt b → a = b
  | [], b, p, _, _ => (List.Perm.nil_eq p)
  | x :: a, [], p, _, _ => absurd p.length_eq (by simp)
  | x :: a, y :: b, p, ha, hb => by
    obtain ⟨a1, a2⟩ := List.pairwise_cons.mp ha
    obtain ⟨b1, b2⟩ := List.pairwise_cons.mp hb
    have e : x = y := by
      rcases List.mem_cons.mp (p.mem_iff.mp (List.mem_cons_self (a := x) (l := a))) with e | h1
      · exact e
      · rcases List.mem_cons.mp (p.mem_iff.mpr (List.mem_cons_self (a := y) (l := b))) with e | h2
        · exact e.symm
        · exact tot _ _ (b1 x h1) (a1 y h2)
    subst e
    rw [srt_one tot (p.cons_inv) a2 b2]
end

theorem reads_ints {h : Heap} : ∀ {vs : List Value} {ns : List Int}, IntsAre vs ns → ∃ as, ReadsAll h vs (ns.map PyData.int) as
  | _, _, .nil => ⟨_, .nil⟩
  | _, _, .cons n t r => by
    obtain ⟨as, q⟩ := reads_ints (h := h) r
    exact ⟨_, .cons (.int n t) q⟩
theorem lay_ints : ∀ ns : List Int, PyData.canLayAll0 (ns.map PyData.int) = true
  | [] => rfl
  | n :: r => by rw [List.map_cons, PyData.canLayAll0, lay_ints r]; rfl
theorem dep_ints : ∀ ns : List Int, PyData.depthAll (ns.map PyData.int) ≤ 1
  | [] => by simp [PyData.depthAll]
  | n :: r => by
    have := dep_ints r
    rw [List.map_cons, PyData.depthAll]
    simp only [PyData.depth]
    omega
theorem eqv_ints : ∀ ns ms : List Int, PyData.eqvAll (ns.map PyData.int) (ms.map PyData.int) = decide (ns = ms)
  | [], [] => rfl
  | [], _ :: _ => rfl
  | _ :: _, [] => rfl
  | n :: r, m :: t => by
    rw [List.map_cons, List.map_cons, PyData.eqvAll, eqv_ints r t]
    simp only [PyData.eqv]
    by_cases e : n = m
    · subst e
      simp
    · simp [e]
theorem eq_rows {b b' : Addr} {its its' : Array Value} {ns ms : List Int} {Q : Bool → Shared → Prop} (h1 : IsTup s.heap b its) (h2 : IsTup s.heap b' its') (i1 : IntsAre its.toList ns) (i2 : IntsAre its'.toList ms) (hu : A.units + 8 < cLine) (h : Q (decide (ns = ms)) s) :
    wpAny (model prog w) A (eqBool (.ref b) (.ref b')) Q E s := by
  obtain ⟨o, ho, hc, n, hd⟩ := h1
  obtain ⟨o', ho', hc', n', hd'⟩ := h2
  obtain ⟨as, ra⟩ := reads_ints (h := s.heap) i1
  obtain ⟨bs, rb⟩ := reads_ints (h := s.heap) i2
  refine SeqAt.eqBoolOverData prog w A E s _ _ (.tuple (ns.map PyData.int)) (.tuple (ms.map PyData.int)) as bs Q (.tuple ho hc hd ra) (.tuple ho' hc' hd' rb) (by simpa [PyData.canLay0] using lay_ints ns) (by simpa [PyData.canLay0] using lay_ints ms) ?_ ?_
  · have a := dep_ints ns
    have c := dep_ints ms
    simp only [PyData.depth]
    omega
  · simp only [PyData.eqv]
    rw [eqv_ints]
    exact h
theorem kr_cmp {vs : List Value} {k : Value → Ky} (hp : ∀ v ∈ vs, IsKR s.heap v (k v)) (hu : A.units + 8 < cLine) : Cmp prog w A s (tuples' true) (fun p => p.1 ∈ vs) (lt2 fun v u => DP.kLt (k v) (k u)) := by
  intro p q hm hm'
  have h1 := hp _ hm
  have h2 := hp _ hm'
  show wpAny (model prog w) A (keyLt' (tuples' true) p.1 q.1) (fun r s' => s' = s ∧ r = DP.kLt (k p.1) (k q.1)) (fun _ _ => False) s
  unfold DP.kLt
  generalize (k p.1) = kx at h1 ⊢
  generalize (k q.1) = ky at h2 ⊢
  obtain ⟨x, ns⟩ := kx
  obtain ⟨x', ms⟩ := ky
  obtain ⟨a, o, t, b, n, e, ho, hc, hd, its, hb, hi⟩ := h1
  obtain ⟨a', o', t', b', n', e', ho', hc', hd', its', hb', hi'⟩ := h2
  rw [e, e']
  refine PySem.W.kat_lt ho hd ho' hd' ?_
  show PySem.W.KatLex prog w A true (decide (2 < 2)) _ [(.int x t, .int x' t'), (.ref b, .ref b')] 0 s
  refine PySem.W.kat_cons (SeqAt.EqAt.int_int x t x' t' prog w _ _ ?_)
  refine PySem.W.kat_go (fun e1 => ?_) (fun e1 => ?_)
  · have ex : x = x' := by simpa using e1
    refine PySem.W.kat_yes (PySem.W.kat_cons (eq_rows hb hb' hi hi' hu ?_))
    refine PySem.W.kat_go (fun e2 => ?_) (fun e2 => ?_)
    · have ey : ns = ms := by simpa using e2
      have e3 : (if (x, ns).1 = (x', ms).1 then HT.lexLt (x, ns).2 (x', ms).2 else decide ((x, ns).1 < (x', ms).1)) = false := by
        rw [if_pos ex, ey]
        exact lexLt_irr _
      exact PySem.W.kat_yes (PySem.W.kat_nil ⟨rfl, e3.symm⟩)
    · have e3 : (if (x, ns).1 = (x', ms).1 then HT.lexLt (x, ns).2 (x', ms).2 else decide ((x, ns).1 < (x', ms).1)) = HT.lexLt ns ms := if_pos ex
      refine PySem.W.kat_no (PySem.W.kat_one _ _ (HT.lt_tupInts hb hb' hi hi' (by omega) ?_))
      exact (show s = s ∧ HT.lexLt ns ms = _ from ⟨rfl, e3.symm⟩)
  · have ex : ¬ x = x' := by simpa using e1
    have e3 : (if (x, ns).1 = (x', ms).1 then HT.lexLt (x, ns).2 (x', ms).2 else decide ((x, ns).1 < (x', ms).1)) = decide (x < x') := if_neg ex
    exact PySem.W.kat_no (oneLt_int ⟨rfl, e3.symm⟩)
theorem kr_firsts {h : Heap} : ∀ {vs : List Value}, (∀ v ∈ vs, ∃ k, IsKR h v k) → ∃ fs : List Value, PySem.W.KatTups h vs fs ∧ fs.length = vs.length ∧ ∀ f ∈ fs, ∃ x t, f = Value.int x t
  | [], _ => ⟨[], PySem.W.KatTups.nil, rfl, fun _ hm => by simp at hm⟩
  | v :: vs, hp => by
    obtain ⟨fs, h1, h2, h3⟩ := kr_firsts (vs := vs) fun v' hm => hp v' (List.mem_cons_of_mem _ hm)
    obtain ⟨k, a, o, t, b, n, e, ho, hc, hd, _⟩ := hp v (List.mem_cons_self ..)
    subst e
    refine ⟨.int k.1 t :: fs, PySem.W.KatTups.cons ho hc hd rfl h1, by rw [List.length_cons, List.length_cons, h2], fun f hm => ?_⟩
    rcases List.mem_cons.mp hm with rfl | hm
    · exact ⟨k.1, t, rfl⟩
    · exact h3 f hm
theorem kr_sortable {a : Addr} {vs : List Value} {k : Value → Ky} (h0 : 0 < vs.length) (hp : ∀ v ∈ vs, IsKR s.heap v (k v)) (hu : A.units + 8 < cLine) (ha : ∀ o, s.heap.get? a = some o → o.cls ≠ .type "tuple") : SortableO prog w A s a vs fun v u => DP.kLt (k v) (k u) := by
  intro h' keep
  have hp' : ∀ v ∈ vs, IsKR h' v (k v) := fun v hm => (hp v hm).keeps fun b o e c => keep b o (fun z => by subst z; exact ha o e c) e
  obtain ⟨fs, h1, h2, h3⟩ := kr_firsts fun v hm => ⟨_, hp' v hm⟩
  refine ⟨tuples' true, fun Q E hq => ?_, kr_cmp hp' hu⟩
  refine PySem.W.kat_kind (T := .type "int") h1 (by omega) (fun f hm => ?_) (by rfl) ?_
  · obtain ⟨x, t, rfl⟩ := h3 f hm
    exact PySem.W.Looks.now
  · have e : (Value.type "int" != Value.type "tuple") = true := by first | decide +kernel | rfl | decide
    rw [e]
    exact hq
/-- sorted(l) of pairs of a number and a tuple of numbers -/
theorem sorted_kr {l : Addr} {vs : List Value} {k : Value → Ky} {Q : Value → Shared → Prop} (hu : A.units + 16 < cLine) (hl : s.heap.IsList l vs.toArray) (hz : vs.length ≤ sizeLine) (hp : ∀ v ∈ vs, IsKR s.heap v (k v))
    (h : ∀ (h' : Heap) (d : Addr) (out : List Value), Srtd (fun v u => DP.kLt (k v) (k u)) out → Stb (fun v u => DP.kLt (k v) (k u)) out vs → (∀ b o, s.heap.get? b = some o → h'.get? b = some o) → s.heap.objs.size ≤ d → (∃ n, h'.get? d = some (seqObj "list" out.toArray n)) → Q (.ref d) { s with heap := h' }) :
    wpAny (model prog w) A (call (.builtin "sorted") [.ref l]) Q E s := by
  refine sorted_ord (swo_k k) hl hz (fun h2 h₁ a ha kk => ?_) fun out hs hb => ?_
  · refine kr_sortable (s := { s with heap := h₁ }) (by omega) (fun v hm => (hp v hm).keeps fun b o e _ => (kk b o e).2) (by show A.units + 1 + 1 + 8 < cLine; omega) fun o e => ?_
    have e' : some o = some (seqObj "list" vs.toArray 0) := e.symm.trans ha
    cases e'
    intro c
    exact absurd (Value.type.inj c) (by decide)
  · exact h _ _ out hs hb (fun b o e => sortedAll_old e) (Nat.le_succ _) (sortedAll_at s.heap vs out.toArray)
end
end DPs

namespace DPs
open PySem PyProof.Rows
section
variable {prog : Program} {w : World} {A : Around} {E : Value → Shared → Prop} {s : Shared}
/-- sum(t), t a tuple of numbers -/
theorem sum_tup {a : Addr} {its : List Value} {ns : List Int} {Q : Value → Shared → Prop} (hh : A.handled = none) (ht : s.heap.IsTuple a its.toArray) (hi : IntsAre its ns)
    (h : ∀ h' tk t', (∀ b o, s.heap.get? b = some o → h'.get? b = some o) → Q (.int ns.sum t') { s with heap := h', toks := tk }) : wpAny (model prog w) A (call (.builtin "sum") [.ref a]) Q E s := by
  obtain ⟨xs, e⟩ := hi.allInts.items
  have hn : numsOf (intItems xs).toList = ns := by rw [← e]; exact hi.numsOf
  rw [nums_intItems] at hn
  rw [e] at ht
  have hlt : a < s.heap.objs.size := by
    obtain ⟨o, ho, _⟩ := id ht
    exact Heap.lt_size ho
  refine call_sum_walkG (wpAny_pyIter_tuple ht ?_)
  refine ⟨_, _, _, _, _, _, numAt xs, rfl, Walks.tuple (A := A.in1) hh s.heap.objs.size a (Nat.ne_of_lt hlt) (intItems xs), ⟨⟨_, Heap.get?_push_size _ rfl, rfl, rfl⟩, ?_⟩, fun b hb => ?_, (fun _ _ => intItems_at), fun h' tk t' hk => ?_⟩
  · obtain ⟨o, ho, hc, n, hd⟩ := id ht
    exact ⟨o, Heap.get?_push_of_some _ ho, hc, n, hd⟩
  · show b < (s.heap.push _).objs.size
    rw [Heap.size_push]
    simp only [List.mem_cons, List.not_mem_nil, or_false] at hb
    rcases hb with rfl | rfl
    · exact Nat.lt_succ_self _
    · exact Nat.lt_succ_of_lt hlt
  · have q := h h' tk t' fun b o eb => hk b o (fun z => by
      simp only [List.mem_cons, List.not_mem_nil, or_false] at z
      subst z
      exact Nat.lt_irrefl _ (Heap.lt_size eb)) (Heap.get?_push_of_some _ eb)
    rw [preSum_eq, List.take_of_length_le (by simp [intItems]), hn]
    exact q
end
end DPs
namespace DP
open PySem PySem.Spec PyProof.Rows L2
variable [Tb]
section
variable {X : Cx}
theorem sumD (hc : X.calm = true) : CallR X (.builtin "sum") (rB X.K (biD .sum)) := by
  intro pins s σ H vs us Q I r h
  obtain ⟨F, x, dx, d, rfl, hs, hx, e, q⟩ := h
  cases dx with
  | list ds =>
    obtain ⟨ns, e1, e⟩ := ok_bind (show (ints? ds >>= fun ns => R.ok (.int ns.sum)) = .ok d from e)
    cases e
    obtain ⟨a, xs, rfl, h1, h2, h3⟩ := hx.lst hs
    rw [ints?_eq e1] at h2
    rw [h2.intsV] at h1
    exact cr_sum hc pins s σ H _ us Q I r ⟨a, ns, rfl, h1.sq, q.pure hs (.int _)⟩
  | tuple ds =>
    obtain ⟨ns, e1, e⟩ := ok_bind (show (ints? ds >>= fun ns => R.ok (.int ns.sum)) = .ok d from e)
    cases e
    obtain ⟨a, xs, rfl, h1, h2, h3, _⟩ := hx.tup hs
    rw [ints?_eq e1] at h2
    rw [h2.intsV] at h1
    obtain ⟨its, rv, hl, _⟩ := I.tuple h1
    rw [Vals.ref1 r]
    exact DPs.sum_tup (I.ok.hd hc) (show s.heap.IsTuple a its.toArray from hl) rv.ints fun h' tk t' hk => ⟨.int _, H, I.kept hk, ⟨_, rfl⟩, q.pure hs (.int _)⟩
  | _ => cases e
theorem key?_eq {d : D} {k : Int × List Int} (h : key? d = .ok k) : d = kD' k := by
  unfold key? at h
  split at h
  · rename_i i ds
    obtain ⟨ns, e1, e2⟩ := ok_bind h
    cases e2
    rw [ints?_eq e1]
    rfl
  · cases h
theorem keys?_eq : ∀ {ds : List D} {ks : List (Int × List Int)}, keys? ds = .ok ks → ds = ks.map kD'
  | [], ks, h => by cases h; rfl
  | d :: r, ks, h => by
    obtain ⟨k, e1, h⟩ := ok_bind (show (key? d >>= fun k => keys? r >>= fun ks => R.ok (k :: ks)) = .ok ks from h)
    obtain ⟨ls, e2, h⟩ := ok_bind h
    cases h
    rw [key?_eq e1, keys?_eq e2]
    rfl
theorem key?_map (k : Int × List Int) : key? (kD' k) = .ok k := by
  show (ints? (k.2.map PyData.int) >>= fun ns => R.ok (k.1, ns)) = _
  rw [ints?_map]
  rfl
theorem keys?_map : ∀ ks : List (Int × List Int), keys? (ks.map kD') = .ok ks
  | [] => rfl
  | k :: r => by
    show (key? (kD' k) >>= fun k => keys? (r.map kD') >>= fun ks => R.ok (k :: ks)) = _
    rw [key?_map, keys?_map r]
    rfl
/-- the key of a value, where it is such a pair -/
def keyOf (h : Heap) (v : Value) : Int × List Int := match v with
  | .ref a => match h.get? a with
    | some ⟨_, _, .seq its _, _⟩ => (match its.toList with
      | [.int i _, .ref b] => (i, match h.get? b with
        | some ⟨_, _, .seq its _, _⟩ => its.toList.map SrtO.iv
        | _ => [])
      | _ => (0, []))
    | _ => (0, [])
  | _ => (0, [])
theorem keyOf_is {h : Heap} {v : Value} {k : Int × List Int} (p : DPs.IsKR h v k) : keyOf h v = k := by
  obtain ⟨a, ⟨oc, od, dt, sl⟩, t, b, n, rfl, e2, e3, e4, its, ⟨⟨oc2, od2, dt2, sl2⟩, g1, g2, m, g3⟩, i⟩ := p
  simp only at e4 g3
  subst e4 g3
  unfold keyOf
  simp only [e2, g1, SrtO.iv_ints i]
theorem kr_of {pins : List (Addr × Obj)} {σ : L2.St} {F H : Hp} {s : Shared} {x : V} {u : Value} {k : Int × List Int} (I : L2.Inv X pins σ H s) (hs : Same F H) (r : RelV x u) (h : Rp X.K F x (kD' k)) : DPs.IsKR s.heap u k := by
  cases h with
  | tup a b c =>
    cases r
    cases b with
    | cons h1 b =>
      cases b with
      | cons h2 b =>
        cases b
        cases h1
        cases h2 with
        | tup a2 b2 c2 =>
          obtain ⟨its, rv, ⟨o, ho, hc, n, hd⟩, _⟩ := I.tuple (Same.seqT hs a)
          obtain ⟨its2, rv2, p2, _⟩ := I.tuple (Same.seqT hs a2)
          cases rv with
          | cons q1 q2 =>
            cases q2 with
            | cons q2 q3 =>
              cases q3
              obtain ⟨t, rfl⟩ := q1
              cases q2
              have e := b2.intsV
              subst e
              exact ⟨_, o, t, _, n, rfl, ho, hc, hd, _, p2, intsAre_of rv2⟩
theorem krs_of {pins : List (Addr × Obj)} {σ : L2.St} {F H : Hp} {s : Shared} (I : L2.Inv X pins σ H s) (hs : Same F H) : ∀ {xs : List V} {us : List Value} {ks : List (Int × List Int)}, Vals xs us → Rps X.K F xs (ks.map kD') → us.map (keyOf s.heap) = ks ∧ ∀ u ∈ us, DPs.IsKR s.heap u (keyOf s.heap u)
  | _, _, [], .nil, .nil => ⟨rfl, fun _ h => by cases h⟩
  | _, _, k :: ks, .cons r1 r2, .cons h1 h2 => by
    obtain ⟨e1, e2⟩ := krs_of I hs r2 h2
    have e := kr_of I hs r1 h1
    have e' := keyOf_is e
    refine ⟨by rw [List.map_cons, e', e1], fun u hu => ?_⟩
    rcases List.mem_cons.mp hu with rfl | hu
    · rw [e']; exact e
    · exact e2 u hu
theorem perm_vals {xs : List V} {us out : List Value} (p : out.Perm us) (r : Vals xs us) : ∃ ys : List V, ys.Perm xs ∧ Vals ys out := by
  induction p generalizing xs with
  | nil => exact ⟨xs, .refl _, r⟩
  | cons x _ ih =>
    cases r with
    | cons r1 r2 =>
      obtain ⟨ys, p1, p2⟩ := ih r2
      exact ⟨_ :: ys, p1.cons _, .cons r1 p2⟩
  | swap x y l =>
    cases r with
    | cons r1 r2 =>
      cases r2 with
      | cons r2 r3 => exact ⟨_ :: _ :: _, .swap _ _ _, .cons r2 (.cons r1 r3)⟩
  | trans _ _ ih1 ih2 =>
    obtain ⟨ys, p1, p2⟩ := ih2 r
    obtain ⟨zs, q1, q2⟩ := ih1 p2
    exact ⟨zs, q1.trans p1, q2⟩
theorem krs_back {pins : List (Addr × Obj)} {σ : L2.St} {F H : Hp} {s : Shared} (I : L2.Inv X pins σ H s) (hs : Same F H) : ∀ {ys : List V} {out : List Value}, Vals ys out → (∀ y ∈ ys, ∃ k, Rp X.K F y (kD' k)) → Rps X.K F ys ((out.map (keyOf s.heap)).map kD')
  | _, _, .nil, _ => .nil
  | y :: ys, u :: out, .cons r1 r2, h => by
    obtain ⟨k, hk⟩ := h y List.mem_cons_self
    have e := keyOf_is (kr_of I hs r1 hk)
    rw [List.map_cons, List.map_cons, e]
    exact .cons hk (krs_back I hs r2 fun z hz => h z (List.mem_cons_of_mem _ hz))
theorem rps_mem {K : Frag} {F : Hp} : ∀ {xs : List V} {ds : List D}, Rps K F xs ds → ∀ x ∈ xs, ∃ d ∈ ds, Rp K F x d
  | _, _, .nil, x, h => by cases h
  | _, _, .cons h1 h2, x, h => by
    rcases List.mem_cons.mp h with rfl | h
    · exact ⟨_, List.mem_cons_self, h1⟩
    · obtain ⟨d, m, q⟩ := rps_mem h2 x h
      exact ⟨d, List.mem_cons_of_mem _ m, q⟩
/-- what a fresh list wants: its place -/
def ResL (K : Frag) (F H : Hp) (Q : VK) (ds : List D) : Prop := ∀ p xs, H p = none → Rps K F xs ds → xs.length ≤ sizeLine → Q (.ref p) (upd H p (.lst xs))
theorem Res.fresh {K : Frag} {F H : Hp} {Q : VK} {ds : List D} (s : Same F H) (q : Res K F H Q (.list ds)) : ResL K F H Q ds := fun _ _ hp r z => q.lst s r z hp
/-- a built-in whose answer is a new list -/
def rBL (K : Frag) (f : D → R D) : List V → Hp → VK → Prop := fun vs H Q => ∃ F x dx ds, vs = [x] ∧ Same F H ∧ Wk K F H x dx ∧ f dx = .ok (.list ds) ∧ ResL K F H Q ds
theorem sortedD (hu : X.A.units + 64 < cLine) : CallR X (.builtin "sorted") (rBL X.K (biD .sorted)) := by
  intro pins s σ H vs us Q I r h
  obtain ⟨F, x, dx, es, rfl, hs, hx, e, q⟩ := h
  cases dx with
  | list ds =>
    obtain ⟨a, xs, rfl, h1, h2, h3⟩ := hx.lst hs
    have e : sortD ds = .ok (.list es) := e
    unfold sortD at e
    split at e
    · rename_i ns e1
      cases e
      rw [ints?_eq e1] at h2
      rw [h2.intsV] at h1 h3
      refine cr_sortedI pins s σ H _ us Q I r ⟨a, ns, rfl, h1.sq, fun ns' p hp hw hn => ?_⟩
      have e2 : ns' = isort (fun a b : Int => decide (a < b)) ns := by
        refine DPs.srt_one (lt := fun a b : Int => decide (a < b)) (fun x y h1 h2 => ?_) (hp.trans (DPs.isort_perm ns).symm) (hw.imp fun {x y} h => decide_eq_false (by omega)) (DPs.isort_srt (fun x y h => ?_) (fun x y z h1 h2 => ?_) ns)
        · have a := of_decide_eq_false h1
          have b := of_decide_eq_false h2
          omega
        · have a := of_decide_eq_true h
          exact decide_eq_false (by omega)
        · have a := of_decide_eq_false h1
          have b := of_decide_eq_false h2
          exact decide_eq_false (by omega)
      subst e2
      refine q p _ hn (Rps.ints _) ?_
      rw [List.length_map, hp.length_eq]
      rw [List.length_map] at h3
      exact h3
    · obtain ⟨ks, e1, e⟩ := ok_bind e
      cases e
      rw [keys?_eq e1] at h2
      obtain ⟨its, rv, hl, hz⟩ := I.list h1.sq
      rw [Vals.ref1 r]
      obtain ⟨g1, g2⟩ := krs_of I hs rv h2
      refine DPs.sorted_kr (k := keyOf s.heap) (by omega) hl.isList (by rw [← rv.length]; exact hz) g2 fun h' d out so sb kk hd ho => ?_
      obtain ⟨ys, p1, p2⟩ := perm_vals sb.perm rv
      have hb := krs_back (ys := ys) (out := out) I hs p2 fun y hy => by
        obtain ⟨d', m, q'⟩ := rps_mem h2 y (p1.mem_iff.mp hy)
        obtain ⟨k, _, rfl⟩ := List.mem_map.mp m
        exact ⟨k, q'⟩
      have e2 : out.map (keyOf s.heap) = isort kLt ks := by
        refine DPs.srt_one (lt := kLt) DPs.kLt_tot ?_ (List.pairwise_map.mpr so) (DPs.isort_srt DPs.kLt_asym DPs.kLt_tr ks)
        have q1 := sb.perm.map (keyOf s.heap)
        rw [g1] at q1
        exact q1.trans (DPs.isort_perm ks).symm
      rw [e2] at hb
      have hlen : ys.length ≤ sizeLine := by rw [p1.length_eq]; exact h3
      obtain ⟨n, ho⟩ := ho
      have hdn : H d = none := I.hok.fresh hd
      exact ⟨.ref d, upd H d (.lst ys), I.laid (t' := s.toks) kk hd ⟨hlen, out, n, p2, ho⟩, rfl, q d ys hdn hb hlen⟩
  | _ => cases e
theorem listD : CallR X (.type "list") (rBL X.K (biD .list)) := by
  intro pins s σ H vs us Q I r h
  obtain ⟨F, x, dx, es, rfl, hs, hx, e, q⟩ := h
  cases dx with
  | list ds =>
    cases e
    obtain ⟨a, xs, rfl, h1, h2, h3⟩ := hx.lst hs
    exact call_list_of pins s σ H _ us Q I r ⟨a, xs, rfl, .inl h1.sq, fun l hl => q l xs hl h2 h3⟩
  | tuple ds =>
    cases e
    obtain ⟨a, xs, rfl, h1, h2, h3, _⟩ := hx.tup hs
    exact call_list_of pins s σ H _ us Q I r ⟨a, xs, rfl, .inr h1, fun l hl => q l xs hl h2 h3⟩
  | _ => cases e
theorem tupleD : CallR X (.type "tuple") (rB X.K (biD .tuple)) := by
  intro pins s σ H vs us Q I r h
  obtain ⟨F, x, dx, d, rfl, hs, hx, e, q⟩ := h
  cases dx with
  | list ds =>
    cases e
    obtain ⟨a, xs, rfl, h1, h2, h3⟩ := hx.lst hs
    exact call_tuple_of pins s σ H _ us Q I r ⟨a, xs, rfl, .inl ⟨h1.sq, fun l hl => q.tup hs h2 h3 hl⟩⟩
  | tuple ds =>
    cases e
    obtain ⟨a, xs, rfl, h1, h2, h3, h1F⟩ := hx.tup hs
    exact call_tuple_of pins s σ H _ us Q I r ⟨a, xs, rfl, .inr ⟨h1, q.pure hs (.tup h1F h2 h3)⟩⟩
  | _ => cases e
theorem lenD : CallR X (.builtin "len") (rB X.K (biD .len)) := by
  intro pins s σ H vs us Q I r h
  obtain ⟨F, x, dx, d, rfl, hs, hx, e, q⟩ := h
  cases dx with
  | list ds =>
    cases e
    obtain ⟨a, xs, rfl, h1, h2, h3⟩ := hx.lst hs
    refine call_len_seq pins s σ H _ us Q I r ⟨a, xs, rfl, .inl h1.sq, ?_⟩
    rw [h2.len]
    exact q.pure hs (.int _)
  | tuple ds =>
    cases e
    obtain ⟨a, xs, rfl, h1, h2, h3, h1F⟩ := hx.tup hs
    refine call_len_seq pins s σ H _ us Q I r ⟨a, xs, rfl, .inr h1, ?_⟩
    rw [h2.len]
    exact q.pure hs (.int _)
  | _ => cases e
theorem allD (hc : X.calm = true) : CallR X (.builtin "all") (rB X.K (biD .all)) := by
  intro pins s σ H vs us Q I r h
  obtain ⟨F, x, dx, d, rfl, hs, hx, e, q⟩ := h
  cases dx with
  | list ds =>
    obtain ⟨bs, e1, e⟩ := ok_bind (show (bools? ds >>= fun bs => R.ok (.bool (bs.all id))) = .ok d from e)
    cases e
    obtain ⟨a, xs, rfl, h1, h2, h3⟩ := hx.lst hs
    rw [bools?_eq e1] at h2
    rw [h2.boolsV] at h1
    exact cr_all hc pins s σ H _ us Q I r ⟨a, bs, rfl, h1.sq, q.pure hs (.bl _)⟩
  | _ => cases e
theorem anyD (hc : X.calm = true) : CallR X (.builtin "any") (rB X.K (biD .any)) := by
  intro pins s σ H vs us Q I r h
  obtain ⟨F, x, dx, d, rfl, hs, hx, e, q⟩ := h
  cases dx with
  | list ds =>
    obtain ⟨bs, e1, e⟩ := ok_bind (show (bools? ds >>= fun bs => R.ok (.bool (bs.any id))) = .ok d from e)
    cases e
    obtain ⟨a, xs, rfl, h1, h2, h3⟩ := hx.lst hs
    rw [bools?_eq e1] at h2
    rw [h2.boolsV] at h1
    exact cr_any hc pins s σ H _ us Q I r ⟨a, bs, rfl, h1.sq, q.pure hs (.bl _)⟩
  | _ => cases e
theorem absD : CallR X (.builtin "abs") (rB X.K (biD .abs)) := by
  intro pins s σ H vs us Q I r h
  obtain ⟨F, x, dx, d, rfl, hs, hx, e, q⟩ := h
  cases dx with
  | int i =>
    cases e
    obtain rfl := hx.int
    exact call_abs pins s σ H _ us Q I r ⟨i, rfl, q.pure hs (.int _)⟩
  | _ => cases e
theorem intD : CallR X (.type "int") (rB X.K (biD .int)) := by
  intro pins s σ H vs us Q I r h
  obtain ⟨F, x, dx, d, rfl, hs, hx, e, q⟩ := h
  cases dx with
  | int i =>
    cases e
    obtain rfl := hx.int
    exact call_int1 pins s σ H _ us Q I r (.inl ⟨i, rfl, q.pure hs (.int _)⟩)
  | _ => cases e
end
end DP

/-! DP: what repr shows of data. -/
namespace DP
open PySem PySem.Spec PyProof.Rows L2
variable [Tb]
section
variable {X : Cx} {pins : List (Addr × Obj)} {σ : L2.St} {F H : Hp} {s : Shared}
theorem not_sm {a : Addr} {xs : List V} (smK : X.K.lookup sysModules = none) (sm : Sm F) (h : LsK X.K F a xs) : a ≠ sysModules := by
  rintro rfl
  obtain ⟨o, e⟩ := sm
  rcases h with (h | ⟨u, h⟩) | ⟨its, n, h, _⟩
  · rw [e] at h; cases h
  · rw [e] at h; cases h
  · rw [smK] at h; cases h
mutual
theorem Rp.reads (I : L2.Inv X pins σ H s) (sF : Same F H) (sm : Sm F) (smK : X.K.lookup sysModules = none) : ∀ {x : V} {d : D}, Rp X.K F x d → ∀ {v : Value}, RelV x v → ∃ as, Reads s.heap v d as ∧ sysModules ∉ as
  | _, _, .non, v, rv => by
    cases (show v = Value.none from rv)
    exact ⟨[], .none, by simp⟩
  | _, _, .bl b, v, rv => by
    cases (show v = Value.bool b from rv)
    exact ⟨[], .bool b, by simp⟩
  | _, _, .int i, v, rv => by
    obtain ⟨t, rfl⟩ := rv
    exact ⟨[], .int i t, by simp⟩
  | _, _, .str x, v, rv => by
    obtain ⟨t, rfl⟩ := rv
    exact ⟨[], .str x t, by simp⟩
  | _, _, .lst (a := a) h r z, v, rv => by
    cases (show v = Value.ref a from rv)
    obtain ⟨its, rl, ⟨o, n, e, c, _, dt⟩, _⟩ := I.list (Same.lsk sF h).sq
    obtain ⟨as, ra, na⟩ := Rps.reads I sF sm smK r rl
    exact ⟨a :: as, .list e c dt (by simpa using ra), by
      rw [List.mem_cons, not_or]
      exact ⟨(not_sm smK sm h).symm, na⟩⟩
  | _, _, .tup (a := a) h r z, v, rv => by
    cases (show v = Value.ref a from rv)
    obtain ⟨its, rl, ⟨o, e, c, n, dt⟩, _⟩ := I.tuple (Same.seqT sF h)
    obtain ⟨as, ra, na⟩ := Rps.reads I sF sm smK r rl
    exact ⟨as, .tuple e c dt (by simpa using ra), na⟩
  | _, _, .dic (a := a) h r, v, rv => by
    cases (show v = Value.ref a from rv)
    obtain ⟨_, low, vs, kv, ⟨o, es, ep, e, ex, dt, _, prs, _⟩⟩ := I.hok a _ (sF _ _ h)
    obtain ⟨as, bs, ra, rb, na, nb⟩ := Rpk.reads I sF sm smK r kv prs
    exact ⟨a :: as ++ bs, .dict e ex.1 dt ra rb, by
      rw [List.mem_append, List.mem_cons, not_or, not_or]
      exact ⟨⟨fun z => by rw [← z] at low; simp at low, na⟩, nb⟩⟩
theorem Rps.reads (I : L2.Inv X pins σ H s) (sF : Same F H) (sm : Sm F) (smK : X.K.lookup sysModules = none) : ∀ {xs : List V} {ds : List D}, Rps X.K F xs ds → ∀ {vs : List Value}, Vals xs vs → ∃ as, ReadsAll s.heap vs ds as ∧ sysModules ∉ as
  | _, _, .nil, vs, rv => by
    cases rv
    exact ⟨[], .nil, by simp⟩
  | _, _, .cons h r, vs, rv => by
    cases rv with
    | cons r1 r2 =>
      obtain ⟨as, a1, a2⟩ := Rp.reads I sF sm smK h r1
      obtain ⟨bs, b1, b2⟩ := Rps.reads I sF sm smK r r2
      exact ⟨as ++ bs, .cons a1 b1, by rw [List.mem_append, not_or]; exact ⟨a2, b2⟩⟩
theorem Rpk.reads (I : L2.Inv X pins σ H s) (sF : Same F H) (sm : Sm F) (smK : X.K.lookup sysModules = none) : ∀ {kvs : List (Key × V)} {ds : List (D × D)}, Rpk X.K F kvs ds → ∀ {vs : List (Key × Value)} {es : List DictEntry}, KV kvs vs → Pairs (mixKind X.prog X.w) es vs →
    ∃ as bs, ReadsAll s.heap (es.map (·.key)) (ds.map (·.1)) as ∧ ReadsAll s.heap (es.map (·.val)) (ds.map (·.2)) bs ∧ sysModules ∉ as ∧ sysModules ∉ bs
  | _, _, .nil, vs, es, kv, prs => by
    cases kv
    cases prs
    exact ⟨[], [], .nil, .nil, by simp, by simp⟩
  | _, _, .cons (k := k) h r, vs, es, kv, prs => by
    cases kv with
    | cons k1 k2 =>
      cases prs with
      | cons p1 p2 p3 =>
        rename_i q _ en _
        obtain ⟨as, bs, a1, a2, a3, a4⟩ := Rpk.reads I sF sm smK r k2 p3
        obtain ⟨cs, c1, c2⟩ := Rp.reads I sF sm smK h k1.2
        have p1 : keyIs q.1 en.key = true := p1
        rw [← k1.1] at p1
        have kr : Reads s.heap en.key (kD k) [] := by
          cases k with
          | inl i =>
            obtain ⟨t, e⟩ : ∃ t, en.key = .int i t := by
              revert p1
              show Value.isInt i en.key = true → _
              cases en.key <;> simp [Value.isInt]
            rw [e]; exact .int i t
          | inr x =>
            obtain ⟨t, e⟩ : ∃ t, en.key = .str x t := by
              revert p1
              show Value.isStrOf x en.key = true → _
              cases en.key <;> simp [Value.isStrOf]
            rw [e]; exact .str x t
        refine ⟨[] ++ as, cs ++ bs, .cons kr a1, .cons (by show Reads s.heap en.val _ cs; rw [p2]; exact c1) a2, a3, by rw [List.mem_append, not_or]; exact ⟨c2, a4⟩⟩
end
/-- a call of a built-in with one operand that looks at the module table's place -/
def rBs (K : Frag) (f : D → R D) : List V → Hp → VK → Prop := fun vs H Q => ∃ F x dx d, vs = [x] ∧ Same F H ∧ Sm F ∧ Wk K F H x dx ∧ f dx = .ok d ∧ Res K F H Q d
theorem wk_reads (I : L2.Inv X pins σ H s) (sF : Same F H) (sm : Sm F) (smK : X.K.lookup sysModules = none) {x : V} {d : D} (h : Wk X.K F H x d) {v : Value} (rv : RelV x v) : ∃ as, Reads s.heap v d as ∧ sysModules ∉ as := by
  rcases h with h | ⟨l, xs, ds, rfl, rfl, h1, h2, h3⟩
  · exact h.reads I sF sm smK rv
  · cases (show v = Value.ref l from rv)
    obtain ⟨z, its, n, r, hl, e⟩ := Inv.lstR I (.inl (.inl h1))
    obtain ⟨as, ra, na⟩ := h2.reads I sF sm smK r
    refine ⟨l :: as, .list e rfl rfl (by simpa using ra), ?_⟩
    rw [List.mem_cons, not_or]
    refine ⟨fun z => ?_, na⟩
    obtain ⟨o, eo⟩ := sm
    rw [z] at eo
    rw [sF _ _ eo] at h1
    cases h1
theorem reprD (gd : X.A.guards = some []) (hu : X.A.units + 66 < cLine) (smK : X.K.lookup sysModules = none) : CallR X (.builtin "repr") (rBs X.K (biD .repr)) := by
  intro pins s σ H xs us Q I r h
  obtain ⟨F, x, dx, d, rfl, sF, sm, hx, e, q⟩ := h
  obtain ⟨u, rfl, ru⟩ := r.one
  have e : DP.gd (repOk dx) (.ok (.str dx.shown)) = .ok d := e
  obtain ⟨e1, e2⟩ := gd_ok e
  cases e2
  obtain ⟨e1, k3⟩ := band e1
  obtain ⟨k1, k2⟩ := band e1
  have k2 : dx.shown.length ≤ sizeLine := of_decide_eq_true k2
  have k3 : dx.depth ≤ 64 := of_decide_eq_true k3
  obtain ⟨as, ra, na⟩ := wk_reads I sF sm smK hx ru
  have fin : ∀ (h' : Heap) (t : Tok) (tk : Nat), (∀ b o, s.heap.get? b = some o → h'.get? b = some o) → EP X pins σ Q (.str dx.shown t) { s with heap := h', toks := tk } := fun h' t tk hk => ⟨.str dx.shown, H, I.kept (t' := tk) hk, ⟨t, rfl⟩, q.pure sF (.str _)⟩
  have big : ∀ {a : Addr}, u = .ref a → wpAny (model X.prog X.w) X.A (call (.builtin "repr") [u]) (EP X pins σ Q) X.xe s := fun {a} ea => by
    subst ea
    exact repr_of_reads' ra k1 (fun _ => na) gd (by omega) (fun _ _ z => z) fin k2
  cases dx with
  | none =>
    cases hx.none
    cases (show u = Value.none from ru)
    exact PySem.P.repr_of_none (fin s.heap _ _ fun _ _ z => z)
  | bool b =>
    cases hx.bool
    cases (show u = Value.bool b from ru)
    exact PySem.P.repr_of_bool (fin s.heap _ _ fun _ _ z => z)
  | int i =>
    obtain rfl := hx.int
    obtain ⟨t, rfl⟩ := ru
    exact PySem.P.repr_of_int (by simpa [PyData.showable] using k1) (fin s.heap _ _ fun _ _ z => z)
  | str z =>
    obtain rfl := hx.str
    obtain ⟨t, rfl⟩ := ru
    exact PySem.P.repr_of_str (fin s.heap _ _ fun _ _ z => z) k2
  | list ds => cases ra with | list _ _ _ _ => exact big rfl
  | tuple ds => cases ra with | tuple _ _ _ _ => exact big rfl
  | dict ds => cases ra with | dict _ _ _ _ _ => exact big rfl
end
end DP

/-! DP, part 5: readings by data, the look at a tree, expressions. -/
namespace DP
open PySem PySem.Spec PyProof.Rows L2
/-- never let out: what only reckons -/
class NX {α : Type} (r : R α) : Prop where
  ne : ∀ c fs, r ≠ .exc c fs
section
instance nx_of_ok {α : Type} {a : α} : NX (R.ok a) := ⟨fun _ _ z => by cases z⟩
instance nx_of_bad {α : Type} : NX (R.bad : R α) := ⟨fun _ _ z => by cases z⟩
instance nx_if {α : Type} {c : Prop} [Decidable c] {a b : R α} [NX a] [NX b] : NX (if c then a else b) := by
  split
  · infer_instance
  · infer_instance
theorem nx_bind {α β : Type} {r : R α} {f : α → R β} (h : NX r) (h2 : ∀ a, NX (f a)) : NX (r >>= f) := ⟨fun c fs z => by
  cases r with
  | ok a => exact (h2 a).ne c fs z
  | exc c' fs' => exact h.ne c' fs' rfl
  | bad => cases z⟩
instance nx_nx {α : Type} {r : R α} : NX (nx r) := ⟨fun c fs z => by cases r <;> cases z⟩
instance nx_peek {ρ : Slots} {o : Opd} : NX (peek ρ o) := by
  unfold peek
  split
  · infer_instance
  · split <;> infer_instance
instance nx_keep {o : Opd} : NX (keep o) := by unfold keep; split <;> infer_instance
instance nx_asB {x : D} : NX (asB x) := by unfold asB; split <;> infer_instance
instance nx_asI {x : D} : NX (asI x) := by unfold asI; split <;> infer_instance
instance nx_gd {b : Bool} {d : D} : NX (gd b (.ok d)) := by unfold gd; infer_instance
instance nx_items {x : D} : NX (items? x) := by unfold items?; split <;> infer_instance
instance nx_ixD {a b : D} : NX (ixD a b) := by
  unfold ixD
  split
  · split <;> infer_instance
  · split <;> infer_instance
  · infer_instance
instance nx_slcD {a : D} {l h : Option Int} : NX (slcD a l h) := by unfold slcD; split <;> infer_instance
instance nx_op2 {o : O2} {a b : D} : NX (op2 o a b) := by unfold op2; split <;> infer_instance
instance nx_ints : ∀ {l : List D}, NX (ints? l)
  | [] => nx_of_ok
  | .int i :: r => nx_bind (nx_ints (l := r)) fun _ => nx_of_ok
  | .none :: _ => nx_of_bad
  | .bool _ :: _ => nx_of_bad
  | .str _ :: _ => nx_of_bad
  | .list _ :: _ => nx_of_bad
  | .tuple _ :: _ => nx_of_bad
  | .dict _ :: _ => nx_of_bad
instance nx_bools : ∀ {l : List D}, NX (bools? l)
  | [] => nx_of_ok
  | .bool i :: r => nx_bind (nx_bools (l := r)) fun _ => nx_of_ok
  | .none :: _ => nx_of_bad
  | .int _ :: _ => nx_of_bad
  | .str _ :: _ => nx_of_bad
  | .list _ :: _ => nx_of_bad
  | .tuple _ :: _ => nx_of_bad
  | .dict _ :: _ => nx_of_bad
instance nx_inD {x y : D} : NX (inD x y) := by unfold inD; split <;> infer_instance
instance nx_cmpD {o : Oc} {a b : D} : NX (cmpD o a b) := by
  unfold cmpD
  split <;> first | infer_instance | exact nx_bind nx_ints fun _ => nx_bind nx_ints fun _ => nx_of_ok | exact nx_bind nx_inD fun _ => nx_of_ok
instance nx_key {d : D} : NX (key? d) := by
  unfold key?
  split
  · exact nx_bind nx_ints fun _ => nx_of_ok
  · infer_instance
instance nx_keys : ∀ {l : List D}, NX (keys? l)
  | [] => nx_of_ok
  | d :: r => nx_bind nx_key fun _ => nx_bind (nx_keys (l := r)) fun _ => nx_of_ok
instance nx_sortD {l : List D} : NX (sortD l) := by
  unfold sortD
  split
  · infer_instance
  · exact nx_bind nx_keys fun _ => nx_of_ok
instance nx_biD {f : Bi} {x : D} : NX (biD f x) := by
  unfold biD
  split <;> first | infer_instance | exact nx_bind nx_bools fun _ => nx_of_ok | exact nx_bind nx_ints fun _ => nx_of_ok | exact nx_bind nx_ints fun _ => nx_if
instance nx_isL {d : D} : NX (isL d) := by unfold isL; split <;> infer_instance
instance nx_mtD {m : Mo} {a b : D} : NX (mtD m a b) := by
  unfold mtD
  split
  · infer_instance
  · split
    · split <;> infer_instance
    · infer_instance
  · infer_instance
instance nx_zipD {a b : D} : NX (zipD a b) := by unfold zipD; split <;> infer_instance
instance nx_enmC {a : D} : NX (enmC a) := by unfold enmC; split <;> infer_instance
instance nx_putAll : ∀ {is : List Nat} {ds : List D} {ρ : Slots}, NX (putAll is ds ρ)
  | [], [], _ => nx_of_ok
  | _ :: is, _ :: ds, _ => nx_putAll (is := is) (ds := ds)
  | [], _ :: _, _ => nx_of_bad
  | _ :: _, [], _ => nx_of_bad
instance nx_putTg {tg : Tg} {d : D} {ρ : Slots} : NX (putTg tg d ρ) := by
  unfold putTg
  split
  · infer_instance
  · infer_instance
  · infer_instance
end
variable [Tb]

/-! ### readings -/
/-- what may be let out: the class, what has changed by then -/
structure EQ where
  q : Str → (Addr → Prop) → Hp → Hp → Prop
  mono : ∀ {c : Str} {B B1 : Addr → Prop} {F H F1 H1 : Hp}, q c B F H → Ext B F H F1 H1 → (∀ l, B1 l → B l) → q c B1 F1 H1
/-- nothing is -/
def noQ : EQ := ⟨fun _ _ _ _ => False, fun h _ _ => h⟩
/-- the weakest wish about exceptions in a context -/
def TkX (X : Cx) : WX := fun cls d σ H => Takes X fun cls' d' σ' H' => cls' = cls ∧ d' = d ∧ σ' = σ ∧ H' = H
theorem takes_tkx {X : Cx} : Takes X (TkX X) := fun u s' ⟨a, B, sI, pins, σ, H, cls, d, e, I, nb, up, sky, na, os, ag, w⟩ =>
  w u s' ⟨a, B, sI, pins, σ, H, cls, d, e, I, nb, up, sky, na, os, ag, rfl, rfl, rfl, rfl⟩
def xq (X : Cx) : EQ := ⟨fun c B F H => ∀ F' H', Ext B F H F' H' → Same F' H' → ∀ cls σ', X.mg c = some cls → TkX X cls none σ' H',
  fun h e hb F' H' e' s' => h F' H' (e.trans e' fun l hl => .inl (hb l hl)) s'⟩
section
variable {α β γ δ : Type} {K : Frag} {W : EQ} {B : Addr → Prop} {F H : Hp} {σ : L2.St} {ρ : Slots}
def Fin (K : Frag) (W : EQ) (Rl : Hp → β → α → Prop) (B : Addr → Prop) (F H : Hp) (σ : L2.St) (Q : β → Hp → Prop) : R (α × Slots) → Prop
  | .ok p => ∀ v F' H', Ext B F H F' H' → EnvOk K F' H' σ p.2 → (∀ l, Own σ p.2 l → B l) → Rl F' v p.1 → Q v H'
  | .exc c _ => W.q c B F H
  | .bad => False
def Rd' (K : Frag) (W : EQ) (Rl : L2.St → Hp → β → α → Prop) (f : Slots → R (α × Slots)) : L2.St → Hp → (β → Hp → Prop) → Prop := fun σ H Q => ∃ F ρ, EnvOk K F H σ ρ ∧ Fin K W (Rl σ) (Own σ ρ) F H σ Q (f ρ)
theorem Fin.mono {Rl : Hp → β → α → Prop} {Q Q' : β → Hp → Prop} {r : R (α × Slots)} (h : Fin K W Rl B F H σ Q r) (i : ∀ v H', Q v H' → Q' v H') : Fin K W Rl B F H σ Q' r := by
  cases r with
  | ok p => exact fun v F' H' e en o rl => i _ _ (h v F' H' e en o rl)
  | exc => exact h
  | bad => exact h
theorem Fin.bind {Rg : Hp → δ → γ → Prop} {Ra : Hp → β → α → Prop} {Q : δ → Hp → Prop} {r : R (α × Slots)} {g : α × Slots → R (γ × Slots)} (h : Fin K W Rg B F H σ Q (r >>= g)) :
    Fin K W Ra B F H σ (fun y H2 => ∃ F2 ρ2 b, Ext B F H F2 H2 ∧ EnvOk K F2 H2 σ ρ2 ∧ Ra F2 y b ∧ Fin K W Rg (Own σ ρ2) F2 H2 σ Q (g (b, ρ2))) r := by
  cases r with
  | ok p =>
    have h : Fin K W Rg B F H σ Q (g p) := h
    refine fun v F' H' e en o ra => ⟨F', p.2, p.1, e, en, ra, ?_⟩
    show Fin K W Rg _ _ _ _ _ (g p)
    cases q : g p with
    | ok z =>
      rw [q] at h
      exact fun v2 F2 H2 e2 en2 o2 r2 => h v2 F2 H2 (e.trans e2 fun l hl => .inl (o l hl)) en2 (fun l hl => o l (o2 l hl)) r2
    | exc c fs => rw [q] at h; exact W.mono h e o
    | bad => rw [q] at h; exact h
  | exc => exact h
  | bad => exact h
theorem Fin.ok {Rg : Hp → β → γ → Prop} {Q : β → Hp → Prop} {r : R α} {g : α → R (γ × Slots)} (h : Fin K W Rg B F H σ Q (r >>= g)) [n : NX r] : ∃ a, r = .ok a ∧ Fin K W Rg B F H σ Q (g a) := by
  cases r with
  | ok a => exact ⟨a, rfl, h⟩
  | exc c fs => exact absurd rfl (n.ne c fs)
  | bad => exact h.elim
/-- an operand -/
def rOpd (K : Frag) (σ : L2.St) (F : Hp) (v : V) : Opd → Prop
  | .val d => Rp K F v d
  | .plc i => σ[i]? = some (some v)
def rTest (_ : L2.St) (_ : Hp) (b c : Bool) : Prop := b = c
def rArgs (K : Frag) (_ : L2.St) (F : Hp) (vs : List V) (ds : List D) : Prop := Rps K F vs ds
def rPart (_ : L2.St) (_ : Hp) (a b : Option Int) : Prop := a = b
theorem rOpd.mono {F' : Hp} {v : V} {o : Opd} (s : Same F F') (h : rOpd K σ F v o) : rOpd K σ F' v o := by
  cases o with
  | val d => exact Rp.mono s h
  | plc i => exact h
abbrev RdE (X : Cx) (f : Slots → R (Opd × Slots)) : TE := Rd' X.K (xq X) (rOpd X.K) f
abbrev RdT (X : Cx) (f : Slots → R (Bool × Slots)) : TT := Rd' X.K (xq X) rTest f
abbrev RdA (X : Cx) (f : Slots → R (List D × Slots)) : TA := Rd' X.K (xq X) (rArgs X.K) f
/-- where nothing is let out -/
abbrev RdE0 (K : Frag) (f : Slots → R (Opd × Slots)) : TE := Rd' K noQ (rOpd K) f
abbrev RdT0 (K : Frag) (f : Slots → R (Bool × Slots)) : TT := Rd' K noQ rTest f
theorem Rd'.zero {Rl : L2.St → Hp → β → α → Prop} {f : Slots → R (α × Slots)} {Q : β → Hp → Prop} (h : Rd' K noQ Rl f σ H Q) : Rd' K W Rl f σ H Q := by
  obtain ⟨F, ρ, en, q⟩ := h
  refine ⟨F, ρ, en, ?_⟩
  cases e : f ρ with
  | ok p => rw [e] at q; exact q
  | exc => rw [e] at q; exact q.elim
  | bad => rw [e] at q; exact q.elim
theorem peek_wk {v : V} {o : Opd} {d : D} (en : EnvOk K F H σ ρ) (r : rOpd K σ F v o) (h : peek ρ o = .ok d) : Wk K F H v d := by
  cases o with
  | val e => cases h; exact .inl r
  | plc i =>
    have h : (match ρ[i]? with | some (.own _ ds) => R.ok (PyData.list ds) | _ => .bad) = .ok d := h
    split at h
    · rename_i b ds e
      cases h
      obtain ⟨l, xs, e1, e2, e3, e4, e5⟩ := en.cell i _ e
      have r : σ[i]? = some (some v) := r
      rw [r] at e1
      obtain rfl : v = .ref l := Option.some.inj e1
      exact .inr ⟨l, xs, ds, rfl, rfl, e3, e4, e5⟩
    · cases h
theorem keep_rp {v : V} {o : Opd} {d : D} (r : rOpd K σ F v o) (h : keep o = .ok d) : Rp K F v d := by
  cases o with
  | val e => cases h; exact r
  | plc i => cases h
theorem Fin.res {Q : VK} {d : D} (en : EnvOk K F H σ ρ) (h : Fin K W (rOpd K σ) (Own σ ρ) F H σ Q (.ok (.val d, ρ))) : Res K F H Q d := fun v F' H' e s r =>
  h v F' H' e.nil_own (en.ext e s fun _ _ z => z) (fun _ z => z) r
/-- a value is handed on as it is -/
theorem Fin.now {Q : VK} {v : V} {o : Opd} (en : EnvOk K F H σ ρ) (h : Fin K W (rOpd K σ) (Own σ ρ) F H σ Q (.ok (o, ρ))) (r : rOpd K σ F v o) : Q v H := h v F H Ext.refl en (fun _ z => z) r
theorem Fin.nowG {Rl : Hp → β → α → Prop} {Q : β → Hp → Prop} {v : β} {o : α} (en : EnvOk K F H σ ρ) (h : Fin K W Rl (Own σ ρ) F H σ Q (.ok (o, ρ))) (r : Rl F v o) : Q v H := h v F H Ext.refl en (fun _ z => z) r
end
theorem _root_.L2.PE.imp {X : Cx} {e : Expr} {t t' : TE} (h : PE X e t) (i : ∀ σ H Q, t' σ H Q → t σ H Q) : PE X e t' := ⟨fun pins s σ H Q I q => h.run pins s σ H Q I (i _ _ _ q)⟩
theorem _root_.L2.PT.imp {X : Cx} {e : Expr} {t t' : TT} (h : PT X e t) (i : ∀ σ H Q, t' σ H Q → t σ H Q) : PT X e t' := ⟨fun pins s σ H Q I q => h.run pins s σ H Q I (i _ _ _ q)⟩
theorem _root_.L2.PW.imp {X : Cx} {e : Expr} {t t' : TT} (h : PW X e t) (i : ∀ σ H Q, t' σ H Q → t σ H Q) : PW X e t' := ⟨fun wh pins s σ H Q I q => h.run wh pins s σ H Q I (i _ _ _ q)⟩
theorem _root_.L2.PA.imp {X : Cx} {es : List Expr} {t t' : TA} (h : PA X es t) (i : ∀ σ H Q, t' σ H Q → t σ H Q) : PA X es t' := ⟨fun pos pins s σ H Q I q => h.run pos pins s σ H Q I (i _ _ _ q)⟩
omit [Tb]
/-- a test by data -/
def evT (G : Gm) (c : E) : Slots → R (Bool × Slots) := fun ρ => ev G c ρ >>= fun p => peek p.2 p.1 >>= fun x => asB x >>= fun k => .ok (k, p.2)

/-! ### the look at a tree -/
def nmOk (sc : Scope) (x : Str) : Bool := (match sc.names.lookup x with | some .local => true | some .cell => true | some .free => true | _ => false) && !(x == ("__debug__" : Str)) && !(x == ("__classdict__" : Str))
def okV (sc : Scope) (N : List Str) (i : Nat) (x : Str) : Bool := decide (N[i]? = some x) && nmOk sc x
/-- a name that is stored -/
def okL (sc raw : Scope) (N : List Str) (i : Nat) (x : Str) : Bool := decide (N[i]? = some x) && (match sc.names.lookup x with | some .local => true | some .cell => (match raw.names.lookup x with | some .cell => true | _ => false) | _ => false)
def glOk (sc : Scope) (x : Str) : Bool := (match sc.names.lookup x with | some .globalImplicit => true | _ => false) && !(x == ("__debug__" : Str)) && !(x == ("__name__" : Str))
def litOk : Lit → Const → Bool
  | .non, .none => true
  | .bl a, .bool b => a == b
  | .int a, .int b => decide (a = b)
  | .str a, .str b => decide (a = b)
  | _, _ => false
def o2Ok : O2 → Operator → Bool
  | .add, .Add | .sub, .Sub | .mul, .Mult | .fdiv, .FloorDiv | .mod, .Mod | .pow, .Pow => true
  | _, _ => false
def ocOk : Oc → CmpOp → Bool
  | .eq, .Eq | .ne, .NotEq | .lt, .Lt | .le, .LtE | .gt, .Gt | .ge, .GtE | .isN, .Is | .notN, .IsNot | .inn, .In | .nin, .NotIn | .isB, .Is | .notB, .IsNot => true
  | _, _ => false
def biName : Bi → Str
  | .len => "len" | .all => "all" | .any => "any" | .sum => "sum" | .tuple => "tuple" | .list => "list" | .sorted => "sorted" | .abs => "abs" | .int => "int" | .str => "str" | .repr => "repr" | .max => "max" | .min => "min"
/-- the built-ins whose rules stand here -/
def biHas : Bi → Bool
  | .str => false
  | _ => true
def tyStr (t : Ty) : Str := tyName t
def isT : E → Bool
  | .ife _ _ _ => false
  | .nop => false
  | _ => true
def isNop : E → Bool
  | .nop => true
  | _ => false
def isYes : E → Bool
  | .lit (.bl true) => true
  | _ => false
def ownOf (N : List Str) (tg : Tg) : List (Str × Nat) := tg.slots.map fun i => (N.getD i "", i)
def okNms (sc raw : Scope) (N : List Str) : List Nat → List Expr → Bool
  | [], [] => true
  | i :: is, .Name x _ :: es => okL sc raw N i x && okNms sc raw N is es
  | _, _ => false
def okTg (sc raw : Scope) (N : List Str) : Tg → Expr → Bool
  | .nm i, .Name x _ => okL sc raw N i x
  | .tup is, .Tuple es _ _ => okNms sc raw N is es
  | _, _ => false
/-- it hands back a list just made -/
def isNw (G : Gm) (j : Nat) : Bool := match G.fns[j]? with | some g => g.nw | none => false
/-- a lambda without parameters -/
def noPars : Arguments → Bool
  | ⟨[], [], none, [], [], none, []⟩ => true
  | _ => false
/-- how a lambda is written: no parameter, or one with a plain number -/
def lamPar : Arguments → Option (List Str)
  | ⟨[], [], none, [], [], none, []⟩ => some []
  | ⟨[], [a], none, [], [], none, [.Constant (.int 0) _ _]⟩ => some [a.arg]
  | _ => none
/-- its names -/
def lamOk (N : List Str) (sc scope : Scope) (ps : Arguments) : Bool := match lamPar ps with
  | some ds => decide (scope.kind = .function) && !scope.isCoroutine && !scope.isGenerator && (scope.names.all fun y => !decide (y.2 = .cell) && (!decide (y.2 = .local) || !N.contains y.1) && (!decide (y.2 = .free) || decide (sc.names.lookup y.1 = some .cell) || decide (sc.names.lookup y.1 = some .free))) &&
      ds.all fun x => decide (scope.names.lookup x = some .local)
  | none => false
def b2Name (mx : Bool) : Str := if mx = true then "max" else "min"
def moName : Mo → Str
  | .cnt => "count" | .idx => "index"
def baseOk : Expr → Bool
  | .Name _ _ => true
  | .Subscript _ _ _ => true
  | _ => false
def isTupE : Expr → Bool
  | .Tuple _ _ _ => true
  | _ => false
/-- what walks in pairs wants a pair to take it -/
def itTg : I → Expr → Bool
  | .zip _ _, e => isTupE e
  | .enm _, e => isTupE e
  | _, _ => true
def isRg : I → Bool
  | .rng _ => true
  | .rng2 _ _ => true
  | _ => false
mutual
def okE (G : Gm) (sc raw : Scope) (N : List Str) : E → Expr → Bool
  | .var i, .Name x _ => okV sc N i x
  | .frz i, .Name x _ => okV sc N i x
  | .lit l, .Constant c _ _ => litOk l c
  | .cst j, .Name x _ => (match G.cst[j]? with | some p => decide (p.1 = x) && glOk sc x | none => false)
  | .tup es, .Tuple es' _ _ => okEs G sc raw N es es'
  | .lst es, .List es' _ => okEs G sc raw N es es'
  | .bin o a b, .BinOp a' o' b' _ => o2Ok o o' && okE G sc raw N a a' && okE G sc raw N b b'
  | .cmp o a b, .Compare a' [o'] [b'] _ => ocOk o o' && okE G sc raw N a a' && okE G sc raw N b b'
  | .chn o1 o2 a b c, .Compare a' [o1', o2'] [b', c'] _ => ocOk o1 o1' && ocOk o2 o2' && okE G sc raw N a a' && okE G sc raw N b b' && okE G sc raw N c c'
  | .neg a, .UnaryOp .USub a' _ => okE G sc raw N a a'
  | .not a, .UnaryOp .Not a' _ => isT a && okE G sc raw N a a'
  | .and es, .BoolOp .And es' _ => okB G sc raw N es es'
  | .or es, .BoolOp .Or es' _ => okB G sc raw N es es'
  | .ife c a b, .IfExp c' a' b' _ => isT c && okE G sc raw N c c' && okE G sc raw N a a' && okE G sc raw N b b'
  | .ix a i, .Subscript a' i' _ => okE G sc raw N a a' && okE G sc raw N i i'
  | .slc a lo hi, .Subscript a' (.Slice lo' hi' none _) _ => okE G sc raw N a a' && (match lo' with | none => isNop lo | some e => !isNop lo && okE G sc raw N lo e) &&
      (match hi' with | none => isNop hi | some e => !isNop hi && okE G sc raw N hi e)
  | .call j (.cons e es), .Call (.Name x _) (e' :: es') [] _ => (match G.fns[j]? with | some g => decide (g.name = x) && glOk sc x | none => false) && !isNw G j && okE G sc raw N e e' && okEs G sc raw N es es'
  | .callB j i es, .Call (.Name x _) (.Name h _ :: es') [] _ => (match G.fns[j]? with | some g => decide (g.name = x) && glOk sc x | none => false) && okV sc N i h && okEs G sc raw N es es'
  | .bi f a, .Call (.Name x _) [a'] [] _ => biHas f && decide (biName f = x) && glOk sc x && okE G sc raw N a a'
  | .isi a t, .Call (.Name x _) [a', .Name y _] [] _ => decide (x = ("isinstance" : Str)) && glOk sc x && decide (y = tyStr t) && glOk sc y && okE G sc raw N a a'
  | .comp elt tg it cond, .ListComp elt' [⟨tg', it', ifs', as⟩] scope _ => decide (as = 0) && (itTg it tg' && okI G sc raw N it it') && blkC N sc scope (ownOf N tg) && okTg (relS scope sc) scope N tg tg' && okE G (relS scope sc) scope N elt elt' &&
      (match ifs' with | [] => isYes cond | [c'] => isT cond && okE G (relS scope sc) scope N cond c' | _ => false)
  | .comp2 elt tg it cond tg2 it2 cond2, .ListComp elt' [⟨tg', it', ifs', as⟩, ⟨tg2', it2', ifs2', as2⟩] scope _ => decide (as = 0) && decide (as2 = 0) && (itTg it tg' && okI G sc raw N it it') && blkC N sc scope (ownOf N tg ++ ownOf N tg2) && okTg (relS scope sc) scope N tg tg' && okTg (relS scope sc) scope N tg2 tg2' &&
      (itTg it2 tg2' && okI G (relS scope sc) scope N it2 it2') && okE G (relS scope sc) scope N elt elt' &&
      (match ifs' with | [] => isYes cond | [c'] => isT cond && okE G (relS scope sc) scope N cond c' | _ => false) && (match ifs2' with | [] => isYes cond2 | [c'] => isT cond2 && okE G (relS scope sc) scope N cond2 c' | _ => false)
  | .word j e, .Call (.Name x _) [.Lambda ps e' scope _] [] _ => (match G.wds[j]? with | some w => decide (w.name = x) && glOk sc x | none => false) && lamOk N sc scope ps && okE G.noW scope scope N e e'
  | .dic1 k v, .Dict [some k'] [v'] _ => okE G sc raw N k k' && okE G sc raw N v v'
  | .b2 mx a b, .Call (.Name x _) [a', b'] [] _ => decide (x = b2Name mx) && glOk sc x && okE G sc raw N a a' && okE G sc raw N b b'
  | .mth m a b, .Call (.Attribute a' y apos) [b'] [] cpos => decide (y = moName m) && baseOk a' && (apos.endLine == cpos.line) && okE G sc raw N a a' && okE G sc raw N b b'
  | .lrg it, .Call (.Name x _) [it'] [] _ => decide (x = ("list" : Str)) && glOk sc x && isRg it && okI G sc raw N it it'
  | _, _ => false
def okEs (G : Gm) (sc raw : Scope) (N : List Str) : Es → List Expr → Bool
  | .nil, [] => true
  | .cons e es, e' :: es' => okE G sc raw N e e' && okEs G sc raw N es es'
  | _, _ => false
/-- two or more, each a test -/
def okB (G : Gm) (sc raw : Scope) (N : List Str) : Es → List Expr → Bool
  | .cons e .nil, [e'] => isT e && okE G sc raw N e e'
  | .cons e (.cons e2 es), e' :: e2' :: es' => isT e && okE G sc raw N e e' && okB G sc raw N (.cons e2 es) (e2' :: es')
  | _, _ => false
def okI (G : Gm) (sc raw : Scope) (N : List Str) : I → Expr → Bool
  | .seq a, e => okE G sc raw N a e
  | .rng a, .Call (.Name x _) [a'] [] _ => decide (x = ("range" : Str)) && glOk sc x && okE G sc raw N a a'
  | .rng2 a b, .Call (.Name x _) [a', b'] [] _ => decide (x = ("range" : Str)) && glOk sc x && okE G sc raw N a a' && okE G sc raw N b b'
  | .zip a b, .Call (.Name x _) [a', b'] [] _ => decide (x = ("zip" : Str)) && glOk sc x && okE G sc raw N a a' && okE G sc raw N b b'
  | .enm a, .Call (.Name x _) [a'] [] _ => decide (x = ("enumerate" : Str)) && glOk sc x && okE G sc raw N a a'
  | _, _ => false
end
end DP

/-! DP, part 6: expressions keep what the small tree says: names, displays, operators, tests, calls. -/
namespace DP
open PySem PySem.Spec PyProof.Rows L2
variable [Tb]

def litV : Lit → V
  | .non => .non
  | .bl b => .bl b
  | .int i => .int i
  | .str x => .str x
theorem lit_rp {K : Frag} {F : Hp} (l : Lit) : Rp K F (litV l) (litD l) := by
  cases l
  · exact .non
  · exact .bl _
  · exact .int _
  · exact .str _
/-- what a def may let out, by the class that the module names so -/
def ExcE (mg : Str → Option Value) (c : Str) (F H : Hp) (E : XK) : Prop := ∀ F' H', Ext (fun _ => False) F H F' H' → Same F' H' → ∀ cls, mg c = some cls → E cls none H'
/-- what a def promises, by data -/
def spOf (K : Frag) (mg : Str → Option Value) (g : Sig) : Sp := fun vs H Q E => vs.length = g.n ∧ ∃ F, Same F H ∧ Sm F ∧ TbOk F H ∧
  ((g.bor = false ∧ ∃ ds c fs, Rps K F vs ds ∧ g.sem ds = .exc c fs ∧ ExcE mg c F H E) ∨
   (g.bor = false ∧ g.nw = false ∧ ∃ ds r, Rps K F vs ds ∧ g.sem ds = .ok r ∧ Res K F H Q r.1) ∨
   (g.bor = false ∧ g.nw = true ∧ ∃ ds es u, Rps K F vs ds ∧ g.sem ds = .ok (.list es, u) ∧ ∀ p xs F' H', Ext (fun _ => False) F H F' H' → Same F' H' → H' p = none → Rps K F' xs es → xs.length ≤ sizeLine → Q (.ref p) (upd H' p (.lst xs))) ∨
   (g.bor = true ∧ ∃ l ws xs es ds r, vs = .ref l :: ws ∧ F l = none ∧ H l = some (.lst xs) ∧ Rps K F xs es ∧ xs.length ≤ sizeLine ∧ Rps K F ws ds ∧ g.sem (.list es :: ds) = .ok r ∧
      ∀ v F' H' xs', Ext (fun a => a = l) F H F' H' → Same F' H' → F' l = none → H' l = some (.lst xs') → Rps K F' xs' r.2 → xs'.length ≤ sizeLine → Rp K F' v r.1 → Q v H'))
/-- what a def does wherever it is called: nothing is being shown just then -/
structure FnG (P : Program) (w : World) (K : Frag) (mg : Str → Option Value) (base : Heap) (CX : CXT) (k : Nat) (f : Addr) (fd : FuncData) (ps : List Str) (sp : Sp) : Prop where
  few : ∀ vs H Q E, sp vs H Q E → vs.length = ps.length
  go : ∀ (A : Around) (out : List Env) (s : Shared) (H : Hp) (args : Args) (us : List Value) (vs : List V) (Q : VK) (E : XK), A.guards = some [] → Room k A → Env0 P w K mg base A out s H → BindsTo s fd args (ps.zip us) → Vals vs us → sp vs H Q E →
    codeAny (model P w) A (.call (.ref f) args) (CR CX out P w H s Q E) s
theorem FnG.mono {P : Program} {w : World} {K : Frag} {mg : Str → Option Value} {base : Heap} {CX : CXT} {j k : Nat} {f : Addr} {fd : FuncData} {ps : List Str} {sp : Sp} (g : FnG P w K mg base CX j f fd ps sp) (h : j ≤ k) : FnG P w K mg base CX k f fd ps sp :=
  ⟨g.few, fun A out s H args us vs Q E gd room => g.go A out s H args us vs Q E gd (room.mono h)⟩
/-- f(e, ..) -/
theorem pe_go {X : Cx} {CX : CXT} {k : Nat} {f : Addr} {fd : FuncData} {ps : List Str} {sp : Sp} {E : XK} {x : Str} {px pos : Pos} {e : Expr} {es : List Expr} {t : TA} (g : FnG X.prog X.w X.K X.mg X.base CX k f fd ps sp) (gd : X.A.guards = some [])
    (room : Room k X.A) (gl : Gl X x) (m : X.mg x = some (.ref f)) (kp : PySem.W.keepIn X.K (.ref f) = true) (bd : Binds X.K fd ps []) (hx : Passes CX X E) (args : PA X (e :: es) t) (nd : (x == ("__debug__" : Str)) = false)
    (st : starEach (e :: es) X.env = (false, eval e X.env) :: starEach es X.env) (pl : (backTo pos (starEach es X.env)).any (·.1) = false) : PE X (.Call (.Name x px) (e :: es) [] pos) (tCall sp [] E t) := by
  constructor
  intro pins s σ H Q I q
  refine wpAny_Call_Name_kw (ld_glob I gl m ?_ nd)
  refine PySem.W.callWith_K (h₀ := X.base) I.ok.mod.kin kp ?_ st pl
  refine thn (args.run pos pins s σ H _ I q) fun us s1 ⟨vs, H1, I1, rel, q1⟩ => ⟨I1.kIn, ?_⟩
  have q1 : sp (vs ++ []) H1 Q E := q1
  rw [List.append_nil] at q1
  have lu : (us ++ []).length = ps.length := by rw [List.append_nil, ← rel.length]; exact g.few _ _ _ _ q1
  have bt := bd s1 us I1.kIn lu
  rw [List.append_nil] at bt
  refine wpAny_call (codeAny_mono (g.go X.A X.stack s1 H1 ⟨us, []⟩ us vs Q E gd room I1.env0 bt rel q1) fun r s2 hq => ?_)
  cases r with
  | error z => exact hx pins σ H1 s1 z s2 I1 hq
  | ok fl =>
    cases fl with
    | ret u => exact I1.after hq
    | _ => exact hq.elim
/-- a def that stands in the module and keeps its promise -/
def HasFn (P : Program) (w : World) (K : Frag) (mg : Str → Option Value) (base : Heap) (k : Nat) (g : Sig) : Prop :=
  ∃ f fd ps, mg g.name = some (.ref f) ∧ PySem.W.keepIn K (.ref f) = true ∧ Binds K fd ps [] ∧ FnG P w K mg base (L2.CX P w) k f fd ps (spOf K mg g)
theorem HasFn.mono {P : Program} {w : World} {K : Frag} {mg : Str → Option Value} {base : Heap} {j k : Nat} {g : Sig} (h : HasFn P w K mg base j g) (l : j ≤ k) : HasFn P w K mg base k g := by
  obtain ⟨f, fd, ps, h1, h2, h3, h4⟩ := h
  exact ⟨f, fd, ps, h1, h2, h3, h4.mono l⟩
/-- an own exception class without own __init__, as the module names it -/
def HasExn (K : Frag) (mg : Str → Option Value) (c : Str) : Prop := ∃ (C : Addr) (bmB : List Value) (B newId initId : String), ExcBaseFacts B newId initId bmB ∧ PySem.W.excIn K C bmB newId = true ∧ mg c = some (.ref C) ∧ PySem.W.keepIn K (.ref C) = true ∧
  PySem.W.subIn K (.ref C) (.type "BaseException") = some true ∧ PySem.W.typeIn K (.ref C) = some (.type "type")
/-- what a def makes of a call that was handed to it, by data -/
def FinR (K : Frag) (mg : Str → Option Value) (F H : Hp) (Q : VK) (E : XK) : R D → Prop
  | .ok d => Res K F H Q d
  | .exc c _ => ExcE mg c F H E
  | .bad => False
def FinD (K : Frag) (F H : Hp) (Q : VK) : R D → Prop
  | .ok d => Res K F H Q d
  | _ => False
def TTw (K : Frag) (mg : Str → Option Value) (sem : R D → R D) : (XK → Hp → VK → Prop) → Hp → VK → Prop := fun tl H Q => ∃ F r, Same F H ∧ Sm F ∧ TbOk F H ∧ (∀ E Q', FinR K mg F H Q' E r → tl E H Q') ∧ FinD K F H Q (sem r)
/-- the def that calls what it got: what is let out comes at the state of the call -/
def GivesW (X : Cx) (Ng : List Str) (x : Str) (sg : Scope) (g : Addr) (cdg : Value) (bg : List Stmt) (a : Str) (q : Str) (TT : (XK → Hp → VK → Prop) → Hp → VK → Prop) : Prop :=
  ∀ (f c' : Addr) (s : Shared) (H : Hp) (Q : VK) (tl : XK → Hp → VK → Prop),
    (∀ (W : WX) (pn : List (Addr × Obj)) (xe : Value → Shared → Prop) (p1 p2 : Pos), Takes ((cxOf C8.CX0 X.prog X.w X.K X.mg X.base Ng x sg g cdg X.A X.stack s H C8.E0).tr pn xe) W →
      PE ((cxOf C8.CX0 X.prog X.w X.K X.mg X.base Ng x sg g cdg X.A X.stack s H C8.E0).tr pn xe) (.Call (.Name a p1) [] [] p2) (fun σZ HZ Q => ∃ E : XK, (∀ cls d H', E cls d H' → W cls d σZ H') ∧ σZ[0]? = some (some (.ref f)) ∧ HZ c' = some (LamX.CodeO c' q) ∧ tl E HZ Q)) →
    H c' = some (LamX.CodeO c' q) → TT tl H Q →
    ∃ t, PSs (cxOf C8.CX0 X.prog X.w X.K X.mg X.base Ng x sg g cdg X.A X.stack s H C8.E0).nox bg t ∧ t { nx := fun _ H' => Q .non H', rt := Q } (L2.start Ng [.ref f]) H
/-- a def of one parameter that calls it -/
def HasWd (P : Program) (w : World) (K : Frag) (mg : Str → Option Value) (base : Heap) (wd : Wd) : Prop :=
  ∃ (g : Addr) (a : Str) (pg : Arguments) (bg : List Stmt) (sg : Scope) (dV kV doc pm cdv ct oc : Value) (an od : Option Addr) (osl : Array (Option Value)) (Ng : List Str),
    mg wd.name = some (.ref g) ∧ PySem.W.keepIn K (.ref g) = true ∧ K.lookup g = some ⟨oc, od, .func (PySem.W.fnOf wd.name wd.name pg bg sg dV kV doc pm an cdv ct), osl⟩ ∧ PySem.W.codeIn K cdv wd.name = true ∧
    L2.Binds K (PySem.W.fnOf wd.name wd.name pg bg sg dV kV doc pm an cdv ct) [a] [] ∧ FnScope Ng [a] sg ∧ Ng[0]? = some a ∧ Vis sg a ∧ (a == ("__debug__" : Str)) = false ∧ (a == ("__classdict__" : Str)) = false ∧
    ∀ (X : Cx) (q : Str), X.prog = P → X.w = w → X.K = K → X.mg = mg → X.base = base → GivesW X Ng wd.name sg g cdv bg a q (TTw K mg wd.sem)
/-- where lambdas are made -/
def LamAt (k : Nat) (X : Cx) : Prop := ∃ c P, X.env.code = .ref c ∧ LamX.TabB X.base X.mg c P ∧ (P, X.env.qual ++ "<lambda>") ∈ Tb.l ∧ (∀ p ∈ Tb.l, p.1 = P → p.2 = X.env.qual ++ "<lambda>") ∧ Room (k + 2) X.A
def bNames : List Str := ["len", "all", "any", "sum", "tuple", "list", "sorted", "abs", "int", "isinstance", "bool", "str", "range", "repr", "max", "min", "zip", "enumerate"]
/-- where one stands: G's names, k calls of room -/
structure Here (G : Gm) (k : Nat) (sc raw : Scope) (N : List Str) (X : Cx) : Prop where
  scE : X.env.scope = sc
  nE : X.N = N
  nd : N.Nodup
  calm : X.calm = true
  fn : ∀ x, raw.names.lookup x = some .cell → X.fn x = true
  blt : ∀ x ∈ bNames, X.mg x = none
  fns : ∀ (j : Nat) (g : Sig), G.fns[j]? = some g → HasFn X.prog X.w X.K X.mg X.base k g
  cst : ∀ (j : Nat) (p : Str × Lit), G.cst[j]? = some p → ∃ u, X.mg p.1 = some u ∧ RelV (litV p.2) u
  room : Room k X.A
  grd : X.A.guards = some []
  smK : X.K.lookup sysModules = none
  exn : ∀ (j : Nat) (c : Str), G.exn[j]? = some c → HasExn X.K X.mg c
  wds : ∀ (j : Nat) (w : Wd), G.wds[j]? = some w → HasWd X.prog X.w X.K X.mg X.base w
  lam : G.wds ≠ [] → LamAt k X
section
variable {G : Gm} {k : Nat} {sc raw : Scope} {N : List Str} {X : Cx} {pos : Pos}
theorem gl_of (c : Here G k sc raw N X) {x : Str} (h : glOk sc x = true) : Gl X x ∧ (x == ("__debug__" : Str)) = false ∧ x ≠ "__name__" := by
  unfold glOk at h
  obtain ⟨h1, h2⟩ := band h
  obtain ⟨h1, h3⟩ := band h1
  refine ⟨?_, by simpa using h3, by simpa using h2⟩
  show X.env.scope.names.lookup x = _
  rw [c.scE]
  split at h1
  · assumption
  · cases h1
theorem v_of (c : Here G k sc raw N X) {i : Nat} {x : Str} (h : okV sc N i x = true) : PE X (.Name x pos) (tVar i) := by
  unfold okV nmOk at h
  obtain ⟨h1, h2⟩ := band h
  obtain ⟨h2, h4⟩ := band h2
  obtain ⟨h2, h3⟩ := band h2
  refine pe_var (by rw [c.nE]; exact of_decide_eq_true h1) ?_ (by simpa using h3) (by simpa using h4)
  show Vis X.env.scope x
  rw [c.scE]
  unfold Vis
  split at h2
  · exact .inl (by assumption)
  · exact .inr (.inl (by assumption))
  · exact .inr (.inr (by assumption))
  · cases h2
theorem s_var (c : Here G k sc raw N X) {i : Nat} {x : Str} (h : okV sc N i x = true) : PE X (.Name x pos) (RdE X (ev G (.var i))) := by
  refine (v_of c h).imp fun σ H Q q => ?_
  obtain ⟨F, ρ, en, q⟩ := q
  have q : Fin X.K (xq X) (rOpd X.K σ) (Own σ ρ) F H σ Q (rdVar ρ i) := q
  unfold rdVar at q
  cases e : ρ[i]? with
  | none => rw [e] at q; exact q.elim
  | some cl =>
    rw [e] at q
    have hc := en.cell i _ e
    cases cl with
    | un => exact q.elim
    | dat d =>
      obtain ⟨v, e1, r⟩ := hc
      refine ⟨v, ?_, q.now en (o := .val d) r⟩
      cases e2 : σ[i]? with
      | none => rw [e2] at e1; cases e1
      | some o => rw [e2] at e1; exact congrArg some e1
    | own b ds =>
      obtain ⟨l, xs, e1, _⟩ := hc
      have e3 : σ[i]? = some (some (V.ref l)) := by
        cases e2 : σ[i]? with
        | none => rw [e2] at e1; cases e1
        | some o => rw [e2] at e1; exact congrArg some e1
      exact ⟨.ref l, e3, q.now en (o := .plc i) e3⟩
/-- a list of one's own becomes data -/
theorem s_frz (c : Here G k sc raw N X) {i : Nat} {x : Str} (h : okV sc N i x = true) : PE X (.Name x pos) (RdE X (ev G (.frz i))) := by
  refine (v_of c h).imp fun σ H Q q => ?_
  obtain ⟨F, ρ, en, q⟩ := q
  have q : Fin X.K (xq X) (rOpd X.K σ) (Own σ ρ) F H σ Q (match ρ[i]? with
    | some (.dat d) => R.ok (Opd.val d, ρ)
    | some (.own false ds) => .ok (.val (.list ds), ρ.set i (.dat (.list ds)))
    | _ => .bad) := q
  cases e : ρ[i]? with
  | none => rw [e] at q; exact q.elim
  | some cl =>
    rw [e] at q
    have hc := en.cell i _ e
    cases cl with
    | un => exact q.elim
    | dat d =>
      obtain ⟨v, e1, r⟩ := hc
      refine ⟨v, ?_, q.now en (o := .val d) r⟩
      cases e2 : σ[i]? with
      | none => rw [e2] at e1; cases e1
      | some o => rw [e2] at e1; exact congrArg some e1
    | own b ds =>
      cases b with
      | true => exact q.elim
      | false =>
        obtain ⟨l, xs, e1, f1, f2, f3, f4⟩ := hc
        have e3 : σ[i]? = some (some (V.ref l)) := by
          cases e2 : σ[i]? with
          | none => rw [e2] at e1; cases e1
          | some o => rw [e2] at e1; exact congrArg some e1
        have hi : i < ρ.length := (List.getElem?_eq_some_iff.mp e).1
        have sF : Same F (upd F l (.lst xs)) := fun a o ea => by rw [upd_ne (ne_of_none ea f1)]; exact ea
        have ow : ∀ l2, Own σ (ρ.set i (.dat (.list ds))) l2 → Own σ ρ l2 := fun l2 ⟨j, b, d2, g1, g2⟩ => by
          by_cases hj : i = j
          · subst hj
            rw [List.getElem?_set_self hi] at g1
            cases g1
          · rw [List.getElem?_set_ne hj] at g1
            exact ⟨j, b, d2, g1, g2⟩
        refine ⟨.ref l, e3, q (.ref l) (upd F l (.lst xs)) H ⟨sF, fun _ _ h _ _ => h, fun a ha => ?_, fun _ h => h, fun t => ⟨t.1, not_upd t.2 fun ps z => by cases z⟩⟩ ⟨fun a o ea => ?_, by rw [List.length_set]; exact en.len, fun j cl ej => ?_, fun j1 j2 l' b b' d1 d2 g1 g2 => ?_, en.sm.up sF, ⟨en.tb.1, not_upd en.tb.2 fun ps z => by cases z⟩⟩ ow (.lst (.inl (.inl upd_same)) (f3.mono sF) f4)⟩
        · by_cases hal : a = l
          · subst hal; exact .inr (.inr ⟨i, false, ds, e, e3⟩)
          · rw [upd_ne hal] at ha; exact .inl ha
        · by_cases hal : a = l
          · subst hal; rw [upd_same] at ea; rw [← ea]; exact f2
          · rw [upd_ne hal] at ea; exact en.sub _ _ ea
        · by_cases hj : i = j
          · subst hj
            rw [List.getElem?_set_self hi] at ej
            obtain rfl := Option.some.inj ej
            exact ⟨.ref l, by rw [e3]; rfl, .lst (.inl (.inl upd_same)) (f3.mono sF) f4⟩
          · rw [List.getElem?_set_ne hj] at ej
            have hc := en.cell j cl ej
            cases cl with
            | un => trivial
            | dat d =>
              obtain ⟨v, h1, h2⟩ := hc
              exact ⟨v, h1, h2.mono sF⟩
            | own b2 d2 =>
              obtain ⟨l2, xs2, h1, h2, h3, h4, h5⟩ := hc
              have h1' : σ[j]? = some (some (V.ref l2)) := by
                cases z : σ[j]? with
                | none => rw [z] at h1; cases h1
                | some o => rw [z] at h1; exact congrArg some h1
              have hne : l2 ≠ l := fun z => by
                subst z
                exact hj (en.sep _ _ _ _ _ _ _ e ej e3 h1')
              exact ⟨l2, xs2, h1, by rw [upd_ne hne]; exact h2, h3, h4.mono sF, h5⟩
        · have old : ∀ {j : Nat} {b : Bool} {d2 : List D}, (ρ.set i (.dat (.list ds)))[j]? = some (Cell.own b d2) → ρ[j]? = some (Cell.own b d2) := fun {j b d2} g => by
            by_cases hj : i = j
            · subst hj
              rw [List.getElem?_set_self hi] at g
              cases g
            · rw [List.getElem?_set_ne hj] at g
              exact g
          exact en.sep _ _ _ _ _ _ _ (old g1) (old g2)
theorem s_lit {l : Lit} {co : Const} {j : Nat} (h : litOk l co = true) : PE X (.Constant co j pos) (RdE X (ev G (.lit l))) := by
  have key : ∀ {v : V}, Rp X.K (fun _ => none) v (litD l) → (∀ F, Rp X.K F v (litD l)) → PE X (.Constant co j pos) (tC v) → PE X (.Constant co j pos) (RdE X (ev G (.lit l))) := fun {v} _ hr p => by
    refine p.imp fun σ H Q q => ?_
    obtain ⟨F, ρ, en, q⟩ := q
    have q : Fin X.K (xq X) (rOpd X.K σ) (Own σ ρ) F H σ Q (.ok (.val (litD l), ρ)) := q
    exact q.now en (o := .val (litD l)) (hr F)
  cases l with
  | non =>
    cases co with
    | none => exact key .non (fun _ => .non) pe_non
    | _ => cases h
  | bl a =>
    cases co with
    | bool b =>
      obtain rfl : a = b := by simpa [litOk] using h
      exact key (.bl _) (fun _ => .bl _) pe_bl
    | _ => cases h
  | int a =>
    cases co with
    | int b =>
      obtain rfl : a = b := of_decide_eq_true h
      exact key (.int _) (fun _ => .int _) pe_int
    | _ => cases h
  | str a =>
    cases co with
    | str b =>
      obtain rfl : a = b := of_decide_eq_true h
      exact key (.str _) (fun _ => .str _) pe_str
    | _ => cases h
theorem s_cst (c : Here G k sc raw N X) {j : Nat} {x : Str} (h : (match G.cst[j]? with | some p => decide (p.1 = x) && glOk sc x | none => false) = true) : PE X (.Name x pos) (RdE X (ev G (.cst j))) := by
  cases e : G.cst[j]? with
  | none => rw [e] at h; cases h
  | some p =>
    rw [e] at h
    obtain ⟨h1, h2⟩ := band h
    obtain rfl : p.1 = x := of_decide_eq_true h1
    obtain ⟨g1, g2, g3⟩ := gl_of c h2
    obtain ⟨u, m, r⟩ := c.cst j p e
    refine (pe_glob g1 m r g2).imp fun σ H Q q => ?_
    obtain ⟨F, ρ, en, q⟩ := q
    have q : Fin X.K (xq X) (rOpd X.K σ) (Own σ ρ) F H σ Q (match G.cst[j]? with | some p => .ok (.val (litD p.2), ρ) | none => .bad) := q
    rw [e] at q
    exact q.now en (o := .val (litD p.2)) (lit_rp _)

/-! ### a new list -/
/-- the answer is a list just made: it stands where nothing stood -/
def FinN (X : Cx) (B : Addr → Prop) (F H : Hp) (σ : L2.St) (Q : VK) : R (Opd × Slots) → Prop
  | .ok (.val (.list ds), ρ') => ∀ p xs F' H', Ext B F H F' H' → EnvOk X.K F' H' σ ρ' → (∀ l, Own σ ρ' l → B l) → H' p = none → Rps X.K F' xs ds → xs.length ≤ sizeLine → Q (.ref p) (upd H' p (.lst xs))
  | .exc c _ => (xq X).q c B F H
  | _ => False
def RdN (X : Cx) (f : Slots → R (Opd × Slots)) : TE := fun σ H Q => ∃ F ρ, EnvOk X.K F H σ ρ ∧ FinN X (Own σ ρ) F H σ Q (f ρ)
section
variable {X : Cx} {α β : Type} {B : Addr → Prop} {F H : Hp} {σ : L2.St} {ρ : Slots} {Q : VK}
theorem FinN.bind {Ra : Hp → β → α → Prop} {r : R (α × Slots)} {g : α × Slots → R (Opd × Slots)} (h : FinN X B F H σ Q (r >>= g)) :
    Fin X.K (xq X) Ra B F H σ (fun y H2 => ∃ F2 ρ2 b, Ext B F H F2 H2 ∧ EnvOk X.K F2 H2 σ ρ2 ∧ Ra F2 y b ∧ FinN X (Own σ ρ2) F2 H2 σ Q (g (b, ρ2))) r := by
  cases r with
  | ok p =>
    have h : FinN X B F H σ Q (g p) := h
    refine fun v F' H' e en o ra => ⟨F', p.2, p.1, e, en, ra, ?_⟩
    show FinN X _ _ _ _ _ (g p)
    cases q : g p with
    | ok z =>
      rw [q] at h
      obtain ⟨o', ρ'⟩ := z
      cases o' with
      | plc i => exact h.elim
      | val d =>
        cases d <;> first | exact h.elim | skip
        exact fun p xs F2 H2 e2 en2 o2 hp r2 z2 => h p xs F2 H2 (e.trans e2 fun l hl => .inl (o l hl)) en2 (fun l hl => o l (o2 l hl)) hp r2 z2
    | exc c fs => rw [q] at h; exact (xq X).mono h e o
    | bad => rw [q] at h; exact h
  | exc => exact h
  | bad => exact h
theorem FinN.ok {r : R α} {g : α → R (Opd × Slots)} (h : FinN X B F H σ Q (r >>= g)) [n : NX r] : ∃ a, r = .ok a ∧ FinN X B F H σ Q (g a) := by
  cases r with
  | ok a => exact ⟨a, rfl, h⟩
  | exc c fs => exact absurd rfl (n.ne c fs)
  | bad => exact h.elim
end
theorem own_none {K : Frag} {F H : Hp} {σ : L2.St} {ρ : Slots} (en : EnvOk K F H σ ρ) {p : Addr} (h : H p = none) : ¬ Own σ ρ p := fun ⟨i, b, ds, e1, e2⟩ => by
  obtain ⟨l, xs, e3, _, e4, _⟩ := en.cell i _ e1
  rw [e2] at e3
  obtain rfl : p = l := V.ref.inj (Option.some.inj e3)
  rw [h] at e4; cases e4
theorem RdE.new {X : Cx} {f : Slots → R (Opd × Slots)} {σ : L2.St} {H : Hp} {Q : VK} (h : RdE X f σ H Q) (hl : ∀ ρ o ρ', f ρ = .ok (o, ρ') → ∃ ds, o = .val (.list ds)) : RdN X f σ H Q := by
  obtain ⟨F, ρ, en, q⟩ := h
  refine ⟨F, ρ, en, ?_⟩
  cases e : f ρ with
  | exc => rw [e] at q; exact q
  | bad => rw [e] at q; exact q.elim
  | ok p =>
    obtain ⟨o, ρ'⟩ := p
    rw [e] at q
    obtain ⟨ds, rfl⟩ := hl ρ o ρ' e
    intro a xs F' H' ex en' ow hp r z
    have e2 : Ext (Own σ ρ') F' H' (upd F' a (.lst xs)) (upd H' a (.lst xs)) := Ext.laid en'.sub hp
    exact q (.ref a) (upd F' a (.lst xs)) (upd H' a (.lst xs)) (ex.trans e2 fun l hl => .inl (ow l hl)) (en'.ext (Ext.laid (B := fun _ => False) en'.sub hp) (sub_upd en'.sub hp) fun _ _ z => z) ow (.lst (.inl (.inl upd_same)) (r.mono e2.f) z)

/-! ### argument lists, displays -/
theorem star_of {e : Expr} {es : List Expr} {env : PySem.Env} (h : ∀ x p, e ≠ .Starred x p) : starEach (e :: es) env = (false, eval e env) :: starEach es env := by
  cases e with
  | Starred x p => exact absurd rfl (h x p)
  | _ => rfl
/-- what a look at a tree shows of its form -/
def plain : Expr → Bool
  | .Starred _ _ => false
  | .Slice _ _ _ _ => false
  | .Set _ _ _ => false
  | _ => true
theorem plain_of {e : E} {e' : Expr} (h : okE G sc raw N e e' = true) : plain e' = true := by
  cases e' with
  | Starred x p =>
    cases e with
    | call j es => cases es <;> cases h
    | _ => cases h
  | Slice a b c p =>
    cases e with
    | call j es => cases es <;> cases h
    | _ => cases h
  | Set a b p =>
    cases e with
    | call j es => cases es <;> cases h
    | _ => cases h
  | _ => rfl
theorem plain_star {e : Expr} (h : plain e = true) : ∀ x p, e ≠ .Starred x p := fun x p z => by subst z; cases h
theorem pa_nil' : PA X [] (RdA X (evs G .nil)) := pa_nil.imp fun σ H Q q => by
  obtain ⟨F, ρ, en, q⟩ := q
  exact q.nowG en (o := ([] : List D)) Rps.nil
theorem pa_cons' {e : E} {e' : Expr} {es : Es} {es' : List Expr} (hp : plain e' = true) (he : PE X e' (RdE X (ev G e))) (hr : PA X es' (RdA X (evs G es))) : PA X (e' :: es') (RdA X (evs G (.cons e es))) := by
  refine (pa_cons he hr (star_of (plain_star hp))).imp fun σ H Q q => ?_
  obtain ⟨F, ρ, en, q⟩ := q
  have q : Fin X.K (xq X) (rArgs X.K σ) (Own σ ρ) F H σ Q (ev G e ρ >>= fun p => keep p.1 >>= fun d => evs G es p.2 >>= fun q => .ok (d :: q.1, q.2)) := q
  refine ⟨F, ρ, en, q.bind.mono fun x H1 q => ?_⟩
  obtain ⟨F1, ρ1, o, e1, en1, r1, q⟩ := q
  obtain ⟨d, ek, q⟩ := q.ok
  refine ⟨F1, ρ1, en1, q.bind.mono fun xs H2 q => ?_⟩
  obtain ⟨F2, ρ2, ds, e2, en2, r2, q⟩ := q
  exact q.nowG en2 (o := d :: ds) (Rps.cons ((keep_rp r1 ek).mono e2.f) r2)
theorem s_tup {es : Es} {es' : List Expr} {kk : Nat} (h : PA X es' (RdA X (evs G es))) : PE X (.Tuple es' kk pos) (RdE X (ev G (.tup es))) := by
  refine (pe_tup h).imp fun σ H Q q => ?_
  obtain ⟨F, ρ, en, q⟩ := q
  have q : Fin X.K (xq X) (rOpd X.K σ) (Own σ ρ) F H σ Q (evs G es ρ >>= fun p => if sz p.1.length = true then .ok (.val (.tuple p.1), p.2) else .bad) := q
  refine ⟨F, ρ, en, q.bind.mono fun xs H1 q => ?_⟩
  obtain ⟨F1, ρ1, ds, e1, en1, r1, q⟩ := q
  dsimp only at q
  split at q
  · rename_i hz
    have hz : ds.length ≤ sizeLine := sz_le hz
    have hl : xs.length = ds.length := Rps.len r1
    exact ⟨by omega, fun p hp => (q.res en1).tup en1.sub r1 (by omega) hp⟩
  · exact q.elim
theorem s_lst {es : Es} {es' : List Expr} (h : PA X es' (RdA X (evs G es))) : PE X (.List es' pos) (RdN X (ev G (.lst es))) := by
  refine (pe_lst h).imp fun σ H Q q => ?_
  obtain ⟨F, ρ, en, q⟩ := q
  have q : FinN X (Own σ ρ) F H σ Q (evs G es ρ >>= fun p => if sz p.1.length = true then R.ok (Opd.val (.list p.1), p.2) else .bad) := q
  refine ⟨F, ρ, en, q.bind.mono fun xs H1 q => ?_⟩
  obtain ⟨F1, ρ1, ds, e1, en1, r1, q⟩ := q
  dsimp only at q
  split at q
  · rename_i hz
    have hz : ds.length ≤ sizeLine := sz_le hz
    have hl : xs.length = ds.length := Rps.len r1
    exact ⟨by omega, fun p hp => q p xs F1 H1 Ext.refl en1 (fun _ z => z) hp r1 (by omega)⟩
  · exact q.elim

/-! ### operators -/
theorem o2_of {o : O2} {o' : Operator} (h : o2Ok o o' = true) : o' = opOf o := by
  cases o <;> cases o' <;> first | rfl | cases h
theorem oc_of {o : Oc} {o' : CmpOp} (h : ocOk o o' = true) : o' = cmpOf o := by
  cases o <;> cases o' <;> first | rfl | cases h
/-- two operands, then an operation on their data -/
theorem two_ops {α : Type} {σ : L2.St} {H : Hp} {Rl : Hp → α → Opd → Prop} {Q : α → Hp → Prop} {T : V → V → Hp → Prop} {fa fb : Slots → R (Opd × Slots)} {g : Slots → D → D → R (Opd × Slots)}
    (q : ∃ F ρ, EnvOk X.K F H σ ρ ∧ Fin X.K (xq X) Rl (Own σ ρ) F H σ Q (fa ρ >>= fun p => fb p.2 >>= fun q => peek q.2 p.1 >>= fun x => peek q.2 q.1 >>= fun y => g q.2 x y))
    (t : ∀ x y F H2 ρ dx dy, EnvOk X.K F H2 σ ρ → Wk X.K F H2 x dx → Wk X.K F H2 y dy → Fin X.K (xq X) Rl (Own σ ρ) F H2 σ Q (g ρ dx dy) → T x y H2) :
    RdE X fa σ H fun x H1 => RdE X fb σ H1 fun y H2 => T x y H2 := by
  obtain ⟨F, ρ, en, q⟩ := q
  refine ⟨F, ρ, en, q.bind.mono fun x H1 q => ?_⟩
  obtain ⟨F1, ρ1, oa, e1, en1, r1, q⟩ := q
  refine ⟨F1, ρ1, en1, q.bind.mono fun y H2 q => ?_⟩
  obtain ⟨F2, ρ2, ob, e2, en2, r2, q⟩ := q
  obtain ⟨dx, ex, q⟩ := q.ok
  obtain ⟨dy, ey, q⟩ := q.ok
  exact t x y F2 H2 ρ2 dx dy en2 (peek_wk en2 (r1.mono e2.f) ex) (peek_wk en2 r2 ey) q
theorem one_op {α : Type} {σ : L2.St} {H : Hp} {Rl : Hp → α → Opd → Prop} {Q : α → Hp → Prop} {T : V → Hp → Prop} {fa : Slots → R (Opd × Slots)} {g : Slots → D → R (Opd × Slots)}
    (q : ∃ F ρ, EnvOk X.K F H σ ρ ∧ Fin X.K (xq X) Rl (Own σ ρ) F H σ Q (fa ρ >>= fun p => peek p.2 p.1 >>= fun x => g p.2 x))
    (t : ∀ x F H2 ρ dx, EnvOk X.K F H2 σ ρ → Wk X.K F H2 x dx → Fin X.K (xq X) Rl (Own σ ρ) F H2 σ Q (g ρ dx) → T x H2) : RdE X fa σ H T := by
  obtain ⟨F, ρ, en, q⟩ := q
  refine ⟨F, ρ, en, q.bind.mono fun x H1 q => ?_⟩
  obtain ⟨F1, ρ1, oa, e1, en1, r1, q⟩ := q
  obtain ⟨dx, ex, q⟩ := q.ok
  exact t x F1 H1 ρ1 dx en1 (peek_wk en1 r1 ex) q
theorem s_bin {o : O2} {o' : Operator} {a b : E} {a' b' : Expr} (h : o2Ok o o' = true) (ha : PE X a' (RdE X (ev G a))) (hb : PE X b' (RdE X (ev G b))) : PE X (.BinOp a' o' b' pos) (RdE X (ev G (.bin o a b))) := by
  obtain rfl := o2_of h
  refine (pe_op (opD o) ha hb).imp fun σ H Q q => ?_
  refine two_ops (fa := ev G a) (fb := ev G b) (g := fun ρ x y => op2 o x y >>= fun d => .ok (.val d, ρ)) q fun x y F H2 ρ dx dy en wx wy q => ?_
  obtain ⟨d, e, q⟩ := q.ok
  exact ⟨F, dx, dy, d, en.sub, wx, wy, e, q.res en⟩
theorem s_cmp (c : Here G k sc raw N X) {o : Oc} {o' : CmpOp} {a b : E} {a' b' : Expr} (h : ocOk o o' = true) (hp : plain b' = true) (ha : PE X a' (RdE X (ev G a))) (hb : PE X b' (RdE X (ev G b))) :
    PE X (.Compare a' [o'] [b'] pos) (RdE X (ev G (.cmp o a b))) ∧ PT X (.Compare a' [o'] [b'] pos) (RdT X (evT G (.cmp o a b))) := by
  obtain rfl := oc_of h
  have hm : behindInMarks (cmpOf o) b' = false := by
    cases b' with
    | Set _ _ _ => cases hp
    | _ => rfl
  have hu : X.A.units + 65 < cLine := by have := c.room.un; omega
  refine ⟨(pe_cmpR (opC hu o) ha hb hm).imp fun σ H Q q => ?_, (pt_cmpR (opC hu o) ha hb hm).imp fun σ H Q q => ?_⟩
  · refine two_ops (fa := ev G a) (fb := ev G b) (g := fun ρ x y => cmpD o x y >>= fun d => .ok (.val (.bool d), ρ)) q fun x y F H2 ρ dx dy en wx wy q => ?_
    obtain ⟨d, e, q⟩ := q.ok
    exact ⟨F, dx, dy, d, en.sub, wx, wy, e, q.now en (o := .val (.bool d)) (Rp.bl d)⟩
  · obtain ⟨F, ρ, en, q⟩ := q
    have q : Fin X.K (xq X) (rTest σ) (Own σ ρ) F H σ Q ((ev G a ρ >>= fun p => ev G b p.2 >>= fun q => peek q.2 p.1 >>= fun x => peek q.2 q.1 >>= fun y => cmpD o x y >>= fun d => R.ok (Opd.val (.bool d), q.2)) >>= fun p => peek p.2 p.1 >>= fun x => asB x >>= fun k => .ok (k, p.2)) := q
    have e0 : ((ev G a ρ >>= fun p => ev G b p.2 >>= fun q => peek q.2 p.1 >>= fun x => peek q.2 q.1 >>= fun y => cmpD o x y >>= fun d => R.ok (Opd.val (.bool d), q.2)) >>= fun p => peek p.2 p.1 >>= fun x => asB x >>= fun k => R.ok (k, p.2)) =
        (ev G a ρ >>= fun p => ev G b p.2 >>= fun q => peek q.2 p.1 >>= fun x => peek q.2 q.1 >>= fun y => cmpD o x y >>= fun d => R.ok (d, q.2)) := by
      cases ev G a ρ with
      | ok p =>
        simp only [bind_ok]
        cases ev G b p.2 with
        | ok q =>
          simp only [bind_ok]
          cases peek q.2 p.1 with
          | ok x =>
            simp only [bind_ok]
            cases peek q.2 q.1 with
            | ok y =>
              simp only [bind_ok]
              cases cmpD o x y <;> rfl
            | _ => rfl
          | _ => rfl
        | _ => rfl
      | _ => rfl
    rw [e0] at q
    refine ⟨F, ρ, en, q.bind.mono fun x H1 q => ?_⟩
    obtain ⟨F1, ρ1, oa, e1, en1, r1, q⟩ := q
    refine ⟨F1, ρ1, en1, q.bind.mono fun y H2 q => ?_⟩
    obtain ⟨F2, ρ2, ob, e2, en2, r2, q⟩ := q
    obtain ⟨dx, ex, q⟩ := q.ok
    obtain ⟨dy, ey, q⟩ := q.ok
    obtain ⟨d, ed, q⟩ := q.ok
    exact ⟨F2, dx, dy, d, en2.sub, peek_wk en2 (r1.mono e2.f) ex, peek_wk en2 r2 ey, ed, d, rfl, q.nowG en2 (v := d) rfl⟩
end
end DP

/-! DP, part 7: expressions, further: tests, items, slices, calls. -/
namespace DP
open PySem PySem.Spec PyProof.Rows L2
variable [Tb]
section
variable {G : Gm} {k : Nat} {sc raw : Scope} {N : List Str} {X : Cx} {pos : Pos}
/-- what the test of an expression is, where it is one by its value -/
theorem Fin.test {K : Frag} {W : EQ} {F H : Hp} {σ : L2.St} {B : Addr → Prop} {Q : Bool → Hp → Prop} {r : R (Opd × Slots)} (h : Fin K W (rTest σ) B F H σ Q (r >>= fun p => peek p.2 p.1 >>= fun x => asB x >>= fun k => .ok (k, p.2))) :
    Fin K W (rOpd K σ) B F H σ (fun x H1 => ∃ c, x = .bl c ∧ Q c H1) r := by
  refine h.bind.mono fun x H1 q => ?_
  obtain ⟨F1, ρ1, o, e1, en1, r1, q⟩ := q
  obtain ⟨d, ed, q⟩ := q.ok
  obtain ⟨b, eb, q⟩ := q.ok
  have w := peek_wk en1 r1 ed
  cases d with
  | bool b' =>
    cases eb
    exact ⟨b, w.bool, q.nowG en1 (v := b) rfl⟩
  | _ => cases eb
theorem t_val {e : E} {e' : Expr} (h : PE X e' (RdE X (ev G e))) (hi : ∀ whole, isTrue e' X.env whole = (do let v ← whole; standAt e'.pos; holding [v] (truthy v))) : PT X e' (RdT X (evT G e)) := by
  refine (pt_val h hi).imp fun σ H Q q => ?_
  obtain ⟨F, ρ, en, q⟩ := q
  exact ⟨F, ρ, en, Fin.test q⟩
theorem s_neg {a : E} {a' : Expr} (ha : PE X a' (RdE X (ev G a))) : PE X (.UnaryOp .USub a' pos) (RdE X (ev G (.neg a))) := by
  refine (pe_un un_neg ha).imp fun σ H Q q => ?_
  refine one_op (fa := ev G a) (g := fun ρ x => asI x >>= fun i => .ok (.val (.int (-i)), ρ)) q fun x F H2 ρ dx en w q => ?_
  obtain ⟨i, e, q⟩ := q.ok
  cases dx with
  | int i' =>
    cases e
    exact ⟨i, w.int, q.now en (o := .val (.int (-i))) (Rp.int _)⟩
  | _ => cases e
theorem s_not {a : E} {a' : Expr} (ha : PE X a' (RdE X (ev G a))) (ta : PT X a' (RdT X (evT G a))) : PE X (.UnaryOp .Not a' pos) (RdE X (ev G (.not a))) ∧ PT X (.UnaryOp .Not a' pos) (RdT X (evT G (.not a))) := by
  refine ⟨(pe_not ha).imp fun σ H Q q => ?_, (pt_not ta).imp fun σ H Q q => ?_⟩
  · refine one_op (fa := ev G a) (g := fun ρ x => asB x >>= fun b => .ok (.val (.bool (!b)), ρ)) q fun x F H2 ρ dx en w q => ?_
    obtain ⟨b, e, q⟩ := q.ok
    cases dx with
    | bool b' =>
      cases e
      exact ⟨b, w.bool, q.now en (o := .val (.bool (!b))) (Rp.bl _)⟩
    | _ => cases e
  · obtain ⟨F, ρ, en, q⟩ := q
    have e0 : evT G (.not a) ρ = (evT G a ρ >>= fun p => R.ok (!p.1, p.2)) := by
      show ((ev G a ρ >>= fun p => peek p.2 p.1 >>= fun x => asB x >>= fun b => R.ok (Opd.val (.bool (!b)), p.2)) >>= fun p => peek p.2 p.1 >>= fun x => asB x >>= fun k => R.ok (k, p.2)) =
        ((ev G a ρ >>= fun p => peek p.2 p.1 >>= fun x => asB x >>= fun k => R.ok (k, p.2)) >>= fun p => R.ok (!p.1, p.2))
      cases ev G a ρ with
      | ok p =>
        simp only [bind_ok]
        cases peek p.2 p.1 with
        | ok x =>
          simp only [bind_ok]
          cases asB x <;> rfl
        | _ => rfl
      | _ => rfl
    rw [e0] at q
    refine ⟨F, ρ, en, q.bind.mono fun b H1 q => ?_⟩
    obtain ⟨F1, ρ1, b', e1, en1, r1, q⟩ := q
    obtain rfl : b = b' := r1
    exact q.nowG en1 (v := !b) rfl
theorem if_fin {α β : Type} {K : Frag} {W : EQ} {Rl : Hp → β → α → Prop} {B : Addr → Prop} {F H : Hp} {σ : L2.St} {Q : β → Hp → Prop} {r1 r2 : R (α × Slots)} {c : Bool} (h : Fin K W Rl B F H σ Q (if c = true then r1 else r2)) :
    (c = true → Fin K W Rl B F H σ Q r1) ∧ (c = false → Fin K W Rl B F H σ Q r2) := by
  cases c
  · exact ⟨fun z => (by cases z), fun _ => h⟩
  · exact ⟨fun _ => h, fun z => (by cases z)⟩
theorem s_ife {c a b : E} {c' a' b' : Expr} (tc : PT X c' (RdT X (evT G c))) (ha : PE X a' (RdE X (ev G a))) (hb : PE X b' (RdE X (ev G b))) : PE X (.IfExp c' a' b' pos) (RdE X (ev G (.ife c a b))) := by
  refine (pe_ifExp tc ha hb).imp fun σ H Q q => ?_
  obtain ⟨F, ρ, en, q⟩ := q
  have e0 : ev G (.ife c a b) ρ = (evT G c ρ >>= fun p => if p.1 = true then ev G a p.2 else ev G b p.2) := by
    show (ev G c ρ >>= fun p => peek p.2 p.1 >>= fun x => asB x >>= fun k => if k = true then ev G a p.2 else ev G b p.2) = ((ev G c ρ >>= fun p => peek p.2 p.1 >>= fun x => asB x >>= fun k => R.ok (k, p.2)) >>= fun p => if p.1 = true then ev G a p.2 else ev G b p.2)
    cases ev G c ρ with
    | ok p =>
      simp only [bind_ok]
      cases peek p.2 p.1 with
      | ok x =>
        simp only [bind_ok]
        cases asB x <;> rfl
      | _ => rfl
    | _ => rfl
  rw [e0] at q
  refine ⟨F, ρ, en, q.bind.mono fun d H1 q => ?_⟩
  obtain ⟨F1, ρ1, d', e1, en1, r1, q⟩ := q
  obtain rfl : d = d' := r1
  obtain ⟨q1, q2⟩ := if_fin q
  cases d with
  | true => exact iteT ⟨F1, ρ1, en1, q1 rfl⟩
  | false => exact iteF ⟨F1, ρ1, en1, q2 rfl⟩
/-- and, or: as values, as tests -/
def BoolsOk (X : Cx) (G : Gm) (es : Es) (es' : List Expr) : Prop :=
  (∀ pos, PE X (.BoolOp .And es' pos) (RdE X (evAnd G es)) ∧ PW X (.BoolOp .And es' pos) (RdT X fun ρ => evAnd G es ρ >>= fun p => peek p.2 p.1 >>= fun x => asB x >>= fun k => .ok (k, p.2))) ∧
  (∀ pos, PE X (.BoolOp .Or es' pos) (RdE X (evOr G es)) ∧ PW X (.BoolOp .Or es' pos) (RdT X fun ρ => evOr G es ρ >>= fun p => peek p.2 p.1 >>= fun x => asB x >>= fun k => .ok (k, p.2)))
theorem bools_one {e : E} {e' : Expr} (h : PE X e' (RdE X (ev G e))) (t : PT X e' (RdT X (evT G e))) : BoolsOk X G (.cons e .nil) [e'] :=
  ⟨fun pos => ⟨pe_one h, pw_and1 t⟩, fun pos => ⟨pe_one h, pw_or1 t⟩⟩
theorem bools_cons {e e2 : E} {es : Es} {e' e2' : Expr} {es' : List Expr} (h : PE X e' (RdE X (ev G e))) (t : PT X e' (RdT X (evT G e))) (r : BoolsOk X G (.cons e2 es) (e2' :: es')) : BoolsOk X G (.cons e (.cons e2 es)) (e' :: e2' :: es') := by
  have eA : ∀ {β : Type} (ρ : Slots) (f : Opd × Slots → R β), (evAnd G (.cons e (.cons e2 es)) ρ >>= f) = (evT G e ρ >>= fun p => if p.1 = true then (evAnd G (.cons e2 es) p.2 >>= f) else f (.val (.bool false), p.2)) := fun {β} ρ f => by
    show ((ev G e ρ >>= fun p => peek p.2 p.1 >>= fun x => asB x >>= fun k => if k = true then evAnd G (.cons e2 es) p.2 else R.ok (Opd.val (.bool false), p.2)) >>= f) = _
    unfold evT
    cases ev G e ρ with
    | ok p =>
      simp only [bind_ok]
      cases peek p.2 p.1 with
      | ok x =>
        simp only [bind_ok]
        cases asB x with
        | ok b => cases b <;> rfl
        | _ => rfl
      | _ => rfl
    | _ => rfl
  have eO : ∀ {β : Type} (ρ : Slots) (f : Opd × Slots → R β), (evOr G (.cons e (.cons e2 es)) ρ >>= f) = (evT G e ρ >>= fun p => if p.1 = true then f (.val (.bool true), p.2) else (evOr G (.cons e2 es) p.2 >>= f)) := fun {β} ρ f => by
    show ((ev G e ρ >>= fun p => peek p.2 p.1 >>= fun x => asB x >>= fun k => if k = true then R.ok (Opd.val (.bool true), p.2) else evOr G (.cons e2 es) p.2) >>= f) = _
    unfold evT
    cases ev G e ρ with
    | ok p =>
      simp only [bind_ok]
      cases peek p.2 p.1 with
      | ok x =>
        simp only [bind_ok]
        cases asB x with
        | ok b => cases b <;> rfl
        | _ => rfl
      | _ => rfl
    | _ => rfl
  have id' : ∀ r : R (Opd × Slots), (r >>= fun p => R.ok p) = r := fun r => by cases r <;> rfl
  refine ⟨fun pos => ⟨(pe_and h (r.1 pos).1).imp fun σ H Q q => ?_, (pw_and t (r.1 pos).2).imp fun σ H Q q => ?_⟩, fun pos => ⟨(pe_or h (r.2 pos).1).imp fun σ H Q q => ?_, (pw_or t (r.2 pos).2).imp fun σ H Q q => ?_⟩⟩
  · obtain ⟨F, ρ, en, q⟩ := q
    rw [← id' (evAnd G _ ρ), eA ρ (fun p => R.ok p)] at q
    have q2 := q.bind (Ra := rTest σ)
    refine ⟨F, ρ, en, (Fin.test (q2.mono fun b H1 q => q)).mono fun x H1 q => ?_⟩
    obtain ⟨b, rfl, F1, ρ1, b', e1, en1, r1, q⟩ := q
    obtain rfl : b = b' := r1
    obtain ⟨q1, q2⟩ := if_fin q
    refine ⟨b, rfl, ?_⟩
    cases b with
    | true => exact iteT ⟨F1, ρ1, en1, by rw [← id' (evAnd G _ ρ1)]; exact q1 rfl⟩
    | false => exact iteF ((q2 rfl).now en1 (o := .val (.bool false)) (Rp.bl _))
  · obtain ⟨F, ρ, en, q⟩ := q
    dsimp only at q
    rw [eA ρ] at q
    refine ⟨F, ρ, en, q.bind.mono fun b H1 q => ?_⟩
    obtain ⟨F1, ρ1, b', e1, en1, r1, q⟩ := q
    obtain rfl : b = b' := r1
    obtain ⟨q1, q2⟩ := if_fin q
    cases b with
    | true => exact iteT ⟨F1, ρ1, en1, q1 rfl⟩
    | false => exact iteF ((q2 rfl).nowG en1 (v := false) rfl)
  · obtain ⟨F, ρ, en, q⟩ := q
    rw [← id' (evOr G _ ρ), eO ρ (fun p => R.ok p)] at q
    have q2 := q.bind (Ra := rTest σ)
    refine ⟨F, ρ, en, (Fin.test (q2.mono fun b H1 q => q)).mono fun x H1 q => ?_⟩
    obtain ⟨b, rfl, F1, ρ1, b', e1, en1, r1, q⟩ := q
    obtain rfl : b = b' := r1
    obtain ⟨q1, q2⟩ := if_fin q
    refine ⟨b, rfl, ?_⟩
    cases b with
    | true => exact iteT ((q1 rfl).now en1 (o := .val (.bool true)) (Rp.bl _))
    | false => exact iteF ⟨F1, ρ1, en1, by rw [← id' (evOr G _ ρ1)]; exact q2 rfl⟩
  · obtain ⟨F, ρ, en, q⟩ := q
    dsimp only at q
    rw [eO ρ] at q
    refine ⟨F, ρ, en, q.bind.mono fun b H1 q => ?_⟩
    obtain ⟨F1, ρ1, b', e1, en1, r1, q⟩ := q
    obtain rfl : b = b' := r1
    obtain ⟨q1, q2⟩ := if_fin q
    cases b with
    | true => exact iteT ((q1 rfl).nowG en1 (v := true) rfl)
    | false => exact iteF ⟨F1, ρ1, en1, q2 rfl⟩
end
end DP

/-! DP, part 8: chains, items, slices, calls, built-ins. -/
namespace DP
open PySem PySem.Spec PyProof.Rows L2
variable [Tb]
section
variable {G : Gm} {k : Nat} {sc raw : Scope} {N : List Str} {X : Cx} {pos : Pos}
theorem s_ix {a i : E} {a' i' : Expr} (hp : plain i' = true) (ha : PE X a' (RdE X (ev G a))) (hb : PE X i' (RdE X (ev G i))) : PE X (.Subscript a' i' pos) (RdE X (ev G (.ix a i))) := by
  have hs : PlainIx i' := by
    cases i' with
    | Slice _ _ _ _ => cases hp
    | _ => exact fun _ _ => rfl
  refine (pe_ix ixR ha hb hs).imp fun σ H Q q => ?_
  refine two_ops (fa := ev G a) (fb := ev G i) (g := fun ρ x y => ixD x y >>= fun d => .ok (.val d, ρ)) q fun x y F H2 ρ dx dy en wx wy q => ?_
  obtain ⟨d, e, q⟩ := q.ok
  exact ⟨F, dx, dy, d, en.sub, wx, wy, e, q.res en⟩
/-- a slice's end -/
theorem po_part {lo : E} {lo' : Option Expr} (h : (lo = .nop ∧ lo' = none) ∨ (lo ≠ .nop ∧ ∃ e, lo' = some e ∧ PE X e (RdE X (ev G lo)))) : PO X lo' (Rd' X.K (xq X) rPart fun ρ => part lo (ev G lo ρ) ρ) := by
  rcases h with ⟨rfl, rfl⟩ | ⟨hn, e, rfl, h⟩
  · refine ⟨fun pins s σ H Q I q => po_none.run pins s σ H Q I ?_⟩
    obtain ⟨F, ρ, en, q⟩ := q
    exact q.nowG en (v := none) rfl
  · refine ⟨fun pins s σ H Q I q => (po_some h).run pins s σ H Q I ?_⟩
    obtain ⟨F, ρ, en, q⟩ := q
    have e0 : part lo (ev G lo ρ) ρ = (ev G lo ρ >>= fun p => peek p.2 p.1 >>= fun x => asI x >>= fun i => R.ok (some i, p.2)) := by
      cases lo <;> first | rfl | exact absurd rfl hn
    dsimp only at q
    rw [e0] at q
    refine ⟨F, ρ, en, q.bind.mono fun x H1 q => ?_⟩
    obtain ⟨F1, ρ1, o, e1, en1, r1, q⟩ := q
    obtain ⟨d, ed, q⟩ := q.ok
    obtain ⟨i, ei, q⟩ := q.ok
    have w := peek_wk en1 r1 ed
    cases d with
    | int i' =>
      cases ei
      exact ⟨i, w.int, q.nowG en1 (v := some i) rfl⟩
    | _ => cases ei
theorem s_slc {a lo hi : E} {a' : Expr} {lo' hi' : Option Expr} {p2 : Pos} (ha : PE X a' (RdE X (ev G a)))
    (hl : PO X lo' (Rd' X.K (xq X) rPart fun ρ => part lo (ev G lo ρ) ρ)) (hh : PO X hi' (Rd' X.K (xq X) rPart fun ρ => part hi (ev G hi ρ) ρ)) : PE X (.Subscript a' (.Slice lo' hi' none p2) pos) (RdE X (ev G (.slc a lo hi))) := by
  refine (pe_slice slR ha hl hh).imp fun σ H Q q => ?_
  obtain ⟨F, ρ, en, q⟩ := q
  have q : Fin X.K (xq X) (rOpd X.K σ) (Own σ ρ) F H σ Q (ev G a ρ >>= fun p => part lo (ev G lo p.2) p.2 >>= fun q => part hi (ev G hi q.2) q.2 >>= fun t => peek t.2 p.1 >>= fun x => slcD x q.1 t.1 >>= fun d => .ok (.val d, t.2)) := q
  refine ⟨F, ρ, en, q.bind.mono fun x H1 q => ?_⟩
  obtain ⟨F1, ρ1, oa, e1, en1, r1, q⟩ := q
  refine ⟨F1, ρ1, en1, q.bind.mono fun l H2 q => ?_⟩
  obtain ⟨F2, ρ2, l', e2, en2, r2, q⟩ := q
  refine ⟨F2, ρ2, en2, q.bind.mono fun u H3 q => ?_⟩
  obtain ⟨F3, ρ3, u', e3, en3, r3, q⟩ := q
  obtain rfl : l = l' := r2
  obtain rfl : u = u' := r3
  obtain ⟨dx, ex, q⟩ := q.ok
  obtain ⟨d, ed, q⟩ := q.ok
  exact ⟨F3, dx, d, en3.sub, peek_wk en3 ((r1.mono e2.f).mono e3.f) ex, ed, q.res en3⟩

/-! ### a chain -/
theorem s_chn (c : Here G k sc raw N X) {o1 o2 : Oc} {o1' o2' : CmpOp} {a b e : E} {a' b' e' : Expr} (h1 : ocOk o1 o1' = true) (h2 : ocOk o2 o2' = true) (hp : plain e' = true)
    (ha : PE X a' (RdE X (ev G a))) (hb : PE X b' (RdE X (ev G b))) (he : PE X e' (RdE X (ev G e))) :
    PE X (.Compare a' [o1', o2'] [b', e'] pos) (RdE X (ev G (.chn o1 o2 a b e))) ∧ PT X (.Compare a' [o1', o2'] [b', e'] pos) (RdT X (evT G (.chn o1 o2 a b e))) := by
  obtain rfl := oc_of h1
  obtain rfl := oc_of h2
  have hm : lastMarks [cmpOf o1, cmpOf o2] [b', e'] = false := by
    show behindInMarks (cmpOf o2) e' = false
    cases e' with
    | Set _ _ _ => cases hp
    | _ => rfl
  have hu : X.A.units + 65 < cLine := by have := c.room.un; omega
  have key : ∀ (σ : L2.St) (H : Hp) (Q : Bool → Hp → Prop), RdT X (fun ρ => ev G a ρ >>= fun p => ev G b p.2 >>= fun q => peek q.2 p.1 >>= fun x => peek q.2 q.1 >>= fun y => cmpD o1 x y >>= fun k =>
      if k = true then ev G e q.2 >>= fun t => peek t.2 q.1 >>= fun y => peek t.2 t.1 >>= fun z => cmpD o2 y z >>= fun k2 => R.ok (k2, t.2) else R.ok (false, q.2)) σ H Q →
      tTest (tChain (rC X.K (cmpD o1)) (rC X.K (cmpD o2)) (RdE X (ev G a)) (RdE X (ev G b)) (RdE X (ev G e))) σ H Q := by
    intro σ H Q q
    obtain ⟨F, ρ, en, q⟩ := q
    dsimp only at q
    refine ⟨F, ρ, en, q.bind.mono fun x H1 q => ?_⟩
    obtain ⟨F1, ρ1, oa, e1, en1, r1, q⟩ := q
    refine ⟨F1, ρ1, en1, q.bind.mono fun y H2 q => ?_⟩
    obtain ⟨F2, ρ2, ob, e2, en2, r2, q⟩ := q
    obtain ⟨dx, ex, q⟩ := q.ok
    obtain ⟨dy, ey, q⟩ := q.ok
    obtain ⟨d, ed, q⟩ := q.ok
    refine ⟨F2, dx, dy, d, en2.sub, peek_wk en2 (r1.mono e2.f) ex, peek_wk en2 r2 ey, ed, d, rfl, ?_⟩
    obtain ⟨q1, q2⟩ := if_fin q
    cases d with
    | false => exact iteF ⟨false, rfl, (q2 rfl).nowG en2 (v := false) rfl⟩
    | true =>
      refine iteT ⟨F2, ρ2, en2, (q1 rfl).bind.mono fun z H3 q => ?_⟩
      obtain ⟨F3, ρ3, oc, e3, en3, r3, q⟩ := q
      obtain ⟨dy2, ey2, q⟩ := q.ok
      obtain ⟨dz, ez, q⟩ := q.ok
      obtain ⟨k2, ek, q⟩ := q.ok
      exact ⟨F3, dy2, dz, k2, en3.sub, peek_wk en3 (r2.mono e3.f) ey2, peek_wk en3 r3 ez, ek, k2, rfl, q.nowG en3 (v := k2) rfl⟩
  have key2 : ∀ (σ : L2.St) (H : Hp) (Q : VK), RdE X (ev G (.chn o1 o2 a b e)) σ H Q → tChain (rC X.K (cmpD o1)) (rC X.K (cmpD o2)) (RdE X (ev G a)) (RdE X (ev G b)) (RdE X (ev G e)) σ H Q := by
    intro σ H Q q
    obtain ⟨F, ρ, en, q⟩ := q
    have q : Fin X.K (xq X) (rOpd X.K σ) (Own σ ρ) F H σ Q (ev G a ρ >>= fun p => ev G b p.2 >>= fun q => peek q.2 p.1 >>= fun x => peek q.2 q.1 >>= fun y => cmpD o1 x y >>= fun k =>
      if k = true then ev G e q.2 >>= fun t => peek t.2 q.1 >>= fun y => peek t.2 t.1 >>= fun z => cmpD o2 y z >>= fun k2 => R.ok (Opd.val (.bool k2), t.2) else R.ok (.val (.bool false), q.2)) := q
    refine ⟨F, ρ, en, q.bind.mono fun x H1 q => ?_⟩
    obtain ⟨F1, ρ1, oa, e1, en1, r1, q⟩ := q
    refine ⟨F1, ρ1, en1, q.bind.mono fun y H2 q => ?_⟩
    obtain ⟨F2, ρ2, ob, e2, en2, r2, q⟩ := q
    obtain ⟨dx, ex, q⟩ := q.ok
    obtain ⟨dy, ey, q⟩ := q.ok
    obtain ⟨d, ed, q⟩ := q.ok
    refine ⟨F2, dx, dy, d, en2.sub, peek_wk en2 (r1.mono e2.f) ex, peek_wk en2 r2 ey, ed, d, rfl, ?_⟩
    obtain ⟨q1, q2⟩ := if_fin q
    cases d with
    | false => exact iteF ((q2 rfl).now en2 (o := .val (.bool false)) (Rp.bl _))
    | true =>
      refine iteT ⟨F2, ρ2, en2, (q1 rfl).bind.mono fun z H3 q => ?_⟩
      obtain ⟨F3, ρ3, oc, e3, en3, r3, q⟩ := q
      obtain ⟨dy2, ey2, q⟩ := q.ok
      obtain ⟨dz, ez, q⟩ := q.ok
      obtain ⟨k2, ek, q⟩ := q.ok
      exact ⟨F3, dy2, dz, k2, en3.sub, peek_wk en3 (r2.mono e3.f) ey2, peek_wk en3 r3 ez, ek, q.now en3 (o := .val (.bool k2)) (Rp.bl _)⟩
  refine ⟨(pe_chain (opC hu o1) (opC hu o2) ha hb he hm).imp key2, (pt_chain (opC hu o1) (opC hu o2) ha hb he hm).imp fun σ H Q q => key σ H Q ?_⟩
  obtain ⟨F, ρ, en, q⟩ := q
  refine ⟨F, ρ, en, ?_⟩
  have e0 : evT G (.chn o1 o2 a b e) ρ = (ev G a ρ >>= fun p => ev G b p.2 >>= fun q => peek q.2 p.1 >>= fun x => peek q.2 q.1 >>= fun y => cmpD o1 x y >>= fun k =>
      if k = true then ev G e q.2 >>= fun t => peek t.2 q.1 >>= fun y => peek t.2 t.1 >>= fun z => cmpD o2 y z >>= fun k2 => R.ok (k2, t.2) else R.ok (false, q.2)) := by
    show ((ev G a ρ >>= fun p => ev G b p.2 >>= fun q => peek q.2 p.1 >>= fun x => peek q.2 q.1 >>= fun y => cmpD o1 x y >>= fun k =>
      if k = true then ev G e q.2 >>= fun t => peek t.2 q.1 >>= fun y => peek t.2 t.1 >>= fun z => cmpD o2 y z >>= fun k2 => R.ok (Opd.val (.bool k2), t.2) else R.ok (.val (.bool false), q.2)) >>= fun p => peek p.2 p.1 >>= fun x => asB x >>= fun k => R.ok (k, p.2)) = _
    cases ev G a ρ with
    | ok p =>
      simp only [bind_ok]
      cases ev G b p.2 with
      | ok q =>
        simp only [bind_ok]
        cases peek q.2 p.1 with
        | ok x =>
          simp only [bind_ok]
          cases peek q.2 q.1 with
          | ok y =>
            simp only [bind_ok]
            cases cmpD o1 x y with
            | ok d =>
              simp only [bind_ok]
              cases d with
              | false => rfl
              | true =>
                simp only [if_true]
                cases ev G e q.2 with
                | ok t =>
                  simp only [bind_ok]
                  cases peek t.2 q.1 with
                  | ok y2 =>
                    simp only [bind_ok]
                    cases peek t.2 t.1 with
                    | ok z =>
                      simp only [bind_ok]
                      cases cmpD o2 y2 z <;> rfl
                    | _ => rfl
                  | _ => rfl
                | _ => rfl
            | _ => rfl
          | _ => rfl
        | _ => rfl
      | _ => rfl
    | _ => rfl
  dsimp only
  rw [← e0]
  exact q

/-! ### calls -/
theorem star_all : ∀ (es : List Expr) (env : PySem.Env), (∀ e ∈ es, plain e = true) → ∀ pos : Pos, (backTo pos (starEach es env)).any (·.1) = false
  | [], _, _, _ => rfl
  | e :: r, env, h, pos => by
    rw [star_of (plain_star (h e List.mem_cons_self))]
    show (false || (backTo pos (starEach r env)).any (·.1)) = false
    rw [star_all r env (fun x hx => h x (List.mem_cons_of_mem _ hx)) pos]
    rfl
theorem fn_at (c : Here G k sc raw N X) {j : Nat} {x : Str} (h : (match G.fns[j]? with | some g => decide (g.name = x) && glOk sc x | none => false) = true) : ∃ g, G.fns[j]? = some g ∧ g.name = x ∧ glOk sc x = true := by
  cases e : G.fns[j]? with
  | none => rw [e] at h; cases h
  | some g =>
    rw [e] at h
    obtain ⟨h1, h2⟩ := band h
    exact ⟨g, rfl, of_decide_eq_true h1, h2⟩
theorem call_len {g : Sig} {j : Nat} {es : Es} (eg : G.fns[j]? = some g) {ρ : Slots} : ev G (.call j es) ρ = (evs G es ρ >>= fun p => if (!g.bor && decide (p.1.length = g.n)) = true then g.sem p.1 >>= fun r => .ok (.val r.1, p.2) else .bad) := by
  show (evs G es ρ >>= fun p => callC G.fns[j]? p.1 p.2) = _
  rw [eg]
  rfl
/-- whatever is let out goes on -/
def exE (X : Cx) : XK := fun cls d H' => ∀ σ', TkX X cls d σ' H'
theorem pass_all {X : Cx} : Passes (L2.CX X.prog X.w) X (exE X) := passes_call takes_tkx fun _ _ σ _ h => h σ
theorem exc_all {B : Addr → Prop} {F H : Hp} {cc : Str} (h : (xq X).q cc B F H) : ExcE X.mg cc F H (exE X) := fun F' H' e s cls m σ' => h F' H' e.nil_own s cls σ' m
theorem s_call (c : Here G k sc raw N X) {j : Nat} {x : Str} {px : Pos} {es : Es} {e' : Expr} {es' : List Expr} (h : (match G.fns[j]? with | some g => decide (g.name = x) && glOk sc x | none => false) = true)
    (hn : isNw G j = false)
    (hp : ∀ z ∈ e' :: es', plain z = true) (hs : PA X (e' :: es') (RdA X (evs G es))) : PE X (.Call (.Name x px) (e' :: es') [] pos) (RdE X (ev G (.call j es))) := by
  obtain ⟨g, eg, rfl, hg⟩ := fn_at c h
  unfold isNw at hn
  rw [eg] at hn
  obtain ⟨g1, g2, g3⟩ := gl_of c hg
  obtain ⟨f, fd, ps, m1, m2, m3, m4⟩ := c.fns j g eg
  refine (pe_go (E := exE X) m4 c.grd c.room g1 m1 m2 m3 pass_all hs g2 (star_of (plain_star (hp _ List.mem_cons_self))) (star_all _ _ (fun z hz => hp z (List.mem_cons_of_mem _ hz)) _)).imp fun σ H Q q => ?_
  obtain ⟨F, ρ, en, q⟩ := q
  rw [call_len eg] at q
  refine ⟨F, ρ, en, q.bind.mono fun vs H1 q => ?_⟩
  obtain ⟨F1, ρ1, ds, e1, en1, r1, q⟩ := q
  dsimp only at q
  split at q
  · rename_i hc
    obtain ⟨c1, c2⟩ := band hc
    have hl : vs.length = ds.length := Rps.len r1
    have hn2 : ds.length = g.n := of_decide_eq_true c2
    rw [List.append_nil]
    cases er : g.sem ds with
    | ok r => rw [er] at q; exact ⟨by omega, F1, en1.sub, en1.sm, en1.tb, .inr (.inl ⟨by simpa using c1, hn, ds, r, r1, er, Fin.res en1 q⟩)⟩
    | exc cc fs => rw [er] at q; exact ⟨by omega, F1, en1.sub, en1.sm, en1.tb, .inl ⟨by simpa using c1, ds, cc, fs, r1, er, exc_all q⟩⟩
    | bad => rw [er] at q; exact q.elim
  · exact q.elim
/-- a call that hands back a list just made -/
theorem s_callN (c : Here G k sc raw N X) {j : Nat} {x : Str} {px : Pos} {es : Es} {e' : Expr} {es' : List Expr} (h : (match G.fns[j]? with | some g => decide (g.name = x) && glOk sc x | none => false) = true)
    (hn : isNw G j = true)
    (hp : ∀ z ∈ e' :: es', plain z = true) (hs : PA X (e' :: es') (RdA X (evs G es))) : PE X (.Call (.Name x px) (e' :: es') [] pos) (RdN X (ev G (.call j es))) := by
  obtain ⟨g, eg, rfl, hg⟩ := fn_at c h
  unfold isNw at hn
  rw [eg] at hn
  obtain ⟨g1, g2, g3⟩ := gl_of c hg
  obtain ⟨f, fd, ps, m1, m2, m3, m4⟩ := c.fns j g eg
  refine (pe_go (E := exE X) m4 c.grd c.room g1 m1 m2 m3 pass_all hs g2 (star_of (plain_star (hp _ List.mem_cons_self))) (star_all _ _ (fun z hz => hp z (List.mem_cons_of_mem _ hz)) _)).imp fun σ H Q q => ?_
  obtain ⟨F, ρ, en, q⟩ := q
  rw [call_len eg] at q
  refine ⟨F, ρ, en, q.bind.mono fun vs H1 q => ?_⟩
  obtain ⟨F1, ρ1, ds, e1, en1, r1, q⟩ := q
  dsimp only at q
  split at q
  · rename_i hc
    obtain ⟨c1, c2⟩ := band hc
    have hl : vs.length = ds.length := Rps.len r1
    have hn2 : ds.length = g.n := of_decide_eq_true c2
    rw [List.append_nil]
    cases er : g.sem ds with
    | ok r =>
      rw [er] at q
      obtain ⟨rd, u⟩ := r
      cases rd with
      | list es2 => exact ⟨by omega, F1, en1.sub, en1.sm, en1.tb, .inr (.inr (.inl ⟨by simpa using c1, hn, ds, es2, u, r1, er, fun a xs F2 H2 ex2 s2 ha hr hz => q a xs F2 H2 ex2.nil_own (en1.ext ex2 s2 fun _ _ z => z) (fun _ z => z) ha hr hz⟩))⟩
      | _ => exact q.elim
    | exc cc fs => rw [er] at q; exact ⟨by omega, F1, en1.sub, en1.sm, en1.tb, .inl ⟨by simpa using c1, ds, cc, fs, r1, er, exc_all q⟩⟩
    | bad => rw [er] at q; exact q.elim
  · exact q.elim
theorem set_ok {K : Frag} {F H : Hp} {σ : L2.St} {ρ : Slots} {i : Nat} {b : Bool} {ds ds' : List D} {l : Addr} {xs' : List V} {F' H' : Hp} (en : EnvOk K F H σ ρ) (e : ρ[i]? = some (Cell.own b ds)) (el : σ[i]? = some (some (V.ref l))) (ex : Ext (fun a => a = l) F H F' H') (s : Same F' H')
    (hF : F' l = none) (hH : H' l = some (.lst xs')) (r : Rps K F' xs' ds') (z : xs'.length ≤ sizeLine) : EnvOk K F' H' σ (ρ.set i (.own b ds')) := by
  refine ⟨s, by rw [List.length_set]; exact en.len, fun j c hj => ?_, fun j1 j2 l' b1 b2 d1 d2 h1 h2 g1 g2 => ?_, en.sm.up ex.f, ex.t en.tb⟩
  · by_cases hji : i = j
    · subst hji
      rw [List.getElem?_set_self (List.getElem?_eq_some_iff.mp e).1] at hj
      obtain rfl := Option.some.inj hj
      rw [el]
      exact ⟨l, xs', rfl, hF, hH, r, z⟩
    · rw [List.getElem?_set_ne hji] at hj
      refine (en.cell j c hj).ext ex fun l2 b2 d2 ec eo hl => ?_
      subst hl
      subst ec
      have eo : σ[j]? = some (some (V.ref l2)) := by
        cases q : σ[j]? with
        | none => rw [q] at eo; cases eo
        | some u => rw [q] at eo; exact congrArg some eo
      exact hji (en.sep i j l2 b b2 ds d2 e hj el eo)
  · have old : ∀ {j : Nat} {bb : Bool} {dd : List D}, (ρ.set i (.own b ds'))[j]? = some (Cell.own bb dd) → ∃ bb dd, ρ[j]? = some (Cell.own bb dd) := fun {j bb dd} h => by
      by_cases hji : i = j
      · subst hji; exact ⟨_, _, e⟩
      · rw [List.getElem?_set_ne hji] at h; exact ⟨_, _, h⟩
    obtain ⟨_, _, o1⟩ := old h1
    obtain ⟨_, _, o2⟩ := old h2
    exact en.sep _ _ _ _ _ _ _ o1 o2 g1 g2
theorem own_set {σ : L2.St} {ρ : Slots} {i : Nat} {b : Bool} {ds ds' : List D} (e : ρ[i]? = some (Cell.own b ds)) (l : Addr) (h : Own σ (ρ.set i (.own b ds')) l) : Own σ ρ l := by
  obtain ⟨j, bb, dd, h1, h2⟩ := h
  by_cases hji : i = j
  · subst hji; exact ⟨_, _, _, e, h2⟩
  · rw [List.getElem?_set_ne hji] at h1; exact ⟨_, _, _, h1, h2⟩
theorem s_callB (c : Here G k sc raw N X) {j i : Nat} {x y : Str} {px py : Pos} {es : Es} {es' : List Expr} (h : (match G.fns[j]? with | some g => decide (g.name = x) && glOk sc x | none => false) = true) (hv : okV sc N i y = true)
    (hp : ∀ z ∈ es', plain z = true) (hs : PA X es' (RdA X (evs G es))) : PE X (.Call (.Name x px) (.Name y py :: es') [] pos) (RdE X (ev G (.callB j i es))) := by
  obtain ⟨g, eg, rfl, hg⟩ := fn_at c h
  obtain ⟨g1, g2, g3⟩ := gl_of c hg
  obtain ⟨f, fd, ps, m1, m2, m3, m4⟩ := c.fns j g eg
  refine (pe_go (E := exE X) m4 c.grd c.room g1 m1 m2 m3 pass_all (pa_cons (v_of c hv) hs (star_of fun _ _ z => nomatch z)) g2 (star_of fun _ _ z => nomatch z) (star_all _ _ hp _)).imp fun σ H Q q => ?_
  obtain ⟨F, ρ, en, q⟩ := q
  have q : Fin X.K (xq X) (rOpd X.K σ) (Own σ ρ) F H σ Q (if isOwn ρ[i]? = true then evs G es ρ >>= fun p => callBC G.fns[j]? i p.1 p.2 p.2[i]? else .bad) := q
  rw [eg] at q
  obtain ⟨b0, ds0, e0⟩ : ∃ b0 ds0, ρ[i]? = some (Cell.own b0 ds0) := by
    cases z : ρ[i]? with
    | none => rw [z] at q; exact q.elim
    | some c =>
      rw [z] at q
      cases c with
      | own b ds => exact ⟨b, ds, rfl⟩
      | _ => exact q.elim
  rw [e0, if_pos (show isOwn (some (Cell.own b0 ds0)) = true from rfl)] at q
  obtain ⟨l, xs0, el, _⟩ := en.cell i _ e0
  have el : σ[i]? = some (some (V.ref l)) := by
    cases z : σ[i]? with
    | none => rw [z] at el; cases el
    | some u => rw [z] at el; exact congrArg some el
  refine ⟨.ref l, el, F, ρ, en, q.bind.mono fun vs H1 q => ?_⟩
  obtain ⟨F1, ρ1, ds, e1, en1, r1, q⟩ := q
  dsimp only at q
  obtain ⟨b, es2, e2⟩ : ∃ b es2, ρ1[i]? = some (Cell.own b es2) := by
    cases z : ρ1[i]? with
    | none => rw [z] at q; exact q.elim
    | some c =>
      rw [z] at q
      cases c with
      | own b ds => exact ⟨b, ds, rfl⟩
      | _ => exact q.elim
  rw [e2] at q
  have q : Fin X.K (xq X) (rOpd X.K σ) (Own σ ρ1) F1 H1 σ Q (if (g.bor && decide (ds.length + 1 = g.n)) = true then nx (g.sem (.list es2 :: ds)) >>= fun r => .ok (.val r.1, ρ1.set i (.own b r.2)) else .bad) := q
  split at q
  rotate_left
  · exact q.elim
  rename_i hc
  obtain ⟨c1, c2⟩ := band hc
  obtain ⟨r, er, q⟩ := q.ok
  have er := nx_ok er
  have hl : vs.length = ds.length := Rps.len r1
  have hn : ds.length + 1 = g.n := of_decide_eq_true c2
  obtain ⟨l', xs, el', f1, f2, f3, f4⟩ := en1.cell i _ e2
  rw [el] at el'
  obtain rfl : l = l' := V.ref.inj (Option.some.inj el')
  rw [List.append_nil]
  refine ⟨by rw [List.length_cons]; omega, F1, en1.sub, en1.sm, en1.tb, .inr (.inr (.inr ⟨c1, l, vs, xs, es2, ds, r, rfl, f1, f2, f3, f4, r1, er, fun v F' H' xs' ex s hF hH hr hz rv => ?_⟩))⟩
  exact q v F' H' (ex.mono fun a ha => ⟨i, b, es2, e2, by rw [ha]; exact el⟩) (set_ok en1 e2 el ex s hF hH hr hz) (fun a ha => own_set e2 a ha) rv

/-! ### built-ins -/
theorem blt_of (c : Here G k sc raw N X) {x : Str} (h : x ∈ bNames) : X.mg x = none := c.blt x h
theorem b_one {f : Bi} {a : E} {σ : L2.St} {H : Hp} {Q : VK} (q : RdE X (ev G (.bi f a)) σ H Q) : tCB (rB X.K (biD f)) (tCons (RdE X (ev G a)) tNil) σ H Q := by
  refine one_op (fa := ev G a) (g := fun ρ x => biD f x >>= fun d => .ok (.val d, ρ)) q fun x F H2 ρ dx en w q => ?_
  obtain ⟨d, e, q⟩ := q.ok
  exact ⟨F, x, dx, d, rfl, en.sub, w, e, q.res en⟩
theorem b_sm {f : Bi} {a : E} {σ : L2.St} {H : Hp} {Q : VK} (q : RdE X (ev G (.bi f a)) σ H Q) : tCB (rBs X.K (biD f)) (tCons (RdE X (ev G a)) tNil) σ H Q := by
  refine one_op (fa := ev G a) (g := fun ρ x => biD f x >>= fun d => .ok (.val d, ρ)) q fun x F H2 ρ dx en w q => ?_
  obtain ⟨d, e, q⟩ := q.ok
  exact ⟨F, x, dx, d, rfl, en.sub, en.sm, w, e, q.res en⟩
theorem b_new {f : Bi} {a : E} {σ : L2.St} {H : Hp} {Q : VK} (q : RdN X (ev G (.bi f a)) σ H Q) : tCB (rBL X.K (biD f)) (tCons (RdE X (ev G a)) tNil) σ H Q := by
  obtain ⟨F, ρ, en, q⟩ := q
  have q : FinN X (Own σ ρ) F H σ Q (ev G a ρ >>= fun p => peek p.2 p.1 >>= fun x => biD f x >>= fun d => R.ok (Opd.val d, p.2)) := q
  refine ⟨F, ρ, en, q.bind.mono fun v H1 q => ?_⟩
  obtain ⟨F1, ρ1, o, e1, en1, r1, q⟩ := q
  obtain ⟨x, ex, q⟩ := q.ok
  obtain ⟨d, ed, q⟩ := q.ok
  cases d with
  | list ds => exact ⟨F1, v, x, ds, rfl, en1.sub, peek_wk en1 r1 ex, ed, fun a xs ha hr hz => q a xs F1 H1 Ext.refl en1 (fun _ z => z) ha hr hz⟩
  | _ => exact q.elim
theorem RdN.of {f : Slots → R (Opd × Slots)} (hl : ∀ ρ o ρ', f ρ = .ok (o, ρ') → ∃ ds, o = .val (.list ds)) {σ : L2.St} {H : Hp} {Q : VK} (h : RdE X f σ H Q) : RdN X f σ H Q := h.new hl
/-- max and min stand further on -/
def isMx : Bi → Bool
  | .max | .min => true
  | _ => false
def isNewB : Bi → Bool
  | .list | .sorted => true
  | _ => false
theorem biD_list {f : Bi} {x d : D} (hf : isNewB f = true) (h : biD f x = .ok d) : ∃ ds, d = .list ds := by
  cases f <;> first | (cases hf; done) | skip
  · cases x <;> first | (cases h; done) | (cases h; exact ⟨_, rfl⟩)
  · cases x with
    | list ds =>
      have h : sortD ds = .ok d := h
      unfold sortD at h
      split at h
      · cases h; exact ⟨_, rfl⟩
      · obtain ⟨ks, _, h⟩ := ok_bind h
        cases h; exact ⟨_, rfl⟩
    | _ => cases h
theorem bi_list {f : Bi} {a : E} (hf : isNewB f = true) : ∀ ρ o ρ', ev G (.bi f a) ρ = .ok (o, ρ') → ∃ ds, o = .val (.list ds) := by
  intro ρ o ρ' e
  obtain ⟨p, e1, e⟩ := ok_bind (show (ev G a ρ >>= fun p => peek p.2 p.1 >>= fun x => biD f x >>= fun d => R.ok (Opd.val d, p.2)) = .ok (o, ρ') from e)
  obtain ⟨x, e2, e⟩ := ok_bind e
  obtain ⟨d, e3, e⟩ := ok_bind e
  cases e
  obtain ⟨ds, rfl⟩ := biD_list hf e3
  exact ⟨ds, rfl⟩
theorem s_biN (c : Here G k sc raw N X) {f : Bi} {x : Str} {px : Pos} {a : E} {a' : Expr} (hf : isNewB f = true) (hx : biName f = x) (hg : glOk sc x = true) (hp : plain a' = true) (ha : PE X a' (RdE X (ev G a))) :
    PE X (.Call (.Name x px) [a'] [] pos) (RdN X (ev G (.bi f a))) := by
  obtain ⟨g1, g2, g3⟩ := gl_of c hg
  have hst : starEach (a' :: []) X.env = (false, eval a' X.env) :: starEach [] X.env := star_of (plain_star hp)
  subst hx
  have hm : X.mg (biName f) = none := blt_of c (by cases f <;> first | (cases hf; done) | (show _ ∈ bNames; decide))
  have hu : X.A.units + 64 < cLine := by have := c.room.un; omega
  cases f <;> first | (cases hf; done) | skip
  · exact (pe_callTy listD g1 hm (by decide +kernel) (pa_cons ha pa_nil hst) g3 g2 hst rfl).imp fun σ H Q q => b_new q
  · exact (pe_callB (sortedD hu) g1 hm (by decide +kernel) (pa_cons ha pa_nil hst) g3 g2 hst rfl).imp fun σ H Q q => b_new q
theorem s_bi (c : Here G k sc raw N X) {f : Bi} {x : Str} {px : Pos} {a : E} {a' : Expr} (hf : biHas f = true) (hmx : isMx f = false) (hx : biName f = x) (hg : glOk sc x = true) (hp : plain a' = true) (ha : PE X a' (RdE X (ev G a))) :
    PE X (.Call (.Name x px) [a'] [] pos) (RdE X (ev G (.bi f a))) := by
  by_cases hn : isNewB f = true
  · exact (s_biN c hn hx hg hp ha).imp fun σ H Q q => q.new (bi_list hn)
  · obtain ⟨g1, g2, g3⟩ := gl_of c hg
    have hst : starEach (a' :: []) X.env = (false, eval a' X.env) :: starEach [] X.env := star_of (plain_star hp)
    subst hx
    have hm : X.mg (biName f) = none := blt_of c (by cases f <;> first | (cases hf; done) | (show _ ∈ bNames; decide))
    cases f with
    | len => exact (pe_callB lenD g1 hm (by decide +kernel) (pa_cons ha pa_nil hst) g3 g2 hst rfl).imp fun σ H Q q => b_one q
    | all => exact (pe_callB (allD c.calm) g1 hm (by decide +kernel) (pa_cons ha pa_nil hst) g3 g2 hst rfl).imp fun σ H Q q => b_one q
    | any => exact (pe_callB (anyD c.calm) g1 hm (by decide +kernel) (pa_cons ha pa_nil hst) g3 g2 hst rfl).imp fun σ H Q q => b_one q
    | sum => exact (pe_callB (sumD c.calm) g1 hm (by decide +kernel) (pa_cons ha pa_nil hst) g3 g2 hst rfl).imp fun σ H Q q => b_one q
    | abs => exact (pe_callB absD g1 hm (by decide +kernel) (pa_cons ha pa_nil hst) g3 g2 hst rfl).imp fun σ H Q q => b_one q
    | tuple => exact (pe_callTy tupleD g1 hm (by decide +kernel) (pa_cons ha pa_nil hst) g3 g2 hst rfl).imp fun σ H Q q => b_one q
    | int => exact (pe_callTy intD g1 hm (by decide +kernel) (pa_cons ha pa_nil hst) g3 g2 hst rfl).imp fun σ H Q q => b_one q
    | list => exact absurd rfl hn
    | sorted => exact absurd rfl hn
    | str => cases hf
    | max => cases hmx
    | min => cases hmx
    | repr =>
      have hu : X.A.units + 66 < cLine := by have := c.room.un; omega
      exact (pe_callB (reprD c.grd hu c.smK) g1 hm (by decide +kernel) (pa_cons ha pa_nil hst) g3 g2 hst rfl).imp fun σ H Q q => b_sm q
theorem ty_rel (t : Ty) : ∃ u, bootBuiltins (tyStr t) = some u ∧ RelV (.ty (tyName t)) u := by
  cases t
  · exact ⟨.type "int", by decide +kernel, rfl⟩
  · exact ⟨.type "bool", by decide +kernel, rfl⟩
  · exact ⟨.type "tuple", by decide +kernel, rfl⟩
  · exact ⟨.type "list", by decide +kernel, rfl⟩
  · exact ⟨.type "str", by decide +kernel, rfl⟩
theorem s_isi (c : Here G k sc raw N X) {t : Ty} {x y : Str} {px py : Pos} {a : E} {a' : Expr} (hx : x = ("isinstance" : Str)) (hg : glOk sc x = true) (hy : y = tyStr t) (hgy : glOk sc y = true) (hp : plain a' = true) (ha : PE X a' (RdE X (ev G a))) :
    PE X (.Call (.Name x px) [a', .Name y py] [] pos) (RdE X (ev G (.isi a t))) := by
  obtain ⟨g1, g2, g3⟩ := gl_of c hg
  obtain ⟨k1, k2, k3⟩ := gl_of c hgy
  subst hx hy
  have hst : starEach (a' :: [.Name (tyStr t) py]) X.env = (false, eval a' X.env) :: starEach [.Name (tyStr t) py] X.env := star_of (plain_star hp)
  have hm : X.mg "isinstance" = none := blt_of c (by decide)
  have hm2 : X.mg (tyStr t) = none := blt_of c (by cases t <;> decide)
  obtain ⟨u, hu, ru⟩ := ty_rel t
  refine (pe_callB (isiD t) g1 hm (by decide +kernel) (pa_cons ha (pa_cons (pe_bltn k1 hm2 hu ru k3 k2) pa_nil) hst) g3 g2 hst rfl).imp fun σ H Q q => ?_
  refine one_op (fa := ev G a) (g := fun ρ x => .ok (.val (.bool (tyD t x)), ρ)) q fun x F H2 ρ dx en w q => ?_
  exact ⟨F, x, dx, rfl, en.sub, w, q.now en (o := .val (.bool (tyD t dx))) (Rp.bl _)⟩
end
end DP

/-! DP, part 9: targets, what is walked, comprehensions. -/
namespace DP
open PySem PySem.Spec PyProof.Rows L2
variable [Tb]
section
variable {G : Gm} {k : Nat} {sc raw : Scope} {N : List Str} {X : Cx} {pos : Pos}

/-! ### a new list out of + and * -/
def rON (K : Frag) (f : D → D → R D) : R2 := fun x y H Q => ∃ F dx dy ds, Same F H ∧ Wk K F H x dx ∧ Wk K F H y dy ∧ f dx dy = .ok (.list ds) ∧ ResL K F H Q ds
def isNewO : O2 → Bool
  | .add | .mul => true
  | _ => false
theorem opN (o : O2) (h : isNewO o = true) : OpR X (binaryOp (opOf o)) (rON X.K (op2 o)) := by
  intro pins s σ H x y v u Q I rx ry q
  obtain ⟨F, dx, dy, ds, hs, hx, hy, e, q⟩ := q
  cases o with
  | add =>
    cases dx with
    | list xs =>
      cases dy with
      | list ys =>
        obtain ⟨e1, e2⟩ := gd_ok e
        cases e2
        obtain ⟨a, vs, rfl, h1, h2, h3⟩ := hx.lst hs
        obtain ⟨b, ws, rfl, k1, k2, k3⟩ := hy.lst hs
        have l1 := h2.len
        have l2 := k2.len
        have e1 := sz_le e1
        exact op_catL pins s σ H _ _ v u Q I rx ry ⟨a, b, vs, ws, rfl, rfl, h1, k1, by omega, fun p hp => q p _ hp (h2.append k2) (by rw [List.length_append]; omega)⟩
      | _ => cases e
    | int i => cases dy <;> cases e
    | str i =>
      cases dy with
      | str j => obtain ⟨_, e2⟩ := gd_ok e; cases e2
      | _ => cases e
    | tuple xs =>
      cases dy with
      | tuple j => obtain ⟨_, e2⟩ := gd_ok e; cases e2
      | _ => cases e
    | _ => cases e
  | mul =>
    cases dx with
    | list xs =>
      cases dy with
      | int k =>
        obtain ⟨e1, e2⟩ := gd_ok e
        cases e2
        obtain ⟨e1, c3⟩ := band e1
        obtain ⟨c1, c2⟩ := band e1
        obtain rfl := hy.int
        obtain ⟨a, vs, rfl, h1, h2, h3⟩ := hx.lst hs
        have l1 := h2.len
        have c3 := sz_le c3
        rw [← l1] at c3
        exact op_repL pins s σ H _ _ v u Q I rx ry ⟨a, k, vs, rfl, rfl, h1, of_decide_eq_true c1, of_decide_eq_true c2, c3, fun p hp =>
          q p _ hp (h2.rep k.toNat) (by rw [PyProof.Rows.lm_len_rep_flat, Nat.mul_comm]; exact c3)⟩
      | _ => cases e
    | int i =>
      cases dy with
      | int j => obtain ⟨_, e2⟩ := gd_ok e; cases e2
      | _ => cases e
    | tuple xs =>
      cases dy with
      | int j => obtain ⟨_, e2⟩ := gd_ok e; cases e2
      | _ => cases e
    | _ => cases e
  | _ => cases h
theorem s_binN {o : O2} {o' : Operator} {a b : E} {a' b' : Expr} (hn : isNewO o = true) (h : o2Ok o o' = true) (ha : PE X a' (RdE X (ev G a))) (hb : PE X b' (RdE X (ev G b))) : PE X (.BinOp a' o' b' pos) (RdN X (ev G (.bin o a b))) := by
  obtain rfl := o2_of h
  refine (pe_op (opN o hn) ha hb).imp fun σ H Q q => ?_
  obtain ⟨F, ρ, en, q⟩ := q
  have q : FinN X (Own σ ρ) F H σ Q (ev G a ρ >>= fun p => ev G b p.2 >>= fun q => peek q.2 p.1 >>= fun x => peek q.2 q.1 >>= fun y => op2 o x y >>= fun d => R.ok (Opd.val d, q.2)) := q
  refine ⟨F, ρ, en, q.bind.mono fun v H1 q => ?_⟩
  obtain ⟨F1, ρ1, o1, e1, en1, r1, q⟩ := q
  refine ⟨F1, ρ1, en1, q.bind.mono fun w H2 q => ?_⟩
  obtain ⟨F2, ρ2, o2, e2, en2, r2, q⟩ := q
  obtain ⟨x, e3, q⟩ := q.ok
  obtain ⟨y, e4, q⟩ := q.ok
  obtain ⟨d, e5, q⟩ := q.ok
  cases d with
  | list ds => exact ⟨F2, x, y, ds, en2.sub, peek_wk en2 (r1.mono e2.f) e3, peek_wk en2 r2 e4, e5, fun a xs ha hr hz => q a xs F2 H2 Ext.refl en2 (fun _ z => z) ha hr hz⟩
  | _ => exact q.elim

/-! ### a dict of one entry -/
theorem s_dic1 {a b : E} {a' b' : Expr} (ha : PE X a' (RdE X (ev G a))) (hb : PE X b' (RdE X (ev G b))) : PE X (.Dict [some a'] [b'] pos) (RdE X (ev G (.dic1 a b))) := by
  refine (pe_disp (pps_cons ha hb pps_nil) rfl rfl (fun z => by cases z) (by show 1 ≤ 15; decide)).imp fun σ H Q q => ?_
  obtain ⟨F, ρ, en, q⟩ := q
  have q : Fin X.K (xq X) (rOpd X.K σ) (Own σ ρ) F H σ Q (ev G a ρ >>= fun p => ev G b p.2 >>= fun q => peek q.2 p.1 >>= fun x => keep q.1 >>= fun y => (match x with
      | .int i => R.ok (Opd.val (.dict [(.int i, y)]), q.2)
      | .str s => .ok (.val (.dict [(.str s, y)]), q.2)
      | _ => .bad)) := q
  cases ea : ev G a ρ with
  | exc cc fs => rw [ea] at q; exact fun p hp => ⟨F, ρ, en.ext (Ext.laidH (B := fun _ => False) hp) (sub_updH en.sub (en.sub.free hp)) fun _ _ z => z, by rw [ea]; exact (xq X).mono q (Ext.laidH hp) fun _ z => z⟩
  | bad => rw [ea] at q; exact q.elim
  | ok pa =>
  rw [ea] at q
  simp only [bind_ok] at q
  cases eb : ev G b pa.2 with
  | exc cc fs => rw [eb] at q; exact fun p hp => ⟨F, ρ, en.ext (Ext.laidH (B := fun _ => False) hp) (sub_updH en.sub (en.sub.free hp)) fun _ _ z => z, by
      rw [ea]
      exact fun x F1 H1 ex1 en1 ow1 r1 => ⟨F1, pa.2, en1, by rw [eb]; exact (xq X).mono (B1 := Own σ pa.2) q ((Ext.laidH hp).trans ex1 fun l hl => .inl hl) ow1⟩⟩
  | bad => rw [eb] at q; exact q.elim
  | ok pb =>
  rw [eb] at q
  simp only [bind_ok] at q
  obtain ⟨dx, ex, q⟩ := q.ok
  obtain ⟨dy, ey, q⟩ := q.ok
  intro p hp
  have hF : F p = none := en.sub.free hp
  have l0 : Ext (fun _ => False) F H F (upd H p (.dK [])) := Ext.laidH hp
  have en0 : EnvOk X.K F (upd H p (.dK [])) σ ρ := en.ext l0 (sub_updH en.sub hF) fun _ _ z => z
  have np : ∀ {ρ' : Slots}, (∀ l, Own σ ρ' l → Own σ ρ l) → ¬ Own σ ρ' p := fun ow z => own_none en hp (ow _ z)
  refine ⟨F, ρ, en0, ?_⟩
  rw [ea]
  intro x F1 H1 ex1 en1 ow1 r1
  refine ⟨F1, pa.2, en1, ?_⟩
  rw [eb]
  intro y F2 H2 ex2 en2 ow2 r2
  have hp1 : H1 p = some (.dK []) := ex1.h _ _ upd_same (own_none en hp)
  have hp2 : H2 p = some (.dK []) := ex2.h _ _ hp1 (np ow1)
  have exA : Ext (Own σ ρ) F H F2 H2 := (l0.nil_own.trans ex1 fun l hl => .inl hl).trans ex2 fun l hl => .inl (ow1 l hl)
  have f2 : F2 p = none := by
    cases z : F2 p with
    | none => rfl
    | some u =>
      have z2 : ∀ {Fa Ha Fb Hb : Hp} {B : Addr → Prop}, Ext B Fa Ha Fb Hb → Fa p = none → Ha p ≠ none → ¬ B p → Fb p = none := fun e1 e2 e3 e4 => by
        cases zz : (_ : Option HO) with
        | none => exact zz
        | some u => exact absurd trivial (by
            rcases e1.n p (by rw [zz]; simp) with w | w | w
            · exact absurd e2 w
            · exact absurd w e3
            · exact absurd w e4)
      have g1 : F1 p = none := z2 ex1 hF (by rw [upd_same]; simp) (own_none en hp)
      have g2 : F2 p = none := z2 ex2 g1 (by rw [hp1]; simp) (np ow1)
      rw [g2] at z; cases z
  have wx := peek_wk en2 (r1.mono ex2.f) ex
  have ry := keep_rp r2 ey
  have fin : ∀ (kk : Key) (o : Opd), o = .val (.dict [(kD kk, dy)]) → Fin X.K (xq X) (rOpd X.K σ) (Own σ ρ) F H σ Q (.ok (o, pb.2)) → Q (.ref p) (upd H2 p (.dK (mergeK [] [(kk, y)]))) := fun kk o eo q => by
    subst eo
    have e1 : mergeK [] [(kk, y)] = [(kk, y)] := rfl
    rw [e1]
    have exB : Ext (Own σ ρ) F H (upd F2 p (.dK [(kk, y)])) (upd H2 p (.dK [(kk, y)])) := by
      refine ⟨fun c o e => ?_, fun c o e n nt => ?_, fun c e => ?_, fun c e => ?_, fun t => tbok_upd2 (exA.t t) (nt_dK hp2) (fun ps z => by cases z)⟩
      · rw [upd_ne (ne_of_none e hF)]; exact exA.f _ _ e
      · rw [upd_ne (ne_of_none e hp)]; exact exA.h' _ _ e n nt
      · by_cases hc : c = p
        · subst hc; exact .inr (.inl hp)
        · rw [upd_ne hc] at e; exact exA.n _ e
      · by_cases hc : c = p
        · subst hc; rw [upd_same]; simp
        · rw [upd_ne hc]; exact exA.d _ e
    have exC : Ext (fun l => l = p) F2 H2 (upd F2 p (.dK [(kk, y)])) (upd H2 p (.dK [(kk, y)])) := by
      refine ⟨fun c o e => ?_, fun c o e n nt => ?_, fun c e => ?_, fun c e => ?_, fun t => tbok_upd2 t (nt_dK hp2) (fun ps z => by cases z)⟩
      · rw [upd_ne (ne_of_none e f2)]; exact e
      · rw [upd_ne n]; exact e
      · by_cases hc : c = p
        · exact .inr (.inr hc)
        · rw [upd_ne hc] at e; exact .inl e
      · by_cases hc : c = p
        · subst hc; rw [upd_same]; simp
        · rw [upd_ne hc]; exact e
    have sB : Same (upd F2 p (.dK [(kk, y)])) (upd H2 p (.dK [(kk, y)])) := fun c o e => by
      by_cases hc : c = p
      · subst hc; rw [upd_same] at e ⊢; exact e
      · rw [upd_ne hc] at e ⊢; exact en2.sub _ _ e
    refine q (.ref p) _ _ exB (en2.ext exC sB fun l hl z => np (fun l hl => ow1 l (ow2 l hl)) (z ▸ hl)) (fun l hl => ow1 l (ow2 l hl)) (Rp.dic (kvs := [(kk, y)]) upd_same (.cons (ry.mono exC.f) .nil))
  show H2 p = some (.dK []) ∧ _
  cases dx with
  | int i =>
    obtain rfl := wx.int
    exact ⟨hp2, [(.inl i, y)], rfl, by show 1 ≤ 15; decide, fin (.inl i) _ rfl q⟩
  | str i =>
    obtain rfl := wx.str
    exact ⟨hp2, [(.inr i, y)], rfl, by show 1 ≤ 15; decide, fin (.inr i) _ rfl q⟩
  | _ => exact q.elim

/-! ### targets -/
def gNms : List Nat → TGs
  | [] => gNil
  | i :: is => gCons (gName i) (gNms is)
def gTg (K : Frag) : Tg → TG
  | .nm i => gName i
  | .tup is => gTup K is.length (gNms is)
theorem l_of (c : Here G k sc raw N X) {i : Nat} {x : Str} (h : okL sc raw N i x = true) : X.N[i]? = some x ∧ Loc X.env.scope x ∧ (X.fn x = true ∨ X.env.scope.names.lookup x = some .local) := by
  unfold okL at h
  obtain ⟨h1, h2⟩ := band h
  rw [c.nE, c.scE]
  refine ⟨of_decide_eq_true h1, ?_⟩
  split at h2
  · rename_i e; exact ⟨.inl e, .inr e⟩
  · rename_i e
    split at h2
    · rename_i e2; exact ⟨.inr e, .inl (c.fn _ e2)⟩
    · cases h2
  · cases h2
theorem nd_of (c : Here G k sc raw N X) : X.N.Nodup := by rw [c.nE]; exact c.nd
theorem pg_nms (c : Here G k sc raw N X) : ∀ {is : List Nat} {es : List Expr}, okNms sc raw N is es = true → PGs X es (gNms is) ∧ (assignEach es X.env).length = is.length ∧ (assignEach es X.env).findIdx? (·.1) = none
  | [], [], _ => ⟨pgs_nil, rfl, rfl⟩
  | i :: is, .Name x p :: es, h => by
    obtain ⟨h1, h2⟩ := band (show (okL sc raw N i x && okNms sc raw N is es) = true from h)
    obtain ⟨g1, g2, g3⟩ := l_of c h1
    obtain ⟨r1, r2, r3⟩ := pg_nms c h2
    refine ⟨pgs_cons (pg_name (nd_of c) g1 g2 g3) r1 rfl, ?_, ?_⟩
    · show (assignEach es X.env).length + 1 = _
      rw [r2]; rfl
    · show ((false, assign (.Name x p) X.env) :: assignEach es X.env).findIdx? (·.1) = none
      rw [List.findIdx?_cons, r3]
      rfl
  | [], _ :: _, h => by cases h
  | _ :: _, [], h => by cases h
  | i :: is, e :: es, h => by
    cases e <;> first | cases h | skip
    rename_i x p
    obtain ⟨h1, h2⟩ := band (show (okL sc raw N i x && okNms sc raw N is es) = true from h)
    obtain ⟨g1, g2, g3⟩ := l_of c h1
    obtain ⟨r1, r2, r3⟩ := pg_nms c h2
    refine ⟨pgs_cons (pg_name (nd_of c) g1 g2 g3) r1 rfl, ?_, ?_⟩
    · show (assignEach es X.env).length + 1 = _
      rw [r2]; rfl
    · show ((false, assign (.Name x p) X.env) :: assignEach es X.env).findIdx? (·.1) = none
      rw [List.findIdx?_cons, r3]
      rfl
theorem pg_tg (c : Here G k sc raw N X) {tg : Tg} {e : Expr} (h : okTg sc raw N tg e = true) : PG X e (gTg X.K tg) := by
  cases tg with
  | nm i =>
    cases e with
    | Name x p =>
      obtain ⟨g1, g2, g3⟩ := l_of c h
      exact pg_name (nd_of c) g1 g2 g3
    | _ => cases h
  | tup is =>
    cases e with
    | Tuple es kk p =>
      obtain ⟨r1, r2, r3⟩ := pg_nms c (show okNms sc raw N is es = true from h)
      exact pg_tup c.calm r1 r2 r3
    | _ => cases h
end
section
variable {K : Frag} {F H : Hp} {σ : L2.St} {ρ : Slots}
theorem set_dat {i : Nat} {x : V} {d : D} (en : EnvOk K F H σ ρ) (hf : free ρ i = true) (r : Rp K F x d) :
    EnvOk K F H (σ.set i (some x)) (ρ.set i (.dat d)) ∧ (∀ l, Own (σ.set i (some x)) (ρ.set i (.dat d)) l → Own σ ρ l) ∧ (∀ (j : Nat) ds, (ρ.set i (.dat d))[j]? = some (Cell.own true ds) → (σ.set i (some x))[j]? = σ[j]?) := by
  have hi : i < ρ.length := by
    unfold free at hf
    cases e : ρ[i]? with
    | none => rw [e] at hf; cases hf
    | some c => exact (List.getElem?_eq_some_iff.mp e).1
  have hiσ : i < σ.length := by rw [en.len]; exact hi
  have old : ∀ {j : Nat} {c : Cell}, c ≠ .dat d → (ρ.set i (.dat d))[j]? = some c → j ≠ i ∧ ρ[j]? = some c := fun {j c} hc e => by
    by_cases hj : i = j
    · subst hj
      rw [List.getElem?_set_self hi] at e
      exact absurd (Option.some.inj e).symm hc
    · rw [List.getElem?_set_ne hj] at e
      exact ⟨fun z => hj z.symm, e⟩
  have ne : ∀ {b ds}, Cell.own b ds ≠ Cell.dat d := fun z => by cases z
  refine ⟨⟨en.sub, by rw [List.length_set, List.length_set]; exact en.len, fun j c e => ?_, fun j1 j2 l b b' ds ds' e1 e2 g1 g2 => ?_, en.sm, en.tb⟩, fun l h => ?_, fun j ds e => ?_⟩
  · by_cases hj : i = j
    · subst hj
      rw [List.getElem?_set_self hi] at e
      obtain rfl := Option.some.inj e
      rw [List.getElem?_set_self hiσ]
      exact ⟨x, rfl, r⟩
    · rw [List.getElem?_set_ne hj] at e
      rw [List.getElem?_set_ne hj]
      exact en.cell j c e
  · obtain ⟨n1, o1⟩ := old ne e1
    obtain ⟨n2, o2⟩ := old ne e2
    rw [List.getElem?_set_ne (fun z => n1 z.symm)] at g1
    rw [List.getElem?_set_ne (fun z => n2 z.symm)] at g2
    exact en.sep _ _ _ _ _ _ _ o1 o2 g1 g2
  · obtain ⟨j, b, ds, e1, e2⟩ := h
    obtain ⟨n1, o1⟩ := old ne e1
    rw [List.getElem?_set_ne (fun z => n1 z.symm)] at e2
    exact ⟨j, b, ds, o1, e2⟩
  · obtain ⟨n1, o1⟩ := old ne e
    rw [List.getElem?_set_ne (fun z => n1 z.symm)]
theorem free_set {i j : Nat} {d : D} (h : free ρ j = true) : free (ρ.set i (.dat d)) j = true := by
  unfold free at h ⊢
  by_cases hj : i = j
  · subst hj
    cases e : ρ[i]? with
    | none => rw [e] at h; cases h
    | some c => rw [List.getElem?_set_self (List.getElem?_eq_some_iff.mp e).1]
  · rw [List.getElem?_set_ne hj]; exact h
/-- a target has taken an item -/
structure Took (K : Frag) (F H : Hp) (σ : L2.St) (ρ : Slots) (is : List Nat) (σ2 : L2.St) (ρ2 : Slots) : Prop where
  en : EnvOk K F H σ2 ρ2
  own : ∀ l, Own σ2 ρ2 l → Own σ ρ l
  bor : ∀ (j : Nat) ds, ρ2[j]? = some (Cell.own true ds) → σ2[j]? = σ[j]?
  out : ∀ j, j ∉ is → σ2[j]? = σ[j]? ∧ ρ2[j]? = ρ[j]?
theorem take_nms : ∀ (is : List Nat) {ds : List D} {xs : List V} {σ : L2.St} {ρ ρ' : Slots} {Q : L2.St → Hp → Prop}, EnvOk K F H σ ρ → (is.all fun i => free ρ i) = true → putAll is ds ρ = .ok ρ' → Rps K F xs ds →
    (∀ σ2, Took K F H σ ρ is σ2 ρ' → Q σ2 H) → gNms is xs σ H Q := by
  intro is
  induction is with
  | nil =>
    intro ds xs σ ρ ρ' Q en _ e rr h
    cases ds with
    | cons _ _ => cases e
    | nil =>
      cases rr
      cases e
      exact ⟨rfl, h σ ⟨en, fun _ z => z, fun _ _ _ => rfl, fun _ _ => ⟨rfl, rfl⟩⟩⟩
  | cons i is ih =>
    intro ds xs σ ρ ρ' Q en hf e rr h
    cases ds with
    | nil => cases e
    | cons d ds =>
      cases rr with
      | cons r rs =>
        rename_i x xs
        obtain ⟨f1, f2⟩ := band (show (free ρ i && is.all fun i => free ρ i) = true from hf)
        obtain ⟨en1, ow1, bo1⟩ := set_dat en f1 r
        refine ⟨x, xs, rfl, ih en1 ?_ (show putAll is ds (ρ.set i (.dat d)) = .ok ρ' from e) rs fun σ2 t => h σ2 ⟨t.en, fun l hl => ow1 l (t.own l hl), fun j ds' ej => ?_, fun j hj => ?_⟩⟩
        · refine List.all_eq_true.mpr fun j hj => free_set (List.all_eq_true.mp f2 j hj)
        · have hb := t.bor j ds' ej
          rw [hb]
          by_cases hji : i = j
          · subst hji
            by_cases hin : i ∈ is
            · -- it is set again: nothing of it is lent
              exfalso
              have : ∀ {is : List Nat} {ds : List D} {ρ ρ' : Slots}, putAll is ds ρ = .ok ρ' → i ∈ is → (∃ d, ρ'[i]? = some (Cell.dat d)) ∨ ρ.length ≤ i := by
                intro is
                induction is with
                | nil => intro _ _ _ _ z; cases z
                | cons a is ih =>
                  intro ds ρ ρ' e2 z
                  cases ds with
                  | nil => cases e2
                  | cons d2 ds =>
                    have e2 : putAll is ds (ρ.set a (.dat d2)) = .ok ρ' := e2
                    by_cases hi2 : i ∈ is
                    · rcases ih e2 hi2 with w | w
                      · exact .inl w
                      · rw [List.length_set] at w; exact .inr w
                    · have ha : i = a := (List.mem_cons.mp z).resolve_right hi2
                      subst ha
                      have keep : ∀ {is : List Nat} {ds : List D} {ρ ρ' : Slots}, putAll is ds ρ = .ok ρ' → i ∉ is → ρ'[i]? = ρ[i]? := by
                        intro is
                        induction is with
                        | nil =>
                          intro ds ρ ρ' e3 _
                          cases ds with
                          | nil => cases e3; rfl
                          | cons _ _ => cases e3
                        | cons a is ih =>
                          intro ds ρ ρ' e3 hn
                          cases ds with
                          | nil => cases e3
                          | cons d3 ds =>
                            have e3 : putAll is ds (ρ.set a (.dat d3)) = .ok ρ' := e3
                            rw [ih e3 (fun w => hn (List.mem_cons_of_mem _ w)), List.getElem?_set_ne (fun w => hn (by rw [w]; exact List.mem_cons_self))]
                      by_cases hl : i < ρ.length
                      · exact .inl ⟨d2, by rw [keep e2 hi2, List.getElem?_set_self hl]⟩
                      · exact .inr (Nat.le_of_not_lt hl)
              rcases this (show putAll is ds (ρ.set i (.dat d)) = .ok ρ' from e) hin with ⟨d3, w⟩ | w
              · rw [w] at ej; cases ej
              · rw [List.length_set] at w
                unfold free at f1
                rw [List.getElem?_eq_none w] at f1
                cases f1
            · obtain ⟨_, o2⟩ := t.out i hin
              rw [o2, List.getElem?_set_self (by
                unfold free at f1
                cases z : ρ[i]? with
                | none => rw [z] at f1; cases f1
                | some c => exact (List.getElem?_eq_some_iff.mp z).1)] at ej
              cases ej
          · rw [List.getElem?_set_ne hji]
        · have hj1 : j ≠ i := fun z => hj (by rw [z]; exact List.mem_cons_self)
          have hj2 : j ∉ is := fun z => hj (List.mem_cons_of_mem _ z)
          obtain ⟨o1, o2⟩ := t.out j hj2
          rw [o1, o2, List.getElem?_set_ne (fun z => hj1 z.symm), List.getElem?_set_ne (fun z => hj1 z.symm)]
          exact ⟨rfl, rfl⟩

theorem take_tg {tg : Tg} {x : V} {d : D} {ρ' : Slots} {Q : L2.St → Hp → Prop} (en : EnvOk K F H σ ρ) (e : putTg tg d ρ = .ok ρ') (r : Rp K F x d) (h : ∀ σ2, Took K F H σ ρ tg.slots σ2 ρ' → Q σ2 H) : gTg K tg x σ H Q := by
  cases tg with
  | nm i =>
    have e : (if free ρ i = true then R.ok (ρ.set i (.dat d)) else .bad) = .ok ρ' := e
    split at e
    · rename_i hf
      cases e
      obtain ⟨en1, ow1, bo1⟩ := set_dat en hf r
      refine h _ ⟨en1, ow1, bo1, fun j hj => ?_⟩
      have hj : j ≠ i := fun z => hj (by rw [z]; exact List.mem_cons_self)
      exact ⟨List.getElem?_set_ne (fun z => hj z.symm), List.getElem?_set_ne (fun z => hj z.symm)⟩
    · cases e
  | tup is =>
    cases d with
    | tuple ds =>
      have e : (if (is.all fun i => free ρ i) = true then putAll is ds ρ else .bad) = .ok ρ' := e
      split at e
      · rename_i hf
        cases r with
        | tup a b c =>
          rename_i p xs
          have hl : ∀ {is : List Nat} {ds : List D} {ρ ρ' : Slots}, putAll is ds ρ = .ok ρ' → is.length = ds.length := by
            intro is
            induction is with
            | nil =>
              intro ds ρ ρ' e
              cases ds with
              | nil => rfl
              | cons _ _ => cases e
            | cons i is ih =>
              intro ds ρ ρ' e
              cases ds with
              | nil => cases e
              | cons d ds => rw [List.length_cons, List.length_cons, ih (show putAll is ds (ρ.set i (.dat d)) = .ok ρ' from e)]
          refine ⟨p, xs, rfl, Same.seqT en.sub a, by rw [b.len, hl e], take_nms is en hf e b h⟩
      · cases e
    | _ => cases e
end
end DP

/-! DP, part 10: what is walked, comprehensions, the whole of expressions. -/
namespace DP
open PySem PySem.Spec PyProof.Rows L2
variable [Tb]
/-- a walk gives these data, one by one -/
structure Gives (K : Frag) (J : It) (F0 : Hp) (ds : List D) : Prop where
  len : ds.length ≤ sizeLine
  go : ∀ i H, i < ds.length → Same F0 H → J.go i H
  yl : ∀ i F H x H', Same F0 F → Same F H → J.yld i H x H' → ∀ d, ds[i]? = some d → ∃ F', Ext (fun _ => False) F H F' H' ∧ Same F' H' ∧ Rp K F' x d
  stop : ∀ i H, ds.length ≤ i → Same F0 H → J.stop i H
def rGiv (K : Frag) (_ : L2.St) (F : Hp) (J : It) (ds : List D) : Prop := Gives K J F ds
abbrev RdI (X : Cx) (f : Slots → R (List D × Slots)) : TI := Rd' X.K (xq X) (rGiv X.K) f
abbrev RdI0 (K : Frag) (f : Slots → R (List D × Slots)) : TI := Rd' K noQ (rGiv K) f
theorem gives_list {K : Frag} {F : Hp} {a : Addr} {xs : List V} {ds : List D} (h : LsK K F a xs) (r : Rps K F xs ds) (z : xs.length ≤ sizeLine) : Gives K (Itl K a) F ds := by
  have hl := r.len
  refine ⟨by omega, fun i H hi s => ?_, fun i F1 H x H' s0 s y d hd => ?_, fun i H hi s => ⟨xs, (Same.lsk s h).sq, by omega⟩⟩
  · exact ⟨xs, xs[i]'(by omega), (Same.lsk s h).sq, by simp⟩
  · obtain ⟨rfl, y⟩ := y
    obtain ⟨v, e1, e2⟩ := r.get hd
    have e3 := y xs (Same.lsk (s0.trans s) h).sq
    rw [e1] at e3
    obtain rfl := Option.some.inj e3
    exact ⟨F1, Ext.refl, s, e2.mono s0⟩
theorem gives_tup {K : Frag} {F : Hp} {a : Addr} {xs : List V} {ds : List D} (h : SqT K F a xs) (r : Rps K F xs ds) (z : xs.length ≤ sizeLine) : Gives K (Itt K a) F ds := by
  have hl := r.len
  refine ⟨by omega, fun i H hi s => ?_, fun i F1 H x H' s0 s y d hd => ?_, fun i H hi s => ⟨xs, Same.seqT s h, by omega⟩⟩
  · exact ⟨xs, xs[i]'(by omega), Same.seqT s h, by simp⟩
  · obtain ⟨rfl, y⟩ := y
    obtain ⟨v, e1, e2⟩ := r.get hd
    have e3 := y xs (Same.seqT (s0.trans s) h)
    rw [e1] at e3
    obtain rfl := Option.some.inj e3
    exact ⟨F1, Ext.refl, s, e2.mono s0⟩
omit [Tb] in
theorem rngD_len (lo hi : Int) : (rngD lo hi).length = (hi - lo).toNat := by unfold rngD; rw [List.length_map, List.length_range]
omit [Tb] in
theorem rngD_get {lo hi : Int} {i : Nat} {d : D} (h : (rngD lo hi)[i]? = some d) : i < (hi - lo).toNat ∧ d = .int (lo + i) := by
  have hl : i < (rngD lo hi).length := (List.getElem?_eq_some_iff.mp h).1
  rw [rngD_len] at hl
  refine ⟨hl, ?_⟩
  unfold rngD at h
  rw [List.getElem?_map, List.getElem?_eq_getElem (by rw [List.length_range]; exact hl), List.getElem_range] at h
  exact (Option.some.inj h).symm
theorem gives_rng {K : Frag} {F : Hp} {lo hi : Int} (z : (hi - lo).toNat ≤ sizeLine) : Gives K (Itr lo (hi - lo).toNat) F (rngD lo hi) := by
  refine ⟨by rw [rngD_len]; exact z, fun i H h s => ?_, fun i F1 H x H' s0 s y d hd => ?_, fun i H h s => ?_⟩
  · rw [rngD_len] at h; exact h
  · obtain ⟨rfl, y⟩ := y
    obtain ⟨_, rfl⟩ := rngD_get hd
    rw [y]
    exact ⟨F1, Ext.refl, s, .int _⟩
  · rw [rngD_len] at h; exact h
section
variable {G : Gm} {k : Nat} {sc raw : Scope} {N : List Str} {X : Cx} {pos : Pos}
/-- a list or a tuple that is walked -/
def iSq (K : Frag) (tl : TE) : TI := fun σ H R => tl σ H fun x H1 => ∃ a, x = .ref a ∧ ((∃ xs, SqL K H1 a xs ∧ R (Itl K a) H1) ∨ (∃ xs, SqT K H1 a xs ∧ R (Itt K a) H1))
theorem pi_sq {tg l : Expr} {tl : TE} (hl : PE X l tl) : PI X tg l (iSq X.K tl) := by
  refine ⟨fun pins s σ H R I h => ?_⟩
  refine thn (hl.run pins s σ H _ I h) fun v s1 ⟨x, H1, I1, r1, q1⟩ => ?_
  obtain ⟨a, e, q⟩ := q1
  subst e
  cases r1
  rcases q with ⟨xs, hq, q⟩ | ⟨xs, hq, q⟩
  · obtain ⟨its, rv, p, hz⟩ := I1.list hq
    refine wpAny_pyIter_list p.isList ?_
    refine ⟨s1.heap.objs.size, [s1.heap.objs.size], _, _, H1, rfl, I1.kept (t' := s1.toks) fun b o e => Heap.get?_push_of_some _ e, turn_list a _, ⟨_, Heap.get?_push_size _ rfl, rfl, rfl⟩, fun b hb => ?_, q⟩
    have e : b = s1.heap.objs.size := by simpa using hb
    subst e
    exact I1.fpOk (Nat.le_refl _) (I1.hok.fresh (Nat.le_refl _))
  · obtain ⟨its, rv, p, hz⟩ := I1.tuple hq
    refine wpAny_pyIter_tuple (show s1.heap.IsTuple a its.toArray from p) ?_
    refine ⟨s1.heap.objs.size, [s1.heap.objs.size], _, _, H1, rfl, I1.kept (t' := s1.toks) fun b o e => Heap.get?_push_of_some _ e, turn_tuple a _, ⟨_, Heap.get?_push_size _ rfl, rfl, rfl⟩, fun b hb => ?_, q⟩
    have e : b = s1.heap.objs.size := by simpa using hb
    subst e
    exact I1.fpOk (Nat.le_refl _) (I1.hok.fresh (Nat.le_refl _))
theorem _root_.L2.PI.imp {X : Cx} {tg e : Expr} {t t' : TI} (h : PI X tg e t) (i : ∀ σ H Q, t' σ H Q → t σ H Q) : PI X tg e t' := ⟨fun pins s σ H Q I q => h.run pins s σ H Q I (i _ _ _ q)⟩
theorem i_seq {a : E} {e' tg : Expr} (h : PE X e' (RdE X (ev G a))) : PI X tg e' (RdI X (evI G (.seq a))) := by
  refine (pi_sq h).imp fun σ H Q q => ?_
  obtain ⟨F, ρ, en, q⟩ := q
  have q : Fin X.K (xq X) (rGiv X.K σ) (Own σ ρ) F H σ Q (ev G a ρ >>= fun p => keep p.1 >>= fun x => items? x >>= fun ds => .ok (ds, p.2)) := q
  refine ⟨F, ρ, en, q.bind.mono fun x H1 q => ?_⟩
  obtain ⟨F1, ρ1, o, e1, en1, r1, q⟩ := q
  obtain ⟨d, ed, q⟩ := q.ok
  obtain ⟨ds, es, q⟩ := q.ok
  have r := keep_rp r1 ed
  cases d with
  | list xs =>
    cases es
    cases r with
    | lst h1 h2 h3 => exact ⟨_, rfl, .inl ⟨_, (Same.lsk en1.sub h1).sq, q.nowG en1 (v := Itl X.K _) (gives_list h1 h2 h3)⟩⟩
  | tuple xs =>
    cases es
    cases r with
    | tup h1 h2 h3 => exact ⟨_, rfl, .inr ⟨_, Same.seqT en1.sub h1, q.nowG en1 (v := Itt X.K _) (gives_tup h1 h2 h3)⟩⟩
  | _ => cases es
theorem rngOk_of {lo hi : Int} (h : rngOk lo hi = true) : -(2 ^ 62) ≤ lo ∧ lo < 2 ^ 62 ∧ -(2 ^ 62) ≤ hi ∧ hi < 2 ^ 62 := by
  unfold rngOk at h
  obtain ⟨h, h4⟩ := band h
  obtain ⟨h, h3⟩ := band h
  obtain ⟨h1, h2⟩ := band h
  exact ⟨of_decide_eq_true h1, of_decide_eq_true h2, of_decide_eq_true h3, of_decide_eq_true h4⟩
theorem i_rng (c : Here G k sc raw N X) {a : E} {a' tg : Expr} {x : Str} {px : Pos} (hx : x = ("range" : Str)) (hg : glOk sc x = true) (hp : plain a' = true) (h : PE X a' (RdE X (ev G a))) : PI X tg (.Call (.Name x px) [a'] [] pos) (RdI X (evI G (.rng a))) := by
  subst hx
  obtain ⟨g1, g2, g3⟩ := gl_of c hg
  have hst : starEach [a'] X.env = [(false, eval a' X.env)] := star_of (plain_star hp)
  refine (pi_range1 g1 (blt_of c (by decide)) (pa_cons h pa_nil hst) hst).imp fun σ H Q q => ?_
  obtain ⟨F, ρ, en, q⟩ := q
  have q : Fin X.K (xq X) (rGiv X.K σ) (Own σ ρ) F H σ Q (ev G a ρ >>= fun p => peek p.2 p.1 >>= fun x => asI x >>= fun i => if (rngOk 0 i && sz i.toNat) = true then .ok (rngD 0 i, p.2) else .bad) := q
  refine ⟨F, ρ, en, q.bind.mono fun x H1 q => ?_⟩
  obtain ⟨F1, ρ1, o, e1, en1, r1, q⟩ := q
  obtain ⟨d, ed, q⟩ := q.ok
  have w := peek_wk en1 r1 ed
  cases d with
  | int i =>
    have q : Fin X.K (xq X) (rGiv X.K σ) (Own σ ρ1) F1 H1 σ Q (if (rngOk 0 i && sz i.toNat) = true then R.ok (rngD 0 i, ρ1) else R.bad) := q
    split at q
    · rename_i hc
      obtain ⟨c1, c2⟩ := band hc
      obtain ⟨_, _, b3, b4⟩ := rngOk_of c1
      have c2 := sz_le c2
      have e0 : i.toNat = (i - 0).toNat := by omega
      refine ⟨i, by rw [w.int], b3, b4, ?_⟩
      rw [e0]
      exact q.nowG en1 (v := Itr 0 (i - 0).toNat) (gives_rng (by omega))
    · exact q.elim
  | _ => exact q.elim
theorem i_rng2 (c : Here G k sc raw N X) {a b : E} {a' b' tg : Expr} {x : Str} {px : Pos} (hx : x = ("range" : Str)) (hg : glOk sc x = true) (hp : plain a' = true) (hp2 : plain b' = true) (h : PE X a' (RdE X (ev G a))) (h2 : PE X b' (RdE X (ev G b))) :
    PI X tg (.Call (.Name x px) [a', b'] [] pos) (RdI X (evI G (.rng2 a b))) := by
  subst hx
  obtain ⟨g1, g2, g3⟩ := gl_of c hg
  have hst2 : starEach [b'] X.env = [(false, eval b' X.env)] := star_of (plain_star hp2)
  have hst : starEach [a', b'] X.env = [(false, eval a' X.env), (false, eval b' X.env)] := by rw [star_of (plain_star hp), hst2]
  refine (pi_range2 g1 (blt_of c (by decide)) (pa_cons h (pa_cons h2 pa_nil hst2) (star_of (plain_star hp))) hst hst2).imp fun σ H Q q => ?_
  obtain ⟨F, ρ, en, q⟩ := q
  have q : Fin X.K (xq X) (rGiv X.K σ) (Own σ ρ) F H σ Q (ev G a ρ >>= fun p => ev G b p.2 >>= fun q => peek q.2 p.1 >>= fun x => peek q.2 q.1 >>= fun y => asI x >>= fun i => asI y >>= fun j =>
      if (rngOk i j && sz (j - i).toNat) = true then .ok (rngD i j, q.2) else .bad) := q
  refine ⟨F, ρ, en, q.bind.mono fun x H1 q => ?_⟩
  obtain ⟨F1, ρ1, o, e1, en1, r1, q⟩ := q
  refine ⟨F1, ρ1, en1, q.bind.mono fun y H2 q => ?_⟩
  obtain ⟨F2, ρ2, o2, e2, en2, r2, q⟩ := q
  obtain ⟨dx, ex, q⟩ := q.ok
  obtain ⟨dy, ey, q⟩ := q.ok
  have w1 := peek_wk en2 (r1.mono e2.f) ex
  have w2 := peek_wk en2 r2 ey
  cases dx with
  | int i =>
    cases dy with
    | int j =>
      have q : Fin X.K (xq X) (rGiv X.K σ) (Own σ ρ2) F2 H2 σ Q (if (rngOk i j && sz (j - i).toNat) = true then R.ok (rngD i j, ρ2) else R.bad) := q
      split at q
      · rename_i hc
        obtain ⟨c1, c2⟩ := band hc
        refine ⟨i, j, by rw [w1.int, w2.int], rngOk_of c1, ?_⟩
        exact q.nowG en2 (v := Itr i (j - i).toNat) (gives_rng (sz_le c2))
      · exact q.elim
    | _ => exact q.elim
  | _ => exact q.elim

/-! ### comprehensions -/
omit [Tb] in
theorem wipe_out' {σ : L2.St} {i : Nat} : ∀ {vs : List Nat}, i ∉ vs → (wipe σ vs)[i]? = σ[i]? := wipe_out
omit [Tb] in
theorem wipeR_len (ρ : Slots) : ∀ vs : List Nat, (wipeR ρ vs).length = ρ.length
  | [] => rfl
  | v :: vs => by unfold wipeR; rw [List.length_set, wipeR_len ρ vs]
omit [Tb] in
theorem wipeR_out {ρ : Slots} {i : Nat} : ∀ {vs : List Nat}, i ∉ vs → (wipeR ρ vs)[i]? = ρ[i]?
  | [], _ => rfl
  | v :: vs, h => by
    unfold wipeR
    rw [List.getElem?_set_ne (fun z => h (by rw [z]; exact List.mem_cons_self))]
    exact wipeR_out fun z => h (List.mem_cons_of_mem _ z)
omit [Tb] in
theorem wipeR_in {ρ : Slots} {i : Nat} {c : Cell} : ∀ {vs : List Nat}, i ∈ vs → (wipeR ρ vs)[i]? = some c → c = .un
  | v :: vs, h, e => by
    unfold wipeR at e
    by_cases hv : v = i
    · subst hv
      by_cases hl : v < (wipeR ρ vs).length
      · rw [List.getElem?_set_self hl] at e
        exact (Option.some.inj e).symm
      · rw [List.getElem?_eq_none (by rw [List.length_set]; omega)] at e
        cases e
    · rw [List.getElem?_set_ne hv] at e
      exact wipeR_in ((List.mem_cons.mp h).resolve_left fun z => hv z.symm) e
theorem env_wipe {K : Frag} {F H : Hp} {σ : L2.St} {ρ : Slots} (en : EnvOk K F H σ ρ) (vs : List Nat) : EnvOk K F H (wipe σ vs) (wipeR ρ vs) ∧ ∀ l, Own (wipe σ vs) (wipeR ρ vs) l → Own σ ρ l := by
  have o : ∀ {j : Nat} {b : Bool} {ds : List D}, (wipeR ρ vs)[j]? = some (Cell.own b ds) → j ∉ vs ∧ ρ[j]? = some (Cell.own b ds) := fun {j b ds} e => by
    by_cases hj : j ∈ vs
    · have := wipeR_in hj e; cases this
    · rw [wipeR_out hj] at e; exact ⟨hj, e⟩
  refine ⟨⟨en.sub, by rw [wipe_length, wipeR_len]; exact en.len, fun i c e => ?_, fun i j l b b' ds ds' e1 e2 g1 g2 => ?_, en.sm, en.tb⟩, fun l ⟨j, b, ds, e1, e2⟩ => ?_⟩
  · by_cases hi : i ∈ vs
    · rw [wipeR_in hi e]; trivial
    · rw [wipeR_out hi] at e
      rw [wipe_out hi]
      exact en.cell i c e
  · obtain ⟨n1, o1⟩ := o e1
    obtain ⟨n2, o2⟩ := o e2
    rw [wipe_out n1] at g1
    rw [wipe_out n2] at g2
    exact en.sep _ _ _ _ _ _ _ o1 o2 g1 g2
  · obtain ⟨n1, o1⟩ := o e1
    rw [wipe_out n1] at e2
    exact ⟨j, b, ds, o1, e2⟩
omit [Tb] in
theorem unwipe_len (ρ0 ρ : Slots) : ∀ vs : List Nat, (unwipe ρ0 ρ vs).length = ρ.length
  | [] => rfl
  | v :: vs => by
    unfold unwipe
    split
    · rw [List.length_set, unwipe_len ρ0 ρ vs]
    · exact unwipe_len ρ0 ρ vs
omit [Tb] in
theorem unwipe_out {ρ0 ρ : Slots} {i : Nat} : ∀ {vs : List Nat}, i ∉ vs → (unwipe ρ0 ρ vs)[i]? = ρ[i]?
  | [], _ => rfl
  | v :: vs, h => by
    have r := unwipe_out (ρ0 := ρ0) (ρ := ρ) (i := i) (vs := vs) fun z => h (List.mem_cons_of_mem _ z)
    unfold unwipe
    split
    · rw [List.getElem?_set_ne (fun z => h (by rw [z]; exact List.mem_cons_self))]; exact r
    · exact r
omit [Tb] in
theorem unwipe_in {ρ0 ρ : Slots} {i : Nat} (hl : ρ0.length = ρ.length) : ∀ {vs : List Nat}, i ∈ vs → (unwipe ρ0 ρ vs)[i]? = ρ0[i]?
  | v :: vs, h => by
    unfold unwipe
    by_cases hv : v = i
    · subst hv
      cases e : ρ0[v]? with
      | some c =>
        dsimp only
        have hlt := (List.getElem?_eq_some_iff.mp e).1
        rw [List.getElem?_set_self (by rw [unwipe_len]; omega)]
      | none =>
        dsimp only
        have hge : ρ0.length ≤ v := List.getElem?_eq_none_iff.mp e
        exact List.getElem?_eq_none_iff.mpr (by rw [unwipe_len]; omega)
    · have r := unwipe_in (i := i) hl ((List.mem_cons.mp h).resolve_left fun z => hv z.symm)
      split
      · rw [List.getElem?_set_ne hv]; exact r
      · exact r
/-- behind a turn of a block: the outer slots as they were ahead of it, what was lent as it is now -/
theorem env_back {K : Frag} {F H F4 H4 : Hp} {σ σ2 : L2.St} {ρ ρ4 : Slots} {vs : List Nat} {B : Addr → Prop} (en : EnvOk K F H σ ρ) (ex : Ext B F H F4 H4) (hB : ∀ l, B l → Own (wipe σ vs) (wipeR ρ vs) l ∨ ¬ Own σ ρ l) (en4 : EnvOk K F4 H4 σ2 ρ4)
    (ow : ∀ l, Own σ2 ρ4 l → Own (wipe σ vs) (wipeR ρ vs) l) (out : ∀ j, j ∉ vs → σ2[j]? = σ[j]?) (hl : ρ.length = ρ4.length) : EnvOk K F4 H4 σ (unwipe ρ ρ4 vs) ∧ ∀ l, Own σ (unwipe ρ ρ4 vs) l → Own σ ρ l := by
  have o : ∀ {j : Nat} {c : Cell}, (unwipe ρ ρ4 vs)[j]? = some c → (j ∈ vs ∧ ρ[j]? = some c) ∨ (j ∉ vs ∧ ρ4[j]? = some c) := fun {j c} e => by
    by_cases hj : j ∈ vs
    · rw [unwipe_in hl hj] at e; exact .inl ⟨hj, e⟩
    · rw [unwipe_out hj] at e; exact .inr ⟨hj, e⟩
  -- an outer list of the block's own names is not among what the block may change
  have notB : ∀ {j : Nat} {l : Addr} {b : Bool} {ds : List D}, j ∈ vs → ρ[j]? = some (Cell.own b ds) → σ[j]? = some (some (V.ref l)) → ¬ Own (wipe σ vs) (wipeR ρ vs) l := fun {j l b ds} hj e1 e2 ⟨j', b', ds', f1, f2⟩ => by
    by_cases hj' : j' ∈ vs
    · have := wipeR_in hj' f1; cases this
    · rw [wipeR_out hj'] at f1
      rw [wipe_out hj'] at f2
      have := en.sep _ _ _ _ _ _ _ e1 f1 e2 f2
      exact hj' (this ▸ hj)
  refine ⟨⟨en4.sub, by rw [unwipe_len, ← hl]; exact en.len, fun j c e => ?_, fun j1 j2 l b b' ds ds' e1 e2 g1 g2 => ?_, en4.sm, en4.tb⟩, fun l ⟨j, b, ds, e1, e2⟩ => ?_⟩
  · rcases o e with ⟨hj, e⟩ | ⟨hj, e⟩
    · refine (en.cell j c e).ext ex fun l b ds ec eo hl => ?_
      subst ec
      have eo : σ[j]? = some (some (V.ref l)) := by
        cases q : σ[j]? with
        | none => rw [q] at eo; cases eo
        | some u => rw [q] at eo; exact congrArg some eo
      rcases hB l hl with z | z
      · exact notB hj e eo z
      · exact z ⟨j, b, ds, e, eo⟩
    · rw [← out j hj]; exact en4.cell j c e
  · rcases o e1 with ⟨hj1, e1⟩ | ⟨hj1, e1⟩ <;> rcases o e2 with ⟨hj2, e2⟩ | ⟨hj2, e2⟩
    · exact en.sep _ _ _ _ _ _ _ e1 e2 g1 g2
    · exact absurd (ow l ⟨j2, _, _, e2, by rw [out j2 hj2]; exact g2⟩) (notB hj1 e1 g1)
    · exact absurd (ow l ⟨j1, _, _, e1, by rw [out j1 hj1]; exact g1⟩) (notB hj2 e2 g2)
    · rw [← out j1 hj1] at g1
      rw [← out j2 hj2] at g2
      exact en4.sep _ _ _ _ _ _ _ e1 e2 g1 g2
  · rcases o e1 with ⟨hj, e1⟩ | ⟨hj, e1⟩
    · exact ⟨j, b, ds, e1, e2⟩
    · exact (env_wipe en vs).2 l (ow l ⟨j, b, ds, e1, by rw [out j hj]; exact e2⟩)
end
end DP

/-! DP, part 11: comprehensions; the whole of expressions. -/
namespace DP
open PySem PySem.Spec PyProof.Rows L2
variable [Tb]
omit [Tb] in
theorem wipe_in {σ : L2.St} {i : Nat} : ∀ {vs : List Nat}, i ∈ vs → (wipe σ vs)[i]? = if i < σ.length then some none else none
  | v :: vs, h => by
    unfold wipe
    by_cases hv : v = i
    · subst hv
      by_cases hl : v < σ.length
      · rw [List.getElem?_set_self (by rw [wipe_length]; exact hl), if_pos hl]
      · rw [List.getElem?_eq_none (by rw [List.length_set, wipe_length]; omega), if_neg hl]
    · rw [List.getElem?_set_ne hv]
      exact wipe_in ((List.mem_cons.mp h).resolve_left fun z => hv z.symm)
omit [Tb] in
theorem wipe_eq {σ σ2 : L2.St} {vs : List Nat} (hl : σ2.length = σ.length) (h : ∀ j, j ∉ vs → σ2[j]? = (wipe σ vs)[j]?) : wipe σ2 vs = wipe σ vs := by
  refine List.ext_getElem? fun j => ?_
  by_cases hj : j ∈ vs
  · rw [wipe_in hj, wipe_in hj, hl]
  · rw [wipe_out hj, h j hj]
omit [Tb] in
theorem putAll_len : ∀ {is : List Nat} {ds : List D} {ρ ρ' : Slots}, putAll is ds ρ = .ok ρ' → ρ'.length = ρ.length
  | [], [], _, _, e => by cases e; rfl
  | i :: is, d :: ds, ρ, ρ', e => by
    rw [putAll_len (show putAll is ds (ρ.set i (.dat d)) = .ok ρ' from e), List.length_set]
  | [], _ :: _, _, _, e => by cases e
  | _ :: _, [], _, _, e => by cases e
omit [Tb] in
theorem putTg_len {tg : Tg} {d : D} {ρ ρ' : Slots} (e : putTg tg d ρ = .ok ρ') : ρ'.length = ρ.length := by
  cases tg with
  | nm i =>
    have e : (if free ρ i = true then R.ok (ρ.set i (.dat d)) else .bad) = .ok ρ' := e
    split at e
    · cases e; rw [List.length_set]
    · cases e
  | tup is =>
    cases d with
    | tuple ds =>
      have e : (if (is.all fun i => free ρ i) = true then putAll is ds ρ else .bad) = .ok ρ' := e
      split at e
      · exact putAll_len e
      · cases e
    | _ => cases e
theorem Ext.notF {B : Addr → Prop} {F H F' H' : Hp} (e : Ext B F H F' H') {p : Addr} {o : HO} (h : F p = none) (h2 : H p = some o) (h3 : ¬ B p) : F' p = none := by
  cases z : F' p with
  | none => rfl
  | some u =>
    rcases e.n p (by rw [z]; simp) with w | w | w
    · exact absurd h w
    · rw [h2] at w; cases w
    · exact absurd w h3
/-- an object that is none of the data is written anew -/
theorem Ext.over {F H : Hp} {p : Addr} {o : HO} (h : F p = none) (h2 : ∀ o', H p = some o' → NT o') : Ext (fun l => l = p) F H F (upd H p o) := by
  refine ⟨fun c x e => e, fun c x e n _ => ?_, fun c e => .inl e, fun c e => ?_, fun t => tbok_upd t h2⟩
  · rw [upd_ne n]; exact e
  · by_cases hc : c = p
    · subst hc; rw [upd_same]; simp
    · rw [upd_ne hc]; exact e
omit [Tb] in
theorem plain_fold {e : Expr} {env : PySem.Env} (h : plain e = true) : ∀ x, foldedSetIterable e env x = pure x := by
  intro x
  cases e with
  | Set _ _ _ => cases h
  | _ => rfl
theorem _root_.L2.PTs.imp {X : Cx} {e : List Expr} {t t' : TT} (h : PTs X e t) (i : ∀ σ H Q, t' σ H Q → t σ H Q) : PTs X e t' := ⟨fun pins s σ H Q I q => h.run pins s σ H Q I (i _ _ _ q)⟩
omit [Tb] in
theorem ownOf_ix {N : List Str} {tg : Tg} : (ownOf N tg).map (·.2) = tg.slots := by
  unfold ownOf
  rw [List.map_map]
  exact List.map_id _
section
variable {G : Gm} {k : Nat} {sc raw : Scope} {N : List Str} {X : Cx} {pos : Pos}
theorem Here.blk (c : Here G k sc raw N X) (scope : Scope) (s : Shared) (H : Hp) (C : Addr) (cl : List (Str × Addr)) (fp : List Addr) : Here G k (relS scope sc) scope N (X.blk s H scope (compEnvC scope cl C X.env) fp) := by
  refine ⟨?_, c.nE, c.nd, c.calm, fun x h => ?_, c.blt, c.fns, c.cst, c.room, c.grd, c.smK, c.exn, c.wds, c.lam⟩
  · show relS scope X.env.scope = _
    rw [c.scE]
  · show (scope.names.lookup x == some NameKind.cell) = true
    rw [h]; rfl
omit [Tb] in
/-- a turn of the reading -/
def turnC (G : Gm) (elt : E) (tg : Tg) (cond : E) (d : D) (ρ1 : Slots) : R (Option D × Slots) :=
  nx (putTg tg d (wipeR ρ1 tg.slots) >>= fun ρ2 => ev G cond ρ2 >>= fun c => peek c.2 c.1 >>= fun x => asB x >>= fun k =>
        if k = true then ev G elt c.2 >>= fun y => keep y.1 >>= fun d' => .ok (some d', unwipe ρ1 y.2 tg.slots) else .ok (none, unwipe ρ1 c.2 tg.slots))
omit [Tb] in
theorem turn_eq (elt : E) (tg : Tg) (cond : E) (d : D) (ρ1 : Slots) : turnC G elt tg cond d ρ1 = nx (putTg tg d (wipeR ρ1 tg.slots) >>= fun ρ2 => evT G cond ρ2 >>= fun c =>
    if c.1 = true then ev G elt c.2 >>= fun y => keep y.1 >>= fun d' => R.ok (some d', unwipe ρ1 y.2 tg.slots) else R.ok (none, unwipe ρ1 c.2 tg.slots)) := by
  unfold turnC evT
  cases putTg tg d (wipeR ρ1 tg.slots) with
  | ok ρ2 =>
    simp only [bind_ok]
    cases ev G cond ρ2 with
    | ok p =>
      simp only [bind_ok]
      cases peek p.2 p.1 with
      | ok x =>
        simp only [bind_ok]
        cases asB x <;> rfl
      | _ => rfl
    | _ => rfl
  | _ => rfl
/-- the loop of a clause: from a list that holds acc0 already, on to End -/
theorem lc_loop {elt cond : E} {tg : Tg} {σ : L2.St} {B : Addr → Prop} {F H F1 H1 : Hp} {ρ1 ρe : Slots} {J : It} {items : List D} {D0 : Addr} {acc0 : List V} {accd0 rest0 : List DP.D} {End : Hp → Prop}
    (hD0 : B D0 ∨ H D0 = none) (ex1 : Ext B F H F1 H1) (en1 : EnvOk X.K F1 H1 σ ρ1) (ow1 : ∀ l, Own σ ρ1 l → B l ∧ l ≠ D0) (hF1 : F1 D0 = none) (hH1 : H1 D0 = some (.lst acc0)) (ra0 : Rps X.K F1 acc0 accd0) (hz : (accd0 ++ rest0).length ≤ sizeLine)
    (gv : Gives X.K J F1 items) (e2 : compLoop (turnC G elt tg cond) items ρ1 = .ok (rest0, ρe))
    (fin : ∀ F5 H5 acc, Ext B F H F5 H5 → Same F1 F5 → EnvOk X.K F5 H5 σ ρe → (∀ l, Own σ ρe l → B l ∧ l ≠ D0) → F5 D0 = none → H5 D0 = some (.lst acc) → Rps X.K F5 acc (accd0 ++ rest0) → End H5) :
    ∃ W : Nat → Nat → Hp → Prop, (∃ m, W 0 m H1) ∧ ∀ i m H, W i m H → (J.stop i H ∧ End H) ∨ (J.go i H ∧ ∃ Nx : Hp → Prop, (∀ H', Nx H' → ∃ m', m' < m ∧ W (i + 1) m' H') ∧ ∀ x H', J.yld i H x H' → gTg X.K tg x (wipe σ tg.slots) H' fun σ2 H2 => wipe σ2 tg.slots = wipe σ tg.slots ∧ RdT0 X.K (evT G cond) σ2 H2 fun b H3 =>
      if b = true then RdE0 X.K (ev G elt) σ2 H3 fun y H4 => ∃ acc, H4 D0 = some (.lst acc) ∧ acc.length < sizeLine ∧ Nx (upd H4 D0 (.lst (acc ++ [y]))) else Nx H3) := by
  refine ⟨fun i m H5 => ∃ F5 ρ5 acc accd rest, i ≤ items.length ∧ m = items.length - i ∧ EnvOk X.K F5 H5 σ ρ5 ∧ Ext B F H F5 H5 ∧ Same F1 F5 ∧ (∀ l, Own σ ρ5 l → B l ∧ l ≠ D0) ∧ F5 D0 = none ∧ H5 D0 = some (.lst acc) ∧ Rps X.K F5 acc accd ∧
      compLoop (turnC G elt tg cond) (items.drop i) ρ5 = .ok (rest, ρe) ∧ accd ++ rest = accd0 ++ rest0, ⟨items.length, F1, ρ1, acc0, accd0, rest0, Nat.zero_le _, rfl, en1, ex1, fun _ _ z => z, ow1, hF1, hH1, ra0, by rw [List.drop_zero, e2], rfl⟩, ?_⟩
  · rintro i m H5 ⟨F5, ρ5, acc, accd, rest, hi5, rfl, en5, ex5, sm5, ow5, hF5, hH5, ra, el5, ea5⟩
    by_cases hlt : i < items.length
    · refine .inr ⟨gv.go i H5 hlt (sm5.trans en5.sub), _, fun H' z => z, fun x H6 hy => ?_⟩
      have hd : items[i]? = some items[i] := List.getElem?_eq_getElem hlt
      obtain ⟨F6, ex6, sb6, rx⟩ := gv.yl i F5 H5 x H6 sm5 en5.sub hy _ hd
      have en6 : EnvOk X.K F6 H6 σ ρ5 := en5.ext ex6 sb6 fun _ _ z => z
      have hF6 : F6 D0 = none := ex6.notF hF5 hH5 id
      have hH6 : H6 D0 = some (.lst acc) := ex6.h _ _ hH5 id
      have nB5 : ¬ Own σ ρ5 D0 := fun z => (ow5 _ z).2 rfl
      rw [List.drop_eq_getElem_cons hlt] at el5
      have el5 : (turnC G elt tg cond items[i] ρ5 >>= fun t => compLoop (turnC G elt tg cond) (items.drop (i + 1)) t.2 >>= fun q => R.ok ((match t.1 with | some x => x :: q.1 | none => q.1), q.2)) = .ok (rest, ρe) := el5
      rw [turn_eq] at el5
      obtain ⟨t, et, el5⟩ := ok_bind el5
      obtain ⟨q6, eq6, el5⟩ := ok_bind el5
      have et := nx_ok et
      obtain ⟨ρ6, ep, et⟩ := ok_bind et
      obtain ⟨k6, ek, et⟩ := ok_bind et
      obtain ⟨enW, owW⟩ := env_wipe en6 tg.slots
      refine take_tg enW ep rx fun σ2 tk => ?_
      have hls : σ2.length = σ.length := by
        have a1 := tk.en.len
        have a2 := putTg_len ep
        rw [wipeR_len] at a2
        have a3 := en6.len
        omega
      refine ⟨wipe_eq hls fun j hj => (tk.out j hj).1, F6, ρ6, tk.en, ?_⟩
      rw [ek]
      intro b F7 H7 ex7 en7 ow7 rb
      obtain rfl : b = k6.1 := rb
      have nB6 : ¬ Own σ2 ρ6 D0 := fun z => nB5 (owW _ (tk.own _ z))
      have hF7 : F7 D0 = none := ex7.notF hF6 hH6 nB6
      have hH7 : H7 D0 = some (.lst acc) := ex7.h _ _ hH6 nB6
      have ex67 : Ext (Own (wipe σ tg.slots) (wipeR ρ5 tg.slots)) F6 H6 F7 H7 := ex7.mono tk.own
      have outj : ∀ j, j ∉ tg.slots → σ2[j]? = σ[j]? := fun j hj => by rw [(tk.out j hj).1, wipe_out hj]
      have lenOf : ∀ {ρx : Slots} {Fx Hx : Hp}, EnvOk X.K Fx Hx σ2 ρx → ρ5.length = ρx.length := fun en => by
        have a1 := en.len
        have a3 := en6.len
        omega
      have exA : Ext B F H F7 H7 := ((ex5.trans ex6 fun l z => z.elim).trans ex7 fun l z => .inl (ow5 _ (owW _ (tk.own _ z))).1)
      cases hk : k6.1 with
      | true =>
        rw [hk] at et
        rw [if_pos rfl] at et
        obtain ⟨y, ey, et⟩ := ok_bind et
        obtain ⟨d', ed, et⟩ := ok_bind et
        cases et
        refine iteT ⟨F7, k6.2, en7, ?_⟩
        rw [ey]
        intro v F8 H8 ex8 en8 ow8 rv
        have ow78 : ∀ l, Own σ2 k6.2 l → Own σ2 ρ6 l := ow7
        have nB7 : ¬ Own σ2 k6.2 D0 := fun z => nB6 (ow78 _ z)
        have hF8 : F8 D0 = none := ex8.notF hF7 hH7 nB7
        have hH8 : H8 D0 = some (.lst acc) := ex8.h _ _ hH7 nB7
        have exT : Ext (Own (wipe σ tg.slots) (wipeR ρ5 tg.slots)) F6 H6 F8 H8 := ex67.trans ex8 fun l z => .inl (tk.own _ (ow78 _ z))
        obtain ⟨enB, owB⟩ := env_back en6 exT (fun l z => .inl z) en8 (fun l z => tk.own _ (ow78 _ (ow8 _ z))) outj (lenOf en8)
        have exO : Ext (fun l => l = D0) F8 H8 F8 (upd H8 D0 (.lst (acc ++ [v]))) := Ext.over hF8 (nt_lst hH8)
        have exB : Ext B F H F8 H8 := exA.trans ex8 fun l z => .inl (ow5 _ (owW _ (tk.own _ (ow78 _ z)))).1
        have hlen : acc.length < sizeLine := by
          have l1 := ra.len
          have l2 := congrArg List.length ea5
          rw [← (Prod.mk.inj (R.ok.inj el5)).1, List.length_append] at l2
          have l3 : (d' :: q6.1).length = q6.1.length + 1 := rfl
          dsimp only at l2
          omega
        refine ⟨acc, hH8, hlen, items.length - (i + 1), by omega, F8, _, acc ++ [v], accd ++ [d'], q6.1, hlt, rfl,
          enB.ext exO (sub_updH enB.sub hF8) fun l z w => nB5 (owB _ (w ▸ z)), exB.trans exO fun l z => by rw [z]; exact hD0, ?_, fun l z => ow5 _ (owB _ z), hF8, upd_same, ?_, ?_, ?_⟩
        · exact sm5.trans (ex6.f.trans (ex7.f.trans ex8.f))
        · exact (ra.mono (ex6.f.trans (ex7.f.trans ex8.f))).append (.cons (keep_rp rv ed) .nil)
        · rw [← (Prod.mk.inj (R.ok.inj el5)).2]; exact eq6
        · rw [List.append_assoc]
          rw [← (Prod.mk.inj (R.ok.inj el5)).1] at ea5
          exact ea5
      | false =>
        rw [hk] at et
        rw [if_neg (by decide)] at et
        cases et
        refine iteF ?_
        obtain ⟨enB, owB⟩ := env_back en6 ex67 (fun l z => .inl z) en7 (fun l z => tk.own _ (ow7 _ z)) outj (lenOf en7)
        refine ⟨items.length - (i + 1), by omega, F7, _, acc, accd, q6.1, hlt, rfl, enB, exA, sm5.trans (ex6.f.trans ex7.f), fun l z => ow5 _ (owB _ z), hF7, hH7, ra.mono (ex6.f.trans ex7.f), ?_, ?_⟩
        · rw [← (Prod.mk.inj (R.ok.inj el5)).2]; exact eq6
        · rw [← (Prod.mk.inj (R.ok.inj el5)).1] at ea5
          exact ea5
    · have hge : items.length ≤ i := Nat.le_of_not_lt hlt
      refine .inl ⟨gv.stop i H5 hge (sm5.trans en5.sub), ?_⟩
      rw [List.drop_eq_nil_of_le hge] at el5
      cases el5
      rw [List.append_nil] at ea5
      exact fin F5 H5 acc ex5 sm5 en5 ow5 hF5 hH5 (by rw [← ea5]; exact ra)
omit [Tb] in
/-- a turn of the outer clause -/
def turnC2 (G : Gm) (elt : E) (tg : Tg) (cond : E) (tg2 : Tg) (it2 : I) (cond2 : E) (d : D) (ρ1 : Slots) : R (List D × Slots) :=
  nx (putTg tg d (wipeR ρ1 (tg.slots ++ tg2.slots)) >>= fun ρ2 => evT G cond ρ2 >>= fun c =>
        if c.1 = true then evI G it2 c.2 >>= fun p2 => compLoop (turnC G elt tg2 cond2) p2.1 p2.2 >>= fun q => .ok (q.1, unwipe ρ1 q.2 (tg.slots ++ tg2.slots))
        else .ok ([], unwipe ρ1 c.2 (tg.slots ++ tg2.slots)))
omit [Tb] in
instance nx_turnC {elt : E} {tg : Tg} {cond : E} {d : D} {ρ1 : Slots} : NX (turnC G elt tg cond d ρ1) := nx_nx
omit [Tb] in
instance nx_turnC2 {elt : E} {tg : Tg} {cond : E} {tg2 : Tg} {it2 : I} {cond2 : E} {d : D} {ρ1 : Slots} : NX (turnC2 G elt tg cond tg2 it2 cond2 d ρ1) := nx_nx
omit [Tb] in
theorem nx_loop {f : D → Slots → R (Option D × Slots)} (h : ∀ d ρ, NX (f d ρ)) : ∀ (l : List D) (ρ : Slots), NX (compLoop f l ρ)
  | [], _ => nx_of_ok
  | d :: l, ρ => nx_bind (h d ρ) fun t => nx_bind (nx_loop h l t.2) fun _ => nx_of_ok
omit [Tb] in
theorem nx_loop2 {f : D → Slots → R (List D × Slots)} (h : ∀ d ρ, NX (f d ρ)) : ∀ (l : List D) (ρ : Slots), NX (compLoop2 f l ρ)
  | [], _ => nx_of_ok
  | d :: l, ρ => nx_bind (h d ρ) fun t => nx_bind (nx_loop2 h l t.2) fun _ => nx_of_ok
omit [Tb] in
instance nx_compLoop {elt : E} {tg : Tg} {cond : E} {l : List D} {ρ1 : Slots} : NX (compLoop (turnC G elt tg cond) l ρ1) := nx_loop (fun _ _ => nx_turnC) l ρ1
omit [Tb] in
instance nx_compLoop2 {elt : E} {tg : Tg} {cond : E} {tg2 : Tg} {it2 : I} {cond2 : E} {l : List D} {ρ1 : Slots} : NX (compLoop2 (turnC2 G elt tg cond tg2 it2 cond2) l ρ1) := nx_loop2 (fun _ _ => nx_turnC2) l ρ1
omit [Tb] in
theorem compLoop_len {f : D → Slots → R (Option D × Slots)} : ∀ {l : List D} {ρ : Slots} {r : List D × Slots}, compLoop f l ρ = .ok r → r.1.length ≤ l.length
  | [], _, _, e => by cases e; exact Nat.le_refl _
  | d :: l, ρ, r, e => by
    obtain ⟨t, et, e⟩ := ok_bind (show (f d ρ >>= fun t => compLoop f l t.2 >>= fun q => R.ok ((match t.1 with | some x => x :: q.1 | none => q.1), q.2)) = .ok r from e)
    obtain ⟨q, eq, e⟩ := ok_bind e
    cases e
    have h := compLoop_len eq
    obtain ⟨t1, t2⟩ := t
    cases t1 with
    | none => exact Nat.le_succ_of_le h
    | some x => exact Nat.succ_le_succ h
/-- the new list, once it is whole -/
theorem nl_back {σ : L2.St} {F1 H1 F5 H5 : Hp} {ρ1 ρe : Slots} {D : Addr} {acc : List V} {ds : List DP.D} {Q : VK} (q : FinN X (Own σ ρ1) F1 H1 σ Q (.ok (.val (.list ds), ρe))) (hD : H1 D = none) (en1 : EnvOk X.K F1 H1 σ ρ1)
    (ex5 : Ext (Own σ ρ1) F1 H1 F5 H5) (en5 : EnvOk X.K F5 H5 σ ρe) (ow5 : ∀ l, Own σ ρe l → Own σ ρ1 l) (hF5 : F5 D = none) (hH5 : H5 D = some (.lst acc)) (ra : Rps X.K F5 acc ds) (z : acc.length ≤ sizeLine) : Q (.ref D) H5 := by
  have nB : ¬ Own σ ρ1 D := own_none en1 hD
  have back : upd (fun a => if a = D then none else H5 a) D (.lst acc) = H5 := by
    funext a
    by_cases ha : a = D
    · subst ha; rw [upd_same, hH5]
    · rw [upd_ne ha]; exact if_neg ha
  rw [← back]
  have hne : ∀ {a : Addr} {o : HO}, H5 a = some o → a ≠ D → (if a = D then none else H5 a) = some o := fun h n => by rw [if_neg n]; exact h
  refine q D acc F5 _ ⟨ex5.f, fun a o e n nt => ?_, ex5.n, fun a e => ?_, fun t => tbok_del (ex5.t t) (nt_lst hH5)⟩ ⟨fun a o e => ?_, en5.len, fun j cl ej => ?_, en5.sep, en5.sm, tbok_del en5.tb (nt_lst hH5)⟩ ow5 (if_pos rfl) ra z
  · exact hne (ex5.h' a o e n nt) fun z => by rw [z, hD] at e; cases e
  · rw [if_neg (fun z => e (by rw [z]; exact hD))]
    exact ex5.d a e
  · exact hne (en5.sub a o e) fun z => by rw [z, hF5] at e; cases e
  · have hc := en5.cell j cl ej
    cases cl with
    | un => trivial
    | dat d => exact hc
    | own b ds =>
      obtain ⟨l, xs, h1, h2, h3, h4, h5⟩ := hc
      refine ⟨l, xs, h1, h2, hne h3 fun z => ?_, h4, h5⟩
      have h1 : σ[j]? = some (some (V.ref l)) := by
        cases q : σ[j]? with
        | none => rw [q] at h1; cases h1
        | some u => rw [q] at h1; exact congrArg some h1
      exact nB (ow5 _ ⟨j, b, ds, ej, by rw [← z]; exact h1⟩)
omit [Tb] in
theorem comp2_eq (elt : E) (tg : Tg) (it : I) (cond : E) (tg2 : Tg) (it2 : I) (cond2 : E) (ρ : Slots) : ev G (.comp2 elt tg it cond tg2 it2 cond2) ρ = (evI G it ρ >>= fun p => compLoop2 (turnC2 G elt tg cond tg2 it2 cond2) p.1 p.2 >>= fun q => if sz q.1.length = true then R.ok (Opd.val (.list q.1), q.2) else .bad) := by
  show (evI G it ρ >>= fun p =>
      compLoop2 (fun d ρ1 => nx (putTg tg d (wipeR ρ1 (tg.slots ++ tg2.slots)) >>= fun ρ2 => ev G cond ρ2 >>= fun c => peek c.2 c.1 >>= fun x => asB x >>= fun k =>
        if k = true then evI G it2 c.2 >>= fun p2 => compLoop (turnC G elt tg2 cond2) p2.1 p2.2 >>= fun q => .ok (q.1, unwipe ρ1 q.2 (tg.slots ++ tg2.slots))
        else .ok ([], unwipe ρ1 c.2 (tg.slots ++ tg2.slots)))) p.1 p.2 >>= fun q => if sz q.1.length = true then R.ok (Opd.val (.list q.1), q.2) else .bad) = _
  congr 1
  funext p
  congr 2
  funext d ρ1
  unfold turnC2 evT
  cases putTg tg d (wipeR ρ1 (tg.slots ++ tg2.slots)) with
  | ok ρ2 =>
    simp only [bind_ok]
    cases ev G cond ρ2 with
    | ok p =>
      simp only [bind_ok]
      cases peek p.2 p.1 with
      | ok x =>
        simp only [bind_ok]
        cases asB x <;> rfl
      | _ => rfl
    | _ => rfl
  | _ => rfl
theorem lc_of {elt cond : E} {tg : Tg} {it : I} {σ : L2.St} {H : Hp} {Q : VK} {N : List Str} (q : RdN X (ev G (.comp elt tg it cond)) σ H Q) :
    tLc (RdI X (evI G it)) (gTg X.K tg) (RdT0 X.K (evT G cond)) (RdE0 X.K (ev G elt)) ((ownOf N tg).map (·.2)) σ H Q := by
  obtain ⟨F, ρ, en, q⟩ := q
  have q : FinN X (Own σ ρ) F H σ Q (evI G it ρ >>= fun p => compLoop (turnC G elt tg cond) p.1 p.2 >>= fun q => R.ok (Opd.val (.list q.1), q.2)) := q
  rw [ownOf_ix]
  refine ⟨F, ρ, en, q.bind.mono fun J H1 q => ?_⟩
  obtain ⟨F1, ρ1, items, _, en1, gv, q⟩ := q
  have gv : Gives X.K J F1 items := gv
  obtain ⟨r, e2, q⟩ := q.ok
  intro D hD
  have hF1 : F1 D = none := en1.sub.free hD
  have hz : (([] : List DP.D) ++ r.1).length ≤ sizeLine := Nat.le_trans (compLoop_len e2) gv.len
  refine lc_loop (σ := σ) (B := Own σ ρ1) (F := F1) (H := H1) (D0 := D) (acc0 := []) (accd0 := []) (rest0 := r.1) (ρe := r.2) (.inr hD) (Ext.laidH hD) (en1.ext (Ext.laidH (B := fun _ => False) hD) (sub_updH en1.sub hF1) fun _ _ z => z) (fun l z => ⟨z, fun w => own_none en1 hD (w ▸ z)⟩) hF1 upd_same .nil hz gv e2 ?_
  intro F5 H5 acc ex5 _ en5 ow5 hF5 hH5 ra
  have ra : Rps X.K F5 acc r.1 := ra
  exact nl_back q hD en1 ex5 en5 (fun l z => (ow5 l z).1) hF5 hH5 ra (by rw [ra.len]; exact hz)
theorem s_comp (c : Here G k sc raw N X) {elt cond : E} {tg : Tg} {it : I} {elt' tg' it' : Expr} {ifs' : List Expr} {scope : Scope} (ok : blkC N sc scope (ownOf N tg) = true) (hi : PI X tg' it' (RdI X (evI G it))) (hp : plain it' = true)
    (hg : ∀ (s : Shared) (H : Hp) (C : Addr) (cl : List (Str × Addr)) (fp : List Addr), PG (X.blk s H scope (compEnvC scope cl C X.env) fp) tg' (gTg X.K tg))
    (ht : ∀ (s : Shared) (H : Hp) (C : Addr) (cl : List (Str × Addr)) (fp : List Addr), PTs (X.blk s H scope (compEnvC scope cl C X.env) fp) ifs' (RdT0 X.K (evT G cond)))
    (he : ∀ (s : Shared) (H : Hp) (C : Addr) (cl : List (Str × Addr)) (fp : List Addr), PE (X.blk s H scope (compEnvC scope cl C X.env) fp) elt' (RdE0 X.K (ev G elt))) :
    PE X (.ListComp elt' [⟨tg', it', ifs', 0⟩] scope pos) (RdN X (ev G (.comp elt tg it cond))) := by
  have okB : BlkOk X.N X.env.scope scope (ownOf N tg) := by rw [c.nE, c.scE]; exact blkOk_by ok
  exact (pe_lc (own := ownOf N tg) c.calm (nd_of c) hi okB hg ht he (plain_fold hp)).imp fun σ H Q q => lc_of q
theorem lc2_of {elt cond cond2 : E} {tg tg2 : Tg} {it it2 : I} {σ : L2.St} {H : Hp} {Q : VK} {N : List Str} (q : RdN X (ev G (.comp2 elt tg it cond tg2 it2 cond2)) σ H Q) :
    tLc2 (RdI X (evI G it)) (gTg X.K tg) (RdT0 X.K (evT G cond)) (RdI0 X.K (evI G it2)) (gTg X.K tg2) (RdT0 X.K (evT G cond2)) (RdE0 X.K (ev G elt)) ((ownOf N tg ++ ownOf N tg2).map (·.2)) tg2.slots σ H Q := by
  obtain ⟨F, ρ, en, q⟩ := q
  rw [comp2_eq] at q
  have hvs : (ownOf N tg ++ ownOf N tg2).map (·.2) = tg.slots ++ tg2.slots := by rw [List.map_append, ownOf_ix, ownOf_ix]
  rw [hvs]
  generalize hvv : tg.slots ++ tg2.slots = vs
  have hsub : ∀ j, j ∉ vs → j ∉ tg.slots := fun j hj z => hj (by rw [← hvv]; exact List.mem_append_left _ z)
  refine ⟨F, ρ, en, q.bind.mono fun J H1 q => ?_⟩
  obtain ⟨F1, ρ1, items, _, en1, gv, q⟩ := q
  have gv : Gives X.K J F1 items := gv
  obtain ⟨r, e2, q⟩ := q.ok
  split at q
  rotate_left
  · exact q.elim
  rename_i hsz
  have hsz : r.1.length ≤ sizeLine := sz_le hsz
  intro D hD
  have hD0 : H1 D = none := hD
  have nB : ¬ Own σ ρ1 D := own_none en1 hD0
  have hF1 : F1 D = none := en1.sub.free hD
  refine ⟨fun i m H5 => ∃ F5 ρ5 acc accd rest, i ≤ items.length ∧ m = items.length - i ∧ EnvOk X.K F5 H5 σ ρ5 ∧ Ext (Own σ ρ1) F1 H1 F5 H5 ∧ Same F1 F5 ∧ (∀ l, Own σ ρ5 l → Own σ ρ1 l) ∧ F5 D = none ∧ H5 D = some (.lst acc) ∧ Rps X.K F5 acc accd ∧
      compLoop2 (turnC2 G elt tg cond tg2 it2 cond2) (items.drop i) ρ5 = .ok (rest, r.2) ∧ accd ++ rest = r.1, ⟨items.length, F1, ρ1, [], [], r.1, Nat.zero_le _, rfl, ?_, ?_, fun _ _ z => z, fun _ z => z, hF1, upd_same, .nil, by rw [List.drop_zero, e2], rfl⟩, ?_⟩
  · exact en1.ext (Ext.laidH (B := fun _ => False) hD) (sub_updH en1.sub hF1) fun _ _ z => z
  · exact Ext.laidH hD
  · rintro i m H5 ⟨F5, ρ5, acc, accd, rest, hi5, rfl, en5, ex5, sm5, ow5, hF5, hH5, ra, el5, ea5⟩
    by_cases hlt : i < items.length
    · refine .inr ⟨gv.go i H5 hlt (sm5.trans en5.sub), _, fun H' z => z, fun x H6 hy => ?_⟩
      have hd : items[i]? = some items[i] := List.getElem?_eq_getElem hlt
      obtain ⟨F6, ex6, sb6, rx⟩ := gv.yl i F5 H5 x H6 sm5 en5.sub hy _ hd
      have en6 : EnvOk X.K F6 H6 σ ρ5 := en5.ext ex6 sb6 fun _ _ z => z
      have hF6 : F6 D = none := ex6.notF hF5 hH5 id
      have hH6 : H6 D = some (.lst acc) := ex6.h _ _ hH5 id
      have nB5 : ¬ Own σ ρ5 D := fun z => nB (ow5 _ z)
      rw [List.drop_eq_getElem_cons hlt] at el5
      have el5 : (turnC2 G elt tg cond tg2 it2 cond2 items[i] ρ5 >>= fun t => compLoop2 (turnC2 G elt tg cond tg2 it2 cond2) (items.drop (i + 1)) t.2 >>= fun q => R.ok (t.1 ++ q.1, q.2)) = .ok (rest, r.2) := el5
      obtain ⟨t, et, el5⟩ := ok_bind el5
      obtain ⟨q6, eq6, el5⟩ := ok_bind el5
      have er1 : t.1 ++ q6.1 = rest := (Prod.mk.inj (R.ok.inj el5)).1
      have er2 : q6.2 = r.2 := (Prod.mk.inj (R.ok.inj el5)).2
      have hlenA : (accd ++ t.1).length ≤ sizeLine := by
        have l2 := congrArg List.length ea5
        rw [← er1, List.length_append, List.length_append] at l2
        rw [List.length_append]
        omega
      unfold turnC2 at et
      rw [hvv] at et
      have et := nx_ok et
      obtain ⟨ρ6, ep, et⟩ := ok_bind et
      obtain ⟨k6, ek, et⟩ := ok_bind et
      obtain ⟨enW, owW⟩ := env_wipe en6 vs
      refine take_tg enW ep rx fun σ2 tk => ?_
      have hls : σ2.length = σ.length := by
        have a1 := tk.en.len
        have a2 := putTg_len ep
        rw [wipeR_len] at a2
        have a3 := en6.len
        omega
      refine ⟨wipe_eq hls fun j hj => (tk.out j (hsub j hj)).1, F6, ρ6, tk.en, ?_⟩
      rw [ek]
      intro b F7 H7 ex7 en7 ow7 rb
      obtain rfl : b = k6.1 := rb
      have nB6 : ¬ Own σ2 ρ6 D := fun z => nB5 (owW _ (tk.own _ z))
      have hF7 : F7 D = none := ex7.notF hF6 hH6 nB6
      have hH7 : H7 D = some (.lst acc) := ex7.h _ _ hH6 nB6
      have ex67 : Ext (Own (wipe σ vs) (wipeR ρ5 vs)) F6 H6 F7 H7 := ex7.mono tk.own
      have outj : ∀ j, j ∉ vs → σ2[j]? = σ[j]? := fun j hj => by rw [(tk.out j (hsub j hj)).1, wipe_out hj]
      have lenOf : ∀ {ρx : Slots} {Fx Hx : Hp}, EnvOk X.K Fx Hx σ2 ρx → ρ5.length = ρx.length := fun en => by
        have a1 := en.len
        have a3 := en6.len
        omega
      have ex56 : Ext (Own σ ρ1) F1 H1 F6 H6 := ex5.trans ex6 fun l z => z.elim
      have exA : Ext (Own σ ρ1) F1 H1 F7 H7 := ex56.trans ex7 fun l z => .inl (ow5 _ (owW _ (tk.own _ z)))
      cases hk : k6.1 with
      | true =>
        rw [hk] at et
        rw [if_pos rfl] at et
        obtain ⟨p2, ei2, et⟩ := ok_bind et
        obtain ⟨r2, el2, et⟩ := ok_bind et
        have et1 : r2.1 = t.1 := (Prod.mk.inj (R.ok.inj et)).1 ▸ rfl
        have et2 : unwipe ρ5 r2.2 vs = t.2 := (Prod.mk.inj (R.ok.inj et)).2 ▸ rfl
        refine iteT ⟨F7, k6.2, en7, ?_⟩
        rw [ei2]
        intro J1 F8 H8 ex8 en8 ow8 gv1
        have ow78 : ∀ l, Own σ2 k6.2 l → Own σ2 ρ6 l := ow7
        have nB7 : ¬ Own σ2 k6.2 D := fun z => nB6 (ow78 _ z)
        have hF8 : F8 D = none := ex8.notF hF7 hH7 nB7
        have hH8 : H8 D = some (.lst acc) := ex8.h _ _ hH7 nB7
        have exB : Ext (fun l => Own (wipe σ vs) (wipeR ρ5 vs) l ∨ l = D) F6 H6 F8 H8 := (ex67.trans ex8 fun l z => .inl (tk.own _ (ow78 _ z))).mono fun l z => .inl z
        refine lc_loop (σ := σ2) (B := fun l => Own (wipe σ vs) (wipeR ρ5 vs) l ∨ l = D) (F := F6) (H := H6) (F1 := F8) (H1 := H8) (ρ1 := p2.2) (ρe := r2.2) (J := J1) (items := p2.1) (D0 := D) (acc0 := acc) (accd0 := accd) (rest0 := r2.1)
          (.inl (.inr rfl)) exB en8 (fun l z => ⟨.inl (tk.own _ (ow78 _ (ow8 _ z))), fun w => nB7 (by rw [← w]; exact ow8 _ z)⟩) hF8 hH8 (ra.mono (ex6.f.trans (ex7.f.trans ex8.f))) (by rw [et1]; exact hlenA) gv1 el2 ?_
        intro F9 H9 acc9 ex9 sm9 en9 ow9 hF9 hH9 ra9
        have ow9' : ∀ l, Own σ2 r2.2 l → Own (wipe σ vs) (wipeR ρ5 vs) l := fun l z => (ow9 l z).1.resolve_right (ow9 l z).2
        obtain ⟨enB, owB⟩ := env_back en6 ex9 (fun l z => z.imp id fun w => by rw [w]; exact nB5) en9 ow9' outj (lenOf en9)
        refine ⟨items.length - (i + 1), by omega, F9, _, acc9, accd ++ r2.1, q6.1, hlt, rfl, enB, ex56.trans ex9 fun l z => z.imp (fun w => ow5 _ (owW _ w)) fun w => by rw [w]; exact hD0, sm5.trans (ex6.f.trans (ex7.f.trans (ex8.f.trans sm9))), fun l z => ow5 _ (owB _ z), hF9, hH9, ra9, ?_, ?_⟩
        · rw [et2, ← er2]; exact eq6
        · rw [List.append_assoc, et1, er1]; exact ea5
      | false =>
        rw [hk] at et
        rw [if_neg (by decide)] at et
        cases et
        refine iteF ?_
        obtain ⟨enB, owB⟩ := env_back en6 ex67 (fun l z => .inl z) en7 (fun l z => tk.own _ (ow7 _ z)) outj (lenOf en7)
        refine ⟨items.length - (i + 1), by omega, F7, _, acc, accd, q6.1, hlt, rfl, enB, exA, sm5.trans (ex6.f.trans ex7.f), fun l z => ow5 _ (owB _ z), hF7, hH7, ra.mono (ex6.f.trans ex7.f), ?_, ?_⟩
        · rw [← er2]; exact eq6
        · rw [← er1] at ea5
          exact ea5
    · have hge : items.length ≤ i := Nat.le_of_not_lt hlt
      refine .inl ⟨gv.stop i H5 hge (sm5.trans en5.sub), ?_⟩
      rw [List.drop_eq_nil_of_le hge] at el5
      cases el5
      rw [List.append_nil] at ea5
      subst ea5
      exact nl_back q hD en1 ex5 en5 ow5 hF5 hH5 ra (by have := ra.len; omega)
theorem s_comp2 (c : Here G k sc raw N X) {elt cond cond2 : E} {tg tg2 : Tg} {it it2 : I} {elt' tg' it' tg2' it2' : Expr} {ifs' ifs2' : List Expr} {scope : Scope} (ok : blkC N sc scope (ownOf N tg ++ ownOf N tg2) = true) (hi : PI X tg' it' (RdI X (evI G it))) (hp : plain it' = true) (hp2 : plain it2' = true)
    (hg : ∀ (s : Shared) (H : Hp) (C : Addr) (cl : List (Str × Addr)) (fp : List Addr), PG (X.blk s H scope (compEnvC scope cl C X.env) fp) tg' (gTg X.K tg))
    (ht : ∀ (s : Shared) (H : Hp) (C : Addr) (cl : List (Str × Addr)) (fp : List Addr), PTs (X.blk s H scope (compEnvC scope cl C X.env) fp) ifs' (RdT0 X.K (evT G cond)))
    (hi2 : ∀ (s : Shared) (H : Hp) (C : Addr) (cl : List (Str × Addr)) (fp : List Addr), PI (X.blk s H scope (compEnvC scope cl C X.env) fp) tg2' it2' (RdI0 X.K (evI G it2)))
    (hg2 : ∀ (s : Shared) (H : Hp) (C : Addr) (cl : List (Str × Addr)) (fp : List Addr), PG (X.blk s H scope (compEnvC scope cl C X.env) fp) tg2' (gTg X.K tg2))
    (ht2 : ∀ (s : Shared) (H : Hp) (C : Addr) (cl : List (Str × Addr)) (fp : List Addr), PTs (X.blk s H scope (compEnvC scope cl C X.env) fp) ifs2' (RdT0 X.K (evT G cond2)))
    (he : ∀ (s : Shared) (H : Hp) (C : Addr) (cl : List (Str × Addr)) (fp : List Addr), PE (X.blk s H scope (compEnvC scope cl C X.env) fp) elt' (RdE0 X.K (ev G elt))) :
    PE X (.ListComp elt' [⟨tg', it', ifs', 0⟩, ⟨tg2', it2', ifs2', 0⟩] scope pos) (RdN X (ev G (.comp2 elt tg it cond tg2 it2 cond2))) := by
  have okB : BlkOk X.N X.env.scope scope (ownOf N tg ++ ownOf N tg2) := by rw [c.nE, c.scE]; exact blkOk_by ok
  refine (pe_lc2 (own := ownOf N tg ++ ownOf N tg2) (vs1 := tg2.slots) c.calm (nd_of c) hi okB (fun i hi => ?_) hg ht hi2 hg2 ht2 he (plain_fold hp) (fun env => plain_fold hp2)).imp fun σ H Q q => lc2_of q
  rw [List.map_append, ownOf_ix, ownOf_ix]
  exact List.mem_append_right _ hi
end
end DP

/-! DP: a lambda without arguments handed to a def that calls it; perhaps with a default that nothing reads. -/
namespace DP
open PySem PySem.Spec PyProof.Rows L2 LamX
variable [Tb]
/-- the lambda's names: none of the outer ones is stored -/
structure LamQ (N : List Str) (sc scope : Scope) (ds : List Str) : Prop where
  kind : scope.kind = .function
  co : scope.isCoroutine = false
  gen : scope.isGenerator = false
  noc : ∀ y ∈ scope.names, y.2 ≠ .cell
  out : ∀ y : Str, scope.names.lookup y = some .local → y ∉ N
  bnd : ∀ x ∈ ds, scope.names.lookup x = some .local
  free : ∀ y ∈ scope.names, y.2 = .free → sc.names.lookup y.1 = some .cell ∨ sc.names.lookup y.1 = some .free
theorem LamQ.has {X : Cx} {scope : Scope} {ds : List Str} (L : LamQ X.N X.env.scope scope ds) (ok : X.Ok) : ∀ y ∈ scope.names, y.2 = .free → ∃ c, X.env.cells.lookup y.1 = some c := fun y hy e => by
  rcases L.free y hy e with k | k
  · exact ok.has _ (.inl k)
  · exact ok.has _ (.inr k)
section
variable {X : Cx} {pins : List (Addr × Obj)} {σ : L2.St} {F H HZ : Hp} {s s1 : Shared}
theorem lam_in {A : Around} {outer : List Env} {E : XK} {scope : Scope} {ds : List Str} {bs : List (Str × Value)} {f c' : Addr} {h₁ : Heap} {tk : Nat} (I : Inv X pins σ H s) (L : LamQ X.N X.env.scope scope ds) (e0 : Env0 X.prog X.w X.K X.mg X.base A outer s1 HZ) (hd : A.handled = none)
    (un : Un (frs X.stack) [] H HZ s.heap s1.heap) (hns : h₁.Ns s1.heap.objs.size fun y => bs.reverse.lookup y) (kp : ∀ b o, s1.heap.get? b = some o → h₁.get? b = some o) :
    Inv (lamCx X A outer s1 HZ E scope f c') [] σ HZ { s1 with heap := h₁, toks := tk } := by
  have hfree := L.has I.ok
  have up : ∀ {y c}, (cloFrom X.env.cells scope.names []).lookup y = some c → X.env.cells.lookup y = some c := fun {y c} e => by
    rcases cloFrom_mem (PySem.mem_of_lookup e) with z | ⟨h1, h2⟩
    · cases z
    · obtain ⟨c1, hc⟩ := hfree _ h1 rfl
      have hc : X.env.cells.lookup y = some c1 := hc
      have : c = c1 := by rw [h2, hc] <;> rfl
      rw [this]; exact hc
  have there : ∀ {y}, scope.names.lookup y = some .free → ∃ c, (cloFrom X.env.cells scope.names []).lookup y = some c := fun {y} hl =>
    mem_lookup (cloFrom_has (cells := X.env.cells) (acc := []) (show (y, NameKind.free) ∈ scope.names from PySem.mem_of_lookup hl))
  have cell' : ∀ {c : Addr} {v : Option Value}, H c = none → s.heap.IsCell c v → h₁.IsCell c v := fun {c v} n ⟨o, ho, hd⟩ => by
    obtain ⟨sl, q⟩ := un.any ho n (by simp)
    exact ⟨_, kp _ _ q, hd⟩
  have no : ∀ b : Addr, b ∉ (lamCx X A outer s1 HZ E scope f c').ex := fun b z => absurd (show b ∈ ([] : List Addr) from z) (by simp)
  refine ⟨⟨e0.mod, L.kind, rfl, rfl, Nat.le_refl _, fun y z c e1 e2 => I.ok.inj y z c (up e1) (up e2), fun y hy => ?_, fun y c z _ => ?_, fun _ => hd, Around.frames_deeper e0.frames, .inr ⟨rfl, rfl⟩, fun b z => absurd z (no b), e0.bs, e0.bsz, fun b _ _ => no b,
      fun b z => absurd z (no b), e0.funs, e0.frf⟩,
    rfl, e0.bare, Un.kept kp, ⟨_, hns, fun i y v e1 e2 e3 => ?_⟩, fun y c e => ?_, e0.hok.fresh (Nat.le_refl _), fun y c e => ?_, fun q hq => absurd (show q ∈ ([] : List (Addr × Obj)) ++ [] from hq) (by simp), e0.hok.kept kp, I.len⟩
  · rcases (show scope.names.lookup y = some .cell ∨ scope.names.lookup y = some .free from hy) with hy | hy
    · exact absurd rfl (L.noc _ (PySem.mem_of_lookup hy))
    · exact there hy
  · have z : false = true := z
    cases z
  · rcases (show Vis scope y from e3) with k | k | k
    · exact absurd (List.mem_of_getElem? (show X.N[i]? = some y from e1)) (L.out y k)
    · exact absurd rfl (L.noc _ (PySem.mem_of_lookup k))
    · obtain ⟨m, hn, hl⟩ := I.loc
      have hvis : Vis X.env.scope y := (L.free _ (PySem.mem_of_lookup k) rfl).elim (fun k => .inr (.inl k)) (fun k => .inr (.inr k))
      obtain ⟨w', r, q⟩ := hl i y v e1 e2 hvis
      obtain ⟨c2, h2⟩ := there k
      refine ⟨w', r, .inr ⟨.inr k, c2, h2, ?_⟩⟩
      have c1 := up h2
      rcases q with ⟨k', _⟩ | ⟨_, c3, e', z⟩
      · have k' : X.env.scope.names.lookup y = some .local := k'
        rcases L.free _ (PySem.mem_of_lookup k) rfl with k2 | k2 <;> rw [show X.env.scope.names.lookup y = _ from k2] at k' <;> cases k'
      · rw [c1] at e'
        cases e'
        exact cell' (I.freeC y _ c1) z
  · obtain ⟨w', z⟩ := I.cell y c (up e)
    exact ⟨w', cell' (I.freeC y c (up e)) z⟩
  · obtain ⟨v, o, ho, hd⟩ := I.cell y c (up e)
    exact un.free c o ho (I.freeC y c (up e)) (by simp)
/-- the lambda's function object -/
abbrev lamO (X : Cx) (params : Arguments) (body : Expr) (scope : Scope) (dV doc pm : Value) (c' : Addr) (ctv : Value) : Obj :=
  PySem.W.kdv_obj "<lambda>" (X.env.qual ++ "<lambda>") params (.expr body) scope (cloFrom X.env.cells scope.names []) dV doc pm c' ctv
/-- x(), in the def that got the lambda -/
theorem lam_act {CXg : CXT} {Eg : XK} {Ng : List Str} {qg : Str} {sg : Scope} {g f c' : Addr} {cdg pm ctv dV doc : Value} {params : Arguments} {body : Expr} {scope : Scope} {ds : List Str} {bs : List (Str × Value)} {k i : Nat} {a : Str} {pn : List (Addr × Obj)} {xe : Value → Shared → Prop} {W : WX} {tb : XK → TE} {p1 p2 : Pos}
    (I : Inv X pins σ H s) (L : LamQ X.N X.env.scope scope ds) (hbs : ∀ x ∈ bs, x.1 ∈ ds) (hf : s.heap.get? f = some (lamO X params body scope dV doc pm c' ctv)) (hfn : H f = none) (hfr : f ∉ frs X.stack)
    (hbind : ∀ s2 : Shared, (∀ b o, s.heap.get? b = some o → H b = none → b ∉ frs X.stack → s2.heap.get? b = some o) → BindsTo s2 (PySem.W.kdv_fn "<lambda>" (X.env.qual ++ "<lambda>") params (.expr body) scope (cloFrom X.env.cells scope.names []) dV doc pm (.ref c') ctv) ⟨[], []⟩ bs)
    (tk : Takes ((cxOf CXg X.prog X.w X.K X.mg X.base Ng qg sg g cdg X.A X.stack s H Eg).tr pn xe) W) (hr : Room (k + 1) (X.A.deeper (envOfC qg sg s.heap.objs.size g cdg)))
    (hbody : ∀ (A : Around) (outer : List Env) (s : Shared) (H : Hp) (E : XK), A.guards = X.A.guards → Room k (A.deeper (lamEnv X scope s.heap.objs.size f c')) → PE (lamCx X A outer s H E scope f c') body (tb E))
    (hN : Ng[i]? = some a) (hv : Vis sg a) (hd : (a == ("__debug__" : Str)) = false) (hcd : (a == ("__classdict__" : Str)) = false) :
    PE ((cxOf CXg X.prog X.w X.K X.mg X.base Ng qg sg g cdg X.A X.stack s H Eg).tr pn xe) (.Call (.Name a p1) [] [] p2)
      (fun σZ HZ Q => ∃ E : XK, (∀ cls d H', E cls d H' → W cls d σZ H') ∧ σZ[i]? = some (some (.ref f)) ∧ HZ c' = some (CodeO c' (X.env.qual ++ "<lambda>")) ∧ tb E σ HZ Q) := by
  refine ⟨fun pinsZ sZ σZ HZ Q IZ h => ?_⟩
  obtain ⟨E, hW, hs, hc, ht⟩ := h
  refine wpAny_Call_Name_kw (thn ((pe_var (pos := p1) (i := i) hN hv hd hcd).run pinsZ sZ σZ HZ (fun v H1 => v = .ref f ∧ H1 = HZ) IZ ⟨.ref f, hs, rfl, rfl⟩) fun u s1 ⟨v, H1, I1, r1, q1⟩ => ?_)
  obtain ⟨ev, eH⟩ := q1
  subst ev
  rw [eH] at I1
  obtain rfl : u = Value.ref f := r1
  have keep1 : ∀ b o, s.heap.get? b = some o → H b = none → b ∉ frs X.stack → s1.heap.get? b = some o := fun b o e n nf => I1.base.keep b o e n nf (fun z => nomatch (show b ∈ ([] : List Addr) from z))
  have of1 := keep1 f _ hf hfn hfr
  refine PySem.W.callWith_F0 ⟨_, _, _, _, of1⟩ ?_
  have un : Un (frs X.stack) [] H HZ s.heap s1.heap := I1.base
  obtain ⟨⟨oc, vs, t, hoc, hdc, hvc⟩, _, _⟩ := I1.hok c' _ hc
  have rc : codeAny (model X.prog X.w) (X.A.deeper (envOfC qg sg s.heap.objs.size g cdg)) (.call (.ref f) ⟨[], []⟩) (CR (L2.CX X.prog X.w) (envOfC qg sg s.heap.objs.size g cdg :: X.stack) X.prog X.w HZ s1 Q E) s1 := by
    refine PySem.W.kla_callFunE hr.depth of1 rfl L.co L.gen rfl ⟨c', oc, vs, t, rfl, hoc, hdc, hvc⟩ ?_
    refine hbind s1 keep1 _ _ _ _ ?_
    refine wpAny_newFunctionEnv (fun y hy => L.noc y hy) (fun x hx => L.bnd _ (hbs x hx)) (fun h₁ hns hsb => ⟨I1.nolimit.fresh _ hsb, ?_⟩) L.kind
    show codeAny _ _ (.expr body (lamEnv X scope s1.heap.objs.size f c')) _ _
    have kp : ∀ b o, s1.heap.get? b = some o → h₁.get? b = some o := fun b o e => hsb.extBut b o (Nat.ne_of_lt (Heap.lt_size e)) (Heap.get?_push_of_some _ e)
    have J : Inv (lamCx X (X.A.deeper (envOfC qg sg s.heap.objs.size g cdg)) (envOfC qg sg s.heap.objs.size g cdg :: X.stack) s1 HZ E scope f c') [] σ HZ { s1 with heap := h₁, toks := s1.toks + bs.length } :=
      lam_in I L I1.env0 hr.hd un hns kp
    refine PySem.W.kla_codeExpr (wpAny_mono ((hbody (X.A.deeper (envOfC qg sg s.heap.objs.size g cdg)) _ s1 HZ E rfl (hr.deeper _)).run [] _ _ HZ Q J ht) (fun v s' hq => ?_) fun e s' hq => hq)
    obtain ⟨w', H', J', rv, q⟩ := hq
    exact ⟨w', H', J'.os, J'.bare, J'.base, J'.hok, rv, q⟩
  refine wpAny_call (codeAny_mono rc fun r s' hq => ?_)
  cases r with
  | error e => exact tk e s' (XE.of_call I1 (fun cls d H' h => hW cls d H' h) hq)
  | ok fl =>
    cases fl with
    | ret u => exact I1.after hq
    | _ => exact False.elim hq
/-- the lambda is made: its code object is new, or found in the table -/
theorem lam_new {c P : Addr} {params : Arguments} {body : Expr} {scope : Scope} {dV : Value} {pos : Pos} {E : Value → Shared → Prop} {Q : Value → Shared → Prop} (I : Inv X pins σ H s) (TB : TabB X.base X.mg c P) (hcode : X.env.code = .ref c)
    (hm : (P, X.env.qual ++ "<lambda>") ∈ Tb.l) (hu : ∀ p ∈ Tb.l, p.1 = P → p.2 = X.env.qual ++ "<lambda>") (tb : TbOk F H) (hfree : ∀ y ∈ scope.names, y.2 = .free → ∃ c, X.env.cells.lookup y.1 = some c)
    (h : ∀ (f c' : Addr) (pm ctv doc : Value) (H1 : Hp) (s' : Shared), Inv X pins σ H1 s' → (∀ B, Ext B F H F H1) → s'.heap.get? f = some (lamO X params body scope dV doc pm c' ctv) → H1 f = none → f ∉ frs X.stack → H1 c' = some (CodeO c' (X.env.qual ++ "<lambda>")) →
      (∀ b o, b ≠ P → s.heap.get? b = some o → s'.heap.get? b = some o ∧ (H b = none → H1 b = none)) → Q (.ref f) s') :
    wpAny (model X.prog X.w) X.A (makeTail "<lambda>" (X.env.qual ++ "<lambda>") params (.expr body) scope X.env dV .none none pos pos.line) Q E s := by
  obtain ⟨ps, hP, ht, ha⟩ := tb.1 _ hm
  have bP : s.heap.BuiltinsAt X.mg P := TB.bm.keeps I.bk
  have hP' : s.heap.get? P = some { cls := .none, data := .fields ps } := I.hok P _ hP
  have nofr : ∀ f, s.heap.objs.size ≤ f → f ∉ frs X.stack := fun f hf z => by
    rcases List.mem_cons.mp (I.stkSub _ z) with e | e
    · have h1 := I.lt
      rw [← e] at h1
      exact Nat.lt_irrefl _ (Nat.lt_of_lt_of_le h1 hf)
    · exact I.nofs hf e
  cases hc : codeAmong pos ps.toList with
  | none =>
    refine PySem.W.kdv_makeTail (mg := X.mg) (c := c) (P := P) (ps := ps) (closure_ok hfree) I.ok.glob (I.mod.glob.keeps I.bk) hcode (TB.code.keeps I.bk) hP' ht hc TB.gP bP fun c' ctv doc h' tk hx hge hlt hrec htb => ?_
    obtain ⟨c2, oc, vs, t, e2, hoc, hd, hv⟩ := hrec
    cases e2
    have hsz : s.heap.objs.size ≤ h'.objs.size := Nat.le_trans hge (Nat.le_of_lt hlt)
    have nC : H c' = none := I.hok.fresh hge
    have I1 := inv_table (t' := tk) (more := #[rawInt pos.line, rawInt pos.col, .ref c']) (h' := h'.push (lamO X params body scope dV doc ((X.mg "__name__").getD .none) c' ctv)) I hP
      (fun b o hb e => Heap.get?_push_of_some _ (hx b o hb e)) (Heap.get?_push_of_some _ htb) hge ⟨oc, vs, t, Heap.get?_push_of_some _ hoc, hd, hv⟩
    have hE : ∀ b o, H b = some o → (∀ ps, o ≠ .tbl ps) → upd (upd H P (.tbl (ps ++ #[rawInt pos.line, rawInt pos.col, .ref c']))) c' (CodeO c' (X.env.qual ++ "<lambda>")) b = some o := fun b o e n => by
      rw [upd_ne (ne_of_none e nC), upd_ne (fun z => n ps (Option.some.inj (e.symm.trans (by rw [z]; exact hP))))]
      exact e
    have eL : (ps ++ #[rawInt pos.line, rawInt pos.col, .ref c']).toList = ps.toList ++ [rawInt pos.line, rawInt pos.col, .ref c'] := by simp
    have T1 : Tabs Tb.l (upd (upd H P (.tbl (ps ++ #[rawInt pos.line, rawInt pos.col, .ref c']))) c' (CodeO c' (X.env.qual ++ "<lambda>"))) := fun p hp => by
      by_cases hb : p.1 = P
      · rw [hu p hp hb, hb]
        refine ⟨_, by rw [upd_ne (ne_of_none hP nC), upd_same], by rw [eL]; exact PySem.TriplesOk_snoc _ _ _ _ ht, fun p' cv hcv => ?_⟩
        rw [eL] at hcv
        rcases among_app _ ht hcv with z | z
        · obtain ⟨c0, e1, e2⟩ := ha p' cv z
          exact ⟨c0, e1, hE _ _ e2 codeO_ne⟩
        · exact ⟨c', z, upd_same⟩
      · obtain ⟨ps', a1, a2, a3⟩ := tb.1 p hp
        refine ⟨ps', by rw [upd_ne (ne_of_none a1 nC), upd_ne hb]; exact a1, a2, fun p' cv hcv => ?_⟩
        obtain ⟨c0, e1, e2⟩ := a3 p' cv hcv
        exact ⟨c0, e1, hE _ _ e2 codeO_ne⟩
    have ne : ∀ b, H b ≠ none → upd (upd H P (.tbl (ps ++ #[rawInt pos.line, rawInt pos.col, .ref c']))) c' (CodeO c' (X.env.qual ++ "<lambda>")) b ≠ none := fun b e => by
      by_cases h1 : b = c'
      · subst h1; exact absurd nC e
      · by_cases h2 : b = P
        · subst h2; rw [upd_ne h1, upd_same]; simp
        · rw [upd_ne h1, upd_ne h2]; exact e
    have nn : ∀ b, b ≠ c' → b ≠ P → H b = none → upd (upd H P (.tbl (ps ++ #[rawInt pos.line, rawInt pos.col, .ref c']))) c' (CodeO c' (X.env.qual ++ "<lambda>")) b = none := fun b n1 n2 e => by
      rw [upd_ne n1, upd_ne n2]; exact e
    refine h h'.objs.size c' ((X.mg "__name__").getD .none) ctv doc _ _ I1 (fun B => ⟨fun _ _ z => z, fun b o e _ n => hE b o e n, fun b z => .inl z, ne, fun _ => ⟨T1, tb.2⟩⟩) (Heap.get?_push_size _ rfl) ?_ (nofr _ hsz) upd_same (fun b o hb e => ⟨Heap.get?_push_of_some _ (hx b o hb e), fun z => nn b (fun w => ?_) hb z⟩)
    · have n1 : h'.objs.size ≠ c' := Nat.ne_of_gt hlt
      have n2 : h'.objs.size ≠ P := Nat.ne_of_gt (Nat.lt_of_lt_of_le (Heap.lt_size hP') hsz)
      exact nn _ n1 n2 (I.hok.fresh hsz)
    · rw [w] at e
      exact absurd (Heap.lt_size e) (Nat.not_lt.mpr hge)
  | some cv =>
    obtain ⟨c', e, hco⟩ := ha pos cv hc
    subst e
    refine PySem.W.kdv_makeTailHit (mg := X.mg) (c := c) (P := P) (ps := ps) (closure_ok hfree) I.ok.glob (I.mod.glob.keeps I.bk) hcode (TB.code.keeps I.bk) hP' ht hc bP fun ctv doc h' tk hx hsz => ?_
    have I1 : Inv X pins σ H { s with heap := h'.push (lamO X params body scope dV doc ((X.mg "__name__").getD .none) c' ctv), toks := tk } := I.kept fun b o e => Heap.get?_push_of_some _ (hx b o e)
    exact h h'.objs.size c' ((X.mg "__name__").getD .none) ctv doc H _ I1 (fun B => Ext.refl) (Heap.get?_push_size _ rfl) (I.hok.fresh hsz) (nofr _ hsz) hco (fun b o _ e => ⟨Heap.get?_push_of_some _ (hx b o e), id⟩)
theorem bind_dfl {nm : Str} {pos0 : Pos} {an : Option Expr} {q : Str} {b : FuncBody} {sc : Scope} {cl : List (Str × Addr)} {T : Addr} {v doc pm cdv ct : Value} {de : Expr} {s2 : Shared} (hT : s2.heap.get? T = some (PySem.W.kdv_tup [v])) :
    BindsTo s2 (PySem.W.kdv_fn "<lambda>" q ⟨[], [⟨nm, an, pos0⟩], none, [], [], none, [de]⟩ b sc cl (.ref T) doc pm cdv ct) ⟨[], []⟩ [(nm, v)] := by
  intro M A Q E hq
  unfold bindArgs
  simp only [List.map_nil, List.map_cons, List.nil_append, List.forIn_nil, pure_bind]
  refine wpAny_bind (wpAny_seqItems hT rfl ?_)
  simp [List.lookup]
  exact wpAny_pure hq
theorem lam_eval {c P : Addr} {params : Arguments} {body : Expr} {scope : Scope} {ds : List Str} {pos : Pos} {Q : Value → Shared → Prop} (I : Inv X pins σ H s) (TB : TabB X.base X.mg c P) (hcode : X.env.code = .ref c) (hpar : lamPar params = some ds)
    (hm : (P, X.env.qual ++ "<lambda>") ∈ Tb.l) (hu : ∀ p ∈ Tb.l, p.1 = P → p.2 = X.env.qual ++ "<lambda>") (tb : TbOk F H) (hfree : ∀ y ∈ scope.names, y.2 = .free → ∃ c, X.env.cells.lookup y.1 = some c)
    (h : ∀ (f c' : Addr) (pm ctv dV doc : Value) (bs : List (Str × Value)) (H1 : Hp) (s' : Shared), Inv X pins σ H1 s' → (∀ B, Ext B F H F H1) → s'.heap.get? f = some (lamO X params body scope dV doc pm c' ctv) → H1 f = none → f ∉ frs X.stack → H1 c' = some (CodeO c' (X.env.qual ++ "<lambda>")) →
      (∀ x ∈ bs, x.1 ∈ ds) → (∀ s2 : Shared, (∀ b o, s'.heap.get? b = some o → H1 b = none → b ∉ frs X.stack → s2.heap.get? b = some o) → BindsTo s2 (PySem.W.kdv_fn "<lambda>" (X.env.qual ++ "<lambda>") params (.expr body) scope (cloFrom X.env.cells scope.names []) dV doc pm (.ref c') ctv) ⟨[], []⟩ bs) → Q (.ref f) s') :
    wpAny (model X.prog X.w) X.A (eval (.Lambda params body scope pos) X.env) Q X.xe s := by
  unfold lamPar at hpar
  split at hpar
  · obtain rfl := Option.some.inj hpar
    refine PySem.W.kla_eval rfl ?_
    rw [makeFunction_eq]
    simp only [List.zip_nil_right, List.filterMap_nil, List.isEmpty_nil, if_true, pure_bind]
    refine lam_new I TB hcode hm hu tb hfree fun f c' pm ctv doc H1 s' I1 ex hf hfn hfr hco _ => ?_
    exact h f c' pm ctv .none doc [] H1 s' I1 ex hf hfn hfr hco (fun x z => by cases z) fun s2 _ => .of_eq rfl
  · rename_i a j0 p0
    obtain rfl := Option.some.inj hpar
    rw [arm_eval_Lambda]
    show wpAny _ _ (do let dv ← evalAll [eval (.Constant (.int 0) j0 p0) X.env]; let kdv ← holding dv (evalAllOpt []); makeFunction "<lambda>" (X.env.qual ++ "<lambda>") _ (.expr body) scope X.env dv kdv [] pos pos.line) Q X.xe s
    refine wpAny_bind (wpAny_evalAll_cons (thn ((pe_int (i := 0) (j := j0) (pos := p0)).run pins s σ H (fun v H1 => H1 = H) I rfl) fun v s1 ⟨x, H1, I1, r1, q1⟩ => wpAny_evalAll_nil ?_))
    rw [q1] at I1
    refine wpAny_bind (wpAny_holding (wpAny_pure ?_))
    rw [makeFunction_eq]
    simp only [List.zip_nil_right, List.filterMap_nil, List.isEmpty_nil, List.isEmpty_cons, if_true, pure_bind]
    refine wpAny_bind (wpAny_newTextTuple ?_)
    have I2 : Inv X pins σ H { s1 with heap := s1.heap.push { cls := .type "tuple", data := .seq [v].toArray } } := I1.kept (t' := s1.toks) fun b o e => Heap.get?_push_of_some _ e
    refine lam_new I2 TB hcode hm hu tb hfree fun f c' pm ctv doc H1 s' I3 ex hf hfn hfr hco kp => ?_
    have hT : (s1.heap.push (PySem.W.kdv_tup [v])).get? s1.heap.objs.size = some (PySem.W.kdv_tup [v]) := Heap.get?_push_size _ rfl
    have nT : H s1.heap.objs.size = none := I1.hok.fresh (Nat.le_refl _)
    have nP : s1.heap.objs.size ≠ P := fun z => by
      obtain ⟨ps, hP, _⟩ := tb.1 _ hm
      rw [← z] at hP
      rw [hP] at nT
      cases nT
    obtain ⟨k1, k2⟩ := kp _ _ nP hT
    have nF : s1.heap.objs.size ∉ frs X.stack := fun z => by
      rcases List.mem_cons.mp (I1.stkSub _ z) with e | e
      · have h1 := I1.lt
        rw [← e] at h1
        exact Nat.lt_irrefl _ h1
      · exact I1.nofs (Nat.le_refl _) e
    obtain ⟨an0, nm0, ap0⟩ := a
    exact h f c' pm ctv _ doc [(_, v)] H1 s' I3 ex hf hfn hfr hco (fun x z => by
      rw [List.mem_singleton.mp z]; exact List.mem_singleton.mpr rfl) fun s2 k => bind_dfl (k _ _ k1 (k2 nT) nF)
  · cases hpar
/-- x(lambda: body), by what x makes of the body's reading -/
def tWord (TT : (XK → Hp → VK → Prop) → Hp → VK → Prop) (t : XK → TE) : TE := fun σ H Q => ∃ F, TbOk F H ∧ ∀ H1, (∀ B, Ext B F H F H1) → TT (fun E H' Q' => t E σ H' Q') H1 Q
theorem pe_word {TT : (XK → Hp → VK → Prop) → Hp → VK → Prop} {x a : Str} {g c P : Addr} {k : Nat} {pg : Arguments} {bg : List Stmt} {sg : Scope} {dV kV doc pm cdv ct oc : Value} {an od : Option Addr} {osl : Array (Option Value)} {Ng ds : List Str}
    {params : Arguments} {body : Expr} {scope : Scope} {t : XK → TE} {p lpos pos : Pos} (hg : Gl X x) (hm : X.mg x = some (.ref g)) (hk : PySem.W.keepIn X.K (.ref g) = true)
    (lk : X.K.lookup g = some ⟨oc, od, .func (PySem.W.fnOf x x pg bg sg dV kV doc pm an cdv ct), osl⟩) (hcg : PySem.W.codeIn X.K cdv x = true) (hb : L2.Binds X.K (PySem.W.fnOf x x pg bg sg dV kV doc pm an cdv ct) [a] []) (Sg : FnScope Ng [a] sg) (hNg : Ng[0]? = some a) (hva : Vis sg a)
    (hG : GivesW X Ng x sg g cdv bg a (X.env.qual ++ "<lambda>") TT)
    (TB : TabB X.base X.mg c P) (hcode : X.env.code = .ref c) (hmT : (P, X.env.qual ++ "<lambda>") ∈ Tb.l) (hu : ∀ p ∈ Tb.l, p.1 = P → p.2 = X.env.qual ++ "<lambda>") (hr : Room (k + 2) X.A) (hpar : lamPar params = some ds) (L : LamQ X.N X.env.scope scope ds)
    (hbody : ∀ (A : Around) (outer : List Env) (s : Shared) (H : Hp) (E : XK) (f c' : Addr), A.guards = X.A.guards → Room k (A.deeper (lamEnv X scope s.heap.objs.size f c')) → PE (lamCx X A outer s H E scope f c') body (t E))
    (hdb : (x == ("__debug__" : Str)) = false) (hd : (a == ("__debug__" : Str)) = false) (hcd : (a == ("__classdict__" : Str)) = false) :
    PE X (.Call (.Name x p) [.Lambda params body scope lpos] [] pos) (tWord TT t) := by
  refine ⟨fun pins s σ H Q I h => ?_⟩
  obtain ⟨F, hT, h⟩ := h
  refine wpAny_Call_Name_kw (ld_glob I hg hm ?_ hdb)
  refine PySem.W.callWith_K (h₀ := X.base) I.ok.mod.kin hk ?_ (by rfl) (by rfl)
  show wpAny _ _ (spliced ((false, eval (.Lambda params body scope lpos) X.env) :: backTo pos (starEach [] X.env))) _ _ s
  refine Calls.spliced_cons (lam_eval I TB hcode hpar hmT hu hT (L.has I.ok) fun f c' pm' ctv dV' doc' bs H1 s' I1 eN hf hfn hfr hco hbs hbn => ?_)
  refine Calls.spliced_nil ⟨I1.kIn, ?_⟩
  have rc : codeAny (model X.prog X.w) X.A (.call (.ref g) ⟨[.ref f], []⟩) (CR C8.CX0 X.stack X.prog X.w H1 s' Q C8.E0) s' := by
    refine run_ofS (N := Ng) (ps := [a]) (us := [.ref f]) (vs := [.ref f]) lk hcg Sg hr I1.env0 (hb s' [.ref f] I1.kIn rfl) (.cons rfl .nil) rfl fun hr' => ?_
    obtain ⟨t', ht', hq'⟩ := hG f c' s' H1 Q (fun E H' Q' => t E σ H' Q') (fun W pn xe p1 p2 tk => lam_act (i := 0) I1 L hbs hf hfn hfr hbn tk hr' (fun A outer s H E gd hr2 => hbody A outer s H E f c' gd hr2) hNg hva hd hcd) hco (h H1 eN)
    exact ⟨t', ht'.nox, hq'⟩
  refine wpAny_call (codeAny_mono rc fun r s2 hq => ?_)
  cases r with
  | error e => exact (show False from hq).elim
  | ok fl =>
    cases fl with
    | ret u => exact I1.after hq
    | _ => exact False.elim hq
end
end DP

/-! DP: the least and the greatest, counting, places, ranges as lists, two walks at once. -/
namespace DP
open PySem PySem.Spec PyProof.Rows L2 RZ
theorem foldl_max (r : List Int) : ∀ n : Int, (r.foldl max n = n ∨ r.foldl max n ∈ r) ∧ n ≤ r.foldl max n ∧ ∀ y ∈ r, y ≤ r.foldl max n := by
  induction r with
  | nil => exact fun n => ⟨.inl rfl, Int.le_refl _, fun y z => by cases z⟩
  | cons a r ih =>
    intro n
    obtain ⟨h1, h2, h3⟩ := ih (max n a)
    rw [List.foldl_cons]
    refine ⟨?_, by omega, fun y hy => ?_⟩
    · rcases h1 with h1 | h1
      · rw [h1]
        by_cases h : n ≤ a
        · right; rw [Int.max_eq_right h]; exact List.mem_cons_self
        · left; rw [Int.max_eq_left (by omega)]
      · exact .inr (List.mem_cons_of_mem _ h1)
    · rcases List.mem_cons.mp hy with rfl | hy
      · omega
      · exact h3 y hy
theorem foldl_min (r : List Int) : ∀ n : Int, (r.foldl min n = n ∨ r.foldl min n ∈ r) ∧ r.foldl min n ≤ n ∧ ∀ y ∈ r, r.foldl min n ≤ y := by
  induction r with
  | nil => exact fun n => ⟨.inl rfl, Int.le_refl _, fun y z => by cases z⟩
  | cons a r ih =>
    intro n
    obtain ⟨h1, h2, h3⟩ := ih (min n a)
    rw [List.foldl_cons]
    refine ⟨?_, by omega, fun y hy => ?_⟩
    · rcases h1 with h1 | h1
      · rw [h1]
        by_cases h : n ≤ a
        · left; rw [Int.min_eq_left h]
        · right; rw [Int.min_eq_right (by omega)]; exact List.mem_cons_self
      · exact .inr (List.mem_cons_of_mem _ h1)
    · rcases List.mem_cons.mp hy with rfl | hy
      · omega
      · exact h3 y hy
theorem maxI_is {ns : List Int} {m : Int} (h : m ∈ ns) (u : ∀ y ∈ ns, y ≤ m) : m = maxI ns := by
  cases ns with
  | nil => cases h
  | cons n r =>
    obtain ⟨h1, h2, h3⟩ := foldl_max r n
    show m = r.foldl max n
    apply Int.le_antisymm
    · rcases List.mem_cons.mp h with rfl | h
      · exact h2
      · exact h3 m h
    · rcases h1 with h1 | h1
      · rw [h1]; exact u n List.mem_cons_self
      · exact u _ (List.mem_cons_of_mem _ h1)
theorem minI_is {ns : List Int} {m : Int} (h : m ∈ ns) (u : ∀ y ∈ ns, m ≤ y) : m = minI ns := by
  cases ns with
  | nil => cases h
  | cons n r =>
    obtain ⟨h1, h2, h3⟩ := foldl_min r n
    show m = r.foldl min n
    apply Int.le_antisymm
    · rcases h1 with h1 | h1
      · rw [h1]; exact u n List.mem_cons_self
      · exact u _ (List.mem_cons_of_mem _ h1)
    · rcases List.mem_cons.mp h with rfl | h
      · exact h2
      · exact h3 m h
variable [Tb]
section
variable {G : Gm} {k : Nat} {sc raw : Scope} {N : List Str} {X : Cx} {pos : Pos}
theorem ext_bd {α : Type} {b : Bool} {r : R α} {a : α} (h : (if b = true then R.bad else r) = .ok a) : b = false ∧ r = .ok a := by
  cases b
  · exact ⟨rfl, h⟩
  · cases h
theorem maxD (hc : X.calm = true) : CallR X (.builtin "max") (rB X.K (biD .max)) := by
  intro pins s σ H vs us Q I r h
  obtain ⟨F, x, dx, d, rfl, hs, hx, e, q⟩ := h
  cases dx with
  | list ds =>
    obtain ⟨ns, e1, e⟩ := ok_bind (show (ints? ds >>= fun ns => if ns.isEmpty = true then R.bad else R.ok (PyData.int (maxI ns))) = .ok d from e)
    obtain ⟨e2, e⟩ := ext_bd e
    cases e
    obtain ⟨a, xs, rfl, h1, h2, h3⟩ := hx.lst hs
    rw [ints?_eq e1] at h2
    rw [h2.intsV] at h1
    refine cr_max hc pins s σ H _ us Q I r ⟨a, ns, rfl, h1.sq, ?_, fun m hm hu => by rw [maxI_is hm hu]; exact q.pure hs (.int _)⟩
    cases ns with
    | nil => cases e2
    | cons _ _ => exact Nat.succ_pos _
  | _ => cases e
theorem minD (hc : X.calm = true) : CallR X (.builtin "min") (rB X.K (biD .min)) := by
  intro pins s σ H vs us Q I r h
  obtain ⟨F, x, dx, d, rfl, hs, hx, e, q⟩ := h
  cases dx with
  | list ds =>
    obtain ⟨ns, e1, e⟩ := ok_bind (show (ints? ds >>= fun ns => if ns.isEmpty = true then R.bad else R.ok (PyData.int (minI ns))) = .ok d from e)
    obtain ⟨e2, e⟩ := ext_bd e
    cases e
    obtain ⟨a, xs, rfl, h1, h2, h3⟩ := hx.lst hs
    rw [ints?_eq e1] at h2
    rw [h2.intsV] at h1
    refine cr_min hc pins s σ H _ us Q I r ⟨a, ns, rfl, h1.sq, ?_, fun m hm hu => by rw [minI_is hm hu]; exact q.pure hs (.int _)⟩
    cases ns with
    | nil => cases e2
    | cons _ _ => exact Nat.succ_pos _
  | _ => cases e
/-- max(a, b), min(a, b) -/
theorem s_b2 (c : Here G k sc raw N X) {mx : Bool} {x : Str} {px : Pos} {a b : E} {a' b' : Expr} (hx : x = b2Name mx) (hg : glOk sc x = true) (hp : plain a' = true) (hp2 : plain b' = true) (ha : PE X a' (RdE X (ev G a))) (hb : PE X b' (RdE X (ev G b))) :
    PE X (.Call (.Name x px) [a', b'] [] pos) (RdE X (ev G (.b2 mx a b))) := by
  obtain ⟨g1, g2, g3⟩ := gl_of c hg
  have hst2 : starEach [b'] X.env = [(false, eval b' X.env)] := star_of (plain_star hp2)
  have hst : starEach [a', b'] X.env = (false, eval a' X.env) :: starEach [b'] X.env := star_of (plain_star hp)
  have hpl : (backTo pos (starEach [b'] X.env)).any (·.1) = false := by rw [hst2]; rfl
  subst hx
  have key : ∀ {i j : Int} {σ : L2.St} {H F2 : Hp} {ρ2 : Slots} {Q : VK}, EnvOk X.K F2 H σ ρ2 → Fin X.K (xq X) (rOpd X.K σ) (Own σ ρ2) F2 H σ Q (.ok (.val (.int (if (if mx = true then decide (i < j) else decide (j < i)) = true then j else i)), ρ2)) →
      Q (.int (if (if mx = true then decide (i < j) else decide (j < i)) = true then j else i)) H := fun en q => q.now en (o := .val (.int _)) (Rp.int _)
  have red : ∀ {σ : L2.St} {H : Hp} {Q : VK} {T : V → V → Hp → Prop}, RdE X (ev G (.b2 mx a b)) σ H Q → (∀ i j H2, Q (.int (if (if mx = true then decide (i < j) else decide (j < i)) = true then j else i)) H2 → T (.int i) (.int j) H2) → RdE X (ev G a) σ H fun x H1 => RdE X (ev G b) σ H1 fun y H2 => T x y H2 := by
    intro σ H Q T q hT
    refine two_ops (fa := ev G a) (fb := ev G b) (g := fun ρ x y => asI x >>= fun i => asI y >>= fun j => .ok (.val (.int (if (if mx = true then decide (i < j) else decide (j < i)) = true then j else i)), ρ)) q fun x y F H2 ρ dx dy en wx wy q => ?_
    obtain ⟨i, ei, q⟩ := q.ok
    obtain ⟨j, ej, q⟩ := q.ok
    cases dx <;> first | (cases ei; done) | skip
    cases dy <;> first | (cases ej; done) | skip
    cases ei
    cases ej
    rw [wx.int, wy.int]
    exact hT _ _ _ (key en q)
  cases mx with
  | true =>
    refine (pe_callB (call_max2 c.calm) g1 (blt_of c (by decide)) (by decide +kernel) (pa_cons ha (pa_cons hb pa_nil hst2) hst) g3 g2 hst hpl).imp fun σ H Q q => red q fun i j H2 q => ⟨i, j, rfl, ?_⟩
    simpa using q
  | false =>
    refine (pe_callB (call_min2 c.calm) g1 (blt_of c (by decide)) (by decide +kernel) (pa_cons ha (pa_cons hb pa_nil hst2) hst) g3 g2 hst hpl).imp fun σ H Q q => red q fun i j H2 q => ⟨i, j, rfl, ?_⟩
    simpa using q
/-! ### counting, places -/
def rM (K : Frag) (f : D → D → R D) : V → List V → Hp → VK → Prop := fun x xs H Q => ∃ F y dx dy d, xs = [y] ∧ Same F H ∧ Wk K F H x dx ∧ Wk K F H y dy ∧ f dx dy = .ok d ∧ Res K F H Q d
/-- a flat value, as it is told -/
def vOf : Value → V
  | .bool b => .bl b
  | .int i _ => .int i
  | .str x _ => .str x
  | _ => .non
omit [Tb] in
theorem vOf_eq {z : V} {u : Value} (f : flatV z = true) (r : RelV z u) : vOf u = z := by
  cases z <;> first | (cases f; done) | skip
  · cases (show u = Value.none from r); rfl
  · cases (show u = Value.bool _ from r); rfl
  · obtain ⟨t, rfl⟩ := r; rfl
  · obtain ⟨t, rfl⟩ := r; rfl
omit [Tb] in
theorem cnt_vals {y : V} : ∀ {zs : List V} {its : List Value}, Vals zs its → zs.all flatV = true → its.countP (fun u => eqV (vOf u) y) = zs.countP (fun z => eqV z y)
  | [], _, .nil, _ => rfl
  | z :: zs, u :: its, .cons r rs, f => by
    obtain ⟨f1, f2⟩ := band (show (flatV z && zs.all flatV) = true from f)
    rw [List.countP_cons, List.countP_cons, cnt_vals rs f2, vOf_eq f1 r]
theorem cnt_data {y : V} {dy : D} {K : Frag} {F H F' H' : Hp} (hy : Wk K F' H' y dy) (fy : flat dy = true) : ∀ {zs : List V} {ds : List D}, Rps K F zs ds → ds.all flat = true → zs.countP (fun z => eqV z y) = ds.countP (fun z => PyData.eqv z dy)
  | _, _, .nil, _ => rfl
  | _ :: _, _ :: _, .cons r rs, f => by
    obtain ⟨f1, f2⟩ := band f
    rw [List.countP_cons, List.countP_cons, cnt_data (H := H) hy fy rs f2, eqV_eqv hy (H' := H) (Or.inl r) fy f1]
omit [Tb] in
theorem at_vals {A : Around} {s : Shared} {y : V} {w : Value} (ry : RelV y w) (fy : flatV y = true) : ∀ {zs : List V} {its : List Value}, Vals zs its → zs.all flatV = true → ∀ u ∈ its, SeqAt.EqAt A s u w (eqV (vOf u) y)
  | _, _, .nil, _, u, hu => by cases hu
  | z :: zs, v :: its, .cons r rs, f, u, hu => by
    obtain ⟨f1, f2⟩ := band (show (flatV z && zs.all flatV) = true from f)
    rcases List.mem_cons.mp hu with rfl | hu
    · rw [vOf_eq f1 r]; exact eqAt_V r ry f1 fy
    · exact at_vals ry fy rs f2 u hu
/-- by values -/
def rCntV (K : Frag) : V → List V → Hp → VK → Prop := fun x xs H Q => ∃ (a : Addr) (zs : List V) (y : V), x = .ref a ∧ xs = [y] ∧ SqL K H a zs ∧ flatV y = true ∧ zs.all flatV = true ∧ Q (.int (zs.countP (fun z => eqV z y) : Nat)) H
omit [Tb] in
theorem cntV : MtR X "list.count" (rCntV X.K) := by
  intro pins s σ H x xs v us Q I rx rxs h
  obtain ⟨a, zs, y, rfl, rfl, h1, fy, fz, q⟩ := h
  cases rx
  obtain ⟨u, rfl, ru⟩ := rxs.one
  obtain ⟨its, rv, ⟨⟨cls, dd, data, sl⟩, n, ho, hc, hdn, hd⟩, hlen⟩ := I.list h1
  simp only at hc hd
  subst hc hd
  refine call_meets PySem.F.slot_list_count ⟨_, ho, rfl⟩ PySem.F.entry_list_count (PySem.F.args_list_count_2 _ _)
    (SeqAt.list_countAt a its.toArray n dd sl u (fun z => eqV (vOf z) y)) ⟨ho, fun z hz => at_vals ru fy rv fz z (by simpa using hz), ?_⟩
  have ec : its.toArray.toList.countP (fun z => eqV (vOf z) y) = zs.countP (fun z => eqV z y) := by rw [show its.toArray.toList = its from rfl, cnt_vals rv fz]
  refine ⟨.int (zs.countP (fun z => eqV z y) : Nat), H, I.tok _, ⟨s.toks, ?_⟩, q⟩
  show Value.int ((its.toArray.toList.countP (fun z => eqV (vOf z) y) : Nat) : Int) s.toks = _
  rw [ec]
theorem cntM : MtR X "list.count" (rM X.K (mtD .cnt)) := by
  intro pins s σ H x xs v us Q I rx rxs h
  obtain ⟨F, y, dx, dy, d, rfl, hs, hx, hy, e, q⟩ := h
  cases dx with
  | list ds =>
    have e : (if (flat dy && ds.all flat) = true then R.ok (PyData.int (ds.countP (fun z => PyData.eqv z dy) : Nat)) else .bad) = .ok d := by cases dy <;> exact e
    split at e
    rotate_left
    · cases e
    rename_i hf
    obtain ⟨f1, f2⟩ := band hf
    cases e
    obtain ⟨a, zs, rfl, h1, h2, h3⟩ := hx.lst hs
    have fz := (inV_any hy f1 h2 f2).1
    exact cntV pins s σ H _ _ v us Q I rx rxs ⟨a, zs, y, rfl, rfl, h1.sq, flat_rp hy f1, fz, by rw [cnt_data (H := H) hy f1 h2 f2]; exact q.pure hs (.int _)⟩
  | _ => cases dy <;> cases e
theorem idxM : MtR X "list.index" (rM X.K (mtD .idx)) := by
  intro pins s σ H x xs v us Q I rx rxs h
  obtain ⟨F, y, dx, dy, d, rfl, hs, hx, hy, e, q⟩ := h
  cases dx with
  | list ds =>
    have e : (if (flat dy && ds.all flat) = true then (match ds.findIdx? (fun z => PyData.eqv z dy) with | some j => R.ok (PyData.int (j : Nat)) | none => .bad) else .bad) = .ok d := by cases dy <;> exact e
    split at e
    rotate_left
    · cases e
    rename_i hf
    obtain ⟨f1, f2⟩ := band hf
    split at e
    rotate_left
    · cases e
    rename_i j hj
    cases e
    obtain ⟨a, zs, rfl, h1, h2, h3⟩ := hx.lst hs
    obtain ⟨hl, hp, hm⟩ := List.findIdx?_eq_some_iff_getElem.mp hj
    have hl2 := h2.len
    have fz := (inV_any hy f1 h2 f2).1
    have at_ : ∀ (m : Nat) (hm : m < ds.length) (hm2 : m < zs.length), eqV zs[m] y = PyData.eqv ds[m] dy := fun m hm hm2 => by
      obtain ⟨v, e1, e2⟩ := h2.get (List.getElem?_eq_getElem hm)
      rw [List.getElem?_eq_getElem hm2] at e1
      rw [Option.some.inj e1]
      exact eqV_eqv hy (H' := H) (Or.inl e2) f1 (List.all_eq_true.mp f2 _ (List.getElem_mem hm))
    refine mt_index pins s σ H _ _ v us Q I rx rxs ⟨a, zs, y, j, zs[j]'(by omega), rfl, rfl, h1.sq, flat_rp hy f1, fz, List.getElem?_eq_getElem (by omega), ?_, fun m z' hm2 hz => ?_, q.pure hs (.int _)⟩
    · rw [at_ j hl (by omega)]; exact hp
    · have hml : m < zs.length := (List.getElem?_eq_some_iff.mp hz).1
      rw [List.getElem?_eq_getElem hml] at hz
      rw [← Option.some.inj hz, at_ m (by omega) hml]
      have := hm m hm2
      simpa using this
  | _ => cases dy <;> cases e
theorem base_of {a : Expr} {m : Str} {env : PySem.Env} (h : baseOk a = true) : attributeBase a m env (eval a env) = eval a env := by
  cases a <;> first | rfl | cases h
theorem s_mth (c : Here G k sc raw N X) {mo : Mo} {a b : E} {a' b' : Expr} {m : Str} {apos cpos : Pos} (hm : m = moName mo) (hbs : baseOk a' = true) (hline : (apos.endLine == cpos.line) = true) (hp2 : plain b' = true) (ha : PE X a' (RdE X (ev G a))) (hb : PE X b' (RdE X (ev G b))) :
    PE X (.Call (.Attribute a' m apos) [b'] [] cpos) (RdE X (ev G (.mth mo a b))) := by
  subst hm
  have hst : starEach [b'] X.env = [(false, eval b' X.env)] := star_of (plain_star hp2)
  have red : ∀ {σ : L2.St} {H : Hp} {Q : VK}, RdE X (ev G (.mth mo a b)) σ H Q → tBM X.K "list" (rM X.K (mtD mo)) (RdE X (ev G a)) (tCons (RdE X (ev G b)) tNil) σ H Q := by
    intro σ H Q q
    obtain ⟨F, ρ, en, q⟩ := q
    have q : Fin X.K (xq X) (rOpd X.K σ) (Own σ ρ) F H σ Q (ev G a ρ >>= fun p => peek p.2 p.1 >>= fun x0 => isL x0 >>= fun _ => ev G b p.2 >>= fun q => peek q.2 p.1 >>= fun x => peek q.2 q.1 >>= fun y => mtD mo x y >>= fun d => .ok (.val d, q.2)) := q
    refine ⟨F, ρ, en, q.bind.mono fun x H1 q => ?_⟩
    obtain ⟨F1, ρ1, oa, e1, en1, r1, q⟩ := q
    obtain ⟨d0, e0, q⟩ := q.ok
    obtain ⟨_, ei, q⟩ := q.ok
    have w0 := peek_wk en1 r1 e0
    cases d0 <;> first | (cases ei; done) | skip
    obtain ⟨ad, zs, hxe, h1, _⟩ := w0.lst en1.sub
    refine ⟨by rw [hxe]; exact .inl ⟨rfl, zs, h1.sq⟩, F1, ρ1, en1, q.bind.mono fun y H2 q => ?_⟩
    obtain ⟨F2, ρ2, ob, e2, en2, r2, q⟩ := q
    obtain ⟨dx, ex, q⟩ := q.ok
    obtain ⟨dy, ey, q⟩ := q.ok
    obtain ⟨d, ed, q⟩ := q.ok
    exact ⟨F2, y, dx, dy, d, rfl, en2.sub, peek_wk en2 (r1.mono e2.f) ex, peek_wk en2 r2 ey, ed, q.res en2⟩
  cases mo with
  | cnt => exact (pe_bm PySem.F.plainAttrs_list PySem.F.slot_list_count PySem.F.type_list_count cntM ha (pa_cons hb pa_nil hst) (base_of hbs) (by rw [hst]; rfl) hline hst (by rfl)).imp fun σ H Q q => red q
  | idx => exact (pe_bm PySem.F.plainAttrs_list PySem.F.slot_list_index PySem.F.type_list_index idxM ha (pa_cons hb pa_nil hst) (base_of hbs) (by rw [hst]; rfl) hline hst (by rfl)).imp fun σ H Q q => red q
/-! ### a range as a list -/
theorem rps_map {K : Frag} {F : Hp} {f : Nat → V} {g : Nat → D} (h : ∀ i, Rp K F (f i) (g i)) : ∀ l : List Nat, Rps K F (l.map f) (l.map g)
  | [] => .nil
  | i :: l => .cons (h i) (rps_map h l)
theorem rps_rg {K : Frag} {F : Hp} (a b : Int) : Rps K F (rgV a b) (rngD a b) := by
  unfold rgV rngD
  exact rps_map (fun i => .int _) _
theorem rgOk_of {i j : Int} (h : (rngOk i j && sz (j - i).toNat) = true) : RgOk i j ∧ (rgV i j).length ≤ sizeLine := by
  obtain ⟨h1, h2⟩ := band h
  obtain ⟨a1, a2, a3, a4⟩ := rngOk_of h1
  have h2 := sz_le h2
  refine ⟨⟨a1, a2, a3, a4, ?_⟩, by rw [rgV_length]; exact h2⟩
  rw [sizeLine_eq] at h2
  omega
theorem r_asc {α β γ : Type} (x : R α) (f : α → R β) (g : β → R γ) : ((x >>= f) >>= g) = (x >>= fun a => f a >>= g) := by cases x <;> rfl
theorem s_lrg1 (c : Here G k sc raw N X) {a : E} {a' : Expr} {x y : Str} {px py p2 : Pos} (hx : x = ("list" : Str)) (hg : glOk sc x = true) (hy : y = ("range" : Str)) (hgy : glOk sc y = true) (hp : plain a' = true) (ha : PE X a' (RdE X (ev G a))) :
    PE X (.Call (.Name x px) [.Call (.Name y py) [a'] [] p2] [] pos) (RdN X (ev G (.lrg (.rng a)))) := by
  subst hx hy
  obtain ⟨g1, g2, g3⟩ := gl_of c hg
  obtain ⟨k1, k2, k3⟩ := gl_of c hgy
  have hst : starEach [a'] X.env = [(false, eval a' X.env)] := star_of (plain_star hp)
  refine (pe_listRg c.calm g1 (blt_of c (by decide)) (prg_1 k1 (blt_of c (by decide)) ha hst) rfl).imp fun σ H Q q => ?_
  obtain ⟨F, ρ, en, q⟩ := q
  have q : FinN X (Own σ ρ) F H σ Q ((ev G a ρ >>= fun p => peek p.2 p.1 >>= fun x => asI x >>= fun i => if (rngOk 0 i && sz i.toNat) = true then R.ok (rngD 0 i, p.2) else .bad) >>= fun p => .ok (.val (.list p.1), p.2)) := q
  rw [r_asc] at q
  refine ⟨F, ρ, en, q.bind.mono fun x H1 q => ?_⟩
  obtain ⟨F1, ρ1, o, e1, en1, r1, q⟩ := q
  rw [r_asc] at q
  obtain ⟨d, ed, q⟩ := q.ok
  rw [r_asc] at q
  obtain ⟨i, ei, q⟩ := q.ok
  have w := peek_wk en1 r1 ed
  cases d <;> first | (cases ei; done) | skip
  cases ei
  rw [w.int]
  have q : FinN X (Own σ ρ1) F1 H1 σ Q ((if (rngOk 0 i && sz i.toNat) = true then R.ok (rngD 0 i, ρ1) else .bad) >>= fun p => .ok (.val (.list p.1), p.2)) := q
  by_cases hz : (rngOk 0 i && sz i.toNat) = true
  · rw [if_pos hz] at q
    have hz : (rngOk 0 i && sz (i - 0).toNat) = true := by rw [Int.sub_zero]; exact hz
    obtain ⟨z1, z2⟩ := rgOk_of hz
    exact ⟨i, rfl, z1, fun qa hq => q qa _ F1 H1 Ext.refl en1 (fun _ z => z) hq (rps_rg 0 i) z2⟩
  · rw [if_neg hz] at q; exact q.elim
theorem s_lrg2 (c : Here G k sc raw N X) {a b : E} {a' b' : Expr} {x y : Str} {px py p2 : Pos} (hx : x = ("list" : Str)) (hg : glOk sc x = true) (hy : y = ("range" : Str)) (hgy : glOk sc y = true) (hp : plain a' = true) (hp2 : plain b' = true) (ha : PE X a' (RdE X (ev G a))) (hb : PE X b' (RdE X (ev G b))) :
    PE X (.Call (.Name x px) [.Call (.Name y py) [a', b'] [] p2] [] pos) (RdN X (ev G (.lrg (.rng2 a b)))) := by
  subst hx hy
  obtain ⟨g1, g2, g3⟩ := gl_of c hg
  obtain ⟨k1, k2, k3⟩ := gl_of c hgy
  have hst2 : starEach [b'] X.env = [(false, eval b' X.env)] := star_of (plain_star hp2)
  have hst : starEach [a', b'] X.env = (false, eval a' X.env) :: starEach [b'] X.env := star_of (plain_star hp)
  have hpl : (backTo p2 (starEach [b'] X.env)).any (·.1) = false := by rw [hst2]; rfl
  refine (pe_listRg c.calm g1 (blt_of c (by decide)) (prg_2 k1 (blt_of c (by decide)) ha hb hst hst2 hpl) rfl).imp fun σ H Q q => ?_
  obtain ⟨F, ρ, en, q⟩ := q
  have q : FinN X (Own σ ρ) F H σ Q ((ev G a ρ >>= fun p => ev G b p.2 >>= fun q => peek q.2 p.1 >>= fun x => peek q.2 q.1 >>= fun y => asI x >>= fun i => asI y >>= fun j =>
      if (rngOk i j && sz (j - i).toNat) = true then R.ok (rngD i j, q.2) else .bad) >>= fun p => .ok (.val (.list p.1), p.2)) := q
  rw [r_asc] at q
  refine ⟨F, ρ, en, q.bind.mono fun x H1 q => ?_⟩
  obtain ⟨F1, ρ1, o, e1, en1, r1, q⟩ := q
  rw [r_asc] at q
  refine ⟨F1, ρ1, en1, q.bind.mono fun y H2 q => ?_⟩
  obtain ⟨F2, ρ2, o2, e2, en2, r2, q⟩ := q
  rw [r_asc] at q
  obtain ⟨d, ed, q⟩ := q.ok
  rw [r_asc] at q
  obtain ⟨d2, ed2, q⟩ := q.ok
  rw [r_asc] at q
  obtain ⟨i, ei, q⟩ := q.ok
  rw [r_asc] at q
  obtain ⟨j, ej, q⟩ := q.ok
  have w := peek_wk en2 (r1.mono e2.f) ed
  have w2 := peek_wk en2 r2 ed2
  cases d <;> first | (cases ei; done) | skip
  cases d2 <;> first | (cases ej; done) | skip
  cases ei
  cases ej
  rw [w.int, w2.int]
  have q : FinN X (Own σ ρ2) F2 H2 σ Q ((if (rngOk i j && sz (j - i).toNat) = true then R.ok (rngD i j, ρ2) else .bad) >>= fun p => .ok (.val (.list p.1), p.2)) := q
  by_cases hz : (rngOk i j && sz (j - i).toNat) = true
  · rw [if_pos hz] at q
    obtain ⟨z1, z2⟩ := rgOk_of hz
    exact ⟨i, j, rfl, rfl, z1, fun qa hq => q qa _ F2 H2 Ext.refl en2 (fun _ z => z) hq (rps_rg i j) z2⟩
  · rw [if_neg hz] at q; exact q.elim
theorem lrg_list {it : I} : ∀ ρ o ρ', ev G (.lrg it) ρ = .ok (o, ρ') → ∃ ds, o = .val (.list ds) := by
  intro ρ o ρ' e
  obtain ⟨p, e1, e⟩ := ok_bind (show (evI G it ρ >>= fun p => R.ok (Opd.val (.list p.1), p.2)) = .ok (o, ρ') from e)
  cases e
  exact ⟨_, rfl⟩
/-! ### two walks at once -/
theorem zip_get {xs ys : List D} {i : Nat} {d : D} (h : (List.zipWith (fun a b => PyData.tuple [a, b]) xs ys)[i]? = some d) : ∃ a b, xs[i]? = some a ∧ ys[i]? = some b ∧ d = .tuple [a, b] := by
  rw [List.getElem?_zipWith] at h
  cases ex : xs[i]? with
  | none => rw [ex] at h; simp at h
  | some a =>
    cases ey : ys[i]? with
    | none => rw [ex, ey] at h; simp at h
    | some b => rw [ex, ey] at h; exact ⟨a, b, rfl, rfl, (Option.some.inj h).symm⟩
theorem pair_at {K : Frag} {F H : Hp} {T : Addr} {x y : V} {a b : D} (s : Same F H) (hT : H T = none) (ha : Rp K F x a) (hb : Rp K F y b) :
    ∃ F', Ext (fun _ => False) F H F' (upd H T (.tup [x, y])) ∧ Same F' (upd H T (.tup [x, y])) ∧ Rp K F' (.ref T) (.tuple [a, b]) := by
  have e : Ext (fun _ => False) F H (upd F T (.tup [x, y])) (upd H T (.tup [x, y])) := Ext.laid s hT
  exact ⟨_, e, sub_upd s hT, .tup (.inl (.inl upd_same)) (.cons (ha.mono e.f) (.cons (hb.mono e.f) .nil)) (by show 2 ≤ sizeLine; rw [sizeLine_eq]; omega)⟩
theorem gives_zip {K : Frag} {F : Hp} {a b : Addr} {xs ys : List V} {ds es : List D} (h : LsK K F a xs) (h2 : LsK K F b ys) (r : Rps K F xs ds) (r2 : Rps K F ys es) (z : xs.length ≤ sizeLine) : Gives K (Itz K a b) F (List.zipWith (fun a b => PyData.tuple [a, b]) ds es) := by
  have hl := r.len
  have hl2 := r2.len
  have hz : (List.zipWith (fun a b => PyData.tuple [a, b]) ds es).length = min ds.length es.length := List.length_zipWith
  refine ⟨by omega, fun i H hi s => ?_, fun i F1 H x H' s0 s y d hd => ?_, fun i H hi s => ⟨xs, ys, (Same.lsk s h).sq, (Same.lsk s h2).sq, by omega⟩⟩
  · exact ⟨xs, ys, xs[i]'(by omega), ys[i]'(by omega), (Same.lsk s h).sq, (Same.lsk s h2).sq, by simp, by simp⟩
  · obtain ⟨T, x, y', rfl, hT, rfl, k1, k2⟩ := y
    obtain ⟨da, db, ea, eb, rfl⟩ := zip_get hd
    obtain ⟨v, e1, e2⟩ := r.get ea
    obtain ⟨w, f1, f2⟩ := r2.get eb
    have e3 := k1 xs (Same.lsk (s0.trans s) h).sq
    have f3 := k2 ys (Same.lsk (s0.trans s) h2).sq
    rw [e1] at e3
    rw [f1] at f3
    obtain rfl := Option.some.inj e3
    obtain rfl := Option.some.inj f3
    exact pair_at s hT (e2.mono s0) (f2.mono s0)
theorem gives_zipT {K : Frag} {F : Hp} {a b : Addr} {xs ys : List V} {ds es : List D} (h : SqT K F a xs) (h2 : SqT K F b ys) (r : Rps K F xs ds) (r2 : Rps K F ys es) (z : xs.length ≤ sizeLine) : Gives K (ItzT K a b) F (List.zipWith (fun a b => PyData.tuple [a, b]) ds es) := by
  have hl := r.len
  have hl2 := r2.len
  have hz : (List.zipWith (fun a b => PyData.tuple [a, b]) ds es).length = min ds.length es.length := List.length_zipWith
  refine ⟨by omega, fun i H hi s => ?_, fun i F1 H x H' s0 s y d hd => ?_, fun i H hi s => ⟨xs, ys, Same.seqT s h, Same.seqT s h2, by omega⟩⟩
  · exact ⟨xs, ys, xs[i]'(by omega), ys[i]'(by omega), Same.seqT s h, Same.seqT s h2, by simp, by simp⟩
  · obtain ⟨T, x, y', rfl, hT, rfl, k1, k2⟩ := y
    obtain ⟨da, db, ea, eb, rfl⟩ := zip_get hd
    obtain ⟨v, e1, e2⟩ := r.get ea
    obtain ⟨w, f1, f2⟩ := r2.get eb
    have e3 := k1 xs (Same.seqT (s0.trans s) h)
    have f3 := k2 ys (Same.seqT (s0.trans s) h2)
    rw [e1] at e3
    rw [f1] at f3
    obtain rfl := Option.some.inj e3
    obtain rfl := Option.some.inj f3
    exact pair_at s hT (e2.mono s0) (f2.mono s0)
theorem enm_get {xs : List D} {i : Nat} {d : D} (h : (enmD xs)[i]? = some d) : ∃ a, xs[i]? = some a ∧ d = .tuple [.int (i : Nat), a] := by
  unfold enmD at h
  rw [List.getElem?_mapIdx] at h
  cases ex : xs[i]? with
  | none => rw [ex] at h; cases h
  | some a => rw [ex] at h; exact ⟨a, rfl, (Option.some.inj h).symm⟩
theorem gives_enm {K : Frag} {F : Hp} {a : Addr} {xs : List V} {ds : List D} (h : LsK K F a xs) (r : Rps K F xs ds) (z : xs.length ≤ sizeLine) : Gives K (Ite K a) F (enmD ds) := by
  have hl := r.len
  have hz : (enmD ds).length = ds.length := List.length_mapIdx
  refine ⟨by omega, fun i H hi s => ?_, fun i F1 H x H' s0 s y d hd => ?_, fun i H hi s => ⟨xs, (Same.lsk s h).sq, by omega⟩⟩
  · exact ⟨xs, xs[i]'(by omega), (Same.lsk s h).sq, by simp⟩
  · obtain ⟨T, x, rfl, hT, rfl, k1⟩ := y
    obtain ⟨da, ea, rfl⟩ := enm_get hd
    obtain ⟨v, e1, e2⟩ := r.get ea
    have e3 := k1 xs (Same.lsk (s0.trans s) h).sq
    rw [e1] at e3
    obtain rfl := Option.some.inj e3
    exact pair_at s hT (.int _) (e2.mono s0)
theorem i_zip (c : Here G k sc raw N X) {a b : E} {a' b' tg : Expr} {x : Str} {px : Pos} (hx : x = ("zip" : Str)) (hg : glOk sc x = true) (hp : plain a' = true) (hp2 : plain b' = true) (ha : PE X a' (RdE X (ev G a))) (hb : PE X b' (RdE X (ev G b))) (ht : isTupE tg = true) :
    PI X tg (.Call (.Name x px) [a', b'] [] pos) (RdI X (evI G (.zip a b))) := by
  subst hx
  obtain ⟨g1, g2, g3⟩ := gl_of c hg
  have hst2 : starEach [b'] X.env = [(false, eval b' X.env)] := star_of (plain_star hp2)
  have hst : starEach [a', b'] X.env = (false, eval a' X.env) :: starEach [b'] X.env := star_of (plain_star hp)
  have hpl : (backTo pos (starEach [b'] X.env)).any (·.1) = false := by rw [hst2]; rfl
  cases tg <;> first | (cases ht; done) | skip
  refine (pi_zipA g1 (blt_of c (by decide)) (pa_cons ha (pa_cons hb pa_nil hst2) hst) hst hpl).imp fun σ H Q q => ?_
  obtain ⟨F, ρ, en, q⟩ := q
  have q : Fin X.K (xq X) (rGiv X.K σ) (Own σ ρ) F H σ Q (ev G a ρ >>= fun p => keep p.1 >>= fun x => ev G b p.2 >>= fun q => keep q.1 >>= fun y => zipD x y >>= fun ds => .ok (ds, q.2)) := q
  refine ⟨F, ρ, en, q.bind.mono fun x H1 q => ?_⟩
  obtain ⟨F1, ρ1, o, e1, en1, r1, q⟩ := q
  obtain ⟨d, ed, q⟩ := q.ok
  refine ⟨F1, ρ1, en1, q.bind.mono fun y H2 q => ?_⟩
  obtain ⟨F2, ρ2, o2, e2, en2, r2, q⟩ := q
  obtain ⟨d2, ed2, q⟩ := q.ok
  obtain ⟨ds, es, q⟩ := q.ok
  have r1 := (keep_rp r1 ed).mono e2.f
  have r2 := keep_rp r2 ed2
  cases d with
  | list xs =>
    cases d2 with
    | list ys =>
      cases es
      cases r1 with
      | lst h1 h2 h3 =>
        cases r2 with
        | lst k1 k2 k3 => exact ⟨_, _, _, _, rfl, .inl ⟨(Same.lsk en2.sub h1).sq, (Same.lsk en2.sub k1).sq, q.nowG en2 (v := Itz X.K _ _) (gives_zip h1 k1 h2 k2 h3)⟩⟩
    | _ => cases es
  | tuple xs =>
    cases d2 with
    | tuple ys =>
      cases es
      cases r1 with
      | tup h1 h2 h3 =>
        cases r2 with
        | tup k1 k2 k3 => exact ⟨_, _, _, _, rfl, .inr ⟨Same.seqT en2.sub h1, Same.seqT en2.sub k1, q.nowG en2 (v := ItzT X.K _ _) (gives_zipT h1 k1 h2 k2 h3)⟩⟩
    | _ => cases es
  | _ => cases d2 <;> cases es
theorem i_enm (c : Here G k sc raw N X) {a : E} {a' tg : Expr} {x : Str} {px : Pos} (hx : x = ("enumerate" : Str)) (hg : glOk sc x = true) (hp : plain a' = true) (ha : PE X a' (RdE X (ev G a))) (ht : isTupE tg = true) :
    PI X tg (.Call (.Name x px) [a'] [] pos) (RdI X (evI G (.enm a))) := by
  subst hx
  obtain ⟨g1, g2, g3⟩ := gl_of c hg
  have hst : starEach [a'] X.env = [(false, eval a' X.env)] := star_of (plain_star hp)
  cases tg <;> first | (cases ht; done) | skip
  refine (pi_enum g1 (blt_of c (by decide)) (pa_cons ha pa_nil hst) hst).imp fun σ H Q q => ?_
  obtain ⟨F, ρ, en, q⟩ := q
  have q : Fin X.K (xq X) (rGiv X.K σ) (Own σ ρ) F H σ Q (ev G a ρ >>= fun p => keep p.1 >>= fun x => enmC x >>= fun ds => .ok (ds, p.2)) := q
  refine ⟨F, ρ, en, q.bind.mono fun x H1 q => ?_⟩
  obtain ⟨F1, ρ1, o, e1, en1, r1, q⟩ := q
  obtain ⟨d, ed, q⟩ := q.ok
  obtain ⟨ds, es, q⟩ := q.ok
  have r := keep_rp r1 ed
  cases d with
  | list xs =>
    cases es
    cases r with
    | lst h1 h2 h3 => exact ⟨_, _, rfl, (Same.lsk en1.sub h1).sq, q.nowG en1 (v := Ite X.K _) (gives_enm h1 h2 h3)⟩
  | _ => cases es
end
end DP

/-! DP, part 12: the whole of expressions. -/
namespace DP
open PySem PySem.Spec PyProof.Rows L2 LamX
variable [Tb]
/-- what stands as a list just made -/
def isNewE : E → Bool
  | .lst _ => true
  | .comp _ _ _ _ => true
  | .comp2 _ _ _ _ _ _ _ => true
  | .bin o _ _ => isNewO o
  | .bi f _ => isNewB f
  | .lrg _ => true
  | _ => false
section
variable (G : Gm)
def SoundE (e : E) : Prop := ∀ {k : Nat} {sc raw : Scope} {N : List Str} {X : Cx} {e' : Expr}, Here G k sc raw N X → okE G sc raw N e e' = true → PE X e' (RdE X (ev G e)) ∧ (isT e = true → PT X e' (RdT X (evT G e))) ∧ (isNewE e = true → PE X e' (RdN X (ev G e)))
def SoundEs (es : Es) : Prop := ∀ {k : Nat} {sc raw : Scope} {N : List Str} {X : Cx} {es' : List Expr}, Here G k sc raw N X → (okEs G sc raw N es es' = true → PA X es' (RdA X (evs G es)) ∧ ∀ z ∈ es', plain z = true) ∧ (okB G sc raw N es es' = true → BoolsOk X G es es')
def SoundI (it : I) : Prop := ∀ {k : Nat} {sc raw : Scope} {N : List Str} {X : Cx} {e' : Expr}, Here G k sc raw N X → okI G sc raw N it e' = true → (∀ tg, itTg it tg = true → PI X tg e' (RdI X (evI G it))) ∧ plain e' = true
end
def okPt (G : Gm) (sc raw : Scope) (N : List Str) (lo : E) (lo' : Option Expr) : Bool := match lo' with | none => isNop lo | some e => !isNop lo && okE G sc raw N lo e
def okCd (G : Gm) (sc raw : Scope) (N : List Str) (cond : E) (ifs' : List Expr) : Bool := match ifs' with | [] => isYes cond | [c'] => isT cond && okE G sc raw N cond c' | _ => false
theorem nop_of {e : E} (h : isNop e = true) : e = .nop := by
  cases e <;> first | rfl | cases h
theorem yes_of {e : E} (h : isYes e = true) : e = .lit (.bl true) := by
  cases e <;> first | (cases h; done) | skip
  rename_i l
  cases l <;> first | (cases h; done) | skip
  rename_i b
  cases b <;> first | rfl | cases h
section
variable {G : Gm}
theorem okE_slc {sc raw : Scope} {N : List Str} {a lo hi : E} {a' : Expr} {lo' hi' : Option Expr} {p2 pos : Pos} : okE G sc raw N (.slc a lo hi) (.Subscript a' (.Slice lo' hi' none p2) pos) = (okE G sc raw N a a' && okPt G sc raw N lo lo' && okPt G sc raw N hi hi') := rfl
theorem okE_comp {sc raw : Scope} {N : List Str} {elt cond : E} {tg : Tg} {it : I} {elt' tg' it' : Expr} {ifs' : List Expr} {as : Int} {scope : Scope} {pos : Pos} : okE G sc raw N (.comp elt tg it cond) (.ListComp elt' [⟨tg', it', ifs', as⟩] scope pos) =
    (decide (as = 0) && (itTg it tg' && okI G sc raw N it it') && blkC N sc scope (ownOf N tg) && okTg (relS scope sc) scope N tg tg' && okE G (relS scope sc) scope N elt elt' && okCd G (relS scope sc) scope N cond ifs') := rfl
theorem okE_comp2 {sc raw : Scope} {N : List Str} {elt cond cond2 : E} {tg tg2 : Tg} {it it2 : I} {elt' tg' it' tg2' it2' : Expr} {ifs' ifs2' : List Expr} {as as2 : Int} {scope : Scope} {pos : Pos} : okE G sc raw N (.comp2 elt tg it cond tg2 it2 cond2) (.ListComp elt' [⟨tg', it', ifs', as⟩, ⟨tg2', it2', ifs2', as2⟩] scope pos) =
    (decide (as = 0) && decide (as2 = 0) && (itTg it tg' && okI G sc raw N it it') && blkC N sc scope (ownOf N tg ++ ownOf N tg2) && okTg (relS scope sc) scope N tg tg' && okTg (relS scope sc) scope N tg2 tg2' && (itTg it2 tg2' && okI G (relS scope sc) scope N it2 it2') && okE G (relS scope sc) scope N elt elt' && okCd G (relS scope sc) scope N cond ifs' && okCd G (relS scope sc) scope N cond2 ifs2') := rfl
theorem lst_list {es : Es} : ∀ ρ o ρ', ev G (.lst es) ρ = .ok (o, ρ') → ∃ ds, o = .val (.list ds) := by
  intro ρ o ρ' e
  obtain ⟨p, e1, e⟩ := ok_bind (show (evs G es ρ >>= fun p => if sz p.1.length = true then R.ok (Opd.val (.list p.1), p.2) else .bad) = .ok (o, ρ') from e)
  split at e
  · cases e; exact ⟨_, rfl⟩
  · cases e
theorem comp_list {elt cond : E} {tg : Tg} {it : I} : ∀ ρ o ρ', ev G (.comp elt tg it cond) ρ = .ok (o, ρ') → ∃ ds, o = .val (.list ds) := by
  intro ρ o ρ' e
  have e : (evI G it ρ >>= fun p => compLoop (turnC G elt tg cond) p.1 p.2 >>= fun q => R.ok (Opd.val (.list q.1), q.2)) = .ok (o, ρ') := e
  obtain ⟨p, e1, e⟩ := ok_bind e
  obtain ⟨r, e2, e⟩ := ok_bind e
  cases e
  exact ⟨_, rfl⟩
theorem comp2_list {elt cond cond2 : E} {tg tg2 : Tg} {it it2 : I} : ∀ ρ o ρ', ev G (.comp2 elt tg it cond tg2 it2 cond2) ρ = .ok (o, ρ') → ∃ ds, o = .val (.list ds) := by
  intro ρ o ρ' e
  rw [comp2_eq] at e
  obtain ⟨p, e1, e⟩ := ok_bind e
  obtain ⟨r, e2, e⟩ := ok_bind e
  split at e
  · cases e
    exact ⟨_, rfl⟩
  · cases e
theorem case_var {i : Nat} : SoundE G (.var i) := by
  intro k sc raw N X e' c h
  cases e' <;> first | (cases h; done) | skip
  exact ⟨s_var c h, fun _ => t_val (s_var c h) fun _ => rfl, fun z => by cases z⟩
theorem case_frz {i : Nat} : SoundE G (.frz i) := by
  intro k sc raw N X e' c h
  cases e' <;> first | (cases h; done) | skip
  exact ⟨s_frz c h, fun _ => t_val (s_frz c h) fun _ => rfl, fun z => by cases z⟩
theorem case_lit {l : Lit} : SoundE G (.lit l) := by
  intro k sc raw N X e' c h
  cases e' <;> first | (cases h; done) | skip
  exact ⟨s_lit h, fun _ => t_val (s_lit h) fun _ => rfl, fun z => by cases z⟩
theorem case_cst {j : Nat} : SoundE G (.cst j) := by
  intro k sc raw N X e' c h
  cases e' <;> first | (cases h; done) | skip
  exact ⟨s_cst c h, fun _ => t_val (s_cst c h) fun _ => rfl, fun z => by cases z⟩
theorem case_tup {es : Es} (ih : SoundEs G es) : SoundE G (.tup es) := by
  intro k sc raw N X e' c h
  cases e' <;> first | (cases h; done) | skip
  have p := s_tup (pos := by assumption) (kk := by assumption) ((ih c).1 h).1
  exact ⟨p, fun _ => t_val p fun _ => rfl, fun z => by cases z⟩
theorem case_lst {es : Es} (ih : SoundEs G es) : SoundE G (.lst es) := by
  intro k sc raw N X e' c h
  cases e' <;> first | (cases h; done) | skip
  have p := s_lst (pos := by assumption) ((ih c).1 h).1
  have p2 := p.imp fun σ H Q q => RdE.new q lst_list
  exact ⟨p2, fun _ => t_val p2 fun _ => rfl, fun _ => p⟩
theorem case_bin {o : O2} {a b : E} (iha : SoundE G a) (ihb : SoundE G b) : SoundE G (.bin o a b) := by
  intro k sc raw N X e' c h
  cases e' <;> first | (cases h; done) | skip
  rename_i a' o' b' pos
  obtain ⟨h, h3⟩ := band (show (o2Ok o o' && okE G sc raw N a a' && okE G sc raw N b b') = true from h)
  obtain ⟨h1, h2⟩ := band h
  have p := s_bin (pos := pos) h1 (iha c h2).1 (ihb c h3).1
  exact ⟨p, fun _ => t_val p fun _ => rfl, fun z => s_binN z h1 (iha c h2).1 (ihb c h3).1⟩
theorem case_cmp {o : Oc} {a b : E} (iha : SoundE G a) (ihb : SoundE G b) : SoundE G (.cmp o a b) := by
  intro k sc raw N X e' c h
  cases e' <;> first | (cases h; done) | skip
  rename_i a' os bs pos
  rcases os with _ | ⟨o', _ | ⟨o2, os⟩⟩ <;> rcases bs with _ | ⟨b', _ | ⟨b2, bs⟩⟩ <;> first | (cases h; done) | skip
  obtain ⟨h, h3⟩ := band (show (ocOk o o' && okE G sc raw N a a' && okE G sc raw N b b') = true from h)
  obtain ⟨h1, h2⟩ := band h
  have p := s_cmp (pos := pos) c h1 (plain_of (G := G) h3) (iha c h2).1 (ihb c h3).1
  exact ⟨p.1, fun _ => p.2, fun z => by cases z⟩
theorem case_chn {o1 o2 : Oc} {a b d : E} (iha : SoundE G a) (ihb : SoundE G b) (ihd : SoundE G d) : SoundE G (.chn o1 o2 a b d) := by
  intro k sc raw N X e' c h
  cases e' <;> first | (cases h; done) | skip
  rename_i a' os bs pos
  rcases os with _ | ⟨o1', _ | ⟨o2', _ | ⟨o3, os⟩⟩⟩ <;> rcases bs with _ | ⟨b', _ | ⟨d', _ | ⟨b3, bs⟩⟩⟩ <;> first | (cases h; done) | skip
  obtain ⟨h, h5⟩ := band (show (ocOk o1 o1' && ocOk o2 o2' && okE G sc raw N a a' && okE G sc raw N b b' && okE G sc raw N d d') = true from h)
  obtain ⟨h, h4⟩ := band h
  obtain ⟨h, h3⟩ := band h
  obtain ⟨h1, h2⟩ := band h
  have p := s_chn (pos := pos) c h1 h2 (plain_of (G := G) h5) (iha c h3).1 (ihb c h4).1 (ihd c h5).1
  exact ⟨p.1, fun _ => p.2, fun z => by cases z⟩
theorem case_neg {a : E} (iha : SoundE G a) : SoundE G (.neg a) := by
  intro k sc raw N X e' c h
  cases e' <;> first | (cases h; done) | skip
  rename_i o a' pos
  cases o <;> first | (cases h; done) | skip
  have p := s_neg (pos := pos) (iha c h).1
  exact ⟨p, fun _ => t_val p fun _ => rfl, fun z => by cases z⟩
theorem case_not {a : E} (iha : SoundE G a) : SoundE G (.not a) := by
  intro k sc raw N X e' c h
  cases e' <;> first | (cases h; done) | skip
  rename_i o a' pos
  cases o <;> first | (cases h; done) | skip
  obtain ⟨h1, h2⟩ := band (show (isT a && okE G sc raw N a a') = true from h)
  have p := s_not (pos := pos) (iha c h2).1 ((iha c h2).2.1 h1)
  exact ⟨p.1, fun _ => p.2, fun z => by cases z⟩
theorem case_and {es : Es} (ih : SoundEs G es) : SoundE G (.and es) := by
  intro k sc raw N X e' c h
  cases e' <;> first | (cases h; done) | skip
  rename_i o es' pos
  cases o <;> first | (cases h; done) | skip
  have p := ((ih c).2 h).1 pos
  exact ⟨p.1, fun _ => p.2.pt, fun z => by cases z⟩
theorem case_or {es : Es} (ih : SoundEs G es) : SoundE G (.or es) := by
  intro k sc raw N X e' c h
  cases e' <;> first | (cases h; done) | skip
  rename_i o es' pos
  cases o <;> first | (cases h; done) | skip
  have p := ((ih c).2 h).2 pos
  exact ⟨p.1, fun _ => p.2.pt, fun z => by cases z⟩
theorem case_ife {d a b : E} (ihd : SoundE G d) (iha : SoundE G a) (ihb : SoundE G b) : SoundE G (.ife d a b) := by
  intro k sc raw N X e' c h
  cases e' <;> first | (cases h; done) | skip
  rename_i d' a' b' pos
  obtain ⟨h, h4⟩ := band (show (isT d && okE G sc raw N d d' && okE G sc raw N a a' && okE G sc raw N b b') = true from h)
  obtain ⟨h, h3⟩ := band h
  obtain ⟨h1, h2⟩ := band h
  exact ⟨s_ife ((ihd c h2).2.1 h1) (iha c h3).1 (ihb c h4).1, fun z => (by cases z), fun z => by cases z⟩
theorem case_ix {a i : E} (iha : SoundE G a) (ihi : SoundE G i) : SoundE G (.ix a i) := by
  intro k sc raw N X e' c h
  cases e' <;> first | (cases h; done) | skip
  rename_i a' i' pos
  obtain ⟨h1, h2⟩ := band (show (okE G sc raw N a a' && okE G sc raw N i i') = true from h)
  have p := s_ix (pos := pos) (plain_of (G := G) h2) (iha c h1).1 (ihi c h2).1
  exact ⟨p, fun _ => t_val p fun _ => rfl, fun z => by cases z⟩
theorem part_of {k : Nat} {sc raw : Scope} {N : List Str} {X : Cx} {lo : E} {lo' : Option Expr} (c : Here G k sc raw N X) (ih : SoundE G lo) (h : okPt G sc raw N lo lo' = true) :
    PO X lo' (Rd' X.K (xq X) rPart fun ρ => part lo (ev G lo ρ) ρ) := by
  refine po_part ?_
  cases lo' with
  | none => exact .inl ⟨nop_of h, rfl⟩
  | some e =>
    obtain ⟨h1, h2⟩ := band (show (!isNop lo && okE G sc raw N lo e) = true from h)
    exact .inr ⟨fun z => (by subst z; cases h1), e, rfl, (ih c h2).1⟩
theorem case_slc {a lo hi : E} (iha : SoundE G a) (ihl : SoundE G lo) (ihh : SoundE G hi) : SoundE G (.slc a lo hi) := by
  intro k sc raw N X e' c h
  cases e' <;> first | (cases h; done) | skip
  rename_i a' s' pos
  cases s' <;> first | (cases h; done) | skip
  rename_i lo' hi' st' p2
  cases st' with
  | some _ => cases h
  | none =>
    rw [okE_slc] at h
    obtain ⟨h, h3⟩ := band h
    obtain ⟨h1, h2⟩ := band h
    have p := s_slc (pos := pos) (p2 := p2) (iha c h1).1 (part_of c ihl h2) (part_of c ihh h3)
    exact ⟨p, fun _ => t_val p fun _ => rfl, fun z => by cases z⟩
theorem case_nop : SoundE G .nop := by
  intro k sc raw N X e' c h
  cases e' <;> cases h
theorem case_call {j : Nat} {es : Es} (ih : SoundEs G es) : SoundE G (.call j es) := by
  intro k sc raw N X e' c h
  cases es with
  | nil => cases e' <;> cases h
  | cons e es =>
    cases e' <;> first | (cases h; done) | skip
    rename_i f as ks pos
    cases f <;> first | (cases h; done) | skip
    rename_i x px
    rcases as with _ | ⟨e', es'⟩ <;> first | (cases h; done) | skip
    rcases ks with _ | ⟨k1, ks⟩ <;> first | (cases h; done) | skip
    obtain ⟨h, h3⟩ := band h
    obtain ⟨h, h2⟩ := band h
    obtain ⟨h1, h0⟩ := band h
    have h4 : okEs G sc raw N (.cons e es) (e' :: es') = true := by
      show (okE G sc raw N e e' && okEs G sc raw N es es') = true
      rw [h2, h3]; rfl
    have q := (ih c).1 h4
    have p := s_call (pos := pos) (px := px) c h1 (by simpa using h0) q.2 q.1
    exact ⟨p, fun _ => t_val p fun _ => rfl, fun z => by cases z⟩
theorem case_callB {j i : Nat} {es : Es} (ih : SoundEs G es) : SoundE G (.callB j i es) := by
  intro k sc raw N X e' c h
  cases e' <;> first | (cases h; done) | skip
  rename_i f as ks pos
  cases f <;> first | (cases h; done) | skip
  rename_i x px
  rcases as with _ | ⟨e', es'⟩ <;> first | (cases h; done) | skip
  cases e' <;> first | (cases h; done) | skip
  rename_i y py
  rcases ks with _ | ⟨k1, ks⟩ <;> first | (cases h; done) | skip
  obtain ⟨h, h3⟩ := band h
  obtain ⟨h1, h2⟩ := band h
  have q := (ih c).1 h3
  have p := s_callB (pos := pos) (px := px) (py := py) c h1 h2 q.2 q.1
  exact ⟨p, fun _ => t_val p fun _ => rfl, fun z => by cases z⟩
theorem case_bi {f : Bi} {a : E} (iha : SoundE G a) : SoundE G (.bi f a) := by
  intro k sc raw N X e' c h
  cases e' <;> first | (cases h; done) | skip
  rename_i g as ks pos
  cases g <;> first | (cases h; done) | skip
  rename_i x px
  rcases as with _ | ⟨a', _ | ⟨a2, as⟩⟩ <;> first | (cases h; done) | skip
  rcases ks with _ | ⟨k1, ks⟩ <;> first | (cases h; done) | skip
  obtain ⟨h, h4⟩ := band (show (biHas f && decide (biName f = x) && glOk sc x && okE G sc raw N a a') = true from h)
  obtain ⟨h, h3⟩ := band h
  obtain ⟨h1, h2⟩ := band h
  have p : PE X (.Call (.Name x px) [a'] [] pos) (RdE X (ev G (.bi f a))) := by
    cases hmx : isMx f with
    | false => exact s_bi (pos := pos) (px := px) c h1 hmx (of_decide_eq_true h2) h3 (plain_of (G := G) h4) (iha c h4).1
    | true =>
      obtain ⟨g1, g2, g3⟩ := gl_of c h3
      have hst : starEach [a'] X.env = [(false, eval a' X.env)] := star_of (plain_star (plain_of (G := G) h4))
      obtain rfl := of_decide_eq_true h2
      cases f <;> first | (cases hmx; done) | skip
      · exact (pe_callB (maxD c.calm) g1 (blt_of c (by decide)) (by decide +kernel) (pa_cons (iha c h4).1 pa_nil hst) g3 g2 hst rfl).imp fun σ H Q q => b_one q
      · exact (pe_callB (minD c.calm) g1 (blt_of c (by decide)) (by decide +kernel) (pa_cons (iha c h4).1 pa_nil hst) g3 g2 hst rfl).imp fun σ H Q q => b_one q
  exact ⟨p, fun _ => t_val p fun _ => rfl, fun z => s_biN c z (of_decide_eq_true h2) h3 (plain_of (G := G) h4) (iha c h4).1⟩
theorem case_isi {a : E} {t : Ty} (iha : SoundE G a) : SoundE G (.isi a t) := by
  intro k sc raw N X e' c h
  cases e' <;> first | (cases h; done) | skip
  rename_i g as ks pos
  cases g <;> first | (cases h; done) | skip
  rename_i x px
  rcases as with _ | ⟨a', _ | ⟨a2, _ | ⟨a3, as⟩⟩⟩ <;> first | (cases h; done) | (cases a2 <;> cases h; done) | skip
  cases a2 <;> first | (cases h; done) | skip
  rename_i y py
  rcases ks with _ | ⟨k1, ks⟩ <;> first | (cases h; done) | skip
  obtain ⟨h, h5⟩ := band (show (decide (x = ("isinstance" : Str)) && glOk sc x && decide (y = tyStr t) && glOk sc y && okE G sc raw N a a') = true from h)
  obtain ⟨h, h4⟩ := band h
  obtain ⟨h, h3⟩ := band h
  obtain ⟨h1, h2⟩ := band h
  have p := s_isi (pos := pos) (px := px) (py := py) c (of_decide_eq_true h1) h2 (of_decide_eq_true h3) h4 (plain_of (G := G) h5) (iha c h5).1
  exact ⟨p, fun _ => t_val p fun _ => rfl, fun z => by cases z⟩
theorem yes_lit {K : Frag} {W : EQ} : ∀ (σ : L2.St) (H : Hp) (Q : Bool → Hp → Prop), Rd' K W rTest (evT G (.lit (.bl true))) σ H Q → tYes σ H Q := by
  intro σ H Q q
  obtain ⟨F, ρ, en, q⟩ := q
  have q : Fin K W (rTest σ) (Own σ ρ) F H σ Q (.ok (true, ρ)) := q
  exact q.nowG en (v := true) rfl
theorem case_comp {elt cond : E} {tg : Tg} {it : I} (ihe : SoundE G elt) (ihi : SoundI G it) (ihc : SoundE G cond) : SoundE G (.comp elt tg it cond) := by
  intro k sc raw N X e' c h
  cases e' <;> first | (cases h; done) | skip
  rename_i elt' gs scope pos
  rcases gs with _ | ⟨⟨tg', it', ifs', as⟩, _ | ⟨g2, gs⟩⟩ <;> first | (cases h; done) | skip
  rw [okE_comp] at h
  obtain ⟨h, h5⟩ := band h
  obtain ⟨h, h4⟩ := band h
  obtain ⟨h, h3⟩ := band h
  obtain ⟨h, h2⟩ := band h
  obtain ⟨h0, h1⟩ := band h
  obtain rfl : as = 0 := of_decide_eq_true h0
  obtain ⟨h1t, h1⟩ := band h1
  have qi := ihi c h1
  have p : PE X (.ListComp elt' [⟨tg', it', ifs', 0⟩] scope pos) (RdN X (ev G (.comp elt tg it cond))) := by
    refine s_comp (pos := pos) c h2 (qi.1 tg' h1t) qi.2 (fun s H C cl fp => pg_tg (c.blk scope s H C cl fp) h3) (fun s H C cl fp => ?_) (fun s H C cl fp => (ihe (c.blk scope s H C cl fp) h4).1.imp fun _ _ _ q => q.zero)
    rcases ifs' with _ | ⟨c', _ | ⟨c2, cs⟩⟩
    · obtain rfl := yes_of h5
      exact pts_nil.imp yes_lit
    · obtain ⟨h7, h8⟩ := band (show (isT cond && okE G (relS scope sc) scope N cond c') = true from h5)
      exact pts_one (((ihc (c.blk scope s H C cl fp) h8).2.1 h7).imp fun _ _ _ q => q.zero)
    · cases h5
  have p2 := p.imp fun σ H Q q => RdE.new q comp_list
  exact ⟨p2, fun _ => t_val p2 fun _ => rfl, fun _ => p⟩
theorem plain_ofI {sc raw : Scope} {N : List Str} {it : I} {e' : Expr} (h : okI G sc raw N it e' = true) : plain e' = true := by
  cases it with
  | seq a =>
    have h : okE G sc raw N a e' = true := by cases e' <;> exact h
    exact plain_of (G := G) h
  | _ => cases e' <;> first | rfl | cases h
theorem pts_cd {k : Nat} {sc raw : Scope} {N : List Str} {X : Cx} {cond : E} {ifs' : List Expr} (c : Here G k sc raw N X) (ih : SoundE G cond) (h : okCd G sc raw N cond ifs' = true) : PTs X ifs' (RdT0 X.K (evT G cond)) := by
  rcases ifs' with _ | ⟨c', _ | ⟨c2, cs⟩⟩
  · obtain rfl := yes_of h
    exact pts_nil.imp yes_lit
  · obtain ⟨h7, h8⟩ := band (show (isT cond && okE G sc raw N cond c') = true from h)
    exact pts_one (((ih c h8).2.1 h7).imp fun _ _ _ q => q.zero)
  · cases h
theorem case_comp2 {elt cond cond2 : E} {tg tg2 : Tg} {it it2 : I} (ihe : SoundE G elt) (ihi : SoundI G it) (ihc : SoundE G cond) (ihi2 : SoundI G it2) (ihc2 : SoundE G cond2) : SoundE G (.comp2 elt tg it cond tg2 it2 cond2) := by
  intro k sc raw N X e' c h
  cases e' <;> first | (cases h; done) | skip
  rename_i elt' gs scope pos
  rcases gs with _ | ⟨⟨tg', it', ifs', as⟩, _ | ⟨⟨tg2', it2', ifs2', as2⟩, _ | ⟨g3, gs⟩⟩⟩ <;> first | (cases h; done) | skip
  rw [okE_comp2] at h
  obtain ⟨h, h9⟩ := band h
  obtain ⟨h, h8⟩ := band h
  obtain ⟨h, h7⟩ := band h
  obtain ⟨h, h6⟩ := band h
  obtain ⟨h, h5⟩ := band h
  obtain ⟨h, h4⟩ := band h
  obtain ⟨h, h3⟩ := band h
  obtain ⟨h, h2⟩ := band h
  obtain ⟨h0, h1⟩ := band h
  obtain rfl : as = 0 := of_decide_eq_true h0
  obtain rfl : as2 = 0 := of_decide_eq_true h1
  obtain ⟨h2t, h2⟩ := band h2
  obtain ⟨h6t, h6⟩ := band h6
  have qi := ihi c h2
  have p2' : plain it2' = true := plain_ofI (G := G) h6
  have p : PE X (.ListComp elt' [⟨tg', it', ifs', 0⟩, ⟨tg2', it2', ifs2', 0⟩] scope pos) (RdN X (ev G (.comp2 elt tg it cond tg2 it2 cond2))) :=
    s_comp2 (pos := pos) c h3 (qi.1 tg' h2t) qi.2 p2' (fun s H C cl fp => pg_tg (c.blk scope s H C cl fp) h4) (fun s H C cl fp => pts_cd (c.blk scope s H C cl fp) ihc h8)
      (fun s H C cl fp => ((ihi2 (c.blk scope s H C cl fp) h6).1 tg2' h6t).imp fun _ _ _ q => q.zero) (fun s H C cl fp => pg_tg (c.blk scope s H C cl fp) h5) (fun s H C cl fp => pts_cd (c.blk scope s H C cl fp) ihc2 h9) (fun s H C cl fp => (ihe (c.blk scope s H C cl fp) h7).1.imp fun _ _ _ q => q.zero)
  have p2 := p.imp fun σ H Q q => RdE.new q comp2_list
  exact ⟨p2, fun _ => t_val p2 fun _ => rfl, fun _ => p⟩
theorem case_dic1 {a b : E} (iha : SoundE G a) (ihb : SoundE G b) : SoundE G (.dic1 a b) := by
  intro k sc raw N X e' c h
  cases e' <;> first | (cases h; done) | skip
  rename_i ks vs pos
  rcases ks with _ | ⟨_ | a', _ | ⟨k2, ks⟩⟩ <;> first | (cases h; done) | skip
  rcases vs with _ | ⟨b', _ | ⟨v2, vs⟩⟩ <;> first | (cases h; done) | skip
  obtain ⟨h1, h2⟩ := band (show (okE G sc raw N a a' && okE G sc raw N b b') = true from h)
  have p := s_dic1 (pos := pos) (iha c h1).1 (ihb c h2).1
  exact ⟨p, fun _ => t_val p fun _ => rfl, fun z => by cases z⟩
theorem lamQ_by {N : List Str} {sc scope : Scope} {ps : Arguments} (h : lamOk N sc scope ps = true) : ∃ ds, lamPar ps = some ds ∧ LamQ N sc scope ds := by
  unfold lamOk at h
  split at h
  · rename_i ds e
    refine ⟨ds, e, ?_⟩
    simp only [Bool.and_eq_true, Bool.or_eq_true, Bool.not_eq_true', decide_eq_true_eq, decide_eq_false_iff_not, List.all_eq_true] at h
    obtain ⟨⟨⟨⟨h1, h2⟩, h3⟩, h4⟩, h5⟩ := h
    refine ⟨h1, h2, h3, fun y hy => (h4 y hy).1.1, fun y hy hN => ?_, fun x hx => h5 x hx, fun y hy e => ?_⟩
    · rcases (h4 _ (PySem.mem_of_lookup hy)).1.2 with z | z
      · exact z rfl
      · rw [List.contains_eq_mem] at z
        exact absurd hN (of_decide_eq_false z)
    · rcases (h4 y hy).2 with (z | z) | z
      · exact absurd e z
      · exact .inl z
      · exact .inr z
  · cases h
theorem env_hide {K : Frag} {F H H1 : Hp} {σ : L2.St} {ρ : Slots} (en : EnvOk K F H σ ρ) (ex : Ext (fun _ => False) F H F H1) (s1 : Same F H1) : EnvOk K F H1 σ (hide ρ) ∧ ∀ l, ¬ Own σ (hide ρ) l := by
  have no : ∀ {i : Nat} {b : Bool} {ds : List D}, (hide ρ)[i]? ≠ some (Cell.own b ds) := fun {i b ds} z => by
    unfold hide at z
    rw [List.getElem?_map] at z
    cases e : ρ[i]? with
    | none => rw [e] at z; cases z
    | some c => rw [e] at z; cases c <;> cases z
  refine ⟨⟨s1, by unfold hide; rw [List.length_map]; exact en.len, fun i c hc => ?_, fun i j l b b' ds ds' e1 _ _ _ => absurd e1 no, en.sm, ex.t en.tb⟩, fun l ⟨i, b, ds, e1, _⟩ => no e1⟩
  unfold hide at hc
  rw [List.getElem?_map] at hc
  cases e : ρ[i]? with
  | none => rw [e] at hc; cases hc
  | some c0 =>
    rw [e] at hc
    obtain rfl := (Option.some.inj hc).symm
    have := en.cell i c0 e
    cases c0 with
    | un => trivial
    | dat d => exact this
    | own b ds => trivial
/-- what a lambda lets out, by data -/
def eqE (mg : Str → Option Value) (E : XK) : EQ := ⟨fun c B F H => ∀ F' H', Ext B F H F' H' → Same F' H' → ∀ cls, mg c = some cls → E cls none H',
  fun h e hb F' H' e' s' => h F' H' (e.trans e' fun l hl => .inl (hb l hl)) s'⟩
theorem eqE_xq {X : Cx} {E : XK} (tk : Takes X (fun cls d _ H => E cls d H)) {Rl : L2.St → Hp → V → Opd → Prop} {f : Slots → R (Opd × Slots)} {σ : L2.St} {H : Hp} {Q : VK} (h : Rd' X.K (eqE X.mg E) Rl f σ H Q) : Rd' X.K (xq X) Rl f σ H Q := by
  obtain ⟨F, ρ, en, q⟩ := h
  refine ⟨F, ρ, en, ?_⟩
  cases e : f ρ with
  | ok p => rw [e] at q; exact q
  | bad => rw [e] at q; exact q.elim
  | exc c fs =>
    rw [e] at q
    exact fun F' H' e' s' cls σ' m => tk.imp (fun c d' σ2 H2 ⟨e1, e2, e3, e4⟩ => by
      subst e1 e2 e3 e4
      exact q F' _ e' s' _ m)
theorem case_word {G : Gm} {j : Nat} {e : E} (ihe : SoundE G.noW e) : SoundE G (.word j e) := by
  intro k sc raw N X e' c h
  cases e' <;> first | (cases h; done) | skip
  rename_i g as ks pos
  cases g <;> first | (cases h; done) | skip
  rename_i x px
  rcases as with _ | ⟨a', _ | ⟨a2, as⟩⟩ <;> first | (cases h; done) | skip
  rotate_left
  · cases a' <;> cases h
  rcases ks with _ | ⟨k1, ks⟩ <;> first | (cases h; done) | skip
  rotate_left
  · cases a' <;> cases h
  cases a' <;> first | (cases h; done) | skip
  rename_i ps e' scope lp
  obtain ⟨h, h3⟩ := band (show ((match G.wds[j]? with | some w => decide (w.name = x) && glOk sc x | none => false) && lamOk N sc scope ps && okE G.noW scope scope N e e') = true from h)
  obtain ⟨h1, h2⟩ := band h
  cases ew : G.wds[j]? with
  | none => rw [ew] at h1; cases h1
  | some wd =>
  rw [ew] at h1
  obtain ⟨h1, h4⟩ := band h1
  obtain rfl : wd.name = x := of_decide_eq_true h1
  obtain ⟨g1, g2, g3⟩ := gl_of c h4
  obtain ⟨ds, hpar, L⟩ := lamQ_by h2
  obtain ⟨g, a, pg, bg, sg, dV, kV, doc, pm, cdv, ct, oc, an, od, osl, Ng, m1, m2, m3, m4, m5, m6, m7, m8, m9, m10, hG⟩ := c.wds j wd ew
  obtain ⟨cc, P, hcode, TB, hm, hu, hr⟩ := c.lam (fun z => by rw [z] at ew; cases ew)
  have L' : LamQ X.N X.env.scope scope ds := by rw [c.nE, c.scE]; exact L
  have p : PE X (.Call (.Name wd.name px) [.Lambda ps e' scope lp] [] pos) (RdE X (ev G (.word j e))) := by
    refine (pe_word (t := fun E => Rd' X.K (eqE X.mg E) (rOpd X.K) (ev G.noW e)) g1 m1 m2 m3 m4 m5 m6 m7 m8 (hG X _ rfl rfl rfl rfl rfl) TB hcode hm hu hr hpar L' (fun A outer s H E f c' gd hr2 => ?_) g2 m9 m10).imp fun σ H Q q => ?_
    · have here : Here G.noW k scope scope N (lamCx X A outer s H E scope f c') :=
        ⟨rfl, c.nE, c.nd, rfl, fun y hy => absurd rfl (L.noc _ (PySem.mem_of_lookup hy)), c.blt, c.fns, c.cst, hr2, gd.trans c.grd, c.smK, c.exn, fun j w z => (by simp [Gm.noW] at z), fun z => absurd rfl z⟩
      have tk : Takes (lamCx X A outer s H E scope f c') (fun cls d _ H => E cls d H) := takes_of rfl rfl rfl rfl
      exact ((ihe here h3).1).imp fun _ _ _ q => eqE_xq (X := lamCx X A outer s H E scope f c') tk q
    · obtain ⟨F, ρ, en, q⟩ := q
      have q : Fin X.K (xq X) (rOpd X.K σ) (Own σ ρ) F H σ Q (wordC G.wds[j]? (ev G.noW e (hide ρ) >>= fun p => keep p.1) ρ) := q
      rw [ew] at q
      have q : Fin X.K (xq X) (rOpd X.K σ) (Own σ ρ) F H σ Q (nx (wd.sem (ev G.noW e (hide ρ) >>= fun p => keep p.1)) >>= fun d => .ok (.val d, ρ)) := q
      refine ⟨F, en.tb, fun H1 ex1 => ?_⟩
      have s1 : Same F H1 := fun a o ea => (ex1 (fun _ => False)).h' a o (en.sub _ _ ea) id fun ps z => en.tb.2 a ps (by rw [ea, z])
      obtain ⟨enh, noo⟩ := env_hide en (ex1 _) s1
      refine ⟨F, ev G.noW e (hide ρ) >>= fun p => keep p.1, s1, en.sm, (ex1 (fun _ => False)).t en.tb, fun E Q' hr => ⟨F, hide ρ, enh, ?_⟩, ?_⟩
      · cases e0 : ev G.noW e (hide ρ) with
        | bad => rw [e0] at hr; exact hr.elim
        | exc c2 fs =>
          rw [e0] at hr
          exact fun F' H' e' s' cls m => hr F' H' (e'.mono fun l hl => noo l hl) s' cls m
        | ok pp =>
          obtain ⟨o, ρ'⟩ := pp
          rw [e0] at hr
          cases o with
          | plc i => exact hr.elim
          | val d => exact fun v F' H' e' en' o' rl => hr v F' H' (e'.mono fun l hl => noo l hl) en'.sub rl
      · cases e0 : nx (wd.sem (ev G.noW e (hide ρ) >>= fun p => keep p.1)) with
        | bad => rw [e0] at q; exact q.elim
        | exc c2 fs => cases e1 : wd.sem (ev G.noW e (hide ρ) >>= fun p => keep p.1) <;> (rw [e1] at e0; cases e0)
        | ok d =>
          rw [e0] at q
          rw [nx_ok e0]
          exact fun v F' H' e' s' rl => q v F' H' (((ex1 (Own σ ρ)).trans e' fun l z => z.elim)) (en.ext ((ex1 (fun _ => False)).trans e' fun l z => z.elim) s' fun _ _ z => z) (fun _ z => z) rl
  exact ⟨p, fun _ => t_val p fun _ => rfl, fun z => by cases z⟩
theorem case_b2 {G : Gm} {mx : Bool} {a b : E} (iha : SoundE G a) (ihb : SoundE G b) : SoundE G (.b2 mx a b) := by
  intro k sc raw N X e' c h
  cases e' <;> first | (cases h; done) | skip
  rename_i g as ks pos
  cases g <;> first | (cases h; done) | skip
  rename_i x px
  rcases as with _ | ⟨a', _ | ⟨b', _ | ⟨a3, as⟩⟩⟩ <;> first | (cases h; done) | skip
  rcases ks with _ | ⟨k1, ks⟩ <;> first | (cases h; done) | skip
  obtain ⟨h, h4⟩ := band (show (decide (x = b2Name mx) && glOk sc x && okE G sc raw N a a' && okE G sc raw N b b') = true from h)
  obtain ⟨h, h3⟩ := band h
  obtain ⟨h1, h2⟩ := band h
  have p := s_b2 (pos := pos) (px := px) c (of_decide_eq_true h1) h2 (plain_of (G := G) h3) (plain_of (G := G) h4) (iha c h3).1 (ihb c h4).1
  exact ⟨p, fun _ => t_val p fun _ => rfl, fun z => by cases z⟩
theorem case_mth {G : Gm} {m : Mo} {a b : E} (iha : SoundE G a) (ihb : SoundE G b) : SoundE G (.mth m a b) := by
  intro k sc raw N X e' c h
  cases e' <;> first | (cases h; done) | skip
  rename_i g as ks cpos
  cases g <;> first | (cases h; done) | skip
  rename_i a' y apos
  rcases as with _ | ⟨b', _ | ⟨a3, as⟩⟩ <;> first | (cases h; done) | skip
  rcases ks with _ | ⟨k1, ks⟩ <;> first | (cases h; done) | skip
  obtain ⟨h, h5⟩ := band (show (decide (y = moName m) && baseOk a' && (apos.endLine == cpos.line) && okE G sc raw N a a' && okE G sc raw N b b') = true from h)
  obtain ⟨h, h4⟩ := band h
  obtain ⟨h, h3⟩ := band h
  obtain ⟨h1, h2⟩ := band h
  have p := s_mth (apos := apos) (cpos := cpos) c (of_decide_eq_true h1) h2 h3 (plain_of (G := G) h5) (iha c h4).1 (ihb c h5).1
  exact ⟨p, fun _ => t_val p fun _ => rfl, fun z => by cases z⟩
/-- a range's bounds -/
def SoundR (G : Gm) : I → Prop
  | .rng a => SoundE G a
  | .rng2 a b => SoundE G a ∧ SoundE G b
  | _ => True
theorem case_lrg {G : Gm} {it : I} (ih : SoundR G it) : SoundE G (.lrg it) := by
  intro k sc raw N X e' c h
  cases e' <;> first | (cases h; done) | skip
  rename_i g as ks pos
  cases g <;> first | (cases h; done) | skip
  rename_i x px
  rcases as with _ | ⟨it', _ | ⟨a2, as⟩⟩ <;> first | (cases h; done) | skip
  rcases ks with _ | ⟨k1, ks⟩ <;> first | (cases h; done) | skip
  obtain ⟨h, h4⟩ := band (show (decide (x = ("list" : Str)) && glOk sc x && isRg it && okI G sc raw N it it') = true from h)
  obtain ⟨h, h3⟩ := band h
  obtain ⟨h1, h2⟩ := band h
  have p : PE X (.Call (.Name x px) [it'] [] pos) (RdN X (ev G (.lrg it))) := by
    cases it with
    | seq a => cases h3
    | zip a b => cases h3
    | enm a => cases h3
    | rng a =>
      cases it' <;> first | (cases h4; done) | skip
      rename_i g2 as2 ks2 p2
      cases g2 <;> first | (cases h4; done) | skip
      rename_i y py
      rcases as2 with _ | ⟨a', _ | ⟨b', as2⟩⟩ <;> first | (cases h4; done) | skip
      rcases ks2 with _ | ⟨k1, ks2⟩ <;> first | (cases h4; done) | skip
      obtain ⟨h4, h7⟩ := band (show (decide (y = ("range" : Str)) && glOk sc y && okE G sc raw N a a') = true from h4)
      obtain ⟨h5, h6⟩ := band h4
      exact s_lrg1 c (of_decide_eq_true h1) h2 (of_decide_eq_true h5) h6 (plain_of (G := G) h7) (ih c h7).1
    | rng2 a b =>
      cases it' <;> first | (cases h4; done) | skip
      rename_i g2 as2 ks2 p2
      cases g2 <;> first | (cases h4; done) | skip
      rename_i y py
      rcases as2 with _ | ⟨a', _ | ⟨b', _ | ⟨c', as2⟩⟩⟩ <;> first | (cases h4; done) | skip
      rcases ks2 with _ | ⟨k1, ks2⟩ <;> first | (cases h4; done) | skip
      obtain ⟨h4, h8⟩ := band (show (decide (y = ("range" : Str)) && glOk sc y && okE G sc raw N a a' && okE G sc raw N b b') = true from h4)
      obtain ⟨h4, h7⟩ := band h4
      obtain ⟨h5, h6⟩ := band h4
      exact s_lrg2 c (of_decide_eq_true h1) h2 (of_decide_eq_true h5) h6 (plain_of (G := G) h7) (plain_of (G := G) h8) (ih.1 c h7).1 (ih.2 c h8).1
  have p2 := p.imp fun σ H Q q => RdE.new q lrg_list
  exact ⟨p2, fun _ => t_val p2 fun _ => rfl, fun _ => p⟩
theorem case_zip {G : Gm} {a b : E} (iha : SoundE G a) (ihb : SoundE G b) : SoundI G (.zip a b) := by
  intro k sc raw N X e' c h
  cases e' <;> first | (cases h; done) | skip
  rename_i g as ks pos
  cases g <;> first | (cases h; done) | skip
  rename_i x px
  rcases as with _ | ⟨a', _ | ⟨a2, _ | ⟨a3, as⟩⟩⟩ <;> first | (cases h; done) | skip
  rcases ks with _ | ⟨k1, ks⟩ <;> first | (cases h; done) | skip
  obtain ⟨h, h4⟩ := band (show (decide (x = ("zip" : Str)) && glOk sc x && okE G sc raw N a a' && okE G sc raw N b a2) = true from h)
  obtain ⟨h, h3⟩ := band h
  obtain ⟨h1, h2⟩ := band h
  exact ⟨fun tg ht => i_zip c (of_decide_eq_true h1) h2 (plain_of (G := G) h3) (plain_of (G := G) h4) (iha c h3).1 (ihb c h4).1 ht, rfl⟩
theorem case_enm {G : Gm} {a : E} (iha : SoundE G a) : SoundI G (.enm a) := by
  intro k sc raw N X e' c h
  cases e' <;> first | (cases h; done) | skip
  rename_i g as ks pos
  cases g <;> first | (cases h; done) | skip
  rename_i x px
  rcases as with _ | ⟨a', _ | ⟨a2, as⟩⟩ <;> first | (cases h; done) | skip
  rcases ks with _ | ⟨k1, ks⟩ <;> first | (cases h; done) | skip
  obtain ⟨h, h3⟩ := band (show (decide (x = ("enumerate" : Str)) && glOk sc x && okE G sc raw N a a') = true from h)
  obtain ⟨h1, h2⟩ := band h
  exact ⟨fun tg ht => i_enm c (of_decide_eq_true h1) h2 (plain_of (G := G) h3) (iha c h3).1 ht, rfl⟩
theorem case_nil : SoundEs G .nil := by
  intro k sc raw N X es' c
  refine ⟨fun h => ?_, fun h => ?_⟩
  · cases es' with
    | nil => exact ⟨pa_nil', fun _ z => by cases z⟩
    | cons _ _ => cases h
  · cases es' <;> cases h
theorem case_cons {e : E} {es : Es} (ihe : SoundE G e) (ihs : SoundEs G es) : SoundEs G (.cons e es) := by
  intro k sc raw N X es' c
  refine ⟨fun h => ?_, fun h => ?_⟩
  · cases es' with
    | nil => cases h
    | cons e' es' =>
      obtain ⟨h1, h2⟩ := band (show (okE G sc raw N e e' && okEs G sc raw N es es') = true from h)
      have r := (ihs c).1 h2
      exact ⟨pa_cons' (plain_of (G := G) h1) (ihe c h1).1 r.1, fun z hz => by
        rcases List.mem_cons.mp hz with rfl | hz
        · exact plain_of (G := G) h1
        · exact r.2 z hz⟩
  · cases es with
    | nil =>
      rcases es' with _ | ⟨e', _ | ⟨e2, es'⟩⟩ <;> first | (cases h; done) | skip
      obtain ⟨h1, h2⟩ := band (show (isT e && okE G sc raw N e e') = true from h)
      exact bools_one (ihe c h2).1 ((ihe c h2).2.1 h1)
    | cons e2 es2 =>
      rcases es' with _ | ⟨e', _ | ⟨e2', es'⟩⟩ <;> first | (cases h; done) | skip
      obtain ⟨h, h3⟩ := band (show (isT e && okE G sc raw N e e' && okB G sc raw N (.cons e2 es2) (e2' :: es')) = true from h)
      obtain ⟨h1, h2⟩ := band h
      exact bools_cons (ihe c h2).1 ((ihe c h2).2.1 h1) ((ihs c).2 h3)
theorem case_seq {a : E} (iha : SoundE G a) : SoundI G (.seq a) := by
  intro k sc raw N X e' c h
  have h : okE G sc raw N a e' = true := by cases e' <;> exact h
  exact ⟨fun tg _ => i_seq (iha c h).1, plain_of (G := G) h⟩
theorem case_rng {a : E} (iha : SoundE G a) : SoundI G (.rng a) := by
  intro k sc raw N X e' c h
  cases e' <;> first | (cases h; done) | skip
  rename_i g as ks pos
  cases g <;> first | (cases h; done) | skip
  rename_i x px
  rcases as with _ | ⟨a', _ | ⟨a2, as⟩⟩ <;> first | (cases h; done) | skip
  rcases ks with _ | ⟨k1, ks⟩ <;> first | (cases h; done) | skip
  obtain ⟨h, h3⟩ := band (show (decide (x = ("range" : Str)) && glOk sc x && okE G sc raw N a a') = true from h)
  obtain ⟨h1, h2⟩ := band h
  exact ⟨fun tg _ => i_rng c (of_decide_eq_true h1) h2 (plain_of (G := G) h3) (iha c h3).1, rfl⟩
theorem case_rng2 {a b : E} (iha : SoundE G a) (ihb : SoundE G b) : SoundI G (.rng2 a b) := by
  intro k sc raw N X e' c h
  cases e' <;> first | (cases h; done) | skip
  rename_i g as ks pos
  cases g <;> first | (cases h; done) | skip
  rename_i x px
  rcases as with _ | ⟨a', _ | ⟨a2, _ | ⟨a3, as⟩⟩⟩ <;> first | (cases h; done) | skip
  rcases ks with _ | ⟨k1, ks⟩ <;> first | (cases h; done) | skip
  obtain ⟨h, h4⟩ := band (show (decide (x = ("range" : Str)) && glOk sc x && okE G sc raw N a a' && okE G sc raw N b a2) = true from h)
  obtain ⟨h, h3⟩ := band h
  obtain ⟨h1, h2⟩ := band h
  exact ⟨fun tg _ => i_rng2 c (of_decide_eq_true h1) h2 (plain_of (G := G) h3) (plain_of (G := G) h4) (iha c h3).1 (ihb c h4).1, rfl⟩
mutual
theorem sound (G : Gm) : ∀ e : E, SoundE G e
  | .var _ => case_var
  | .frz _ => case_frz
  | .lit _ => case_lit
  | .cst _ => case_cst
  | .tup es => case_tup (sounds G es)
  | .lst es => case_lst (sounds G es)
  | .bin _ a b => case_bin (sound G a) (sound G b)
  | .cmp _ a b => case_cmp (sound G a) (sound G b)
  | .chn _ _ a b c => case_chn (sound G a) (sound G b) (sound G c)
  | .neg a => case_neg (sound G a)
  | .not a => case_not (sound G a)
  | .and es => case_and (sounds G es)
  | .or es => case_or (sounds G es)
  | .ife c a b => case_ife (sound G c) (sound G a) (sound G b)
  | .ix a i => case_ix (sound G a) (sound G i)
  | .slc a lo hi => case_slc (sound G a) (sound G lo) (sound G hi)
  | .nop => case_nop
  | .call _ es => case_call (sounds G es)
  | .callB _ _ es => case_callB (sounds G es)
  | .bi _ a => case_bi (sound G a)
  | .isi a _ => case_isi (sound G a)
  | .comp elt _ it cond => case_comp (sound G elt) (soundi G it) (sound G cond)
  | .comp2 elt _ it cond _ it2 cond2 => case_comp2 (sound G elt) (soundi G it) (sound G cond) (soundi G it2) (sound G cond2)
  | .dic1 k v => case_dic1 (sound G k) (sound G v)
  | .word _ e => case_word (sound G.noW e)
  | .b2 _ a b => case_b2 (sound G a) (sound G b)
  | .mth _ a b => case_mth (sound G a) (sound G b)
  | .lrg (.rng a) => case_lrg (it := .rng a) (sound G a)
  | .lrg (.rng2 a b) => case_lrg (it := .rng2 a b) ⟨sound G a, sound G b⟩
  | .lrg (.seq a) => case_lrg (it := .seq a) trivial
  | .lrg (.zip a b) => case_lrg (it := .zip a b) trivial
  | .lrg (.enm a) => case_lrg (it := .enm a) trivial
theorem sounds (G : Gm) : ∀ es : Es, SoundEs G es
  | .nil => case_nil
  | .cons e es => case_cons (sound G e) (sounds G es)
theorem soundi (G : Gm) : ∀ it : I, SoundI G it
  | .seq a => case_seq (sound G a)
  | .rng a => case_rng (sound G a)
  | .rng2 a b => case_rng2 (sound G a) (sound G b)
  | .zip a b => case_zip (sound G a) (sound G b)
  | .enm a => case_enm (sound G a)
end
end
end DP

/-! DP, part 13: statements: the small tree, its run, the look at a tree; readings. -/
namespace DP
open PySem PySem.Spec PyProof.Rows L2
/-- how a statement ends: rn: a list just made is handed back -/
inductive Fl where
  | nx | bk | ct | rt (d : D) | rn (ds : List D)
mutual
inductive S where
  | asg (tg : Tg) (e : E) | par (i j : Nat) (a b : E) | new (i : Nat) (e : E) | newC (i j : Nat) (es : Es)
  | setI (i : Nat) (ix e : E) | app (i : Nat) (e : E) | ext (i : Nat) (e : E) | exp (e : E) | ret (e : E) | retL (e : E) | retN
  | ifs (c : E) (a b : Ss) | fors (tg : Tg) (it : I) (b : Ss) | whl (n : Nat) (c : E) (b : Ss)
  | pass | brk | cnt | never | rse (j : Nat)
  | parN (i j : Nat) (a b : E) | par3 (i j l : Nat) (a b c : E) | par3N (i j l : Nat) (a b c : E)
inductive Ss where
  | nil | cons (s : S) (r : Ss)
end
def forLoop (turn : D → Slots → R (Fl × Slots)) : List D → Slots → R (Fl × Slots)
  | [], ρ => .ok (.nx, ρ)
  | d :: r, ρ => turn d ρ >>= fun p => match p.1 with
    | .nx => forLoop turn r p.2
    | .ct => forLoop turn r p.2
    | .bk => .ok (.nx, p.2)
    | f => .ok (f, p.2)
def whLoop (c : Slots → R (Bool × Slots)) (b : Slots → R (Fl × Slots)) : Nat → Slots → R (Fl × Slots)
  | 0, _ => .bad
  | n + 1, ρ => c ρ >>= fun t => if t.1 = true then b t.2 >>= fun p => (match p.1 with
    | .nx => whLoop c b n p.2
    | .ct => whLoop c b n p.2
    | .bk => .ok (.nx, p.2)
    | f => .ok (f, p.2)) else .ok (.nx, t.2)
def extC (i : Nat) (ρ : Slots) : D → Option Cell → R (Fl × Slots)
  | .list es, some (.own b ds) => if sz (ds.length + es.length) = true then .ok (.nx, ρ.set i (.own b (ds ++ es))) else .bad
  | _, _ => .bad
def nwK (k : List D → Slots → R (Fl × Slots)) : Opd × Slots → R (Fl × Slots)
  | (.val (.list ds), ρ) => k ds ρ
  | _ => .bad
variable (G : Gm)
mutual
def ex : S → Slots → R (Fl × Slots)
  | .asg tg e, ρ => ev G e ρ >>= fun p => keep p.1 >>= fun d => putTg tg d p.2 >>= fun ρ' => .ok (.nx, ρ')
  | .par i j a b, ρ => ev G a ρ >>= fun p => keep p.1 >>= fun d => ev G b p.2 >>= fun q => keep q.1 >>= fun d2 => if (free q.2 i && free q.2 j) = true then .ok (.nx, (q.2.set i (.dat d)).set j (.dat d2)) else .bad
  | .new i e, ρ => ev G e ρ >>= fun p => (match p.1 with
    | .val (.list ds) => if free p.2 i = true then .ok (.nx, p.2.set i (.own false ds)) else .bad
    | _ => .bad)
  | .newC i j es, ρ => ev G (.call j es) ρ >>= fun p => (match p.1 with
    | .val (.list ds) => if free p.2 i = true then .ok (.nx, p.2.set i (.own false ds)) else .bad
    | _ => .bad)
  | .setI i ix e, ρ => ev G e ρ >>= fun p => keep p.1 >>= fun d => (match p.2[i]? with
    | some (.own _ _) => ev G ix p.2 >>= fun q => peek q.2 q.1 >>= fun x => asI x >>= fun k => (match q.2[i]? with
      | some (.own b ds) => (match ixN ds.length k with
        | some j => .ok (.nx, q.2.set i (.own b (ds.set j d)))
        | none => .bad)
      | _ => .bad)
    | _ => .bad)
  | .app i e, ρ => (match ρ[i]? with
    | some (.own _ _) => ev G e ρ >>= fun p => keep p.1 >>= fun d => (match p.2[i]? with
      | some (.own b ds) => if sz (ds.length + 1) = true then .ok (.nx, p.2.set i (.own b (ds ++ [d]))) else .bad
      | _ => .bad)
    | _ => .bad)
  | .ext i e, ρ => if isOwn ρ[i]? = true then ev G e ρ >>= fun p => peek p.2 p.1 >>= fun x => extC i p.2 x p.2[i]? else .bad
  | .exp e, ρ => ev G e ρ >>= fun p => .ok (.nx, p.2)
  | .ret e, ρ => ev G e ρ >>= fun p => keep p.1 >>= fun d => .ok (.rt d, p.2)
  | .retL e, ρ => ev G e ρ >>= fun p => (match p.1 with
    | .val (.list ds) => .ok (.rn ds, p.2)
    | _ => .bad)
  | .retN, ρ => .ok (.rt .none, ρ)
  | .ifs c a b, ρ => evT G c ρ >>= fun p => if p.1 = true then exs a p.2 else exs b p.2
  | .fors tg it b, ρ => evI G it ρ >>= fun p => forLoop (fun d ρ1 => putTg tg d ρ1 >>= fun ρ2 => exs b ρ2) p.1 p.2
  | .whl n c b, ρ => whLoop (evT G c) (fun ρ1 => exs b ρ1) n ρ
  | .pass, ρ => .ok (.nx, ρ)
  | .brk, ρ => .ok (.bk, ρ)
  | .cnt, ρ => .ok (.ct, ρ)
  | .never, _ => .bad
  | .parN i j a b, ρ => ev G a ρ >>= fun p => keep p.1 >>= fun d => ev G b p.2 >>= nwK fun ds ρ' => if (free ρ' i && free ρ' j && decide (i ≠ j)) = true then .ok (.nx, (ρ'.set i (.dat d)).set j (.own false ds)) else .bad
  | .par3 i j l a b c, ρ => ev G a ρ >>= fun p => keep p.1 >>= fun d => ev G b p.2 >>= fun q => keep q.1 >>= fun d2 => ev G c q.2 >>= fun r => keep r.1 >>= fun d3 => if (free r.2 i && free r.2 j && free r.2 l) = true then .ok (.nx, ((r.2.set i (.dat d)).set j (.dat d2)).set l (.dat d3)) else .bad
  | .par3N i j l a b c, ρ => ev G a ρ >>= fun p => keep p.1 >>= fun d => ev G b p.2 >>= fun q => keep q.1 >>= fun d2 => ev G c q.2 >>= nwK fun ds ρ' => if (free ρ' i && free ρ' j && free ρ' l) = true then .ok (.nx, ((ρ'.set i (.dat d)).set j (.dat d2)).set l (.own false ds)) else .bad
  | .rse j, _ => (match G.exn[j]? with | some c => .exc c [] | none => .bad)
def exs : Ss → Slots → R (Fl × Slots)
  | .nil, ρ => .ok (.nx, ρ)
  | .cons s r, ρ => ex s ρ >>= fun p => match p.1 with
    | .nx => exs r p.2
    | f => .ok (f, p.2)
end

/-! ### the look at a tree -/
def notTupE : Expr → Bool
  | .Tuple _ _ _ => false
  | _ => true
def isSlc : Expr → Bool
  | .Slice _ _ _ _ => true
  | _ => false
def isComp' : Expr → Bool
  | .ListComp _ _ _ _ => true
  | .SetComp _ _ _ _ => true
  | .DictComp _ _ _ _ _ => true
  | _ => false
def slotOk (bor : Bool) (is : List Nat) : Bool := !bor || is.all fun i => decide (i ≠ 0)
def isCallE : E → Bool
  | .call _ _ => true
  | _ => false
/-- two names at once: stored from the right -/
def parOk (sc : Scope) (x y : Str) (px py : Pos) (a b : Expr) : Bool :=
  (match (if sc.kind.isAnnotationScope then ScopeKind.function else sc.kind) with | .function => true | _ => false) && (match sc.names.lookup x with | some .local => true | _ => false) && (match sc.names.lookup y with | some .local => true | _ => false) &&
  decide (py.line = px.line) && decide (x ≠ y) && plain a && plain b && !([a, b].all (foldedForSure 8)) && !([a, b].all (constantsAlone 8))
def parOk3 (sc : Scope) (x y z : Str) (px py pz : Pos) (a b c : Expr) : Bool :=
  (match (if sc.kind.isAnnotationScope then ScopeKind.function else sc.kind) with | .function => true | _ => false) && (match sc.names.lookup x with | some .local => true | _ => false) && (match sc.names.lookup y with | some .local => true | _ => false) && (match sc.names.lookup z with | some .local => true | _ => false) &&
  decide (py.line = px.line) && decide (pz.line = px.line) && decide (x ≠ y) && decide (x ≠ z) && decide (y ≠ z) && plain a && plain b && plain c && !([a, b, c].all (foldedForSure 8)) && !([a, b, c].all (constantsAlone 8))
/-- a name that is no plain local one: the stores are not swapped -/
def noSwap (sc : Scope) (ts : List Expr) : Bool := ts.any fun
  | .Name x _ => (match sc.names.lookup x with | some .local => false | _ => true)
  | _ => true
mutual
def okS (sc raw : Scope) (N : List Str) (bor : Bool) : S → Stmt → Bool
  | .asg (.nm i) e, .Assign [.Name x _] e' _ => okL sc raw N i x && okE G sc raw N e e' && slotOk bor [i]
  | .asg (.tup is) e, .Assign [.Tuple ts _ _] e' _ => okNms sc raw N is ts && okE G sc raw N e e' && (notTupE e' || noSwap sc ts) && slotOk bor is
  | .par i j a b, .Assign [.Tuple [.Name x px, .Name y py] _ _] (.Tuple [a', b'] _ _) _ => okL sc raw N i x && okL sc raw N j y && okE G sc raw N a a' && okE G sc raw N b b' && parOk sc x y px py a' b' && slotOk bor [i, j]
  | .new i e, .Assign [.Name x _] e' _ => okL sc raw N i x && okE G sc raw N e e' && isNewE e && slotOk bor [i]
  | .newC i j (.cons e es), .Assign [.Name x _] (.Call (.Name f _) (e' :: es') [] _) _ => okL sc raw N i x && (match G.fns[j]? with | some g => decide (g.name = f) && glOk sc f | none => false) && isNw G j && okE G sc raw N e e' && okEs G sc raw N es es' && slotOk bor [i]
  | .setI i ix e, .Assign [.Subscript (.Name x _) ix' _] e' _ => okV sc N i x && okE G sc raw N ix ix' && okE G sc raw N e e'
  | .app i e, .Expr (.Call (.Attribute (.Name x _) m apos) [e'] [] cpos) _ => okV sc N i x && decide (m = ("append" : Str)) && (apos.endLine == cpos.line) && okE G sc raw N e e'
  | .ext i e, .Expr (.Call (.Attribute (.Name x _) m apos) [e'] [] cpos) _ => okV sc N i x && decide (m = ("extend" : Str)) && (apos.endLine == cpos.line) && okE G sc raw N e e'
  | .exp e, .Expr e' _ => okE G sc raw N e e' && !isComp' e'
  | .ret e, .Return (some e') _ => okE G sc raw N e e'
  | .retL e, .Return (some e') _ => okE G sc raw N e e' && isNewE e
  | .retN, .Return none _ => true
  | .ifs c a b, .If c' a' b' _ => isT c && okE G sc raw N c c' && okSs sc raw N bor a a' && okSs sc raw N bor b b'
  | .fors tg it b, .For tg' it' b' [] _ => (itTg it tg' && okI G sc raw N it it') && okTg sc raw N tg tg' && okSs sc raw N bor b b' && slotOk bor tg.slots
  | .whl _ c b, .While c' b' [] _ => isT c && okE G sc raw N c c' && okSs sc raw N bor b b'
  | .pass, .Pass _ => true
  | .pass, .Expr (.Constant (.str _) _ _) _ => true
  | .brk, .Break _ => true
  | .cnt, .Continue _ => true
  | .parN i j a b, .Assign [.Tuple [.Name x px, .Name y py] _ _] (.Tuple [a', b'] _ _) _ => okL sc raw N i x && okL sc raw N j y && okE G sc raw N a a' && okE G sc raw N b b' && isNewE b && parOk sc x y px py a' b' && slotOk bor [i] && slotOk bor [j]
  | .par3 i j l a b c, .Assign [.Tuple [.Name x px, .Name y py, .Name z pz] _ _] (.Tuple [a', b', c'] _ _) _ => okL sc raw N i x && okL sc raw N j y && okL sc raw N l z && okE G sc raw N a a' && okE G sc raw N b b' && okE G sc raw N c c' && parOk3 sc x y z px py pz a' b' c' && slotOk bor [i, j, l]
  | .par3N i j l a b c, .Assign [.Tuple [.Name x px, .Name y py, .Name z pz] _ _] (.Tuple [a', b', c'] _ _) _ => okL sc raw N i x && okL sc raw N j y && okL sc raw N l z && okE G sc raw N a a' && okE G sc raw N b b' && okE G sc raw N c c' && isNewE c && parOk3 sc x y z px py pz a' b' c' && slotOk bor [i, j] && slotOk bor [l]
  | .never, _ => true
  | .rse j, .Raise (some (.Call (.Name x _) [] [] _)) none _ => (match G.exn[j]? with | some c => decide (c = x) && glOk sc x | none => false)
  | _, _ => false
def okSs (sc raw : Scope) (N : List Str) (bor : Bool) : Ss → List Stmt → Bool
  | .nil, [] => true
  | .cons s r, s' :: r' => okS sc raw N bor s s' && okSs sc raw N bor r r'
  | _, _ => false
end

/-! ### readings -/
variable [Tb]
/-- how a def began: what may change, the heap -/
structure Fc where
  bor : Bool
  B0 : Addr → Prop
  F0 : Hp
  H0 : Hp
structure Good (K : Frag) (fc : Fc) (F H : Hp) (σ : L2.St) (ρ : Slots) : Prop where
  en : EnvOk K F H σ ρ
  ex : Ext fc.B0 fc.F0 fc.H0 F H
  ow : ∀ l, Own σ ρ l → fc.B0 l ∨ fc.H0 l = none
  lb : ∀ l, fc.B0 l → fc.bor = true ∧ σ[0]? = some (some (V.ref l))
def FinS (X : Cx) (fc : Fc) (F : Hp) (Dn : Ends) : R (Fl × Slots) → Prop
  | .ok (.nx, ρ') => ∀ σ' F' H', Same F F' → Good X.K fc F' H' σ' ρ' → Dn.nx σ' H'
  | .ok (.bk, ρ') => ∀ σ' F' H', Same F F' → Good X.K fc F' H' σ' ρ' → Dn.bk σ' H'
  | .ok (.ct, ρ') => ∀ σ' F' H', Same F F' → Good X.K fc F' H' σ' ρ' → Dn.ct σ' H'
  | .ok (.rt d, ρ') => ∀ v σ' F' H', Same F F' → Good X.K fc F' H' σ' ρ' → Rp X.K F' v d → Dn.rt v H'
  | .ok (.rn ds, ρ') => ∀ p xs σ' F' H', Same F F' → Good X.K fc F' H' σ' ρ' → H' p = none → Rps X.K F' xs ds → xs.length ≤ sizeLine → Dn.rt (.ref p) (upd H' p (.lst xs))
  | .exc c _ => ∀ F' H', Same F F' → Ext fc.B0 fc.F0 fc.H0 F' H' → Same F' H' → ∀ cls σ', X.mg c = some cls → TkX X cls none σ' H'
  | .bad => False
def RdS (X : Cx) (fc : Fc) (f : Slots → R (Fl × Slots)) : TS := fun Dn σ H => ∃ F ρ, Good X.K fc F H σ ρ ∧ FinS X fc F Dn (f ρ)
section
variable {α β : Type} {X : Cx} {fc : Fc} {F H F' : Hp} {σ : L2.St} {ρ : Slots} {Dn : Ends}
theorem FinS.mono (s : Same F F') {r : R (Fl × Slots)} (h : FinS X fc F Dn r) : FinS X fc F' Dn r := by
  cases r with
  | ok p =>
    obtain ⟨f, ρ'⟩ := p
    cases f with
    | nx => exact fun σ' F2 H2 s2 g => h σ' F2 H2 (s.trans s2) g
    | bk => exact fun σ' F2 H2 s2 g => h σ' F2 H2 (s.trans s2) g
    | ct => exact fun σ' F2 H2 s2 g => h σ' F2 H2 (s.trans s2) g
    | rt d => exact fun v σ' F2 H2 s2 g => h v σ' F2 H2 (s.trans s2) g
    | rn ds => exact fun p xs σ' F2 H2 s2 g => h p xs σ' F2 H2 (s.trans s2) g
  | exc => exact fun F2 H2 s2 => h F2 H2 (s.trans s2)
  | bad => exact h
theorem FinS.ok {r : R α} {g : α → R (Fl × Slots)} (h : FinS X fc F Dn (r >>= g)) [n : NX r] : ∃ a, r = .ok a ∧ FinS X fc F Dn (g a) := by
  cases r with
  | ok a => exact ⟨a, rfl, h⟩
  | exc c fs => exact absurd rfl (n.ne c fs)
  | bad => exact h.elim
theorem Good.step {F' H' : Hp} {ρ' : Slots} (g : Good X.K fc F H σ ρ) (e : Ext (Own σ ρ) F H F' H') (en : EnvOk X.K F' H' σ ρ') (o : ∀ l, Own σ ρ' l → Own σ ρ l) : Good X.K fc F' H' σ ρ' :=
  ⟨en, g.ex.trans e g.ow, fun l hl => g.ow l (o l hl), g.lb⟩
/-- an expression, then what follows -/
theorem FinS.ev {Rl : Hp → β → α → Prop} {r : R (α × Slots)} {k : α × Slots → R (Fl × Slots)} (g : Good X.K fc F H σ ρ) (h : FinS X fc F Dn (r >>= k)) :
    Fin X.K (xq X) Rl (Own σ ρ) F H σ (fun v H1 => ∃ F1 ρ1 a, Same F F1 ∧ Good X.K fc F1 H1 σ ρ1 ∧ Rl F1 v a ∧ FinS X fc F1 Dn (k (a, ρ1))) r := by
  cases r with
  | ok p => exact fun v F' H' e en o rl => ⟨F', p.2, p.1, e.f, g.step e en o, rl, FinS.mono e.f (show FinS X fc F Dn (k p) from h)⟩
  | exc c fs => exact fun F' H' e s' => h F' H' e.f (g.ex.trans e g.ow) s'
  | bad => exact h.elim
theorem FinS.iff {c : Bool} {r1 r2 : R (Fl × Slots)} (h : FinS X fc F Dn (if c = true then r1 else r2)) : (c = true → FinS X fc F Dn r1) ∧ (c = false → FinS X fc F Dn r2) := by
  cases c
  · exact ⟨fun z => (by cases z), fun _ => h⟩
  · exact ⟨fun _ => h, fun z => (by cases z)⟩
/-- a block, then what follows where it runs through -/
theorem FinS.seq {r : R (Fl × Slots)} {k : Slots → R (Fl × Slots)} (h : FinS X fc F Dn (r >>= fun p => match p.1 with | .nx => k p.2 | f => .ok (f, p.2))) : FinS X fc F { Dn with nx := RdS X fc k Dn } r := by
  cases r with
  | ok p =>
    obtain ⟨f, ρ'⟩ := p
    cases f with
    | nx => exact fun σ' F2 H2 s2 g => ⟨F2, ρ', g, FinS.mono s2 (show FinS X fc F Dn (k ρ') from h)⟩
    | bk => exact h
    | ct => exact h
    | rt d => exact h
    | rn ds => exact h
  | exc => exact h
  | bad => exact h
/-- a turn of a loop -/
theorem FinS.turn {r : R (Fl × Slots)} {k : Slots → R (Fl × Slots)} {N : L2.St → Hp → Prop} (h : FinS X fc F Dn (r >>= fun p => match p.1 with
    | .nx => k p.2
    | .ct => k p.2
    | .bk => .ok (.nx, p.2)
    | f => .ok (f, p.2))) (hN : ∀ σ' F' H' ρ', Same F F' → Good X.K fc F' H' σ' ρ' → FinS X fc F' Dn (k ρ') → N σ' H') : FinS X fc F { Dn with nx := N, ct := N, bk := Dn.nx } r := by
  cases r with
  | ok p =>
    obtain ⟨f, ρ'⟩ := p
    cases f with
    | nx => exact fun σ' F2 H2 s2 g => hN σ' F2 H2 ρ' s2 g (FinS.mono s2 (show FinS X fc F Dn (k ρ') from h))
    | ct => exact fun σ' F2 H2 s2 g => hN σ' F2 H2 ρ' s2 g (FinS.mono s2 (show FinS X fc F Dn (k ρ') from h))
    | bk => exact h
    | rt d => exact h
    | rn ds => exact h
  | exc => exact h
  | bad => exact h
theorem slot0 {bor : Bool} {is : List Nat} (h : slotOk bor is = true) (hb : bor = true) : 0 ∉ is := by
  subst hb
  have h : (is.all fun i => decide (i ≠ 0)) = true := h
  intro z
  have := List.all_eq_true.mp h 0 z
  simp at this
theorem Good.took {is : List Nat} {σ2 : L2.St} {ρ2 : Slots} (g : Good X.K fc F H σ ρ) (h : slotOk fc.bor is = true) (t : Took X.K F H σ ρ is σ2 ρ2) : Good X.K fc F H σ2 ρ2 :=
  ⟨t.en, g.ex, fun l hl => g.ow l (t.own l hl), fun l hl => ⟨(g.lb l hl).1, by rw [(t.out 0 (slot0 h (g.lb l hl).1)).1]; exact (g.lb l hl).2⟩⟩
/-- a list just made, one's own -/
theorem Good.new {i : Nat} {p : Addr} {xs : List V} {ds : List D} (g : Good X.K fc F H σ ρ) (h : slotOk fc.bor [i] = true) (hf : free ρ i = true) (hp : H p = none) (r : Rps X.K F xs ds) (z : xs.length ≤ sizeLine) :
    Good X.K fc F (upd H p (.lst xs)) (σ.set i (some (.ref p))) (ρ.set i (.own false ds)) := by
  have hF : F p = none := g.en.sub.free hp
  have e0 : Ext (fun _ => False) F H F (upd H p (.lst xs)) := Ext.laidH hp
  have en0 : EnvOk X.K F (upd H p (.lst xs)) σ ρ := g.en.ext e0 (sub_updH g.en.sub hF) fun _ _ z => z
  have hi : i < ρ.length := by
    unfold free at hf
    cases e : ρ[i]? with
    | none => rw [e] at hf; cases hf
    | some c => exact (List.getElem?_eq_some_iff.mp e).1
  have hiσ : i < σ.length := by rw [g.en.len]; exact hi
  have hP0 : fc.H0 p = none := g.ex.free hp
  have nown : ¬ Own σ ρ p := own_none g.en hp
  have cases' : ∀ {j : Nat} {b : Bool} {d2 : List D} {l : Addr}, (ρ.set i (.own false ds))[j]? = some (Cell.own b d2) → (σ.set i (some (V.ref p)))[j]? = some (some (V.ref l)) → (j = i ∧ l = p) ∨ (j ≠ i ∧ ρ[j]? = some (Cell.own b d2) ∧ σ[j]? = some (some (V.ref l))) := fun {j b d2 l} e1 e2 => by
    by_cases hj : i = j
    · subst hj
      rw [List.getElem?_set_self hiσ] at e2
      exact .inl ⟨rfl, (V.ref.inj (Option.some.inj (Option.some.inj e2))).symm⟩
    · rw [List.getElem?_set_ne hj] at e1 e2
      exact .inr ⟨fun z => hj z.symm, e1, e2⟩
  refine ⟨⟨en0.sub, by rw [List.length_set, List.length_set]; exact g.en.len, fun j c e => ?_, fun j1 j2 l b b' d1 d2 e1 e2 g1 g2 => ?_, g.en.sm, en0.tb⟩, g.ex.trans e0 fun l z => z.elim, fun l ⟨j, b, d2, e1, e2⟩ => ?_, fun l hl => ⟨(g.lb l hl).1, ?_⟩⟩
  · by_cases hj : i = j
    · subst hj
      rw [List.getElem?_set_self hi] at e
      obtain rfl := Option.some.inj e
      rw [List.getElem?_set_self hiσ]
      exact ⟨p, xs, rfl, hF, upd_same, r, z⟩
    · rw [List.getElem?_set_ne hj] at e ⊢
      exact en0.cell j c e
  · rcases cases' e1 g1 with ⟨a1, rfl⟩ | ⟨a1, b1, c1⟩ <;> rcases cases' e2 g2 with ⟨a2, k2⟩ | ⟨a2, b2, c2⟩
    · rw [a1, a2]
    · exact absurd ⟨j2, _, _, b2, c2⟩ nown
    · subst k2; exact absurd ⟨j1, _, _, b1, c1⟩ nown
    · exact g.en.sep _ _ _ _ _ _ _ b1 b2 c1 c2
  · rcases cases' e1 e2 with ⟨_, rfl⟩ | ⟨_, b1, c1⟩
    · exact .inr hP0
    · exact g.ow l ⟨j, b, d2, b1, c1⟩
  · have h0 := slot0 h (g.lb l hl).1
    rw [List.getElem?_set_ne (fun z => h0 (by rw [z]; exact List.mem_cons_self))]
    exact (g.lb l hl).2
/-- a list of one's own is written -/
theorem Good.wrt {i : Nat} {b : Bool} {l : Addr} {ds ds' : List D} {xs' : List V} (g : Good X.K fc F H σ ρ) (e : ρ[i]? = some (Cell.own b ds)) (el : σ[i]? = some (some (V.ref l))) (hF : F l = none) (r : Rps X.K F xs' ds') (z : xs'.length ≤ sizeLine) :
    Good X.K fc F (upd H l (.lst xs')) σ (ρ.set i (.own b ds')) := by
  have e0 : Ext (fun a => a = l) F H F (upd H l (.lst xs')) := Ext.over hF (by
    obtain ⟨l2, xs, e1, _, e3, _⟩ := g.en.cell i _ e
    rw [el] at e1
    obtain rfl : l = l2 := V.ref.inj (Option.some.inj e1)
    exact nt_lst e3)
  exact g.step (e0.mono fun a ha => ⟨i, b, ds, e, by rw [ha]; exact el⟩) (set_ok g.en e el e0 (sub_updH g.en.sub hF) hF upd_same r z) fun a ha => own_set e a ha
end
end DP

/-! DP, part 14: statements keep what the small tree says. -/
namespace DP
open PySem PySem.Spec PyProof.Rows L2
variable [Tb]
section
variable {G : Gm} {k : Nat} {sc raw : Scope} {N : List Str} {X : Cx} {pos : Pos}
theorem comp_parts {elt cond : E} {tg : Tg} {it : I} {e' : Expr} (c : Here G k sc raw N X) (h : okE G sc raw N (.comp elt tg it cond) e' = true) : ∃ (elt' tg' it' : Expr) (ifs' : List Expr) (scope : Scope) (pos : Pos), e' = .ListComp elt' [⟨tg', it', ifs', 0⟩] scope pos ∧
    PI X tg' it' (RdI X (evI G it)) ∧ plain it' = true ∧ BlkOk X.N X.env.scope scope (ownOf N tg) ∧
    (∀ (s : Shared) (H : Hp) (C : Addr) (cl : List (Str × Addr)) (fp : List Addr), PG (X.blk s H scope (compEnvC scope cl C X.env) fp) tg' (gTg X.K tg)) ∧
    (∀ (s : Shared) (H : Hp) (C : Addr) (cl : List (Str × Addr)) (fp : List Addr), PTs (X.blk s H scope (compEnvC scope cl C X.env) fp) ifs' (RdT0 X.K (evT G cond))) ∧
    (∀ (s : Shared) (H : Hp) (C : Addr) (cl : List (Str × Addr)) (fp : List Addr), PE (X.blk s H scope (compEnvC scope cl C X.env) fp) elt' (RdE0 X.K (ev G elt))) := by
  cases e' <;> first | (cases h; done) | skip
  rename_i elt' gs scope pos
  rcases gs with _ | ⟨⟨tg', it', ifs', as⟩, _ | ⟨g2, gs⟩⟩ <;> first | (cases h; done) | skip
  rw [okE_comp] at h
  obtain ⟨h, h5⟩ := band h
  obtain ⟨h, h4⟩ := band h
  obtain ⟨h, h3⟩ := band h
  obtain ⟨h, h2⟩ := band h
  obtain ⟨h0, h1⟩ := band h
  obtain rfl : as = 0 := of_decide_eq_true h0
  obtain ⟨h1t, h1⟩ := band h1
  have qi := soundi G it c h1
  refine ⟨elt', tg', it', ifs', scope, pos, rfl, qi.1 tg' h1t, qi.2, by rw [c.nE, c.scE]; exact blkOk_by h2, fun s H C cl fp => pg_tg (c.blk scope s H C cl fp) h3, fun s H C cl fp => ?_, fun s H C cl fp => (sound G elt (c.blk scope s H C cl fp) h4).1.imp fun _ _ _ q => q.zero⟩
  rcases ifs' with _ | ⟨c', _ | ⟨c2, cs⟩⟩
  · obtain rfl := yes_of h5
    exact pts_nil.imp yes_lit
  · obtain ⟨h7, h8⟩ := band (show (isT cond && okE G (relS scope sc) scope N cond c') = true from h5)
    exact pts_one (((sound G cond (c.blk scope s H C cl fp) h8).2.1 h7).imp fun _ _ _ q => q.zero)
  · cases h5
theorem same_rfl {F : Hp} : Same F F := fun _ _ h => h
theorem swaps_none {e' : Expr} (h : isComp' e' = false) {t : Option Expr} {line : Nat} {env : PySem.Env} : swapsWith e' t line env = pure false := by
  cases e' <;> first | rfl | cases h
theorem comp_of {e : E} {e' : Expr} (h : okE G sc raw N e e' = true) (hc : isComp' e' = true) : (∃ elt tg it cond, e = .comp elt tg it cond) ∨ (∃ elt tg it cond tg2 it2 cond2, e = .comp2 elt tg it cond tg2 it2 cond2) := by
  cases e' <;> first | (cases hc; done) | skip
  all_goals (cases e <;> first | exact .inl ⟨_, _, _, _, rfl⟩ | exact .inr ⟨_, _, _, _, _, _, _, rfl⟩ | (cases h; done) | skip)
  all_goals (rename_i es; cases es <;> cases h)
/-- name = a comprehension of two clauses -/
theorem s_nm2 (c : Here G k sc raw N X) {elt cond cond2 : E} {tg tg2 : Tg} {it it2 : I} {e' : Expr} {i : Nat} {x : Str} {px : Pos} (hl : okL sc raw N i x = true) (h : okE G sc raw N (.comp2 elt tg it cond tg2 it2 cond2) e' = true) (s2 : PE X e' (RdN X (ev G (.comp2 elt tg it cond tg2 it2 cond2)))) :
    PS X (.Assign [.Name x px] e' pos) (tAsg (RdN X (ev G (.comp2 elt tg it cond tg2 it2 cond2))) (gName i)) := by
  obtain ⟨g1, g2, g3⟩ := l_of c hl
  cases e' <;> first | (cases h; done) | skip
  rename_i elt' gs scope p2
  rcases gs with _ | ⟨⟨tg', it', ifs', as⟩, _ | ⟨⟨tg2', it2', ifs2', as2⟩, _ | ⟨g3, gs⟩⟩⟩ <;> first | (cases h; done) | skip
  rw [okE_comp2] at h
  obtain ⟨h, h9⟩ := band h
  obtain ⟨h, h8⟩ := band h
  obtain ⟨h, h7⟩ := band h
  obtain ⟨h, h6⟩ := band h
  obtain ⟨h, h5⟩ := band h
  obtain ⟨h, h4⟩ := band h
  obtain ⟨h, h3⟩ := band h
  obtain ⟨h, h2⟩ := band h
  obtain ⟨h0, h1⟩ := band h
  obtain rfl : as = 0 := of_decide_eq_true h0
  obtain rfl : as2 = 0 := of_decide_eq_true h1
  obtain ⟨h2t, h2⟩ := band h2
  obtain ⟨h6t, h6⟩ := band h6
  have qi := soundi G it c h2
  have sw : swapsWith (.ListComp elt' [⟨tg', it', ifs', 0⟩, ⟨tg2', it2', ifs2', 0⟩] scope p2) (some (.Name x px)) pos.line X.env =
    pure (X.env.blockKind == .function && X.env.kindOf x == some .local && px.line == p2.line && !(scope.names.any fun (n, k) => n == x && (k == .local || k == .cell))) := rfl
  cases hb : (X.env.blockKind == .function && X.env.kindOf x == some .local && px.line == p2.line && !(scope.names.any fun (n, k) => n == x && (k == .local || k == .cell))) with
  | false =>
    rw [hb] at sw
    exact ps_set (nd_of c) g1 g2 s2 sw g3
  | true =>
    rw [hb] at sw
    obtain ⟨hb, _⟩ := band hb
    obtain ⟨hb, _⟩ := band hb
    obtain ⟨_, hb⟩ := band hb
    have hk : X.env.scope.names.lookup x = some .local := by
      have hb : (X.env.kindOf x == some NameKind.local) = true := hb
      exact eq_of_beq hb
    have okB : BlkOk X.N X.env.scope scope (ownOf N tg ++ ownOf N tg2) := by rw [c.nE, c.scE]; exact blkOk_by h3
    have r := ps_setLc2 (py := px) (pos := p2) (spos := pos) (own := ownOf N tg ++ ownOf N tg2) (vs1 := tg2.slots) (wi := RdI X (evI G it)) (g := gTg X.K tg) (tt := RdT0 X.K (evT G cond)) (wi1 := RdI0 X.K (evI G it2)) (g1 := gTg X.K tg2) (tt1 := RdT0 X.K (evT G cond2)) (te := RdE0 X.K (ev G elt)) c.calm (nd_of c) g1 hk sw (qi.1 tg' h2t) okB (fun i hi => by
        rw [List.map_append, ownOf_ix, ownOf_ix]
        exact List.mem_append_right _ hi)
      (fun s H C cl fp => pg_tg (c.blk scope s H C cl fp) h4) (fun s H C cl fp => pts_cd (c.blk scope s H C cl fp) (sound G cond) h8)
      (fun s H C cl fp => ((soundi G it2 (c.blk scope s H C cl fp) h6).1 tg2' h6t).imp fun _ _ _ q => q.zero) (fun s H C cl fp => pg_tg (c.blk scope s H C cl fp) h5) (fun s H C cl fp => pts_cd (c.blk scope s H C cl fp) (sound G cond2) h9) (fun s H C cl fp => (sound G elt (c.blk scope s H C cl fp) h7).1.imp fun _ _ _ q => q.zero) (plain_fold qi.2) (fun env => plain_fold (plain_ofI (G := G) h6))
    exact ⟨fun pins s σ H Dn I q => r.run pins s σ H Dn I (lc2_of q)⟩
/-- name = value -/
theorem s_nm (c : Here G k sc raw N X) {e : E} {e' : Expr} {i : Nat} {x : Str} {px : Pos} (hl : okL sc raw N i x = true) (h : okE G sc raw N e e' = true) :
    PS X (.Assign [.Name x px] e' pos) (tAsg (RdE X (ev G e)) (gName i)) ∧ (isNewE e = true → PS X (.Assign [.Name x px] e' pos) (tAsg (RdN X (ev G e)) (gName i))) := by
  obtain ⟨g1, g2, g3⟩ := l_of c hl
  have s := sound G e c h
  cases hc : isComp' e' with
  | false => exact ⟨ps_set (nd_of c) g1 g2 s.1 (swaps_none hc) g3, fun z => ps_set (nd_of c) g1 g2 (s.2.2 z) (swaps_none hc) g3⟩
  | true =>
    rcases comp_of h hc with ⟨elt, tg, it, cond, rfl⟩ | ⟨elt, tg, it, cond, tg2, it2, cond2, rfl⟩
    rotate_left
    · have key := s_nm2 (px := px) (pos := pos) c hl h (s.2.2 rfl)
      exact ⟨⟨fun pins s σ H Dn I q => key.run pins s σ H Dn I (RdE.new q comp2_list)⟩, fun _ => key⟩
    obtain ⟨elt', tg', it', ifs', scope, p2, rfl, hi, hp, ok, hg, ht, he⟩ := comp_parts c h
    have key : PS X (.Assign [.Name x px] (.ListComp elt' [⟨tg', it', ifs', 0⟩] scope p2) pos) (tAsg (RdN X (ev G (.comp elt tg it cond))) (gName i)) := by
      have sw : swapsWith (.ListComp elt' [⟨tg', it', ifs', 0⟩] scope p2) (some (.Name x px)) pos.line X.env =
        pure (X.env.blockKind == .function && X.env.kindOf x == some .local && px.line == p2.line && !(scope.names.any fun (n, k) => n == x && (k == .local || k == .cell))) := rfl
      cases hb : (X.env.blockKind == .function && X.env.kindOf x == some .local && px.line == p2.line && !(scope.names.any fun (n, k) => n == x && (k == .local || k == .cell))) with
      | false =>
        rw [hb] at sw
        exact ps_set (nd_of c) g1 g2 (s.2.2 rfl) sw g3
      | true =>
        rw [hb] at sw
        obtain ⟨hb, _⟩ := band hb
        obtain ⟨hb, _⟩ := band hb
        obtain ⟨_, hb⟩ := band hb
        have hk : X.env.scope.names.lookup x = some .local := by
          have hb : (X.env.kindOf x == some NameKind.local) = true := hb
          exact eq_of_beq hb
        have r := ps_setLc (py := px) (pos := p2) (spos := pos) (own := ownOf N tg) c.calm (nd_of c) g1 hk sw hi ok hg ht he (plain_fold hp)
        exact ⟨fun pins s σ H Dn I q => r.run pins s σ H Dn I (lc_of q)⟩
    exact ⟨⟨fun pins s σ H Dn I q => key.run pins s σ H Dn I (RdE.new q comp_list)⟩, fun _ => key⟩
theorem notTup_sw {e' : Expr} (h : notTupE e' = true) {es : List Expr} {k0 : Nat} {p : Pos} {env : PySem.Env} : swappedStores [.Tuple es k0 p] e' env = pure none := by
  cases e' <;> first | rfl | cases h
theorem filter_short {α β : Type} (f : α → Option β) : ∀ l : List α, (∃ a ∈ l, f a = none) → (l.filterMap f).length < l.length
  | [], h => by obtain ⟨a, h, _⟩ := h; cases h
  | a :: l, h => by
    cases e : f a with
    | none =>
      rw [List.filterMap_cons_none e, List.length_cons]
      exact Nat.lt_succ_of_le (List.length_filterMap_le f l)
    | some b =>
      rw [List.filterMap_cons_some e, List.length_cons, List.length_cons]
      refine Nat.succ_lt_succ (filter_short f l ?_)
      obtain ⟨x, hx, hn⟩ := h
      rcases List.mem_cons.mp hx with rfl | hx
      · rw [e] at hn; cases hn
      · exact ⟨x, hx, hn⟩
theorem noSwap_sw {sc : Scope} {ts : List Expr} {e' : Expr} {k0 : Nat} {p : Pos} {env : PySem.Env} (he : env.scope = sc) (h : noSwap sc ts = true) : swappedStores [.Tuple ts k0 p] e' env = pure none := by
  cases e' <;> first | rfl | skip
  rename_i vs k2 p2
  have sh : ∀ line : Nat, ((ts.filterMap fun
    | .Name id pos => if env.kindOf id == some .local && pos.line == line then some id else none
    | _ => none).length != ts.length) = true := fun line => by
    have : (ts.filterMap fun
      | .Name id pos => if env.kindOf id == some .local && pos.line == line then some id else none
      | _ => none).length < ts.length := by
      refine filter_short _ ts ?_
      obtain ⟨x, hx, hs⟩ := List.any_eq_true.mp h
      refine ⟨x, hx, ?_⟩
      cases x <;> first | rfl | skip
      rename_i y py
      dsimp only at hs ⊢
      have hk : (env.kindOf y == some NameKind.local) = false := by
        unfold Env.kindOf
        rw [he]
        split at hs
        · cases hs
        · rename_i hne
          cases e : sc.names.lookup y with
          | none => rfl
          | some kd => cases kd <;> first | rfl | exact absurd e hne
      rw [hk]
      rfl
    simpa using Nat.ne_of_lt this
  unfold swappedStores
  dsimp only
  split
  · rfl
  · split
    · rfl
    · split
      · rfl
      · rename_i hh
        exact absurd (Bool.or_eq_true_iff.mpr (Or.inl (sh _))) hh
theorem sw_tup {e' : Expr} {es : List Expr} {k0 : Nat} {p : Pos} {line : Nat} {env : PySem.Env} : swapsWithSole [.Tuple es k0 p] e' line env = pure false := by
  cases e' <;> rfl
theorem sw_sub {e' o i : Expr} {p : Pos} {line : Nat} {env : PySem.Env} : swapsWithSole [.Subscript o i p] e' line env = pure false := by
  cases e' <;> rfl
theorem sws_sub {e' o i : Expr} {p : Pos} {env : PySem.Env} : swappedStores [.Subscript o i p] e' env = pure none := by
  cases e' <;> rfl
end
variable (G : Gm)
def SoundS (s : S) : Prop := ∀ {k : Nat} {sc raw : Scope} {N : List Str} {X : Cx} {st : Stmt} (fc : Fc), Here G k sc raw N X → PassesOwn (model X.prog X.w) X.A X.env X.xe → okS G sc raw N fc.bor s st = true → PS X st (RdS X fc (ex G s))
def SoundSs (s : Ss) : Prop := ∀ {k : Nat} {sc raw : Scope} {N : List Str} {X : Cx} {st : List Stmt} (fc : Fc), Here G k sc raw N X → PassesOwn (model X.prog X.w) X.A X.env X.xe → okSs G sc raw N fc.bor s st = true → PSs X st (RdS X fc (exs G s))
theorem _root_.L2.PS.imp {X : Cx} {e : Stmt} {t t' : TS} (h : PS X e t) (i : ∀ D σ H, t' D σ H → t D σ H) : PS X e t' := ⟨fun pins s σ H Q I q => h.run pins s σ H Q I (i _ _ _ q)⟩
theorem _root_.L2.PSs.imp {X : Cx} {e : List Stmt} {t t' : TS} (h : PSs X e t) (i : ∀ D σ H, t' D σ H → t D σ H) : PSs X e t' := ⟨fun pins s σ H Q I q => h.run pins s σ H Q I (i _ _ _ q)⟩
variable {G}
theorem st_asg {tg : Tg} {e : E} : SoundS G (.asg tg e) := by
  intro k sc raw N X st fc c hx h
  have key : ∀ {st : Stmt}, slotOk fc.bor tg.slots = true → PS X st (tAsg (RdE X (ev G e)) (gTg X.K tg)) → PS X st (RdS X fc (ex G (.asg tg e))) := fun {st} hs p => by
    refine p.imp fun Dn σ H q => ?_
    obtain ⟨F, ρ, g, q⟩ := q
    have q : FinS X fc F Dn (ev G e ρ >>= fun p => keep p.1 >>= fun d => putTg tg d p.2 >>= fun ρ' => .ok (.nx, ρ')) := q
    refine ⟨F, ρ, g.en, (q.ev g).mono fun x H1 q => ?_⟩
    obtain ⟨F1, ρ1, o, s1, g1, r1, q⟩ := q
    obtain ⟨d, ed, q⟩ := q.ok
    obtain ⟨ρ', ep, q⟩ := q.ok
    exact take_tg g1.en ep (keep_rp r1 ed) fun σ2 t => q σ2 F1 H1 same_rfl (g1.took hs t)
  cases st <;> first | (cases tg <;> cases h; done) | skip
  rename_i ts e' pos
  rcases ts with _ | ⟨t, _ | ⟨t2, ts⟩⟩ <;> first | (cases tg <;> cases h; done) | skip
  rotate_left
  · cases tg <;> cases t <;> cases h
  cases tg with
  | nm i =>
    cases t <;> first | (cases h; done) | skip
    rename_i x px
    obtain ⟨h, h3⟩ := band (show (okL sc raw N i x && okE G sc raw N e e' && slotOk fc.bor [i]) = true from h)
    obtain ⟨h1, h2⟩ := band h
    exact key h3 (s_nm c h1 h2).1
  | tup is =>
    cases t <;> first | (cases h; done) | skip
    rename_i ts k0 px
    obtain ⟨h, h4⟩ := band (show (okNms sc raw N is ts && okE G sc raw N e e' && (notTupE e' || noSwap sc ts) && slotOk fc.bor is) = true from h)
    obtain ⟨h, h3⟩ := band h
    obtain ⟨h1, h2⟩ := band h
    exact key h4 (ps_asg (sound G e c h2).1 (pg_tg (tg := .tup is) c h1) sw_tup (by
      rcases Bool.or_eq_true_iff.mp h3 with h3 | h3
      · exact notTup_sw h3
      · exact noSwap_sw c.scE h3) rfl)
theorem FinS.new {fc : Fc} {F H : Hp} {σ : L2.St} {ρ : Slots} {Dn : Ends} {r : R (Opd × Slots)} {k : List D → Slots → R (Fl × Slots)} {Q : VK} (g : Good X.K fc F H σ ρ) (h : FinS X fc F Dn (r >>= nwK k))
    (hq : ∀ ds ρ' p xs F' H', Same F F' → Good X.K fc F' H' σ ρ' → H' p = none → Rps X.K F' xs ds → xs.length ≤ sizeLine → FinS X fc F' Dn (k ds ρ') → Q (.ref p) (upd H' p (.lst xs))) : FinN X (Own σ ρ) F H σ Q r := by
  cases r with
  | exc c fs => exact fun F' H' e s' => h F' H' e.f (g.ex.trans e g.ow) s'
  | bad => exact h.elim
  | ok p =>
    obtain ⟨o, ρ'⟩ := p
    cases o with
    | plc j => exact h.elim
    | val d =>
      cases d <;> first | exact h.elim | skip
      exact fun p xs F' H' ex en' ow hp rr z => hq _ ρ' p xs F' H' ex.f (g.step ex en' ow) hp rr z (FinS.mono ex.f h)
theorem new_eq (i : Nat) (r : R (Opd × Slots)) : (r >>= fun p => (match p.1 with
    | .val (.list ds) => if free p.2 i = true then R.ok (Fl.nx, p.2.set i (.own false ds)) else .bad
    | _ => .bad)) = (r >>= nwK fun ds ρ' => if free ρ' i = true then R.ok (Fl.nx, ρ'.set i (.own false ds)) else .bad) := by
  congr 1
  funext p
  obtain ⟨o, ρ'⟩ := p
  cases o with
  | plc j => rfl
  | val d => cases d <;> rfl
theorem ret_eq (r : R (Opd × Slots)) : (r >>= fun p => (match p.1 with
    | .val (.list ds) => R.ok (Fl.rn ds, p.2)
    | _ => .bad)) = (r >>= nwK fun ds ρ' => R.ok (Fl.rn ds, ρ')) := by
  congr 1
  funext p
  obtain ⟨o, ρ'⟩ := p
  cases o with
  | plc j => rfl
  | val d => cases d <;> rfl
theorem st_new {i : Nat} {e : E} : SoundS G (.new i e) := by
  intro k sc raw N X st fc c hx h
  cases st <;> first | (cases h; done) | skip
  rename_i ts e' pos
  rcases ts with _ | ⟨t, _ | ⟨t2, ts⟩⟩ <;> first | (cases h; done) | skip
  rotate_left
  · cases t <;> cases h
  cases t <;> first | (cases h; done) | skip
  rename_i x px
  obtain ⟨h, h4⟩ := band (show (okL sc raw N i x && okE G sc raw N e e' && isNewE e && slotOk fc.bor [i]) = true from h)
  obtain ⟨h, h3⟩ := band h
  obtain ⟨h1, h2⟩ := band h
  refine ((s_nm c h1 h2).2 h3).imp fun Dn σ H q => ?_
  obtain ⟨F, ρ, g, q⟩ := q
  have q : FinS X fc F Dn (ev G e ρ >>= fun p => (match p.1 with
    | .val (.list ds) => if free p.2 i = true then .ok (.nx, p.2.set i (.own false ds)) else .bad
    | _ => .bad)) := q
  rw [new_eq] at q
  refine ⟨F, ρ, g.en, FinS.new g q fun ds ρ' p xs F' H' s' g' hp r z q => ?_⟩
  obtain ⟨q1, q2⟩ := q.iff
  cases hf : free ρ' i with
  | false => exact (q2 hf).elim
  | true => exact q1 hf _ F' _ same_rfl (g'.new h4 hf hp r z)
theorem st_newC {i j : Nat} {es : Es} : SoundS G (.newC i j es) := by
  intro k sc raw N X st fc c hx h
  cases es with
  | nil => cases st <;> cases h
  | cons e es =>
  cases st <;> first | (cases h; done) | skip
  rename_i ts e' pos
  rcases ts with _ | ⟨t, _ | ⟨t2, ts⟩⟩ <;> first | (cases h; done) | skip
  rotate_left
  · cases t <;> cases h
  cases t <;> first | (cases h; done) | skip
  rename_i x px
  cases e' <;> first | (cases h; done) | skip
  rename_i f as ks p2
  cases f <;> first | (cases h; done) | skip
  rename_i f pf
  rcases as with _ | ⟨e', es'⟩ <;> first | (cases h; done) | skip
  rcases ks with _ | ⟨k1, ks⟩ <;> first | (cases h; done) | skip
  obtain ⟨h, h6⟩ := band h
  obtain ⟨h, h5⟩ := band h
  obtain ⟨h, h4⟩ := band h
  obtain ⟨h, h3⟩ := band h
  obtain ⟨h1, h2⟩ := band h
  have h7 : okEs G sc raw N (.cons e es) (e' :: es') = true := by
    show (okE G sc raw N e e' && okEs G sc raw N es es') = true
    rw [h4, h5]; rfl
  obtain ⟨g1, g2, g3⟩ := l_of c h1
  have qa := (sounds G (.cons e es) c).1 h7
  refine (ps_set (nd_of c) g1 g2 (s_callN (pos := p2) (px := pf) c h2 h3 qa.2 qa.1) rfl g3).imp fun Dn σ H q => ?_
  obtain ⟨F, ρ, g, q⟩ := q
  have q : FinS X fc F Dn (ev G (.call j (.cons e es)) ρ >>= fun p => (match p.1 with
    | .val (.list ds) => if free p.2 i = true then .ok (.nx, p.2.set i (.own false ds)) else .bad
    | _ => .bad)) := q
  rw [new_eq] at q
  refine ⟨F, ρ, g.en, FinS.new g q fun ds ρ' p xs F' H' s' g' hp r z q => ?_⟩
  obtain ⟨q1, q2⟩ := q.iff
  cases hf : free ρ' i with
  | false => exact (q2 hf).elim
  | true => exact q1 hf _ F' _ same_rfl (g'.new h6 hf hp r z)
theorem own_at {K : Frag} {F H : Hp} {σ : L2.St} {ρ : Slots} {i : Nat} {b : Bool} {ds : List D} (en : EnvOk K F H σ ρ) (e : ρ[i]? = some (Cell.own b ds)) : ∃ l xs, σ[i]? = some (some (V.ref l)) ∧ F l = none ∧ H l = some (.lst xs) ∧ Rps K F xs ds ∧ xs.length ≤ sizeLine := by
  obtain ⟨l, xs, el, h⟩ := en.cell i _ e
  refine ⟨l, xs, ?_, h⟩
  cases z : σ[i]? with
  | none => rw [z] at el; cases el
  | some u => rw [z] at el; exact congrArg some el
theorem st_setI {i : Nat} {ix e : E} : SoundS G (.setI i ix e) := by
  intro k sc raw N X st fc c hx h
  cases st <;> first | (cases h; done) | skip
  rename_i ts e' pos
  rcases ts with _ | ⟨t, _ | ⟨t2, ts⟩⟩ <;> first | (cases h; done) | skip
  rotate_left
  · cases t <;> first | (cases h; done) | skip
    rename_i o _ _
    cases o <;> cases h
  cases t <;> first | (cases h; done) | skip
  rename_i o ix' p2
  cases o <;> first | (cases h; done) | skip
  rename_i x px
  obtain ⟨h, h3⟩ := band (show (okV sc N i x && okE G sc raw N ix ix' && okE G sc raw N e e') = true from h)
  obtain ⟨h1, h2⟩ := band h
  have pl := plain_of (G := G) h2
  have ha : ∀ v, assign (.Subscript (.Name x px) ix' p2) X.env v = (do
      let ov ← holding [v] (eval (.Name x px) X.env)
      let iv ← holding [v, ov] (eval ix' X.env)
      standAt p2
      holding [v, ov, iv] (setItem ov iv v)
      release [v, ov, iv] []) := by
    intro v
    cases ix' <;> first | rfl | cases pl
  refine (ps_asg (sound G e c h3).1 (pg_sub (v_of c h1) (sound G ix c h2).1 set_list ha) sw_sub sws_sub rfl).imp fun Dn σ H q => ?_
  obtain ⟨F, ρ, g, q⟩ := q
  have q : FinS X fc F Dn (ev G e ρ >>= fun p => keep p.1 >>= fun d => (match p.2[i]? with
    | some (.own _ _) => ev G ix p.2 >>= fun q => peek q.2 q.1 >>= fun x => asI x >>= fun k => (match q.2[i]? with
      | some (.own b ds) => (match ixN ds.length k with
        | some j => .ok (.nx, q.2.set i (.own b (ds.set j d)))
        | none => .bad)
      | _ => .bad)
    | _ => .bad)) := q
  refine ⟨F, ρ, g.en, (q.ev g).mono fun v H1 q => ?_⟩
  obtain ⟨F1, ρ1, o, s1, g1, r1, q⟩ := q
  obtain ⟨d, ed, q⟩ := q.ok
  dsimp only at q
  split at q
  rotate_left
  · exact q.elim
  rename_i b0 ds0 e0
  obtain ⟨l, _, el, _⟩ := own_at g1.en e0
  refine ⟨.ref l, el, F1, ρ1, g1.en, (q.ev g1).mono fun y H2 q => ?_⟩
  obtain ⟨F2, ρ2, o2, s2, g2, r2, q⟩ := q
  obtain ⟨dx, ex, q⟩ := q.ok
  obtain ⟨kk, ek, q9⟩ := q.ok
  have wy := peek_wk g2.en r2 ex
  dsimp only at q9
  split at q9
  rotate_left
  · exact q9.elim
  rename_i b ds e2
  split at q9
  rotate_left
  · exact q9.elim
  rename_i j ej
  obtain ⟨l', xs, el', f1, f2, f3, f4⟩ := own_at g2.en e2
  rw [el] at el'
  obtain rfl : l = l' := V.ref.inj (Option.some.inj (Option.some.inj el'))
  cases dx with
  | int k2 =>
    obtain rfl : k2 = kk := R.ok.inj ek
    have rv : Rp X.K F2 v d := (keep_rp r1 ed).mono s2
    refine ⟨l, xs, k2, j, rfl, wy.int, f2, by rw [f3.len]; exact ej, ?_⟩
    exact q9 σ F2 _ same_rfl (g2.wrt e2 el f1 (Rps.set rv j f3) (by rw [List.length_set]; exact f4))
  | _ => cases ek
theorem st_app {i : Nat} {e : E} : SoundS G (.app i e) := by
  intro k sc raw N X st fc c hx h
  cases st <;> first | (cases h; done) | skip
  rename_i e0 pos
  cases e0 <;> first | (cases h; done) | skip
  rename_i f as ks cpos
  cases f <;> first | (cases h; done) | skip
  rename_i o m apos
  cases o <;> first | (cases h; done) | skip
  rename_i x px
  rcases as with _ | ⟨e', _ | ⟨e2, as⟩⟩ <;> first | (cases h; done) | skip
  rcases ks with _ | ⟨k1, ks⟩ <;> first | (cases h; done) | skip
  obtain ⟨h, h4⟩ := band (show (okV sc N i x && decide (m = ("append" : Str)) && (apos.endLine == cpos.line) && okE G sc raw N e e') = true from h)
  obtain ⟨h, h3⟩ := band h
  obtain ⟨h1, h2⟩ := band h
  obtain rfl : m = ("append" : Str) := of_decide_eq_true h2
  have hst : starEach [e'] X.env = [(false, eval e' X.env)] := star_of (plain_star (plain_of (G := G) h4))
  refine (ps_expr (pe_bm PySem.F.plainAttrs_list PySem.F.slot_list_append PySem.F.type_list_append mt_append (v_of c h1) (pa_cons (sound G e c h4).1 pa_nil hst) (by rfl) (by rw [hst]; rfl) h3 hst (by rfl)) (by rfl)).imp fun Dn σ H q => ?_
  obtain ⟨F, ρ, g, q⟩ := q
  have q : FinS X fc F Dn (match ρ[i]? with
    | some (.own _ _) => ev G e ρ >>= fun p => keep p.1 >>= fun d => (match p.2[i]? with
      | some (.own b ds) => if sz (ds.length + 1) = true then .ok (.nx, p.2.set i (.own b (ds ++ [d]))) else .bad
      | _ => .bad)
    | _ => .bad) := q
  split at q
  rotate_left
  · exact q.elim
  rename_i b0 ds0 e0
  obtain ⟨l, xs0, el, p1, p2, p3, p4⟩ := own_at g.en e0
  refine ⟨.ref l, el, .inl ⟨rfl, xs0, SqL.of p2⟩, F, ρ, g.en, (q.ev g).mono fun y H1 q => ?_⟩
  obtain ⟨F1, ρ1, o, s1, g1, r1, q⟩ := q
  obtain ⟨d, ed, q⟩ := q.ok
  dsimp only at q
  split at q
  rotate_left
  · exact q.elim
  rename_i b ds e2
  obtain ⟨q1, q2⟩ := q.iff
  cases hz : sz (ds.length + 1) with
  | false => exact (q2 hz).elim
  | true =>
    have q := q1 hz
    have hz := sz_le hz
    obtain ⟨l', xs, el', f1, f2, f3, f4⟩ := own_at g1.en e2
    rw [el] at el'
    obtain rfl : l = l' := V.ref.inj (Option.some.inj (Option.some.inj el'))
    have hl := f3.len
    refine ⟨l, xs, y, rfl, rfl, f2, by omega, ?_⟩
    exact q σ F1 _ same_rfl (g1.wrt e2 el f1 (f3.append (.cons (keep_rp r1 ed) .nil)) (by rw [List.length_append]; show xs.length + 1 ≤ _; omega))
theorem mt_extL {X : Cx} : MtM X "list.extend" (fun x vs H Q => ∃ l b xs zs, x = V.ref l ∧ vs = [V.ref b] ∧ H l = some (.lst xs) ∧ LsK X.K H b zs ∧ xs.length + zs.length ≤ sizeLine ∧ Q .non (upd H l (.lst (xs ++ zs)))) := by
  intro pins s σ H x vs v us Q I rx rv h
  obtain ⟨l, b, xs, zs, rfl, rfl, hl, hb, few, q⟩ := h
  cases rx
  obtain ⟨u, rfl, ru⟩ := rv.one
  cases ru
  obtain ⟨z1, as, n1, r1, len1, e1⟩ := I.lstM hl
  obtain ⟨z2, bs, n2, r2, len2, e2⟩ := Inv.lstR I hb
  have small : as.toArray.size + bs.toArray.size ≤ sizeLine := by simp only [List.size_toArray]; omega
  have short : ¬ (!as.toArray.isEmpty && Builtin.List.listTooLong (as.toArray.size + bs.toArray.size)) = true := by
    intro z
    rw [notLongL small] at z
    simp at z
  refine call_meets F.slot_list_extend ⟨_, e1, rfl⟩ F.entry_list_extend (F.args_list_extend_2 _ _) (AutoSeq1.list_extend_list_list_0 l as.toArray n1 b bs.toArray n2 short (by rw [List.size_toArray]; omega) (by omega)) ⟨e1, e2, ?_⟩
  exact ⟨.non, _, I.lset (its' := as ++ bs) hl e1 (by simp) (r1.append r2) (by rw [List.length_append]; omega), rfl, q⟩
theorem st_ext {i : Nat} {e : E} : SoundS G (.ext i e) := by
  intro k sc raw N X st fc c hx h
  cases st <;> first | (cases h; done) | skip
  rename_i e0 pos
  cases e0 <;> first | (cases h; done) | skip
  rename_i f as ks cpos
  cases f <;> first | (cases h; done) | skip
  rename_i o m apos
  cases o <;> first | (cases h; done) | skip
  rename_i x px
  rcases as with _ | ⟨e', _ | ⟨e2, as⟩⟩ <;> first | (cases h; done) | skip
  rcases ks with _ | ⟨k1, ks⟩ <;> first | (cases h; done) | skip
  obtain ⟨h, h4⟩ := band (show (okV sc N i x && decide (m = ("extend" : Str)) && (apos.endLine == cpos.line) && okE G sc raw N e e') = true from h)
  obtain ⟨h, h3⟩ := band h
  obtain ⟨h1, h2⟩ := band h
  obtain rfl : m = ("extend" : Str) := of_decide_eq_true h2
  have hst : starEach [e'] X.env = [(false, eval e' X.env)] := star_of (plain_star (plain_of (G := G) h4))
  refine (ps_expr (pe_bm PySem.F.plainAttrs_list PySem.F.slot_list_extend PySem.F.type_list_extend mt_extL (v_of c h1) (pa_cons (sound G e c h4).1 pa_nil hst) (by rfl) (by rw [hst]; rfl) h3 hst (by rfl)) (by rfl)).imp fun Dn σ H q => ?_
  obtain ⟨F, ρ, g, q⟩ := q
  have q : FinS X fc F Dn (if isOwn ρ[i]? = true then ev G e ρ >>= fun p => peek p.2 p.1 >>= fun x => extC i p.2 x p.2[i]? else .bad) := q
  obtain ⟨q1, q2⟩ := q.iff
  cases hi : isOwn ρ[i]? with
  | false => exact (q2 hi).elim
  | true =>
    have q := q1 hi
    obtain ⟨b0, ds0, e0⟩ : ∃ b0 ds0, ρ[i]? = some (Cell.own b0 ds0) := by
      cases z : ρ[i]? with
      | none => rw [z] at hi; cases hi
      | some cc =>
        rw [z] at hi
        cases cc with
        | own b ds => exact ⟨b, ds, rfl⟩
        | _ => cases hi
    obtain ⟨l, xs0, el, p1, p2, p3, p4⟩ := own_at g.en e0
    refine ⟨.ref l, el, .inl ⟨rfl, xs0, SqL.of p2⟩, F, ρ, g.en, (q.ev g).mono fun y H1 q => ?_⟩
    obtain ⟨F1, ρ1, o, s1, g1, r1, q⟩ := q
    obtain ⟨d, ed, q⟩ := q.ok
    have wy := peek_wk g1.en r1 ed
    dsimp only at q
    cases d <;> first | (exact q.elim) | skip
    rename_i es
    obtain ⟨b, ds, e2⟩ : ∃ b ds, ρ1[i]? = some (Cell.own b ds) := by
      cases z : ρ1[i]? with
      | none => rw [z] at q; exact q.elim
      | some cc =>
        rw [z] at q
        cases cc with
        | own b ds => exact ⟨b, ds, rfl⟩
        | _ => exact q.elim
    rw [e2] at q
    have q : FinS X fc F1 Dn (if sz (ds.length + es.length) = true then .ok (.nx, ρ1.set i (.own b (ds ++ es))) else .bad) := q
    obtain ⟨q1, q2⟩ := q.iff
    cases hz : sz (ds.length + es.length) with
    | false => exact (q2 hz).elim
    | true =>
      have q := q1 hz
      have hz := sz_le hz
      obtain ⟨l', xs, el', f1, f2, f3, f4⟩ := own_at g1.en e2
      rw [el] at el'
      obtain rfl : l = l' := V.ref.inj (Option.some.inj (Option.some.inj el'))
      obtain ⟨bb, zs, rfl, w1, w2, w3⟩ := wy.lst g1.en.sub
      have hl := f3.len
      have hl2 := w2.len
      refine ⟨l, bb, xs, zs, rfl, rfl, f2, w1, by omega, ?_⟩
      exact q σ F1 _ same_rfl (g1.wrt e2 el f1 (f3.append w2) (by rw [List.length_append]; omega))
theorem st_exp {e : E} : SoundS G (.exp e) := by
  intro k sc raw N X st fc c hx h
  cases st <;> first | (cases h; done) | skip
  rename_i e' pos
  obtain ⟨h1, h2⟩ := band (show (okE G sc raw N e e' && !isComp' e') = true from h)
  refine (ps_expr (sound G e c h1).1 (swaps_none (by simpa using h2))).imp fun Dn σ H q => ?_
  obtain ⟨F, ρ, g, q⟩ := q
  have q : FinS X fc F Dn (ev G e ρ >>= fun p => .ok (.nx, p.2)) := q
  refine ⟨F, ρ, g.en, (q.ev g).mono fun v H1 q => ?_⟩
  obtain ⟨F1, ρ1, o, s1, g1, r1, q⟩ := q
  exact q σ F1 H1 same_rfl g1
theorem st_ret {e : E} : SoundS G (.ret e) := by
  intro k sc raw N X st fc c hx h
  cases st <;> first | (cases h; done) | skip
  rename_i eo pos
  cases eo with
  | none => cases h
  | some e' =>
  refine (ps_ret (sound G e c h).1).imp fun Dn σ H q => ?_
  obtain ⟨F, ρ, g, q⟩ := q
  have q : FinS X fc F Dn (ev G e ρ >>= fun p => keep p.1 >>= fun d => .ok (.rt d, p.2)) := q
  refine ⟨F, ρ, g.en, (q.ev g).mono fun v H1 q => ?_⟩
  obtain ⟨F1, ρ1, o, s1, g1, r1, q⟩ := q
  obtain ⟨d, ed, q⟩ := q.ok
  exact q v σ F1 H1 same_rfl g1 (keep_rp r1 ed)
theorem st_retL {e : E} : SoundS G (.retL e) := by
  intro k sc raw N X st fc c hx h
  cases st <;> first | (cases h; done) | skip
  rename_i eo pos
  cases eo with
  | none => cases h
  | some e' =>
  obtain ⟨h1, h2⟩ := band (show (okE G sc raw N e e' && isNewE e) = true from h)
  refine (ps_ret ((sound G e c h1).2.2 h2)).imp fun Dn σ H q => ?_
  obtain ⟨F, ρ, g, q⟩ := q
  have q : FinS X fc F Dn (ev G e ρ >>= fun p => (match p.1 with
    | .val (.list ds) => .ok (.rn ds, p.2)
    | _ => .bad)) := q
  rw [ret_eq] at q
  exact ⟨F, ρ, g.en, FinS.new g q fun ds ρ' p xs F' H' s' g' hp r z q => q p xs σ F' H' same_rfl g' hp r z⟩
theorem st_retN : SoundS G .retN := by
  intro k sc raw N X st fc c hx h
  cases st <;> first | (cases h; done) | skip
  rename_i eo pos
  cases eo with
  | some e' => cases h
  | none =>
  refine ps_retN.imp fun Dn σ H q => ?_
  obtain ⟨F, ρ, g, q⟩ := q
  exact q .non σ F H same_rfl g .non
theorem st_pass : SoundS G .pass := by
  intro k sc raw N X st fc c hx h
  have key : ∀ {st : Stmt}, PS X st tNext → PS X st (RdS X fc (ex G .pass)) := fun p => p.imp fun Dn σ H q => by
    obtain ⟨F, ρ, g, q⟩ := q
    exact q σ F H same_rfl g
  cases st <;> first | (cases h; done) | (exact key ps_pass) | skip
  rename_i e pos
  cases e <;> first | (cases h; done) | skip
  rename_i co j p
  cases co <;> first | (cases h; done) | skip
  exact key ps_doc
theorem st_brk : SoundS G .brk := by
  intro k sc raw N X st fc c hx h
  cases st <;> first | (cases h; done) | skip
  refine ps_break.imp fun Dn σ H q => ?_
  obtain ⟨F, ρ, g, q⟩ := q
  exact q σ F H same_rfl g
theorem st_cnt : SoundS G .cnt := by
  intro k sc raw N X st fc c hx h
  cases st <;> first | (cases h; done) | skip
  refine ps_continue.imp fun Dn σ H q => ?_
  obtain ⟨F, ρ, g, q⟩ := q
  exact q σ F H same_rfl g
theorem st_never : SoundS G .never := by
  intro k sc raw N X st fc c hx h
  refine ps_never.imp fun Dn σ H q => ?_
  obtain ⟨F, ρ, g, q⟩ := q
  exact q.elim
theorem pmk_own0 {C : Addr} {bmB : List Value} {B newId initId : String} {x : Str} {p pos : Pos} (F : ExcBaseFacts B newId initId bmB) (q : PySem.W.excIn X.K C bmB newId = true) (gC : X.mg x = some (.ref C))
    (kC : PySem.W.keepIn X.K (.ref C) = true) (r : Raises X (.ref C)) (hg : Gl X x) (hdb : (x == ("__debug__" : Str)) = false) : PMk X (.Call (.Name x p) [] [] pos) (fun _ H Q => Q (.ref C) none H) := by
  intro pins s σ H Q I h
  refine wpAny_Call_Name_kw (ld_glob I hg gC ?_ hdb)
  refine PySem.W.callWith_K0 I.kIn kC ?_
  show wpAny _ _ (call (.ref C) []) _ _ _
  obtain ⟨bm, N, nm, qn, bs, hdct, sn, sub, ab, col, dd, k0, k1, k2, k3, k5, mN, hC, hN, hni, T⟩ := exc_obj I.kIn q
  refine wpAny_call_exc_subT F T hC hN hni (fun h' e hm => ?_) (Nat.zero_le _)
  exact mk_of I hm r h (I.hok.gone hm.new)
theorem st_rse {j : Nat} : SoundS G (.rse j) := by
  intro k sc raw N X st fc c hx h
  cases st <;> first | (cases h; done) | skip
  rename_i eo cause pos
  cases cause with
  | some ca =>
    cases eo with
    | none => cases h
    | some e' =>
      cases e' <;> first | (cases h; done) | skip
      rename_i f as ks p2
      cases f <;> first | (cases h; done) | skip
      cases as <;> cases ks <;> cases h
  | none =>
  cases eo with
  | none => cases h
  | some e' =>
  cases e' <;> first | (cases h; done) | skip
  rename_i f as ks p2
  cases f <;> first | (cases h; done) | skip
  rename_i x px
  rcases as with _ | ⟨a1, as⟩ <;> first | (cases h; done) | skip
  rcases ks with _ | ⟨k1, ks⟩ <;> first | (cases h; done) | skip
  have h : (match G.exn[j]? with | some c => decide (c = x) && glOk sc x | none => false) = true := h
  cases e : G.exn[j]? with
  | none => rw [e] at h; cases h
  | some cn =>
  rw [e] at h
  obtain ⟨h1, h2⟩ := band h
  obtain rfl : cn = x := of_decide_eq_true h1
  obtain ⟨g1, g2, g3⟩ := gl_of c h2
  obtain ⟨C, bmB, B, newId, initId, Fx, qx, gC, kC, sb, ty⟩ := c.exn j cn e
  refine (ps_raise c.calm takes_tkx (pmk_own0 Fx qx gC kC (raises_own sb ty) g1 g2)).imp fun Dn σ H q => ?_
  obtain ⟨F, ρ, g, q⟩ := q
  have q : FinS X fc F Dn (match G.exn[j]? with | some c => R.exc c [] | none => .bad) := q
  rw [e] at q
  exact q F H same_rfl g.ex g.en.sub _ σ gC
theorem st_ifs {d : E} {a b : Ss} (iha : SoundSs G a) (ihb : SoundSs G b) : SoundS G (.ifs d a b) := by
  intro k sc raw N X st fc c hx h
  cases st <;> first | (cases h; done) | skip
  rename_i d' a' b' pos
  obtain ⟨h, h4⟩ := band (show (isT d && okE G sc raw N d d' && okSs G sc raw N fc.bor a a' && okSs G sc raw N fc.bor b b') = true from h)
  obtain ⟨h, h3⟩ := band h
  obtain ⟨h1, h2⟩ := band h
  refine (ps_if ((sound G d c h2).2.1 h1) (iha fc c hx h3) (ihb fc c hx h4)).imp fun Dn σ H q => ?_
  obtain ⟨F, ρ, g, q⟩ := q
  have q : FinS X fc F Dn (evT G d ρ >>= fun p => if p.1 = true then exs G a p.2 else exs G b p.2) := q
  refine ⟨F, ρ, g.en, (q.ev g).mono fun v H1 q => ?_⟩
  obtain ⟨F1, ρ1, o, s1, g1, r1, q⟩ := q
  obtain rfl : v = o := r1
  obtain ⟨q1, q2⟩ := q.iff
  cases v with
  | true => exact iteT ⟨F1, ρ1, g1, q1 rfl⟩
  | false => exact iteF ⟨F1, ρ1, g1, q2 rfl⟩
theorem st_fors {tg : Tg} {it : I} {b : Ss} (ih : SoundSs G b) : SoundS G (.fors tg it b) := by
  intro k sc raw N X st fc c hx h
  cases st <;> first | (cases h; done) | skip
  rename_i tg' it' b' oe pos
  rcases oe with _ | ⟨o1, oe⟩ <;> first | (cases h; done) | skip
  obtain ⟨h, h4⟩ := band (show ((itTg it tg' && okI G sc raw N it it') && okTg sc raw N tg tg' && okSs G sc raw N fc.bor b b' && slotOk fc.bor tg.slots) = true from h)
  obtain ⟨h, h3⟩ := band h
  obtain ⟨h1, h2⟩ := band h
  obtain ⟨h1t, h1⟩ := band h1
  have qi := soundi G it c h1
  refine (ps_for hx c.calm (qi.1 tg' h1t) (pg_tg c h2) (ih fc c hx h3) (plain_fold qi.2)).imp fun Dn σ H q => ?_
  obtain ⟨F, ρ, g, q⟩ := q
  have q : FinS X fc F Dn (evI G it ρ >>= fun p => forLoop (fun d ρ1 => putTg tg d ρ1 >>= fun ρ2 => exs G b ρ2) p.1 p.2) := q
  refine ⟨F, ρ, g.en, (q.ev g).mono fun J H1 q => ?_⟩
  obtain ⟨F1, ρ1, ds, s1, g1, gv, q⟩ := q
  have gv : Gives X.K J F1 ds := gv
  refine ⟨fun i m σ H => ∃ F ρ, i ≤ ds.length ∧ m = ds.length - i ∧ Good X.K fc F H σ ρ ∧ Same F1 F ∧ FinS X fc F Dn (forLoop (fun d ρ1 => putTg tg d ρ1 >>= fun ρ2 => exs G b ρ2) (ds.drop i) ρ), ⟨ds.length, F1, ρ1, Nat.zero_le _, rfl, g1, same_rfl, by rw [List.drop_zero]; exact q⟩, ?_⟩
  rintro i m σ5 H5 ⟨F5, ρ5, hi5, rfl, g5, s5, q⟩
  by_cases hlt : i < ds.length
  · refine .inr ⟨gv.go i H5 hlt (s5.trans g5.en.sub), _, fun σ' H' z => z, fun x H6 hy => ?_⟩
    have hd : ds[i]? = some ds[i] := List.getElem?_eq_getElem hlt
    obtain ⟨F6, ex6, sb6, rx⟩ := gv.yl i F5 H5 x H6 s5 g5.en.sub hy _ hd
    have g6 : Good X.K fc F6 H6 σ5 ρ5 := g5.step ex6.nil_own (g5.en.ext ex6 sb6 fun _ _ z => z) fun _ z => z
    rw [List.drop_eq_getElem_cons hlt] at q
    have q : FinS X fc F5 Dn ((putTg tg ds[i] ρ5 >>= fun ρ2 => exs G b ρ2) >>= fun p => match p.1 with
      | .nx => forLoop (fun d ρ1 => putTg tg d ρ1 >>= fun ρ2 => exs G b ρ2) (ds.drop (i + 1)) p.2
      | .ct => forLoop (fun d ρ1 => putTg tg d ρ1 >>= fun ρ2 => exs G b ρ2) (ds.drop (i + 1)) p.2
      | .bk => .ok (.nx, p.2)
      | f => .ok (f, p.2)) := q
    cases ep : putTg tg ds[i] ρ5 with
    | exc c fs => exact absurd ep (nx_putTg.ne c fs)
    | bad => rw [ep] at q; exact q.elim
    | ok ρ6 =>
      rw [ep] at q
      simp only [bind_ok] at q
      refine take_tg g6.en ep rx fun σ2 t => ⟨F6, ρ6, g6.took h4 t, ?_⟩
      refine FinS.turn (FinS.mono ex6.f q) fun σ' F' H' ρ' s' g' q' => ⟨ds.length - (i + 1), by omega, F', ρ', hlt, rfl, g', s5.trans (ex6.f.trans s'), q'⟩
  · have hge : ds.length ≤ i := Nat.le_of_not_lt hlt
    rw [List.drop_eq_nil_of_le hge] at q
    exact .inl ⟨gv.stop i H5 hge (s5.trans g5.en.sub), q σ5 F5 H5 same_rfl g5⟩
theorem st_whl {n : Nat} {d : E} {b : Ss} (ih : SoundSs G b) : SoundS G (.whl n d b) := by
  intro k sc raw N X st fc c hx h
  cases st <;> first | (cases h; done) | skip
  rename_i d' b' oe pos
  rcases oe with _ | ⟨o1, oe⟩ <;> first | (cases h; done) | skip
  obtain ⟨h, h3⟩ := band (show (isT d && okE G sc raw N d d' && okSs G sc raw N fc.bor b b') = true from h)
  obtain ⟨h1, h2⟩ := band h
  refine (ps_while hx ((sound G d c h2).2.1 h1) (ih fc c hx h3)).imp fun Dn σ H q => ?_
  obtain ⟨F, ρ, g, q⟩ := q
  have q : FinS X fc F Dn (whLoop (evT G d) (fun ρ1 => exs G b ρ1) n ρ) := q
  refine ⟨fun m σ H => ∃ F ρ, Good X.K fc F H σ ρ ∧ FinS X fc F Dn (whLoop (evT G d) (fun ρ1 => exs G b ρ1) m ρ), ⟨n, F, ρ, g, q⟩, ?_⟩
  rintro m σ1 H1 ⟨F1, ρ1, g1, q⟩
  cases m with
  | zero => exact q.elim
  | succ m =>
    have q : FinS X fc F1 Dn (evT G d ρ1 >>= fun t => if t.1 = true then exs G b t.2 >>= fun p => (match p.1 with
      | .nx => whLoop (evT G d) (fun ρ1 => exs G b ρ1) m p.2
      | .ct => whLoop (evT G d) (fun ρ1 => exs G b ρ1) m p.2
      | .bk => .ok (.nx, p.2)
      | f => .ok (f, p.2)) else .ok (.nx, t.2)) := q
    refine ⟨F1, ρ1, g1.en, (q.ev g1).mono fun v H2 q => ?_⟩
    obtain ⟨F2, ρ2, o, s2, g2, r2, q⟩ := q
    obtain rfl : v = o := r2
    obtain ⟨q1, q2⟩ := q.iff
    cases v with
    | true =>
      refine iteT ⟨_, fun σ' H' z => z, F2, ρ2, g2, ?_⟩
      exact FinS.turn (q1 rfl) fun σ' F' H' ρ' s' g' q' => ⟨m, Nat.lt_succ_self m, F', ρ', g', q'⟩
    | false => exact iteF ((q2 rfl) σ1 F2 H2 same_rfl g2)
theorem st_nil : SoundSs G .nil := by
  intro k sc raw N X st fc c hx h
  cases st with
  | cons _ _ => cases h
  | nil =>
  refine pss_nil.imp fun Dn σ H q => ?_
  obtain ⟨F, ρ, g, q⟩ := q
  exact q σ F H same_rfl g
theorem st_cons {s : S} {r : Ss} (ihs : SoundS G s) (ihr : SoundSs G r) : SoundSs G (.cons s r) := by
  intro k sc raw N X st fc c hx h
  cases st with
  | nil => cases h
  | cons s' r' =>
  obtain ⟨h1, h2⟩ := band (show (okS G sc raw N fc.bor s s' && okSs G sc raw N fc.bor r r') = true from h)
  refine (pss_cons (ihs fc c hx h1) (ihr fc c hx h2)).imp fun Dn σ H q => ?_
  obtain ⟨F, ρ, g, q⟩ := q
  exact ⟨F, ρ, g, FinS.seq q⟩
theorem par_sw {sc : Scope} {x y : Str} {px py pt pt2 : Pos} {kt k2 : Nat} {a b : Expr} {env : PySem.Env} (he : env.scope = sc) (h : parOk sc x y px py a b = true) :
    swappedStores [.Tuple [.Name x px, .Name y py] kt pt] (.Tuple [a, b] k2 pt2) env = pure (some [x, y]) ∧ sc.names.lookup x = some .local ∧ sc.names.lookup y = some .local ∧ x ≠ y ∧ plain a = true ∧ plain b = true := by
  unfold parOk at h
  obtain ⟨h, h9⟩ := band h
  obtain ⟨h, h8⟩ := band h
  obtain ⟨h, h7⟩ := band h
  obtain ⟨h, h6⟩ := band h
  obtain ⟨h, h5⟩ := band h
  obtain ⟨h, h4⟩ := band h
  obtain ⟨h, h3⟩ := band h
  obtain ⟨h1, h2⟩ := band h
  have h4 := of_decide_eq_true h4
  have h5 := of_decide_eq_true h5
  have lx : sc.names.lookup x = some .local := by
    split at h2
    · assumption
    · cases h2
  have ly : sc.names.lookup y = some .local := by
    split at h3
    · assumption
    · cases h3
  have bk : env.blockKind = .function := by
    unfold Env.blockKind
    rw [he]
    split at h1
    · assumption
    · cases h1
  refine ⟨?_, lx, ly, h5, h6, h7⟩
  have kx : env.kindOf x = some .local := by unfold Env.kindOf; rw [he]; exact lx
  have ky : env.kindOf y = some .local := by unfold Env.kindOf; rw [he]; exact ly
  have f8 : ([a, b].all (foldedForSure 8)) = false := by rw [Bool.not_eq_true'] at h8; exact h8
  have c8 : ([a, b].all (constantsAlone 8)) = false := by rw [Bool.not_eq_true'] at h9; exact h9
  have hxy : (x == y) = false := by simpa using h5
  have hyx : (y == x) = false := by simpa using h5.symm
  have hp1 : (Expr.Name x px).pos.line = px.line := rfl
  have ey : (y == x) = false := hyx
  have ed : [x, y].eraseDups = [x, y] := by simp [List.eraseDups_cons, hyx]
  unfold swappedStores
  simp only [List.head?_cons, Option.map_some, Option.getD_some, hp1, List.filterMap_cons, List.filterMap_nil, kx, ky, h4, bk]
  simp only [f8, c8, List.any_cons, List.any_nil]
  simp [ed]
  intro z
  rcases z with z | z
  · cases a <;> first | (cases z; done) | cases h6
  · cases b <;> first | (cases z; done) | cases h7
theorem st_par {i j : Nat} {a b : E} : SoundS G (.par i j a b) := by
  intro k sc raw N X st fc c hx h
  cases st <;> first | (cases h; done) | skip
  rename_i ts e' pos
  rcases ts with _ | ⟨t, _ | ⟨t2, ts⟩⟩ <;> first | (cases h; done) | skip
  rotate_left
  · cases t <;> first | (cases h; done) | skip
    rename_i es _ _
    rcases es with _ | ⟨e1, _ | ⟨e2, _ | ⟨e3, es⟩⟩⟩ <;> first | (cases h; done) | skip
    all_goals (cases e1 <;> first | (cases h; done) | skip)
    all_goals (cases e2 <;> first | (cases h; done) | skip)
  cases t <;> first | (cases h; done) | skip
  rename_i es kt pt
  rcases es with _ | ⟨e1, _ | ⟨e2, _ | ⟨e3, es⟩⟩⟩ <;> first | (cases h; done) | skip
  all_goals (cases e1 <;> first | (cases h; done) | skip)
  all_goals (cases e2 <;> first | (cases h; done) | skip)
  rename_i x px y py
  cases e' <;> first | (cases h; done) | skip
  rename_i vs k2 pt2
  rcases vs with _ | ⟨a', _ | ⟨b', _ | ⟨c', vs⟩⟩⟩ <;> first | (cases h; done) | skip
  obtain ⟨h, h6⟩ := band (show (okL sc raw N i x && okL sc raw N j y && okE G sc raw N a a' && okE G sc raw N b b' && parOk sc x y px py a' b' && slotOk fc.bor [i, j]) = true from h)
  obtain ⟨h, h5⟩ := band h
  obtain ⟨h, h4⟩ := band h
  obtain ⟨h, h3⟩ := band h
  obtain ⟨h1, h2⟩ := band h
  obtain ⟨sw, lx, ly, hxy, pa, pb⟩ := par_sw (pt := pt) (pt2 := pt2) (kt := kt) (k2 := k2) c.scE h5
  obtain ⟨g1, _, _⟩ := l_of c h1
  obtain ⟨g2, _, _⟩ := l_of c h2
  have hij : i ≠ j := fun z => by
    subst z
    rw [g1] at g2
    exact hxy (Option.some.inj g2)
  have hstb : starEach [b'] X.env = [(false, eval b' X.env)] := star_of (plain_star pb)
  refine (ps_par c.calm (nd_of c) g1 g2 hij (by rw [c.scE]; exact lx) (by rw [c.scE]; exact ly) (pa_cons (sound G a c h3).1 (pa_cons (sound G b c h4).1 pa_nil hstb) (star_of (plain_star pa))) sw sw_tup).imp fun Dn σ H q => ?_
  obtain ⟨F, ρ, g, q⟩ := q
  have q : FinS X fc F Dn (ev G a ρ >>= fun p => keep p.1 >>= fun d => ev G b p.2 >>= fun q => keep q.1 >>= fun d2 => if (free q.2 i && free q.2 j) = true then .ok (.nx, (q.2.set i (.dat d)).set j (.dat d2)) else .bad) := q
  refine ⟨F, ρ, g.en, (q.ev g).mono fun v H1 q => ?_⟩
  obtain ⟨F1, ρ1, o, s1, g1', r1, q⟩ := q
  obtain ⟨d, ed, q⟩ := q.ok
  refine ⟨F1, ρ1, g1'.en, (q.ev g1').mono fun w H2 q => ?_⟩
  obtain ⟨F2, ρ2, o2, s2, g2', r2, q⟩ := q
  obtain ⟨d2, ed2, q⟩ := q.ok
  obtain ⟨q1, q2⟩ := q.iff
  cases hf : (free ρ2 i && free ρ2 j) with
  | false => exact (q2 hf).elim
  | true =>
    obtain ⟨f1, f2⟩ := band hf
    have q := q1 hf
    obtain ⟨en1, ow1, _⟩ := set_dat g2'.en f1 ((keep_rp r1 ed).mono s2)
    obtain ⟨en2, ow2, _⟩ := set_dat en1 (free_set f2) (keep_rp r2 ed2)
    refine ⟨v, w, rfl, q _ F2 H2 same_rfl ⟨en2, g2'.ex, fun l hl => g2'.ow l (ow1 l (ow2 l hl)), fun l hl => ⟨(g2'.lb l hl).1, ?_⟩⟩⟩
    have h0 := slot0 h6 (g2'.lb l hl).1
    rw [List.getElem?_set_ne (fun z => h0 (by rw [z]; simp)), List.getElem?_set_ne (fun z => h0 (by rw [z]; simp))]
    exact (g2'.lb l hl).2
theorem stParN {i j : Nat} {a b : E} : SoundS G (.parN i j a b) := by
  intro k sc raw N X st fc c hx h
  cases st <;> first | (cases h; done) | skip
  rename_i ts e' pos
  rcases ts with _ | ⟨t, _ | ⟨t2, ts⟩⟩ <;> first | (cases h; done) | skip
  rotate_left
  · cases t <;> first | (cases h; done) | skip
    rename_i es _ _
    rcases es with _ | ⟨e1, _ | ⟨e2, _ | ⟨e3, es⟩⟩⟩ <;> first | (cases h; done) | skip
    all_goals (cases e1 <;> first | (cases h; done) | skip)
    all_goals (cases e2 <;> first | (cases h; done) | skip)
  cases t <;> first | (cases h; done) | skip
  rename_i es kt pt
  rcases es with _ | ⟨e1, _ | ⟨e2, _ | ⟨e3, es⟩⟩⟩ <;> first | (cases h; done) | skip
  all_goals (cases e1 <;> first | (cases h; done) | skip)
  all_goals (cases e2 <;> first | (cases h; done) | skip)
  rename_i x px y py
  cases e' <;> first | (cases h; done) | skip
  rename_i vs k2 pt2
  rcases vs with _ | ⟨a', _ | ⟨b', _ | ⟨c', vs⟩⟩⟩ <;> first | (cases h; done) | skip
  obtain ⟨h, h8⟩ := band (show (okL sc raw N i x && okL sc raw N j y && okE G sc raw N a a' && okE G sc raw N b b' && isNewE b && parOk sc x y px py a' b' && slotOk fc.bor [i] && slotOk fc.bor [j]) = true from h)
  obtain ⟨h, h7⟩ := band h
  obtain ⟨h, h6⟩ := band h
  obtain ⟨h, h5⟩ := band h
  obtain ⟨h, h4⟩ := band h
  obtain ⟨h, h3⟩ := band h
  obtain ⟨h1, h2⟩ := band h
  obtain ⟨sw, lx, ly, hxy, pa, pb⟩ := par_sw (pt := pt) (pt2 := pt2) (kt := kt) (k2 := k2) c.scE h6
  obtain ⟨g1, _, _⟩ := l_of c h1
  obtain ⟨g2, _, _⟩ := l_of c h2
  have hij : i ≠ j := fun z => by
    subst z
    rw [g1] at g2
    exact hxy (Option.some.inj g2)
  have hstb : starEach [b'] X.env = [(false, eval b' X.env)] := star_of (plain_star pb)
  refine (ps_par c.calm (nd_of c) g1 g2 hij (by rw [c.scE]; exact lx) (by rw [c.scE]; exact ly) (pa_cons (sound G a c h3).1 (pa_cons ((sound G b c h4).2.2 h5) pa_nil hstb) (star_of (plain_star pa))) sw sw_tup).imp fun Dn σ H q => ?_
  obtain ⟨F, ρ, g, q⟩ := q
  have q : FinS X fc F Dn (ev G a ρ >>= fun p => keep p.1 >>= fun d => ev G b p.2 >>= nwK fun ds ρ' => if (free ρ' i && free ρ' j && decide (i ≠ j)) = true then .ok (.nx, (ρ'.set i (.dat d)).set j (.own false ds)) else .bad) := q
  refine ⟨F, ρ, g.en, (q.ev g).mono fun v H1 q => ?_⟩
  obtain ⟨F1, ρ1, o, s1, g1', r1, q⟩ := q
  obtain ⟨d, ed, q⟩ := q.ok
  refine ⟨F1, ρ1, g1'.en, FinS.new g1' q fun ds ρ' p xs F' H' s' g' hp r z q => ?_⟩
  obtain ⟨q1, q2⟩ := q.iff
  cases hf : (free ρ' i && free ρ' j && decide (i ≠ j)) with
  | false => exact (q2 hf).elim
  | true =>
    obtain ⟨f1, f2⟩ := band (band hf).1
    have q := q1 hf
    obtain ⟨en1, ow1, _⟩ := set_dat g'.en f1 ((keep_rp r1 ed).mono s')
    have ga : Good X.K fc F' H' (σ.set i (some v)) (ρ'.set i (.dat d)) := ⟨en1, g'.ex, fun l hl => g'.ow l (ow1 l hl), fun l hl => ⟨(g'.lb l hl).1, by
      have h0 := slot0 h7 (g'.lb l hl).1
      rw [List.getElem?_set_ne (fun z => h0 (by rw [z]; simp))]
      exact (g'.lb l hl).2⟩⟩
    exact ⟨v, .ref p, rfl, q _ F' _ same_rfl (ga.new h8 (free_set f2) hp r z)⟩
theorem par_sw3 {sc : Scope} {x y z : Str} {px py pz pt pt2 : Pos} {kt k2 : Nat} {a b c : Expr} {env : PySem.Env} (he : env.scope = sc) (h : parOk3 sc x y z px py pz a b c = true) :
    swappedStores [.Tuple [.Name x px, .Name y py, .Name z pz] kt pt] (.Tuple [a, b, c] k2 pt2) env = pure (some [x, y, z]) ∧ sc.names.lookup x = some .local ∧ sc.names.lookup y = some .local ∧ sc.names.lookup z = some .local ∧ x ≠ y ∧ x ≠ z ∧ y ≠ z ∧ plain a = true ∧ plain b = true ∧ plain c = true := by
  unfold parOk3 at h
  obtain ⟨h, t2⟩ := band h
  obtain ⟨h, t1⟩ := band h
  obtain ⟨h, pc⟩ := band h
  obtain ⟨h, pb⟩ := band h
  obtain ⟨h, pa⟩ := band h
  obtain ⟨h, nyz⟩ := band h
  obtain ⟨h, nxz⟩ := band h
  obtain ⟨h, nxy⟩ := band h
  obtain ⟨h, lz⟩ := band h
  obtain ⟨h, ly⟩ := band h
  obtain ⟨h, h4⟩ := band h
  obtain ⟨h, h3⟩ := band h
  obtain ⟨h1, h2⟩ := band h
  have ly := of_decide_eq_true ly
  have lz := of_decide_eq_true lz
  have nxy := of_decide_eq_true nxy
  have nxz := of_decide_eq_true nxz
  have nyz := of_decide_eq_true nyz
  have kx : sc.names.lookup x = some .local := by
    split at h2
    · assumption
    · cases h2
  have ky : sc.names.lookup y = some .local := by
    split at h3
    · assumption
    · cases h3
  have kz : sc.names.lookup z = some .local := by
    split at h4
    · assumption
    · cases h4
  have bk : env.blockKind = .function := by
    unfold Env.blockKind
    rw [he]
    split at h1
    · assumption
    · cases h1
  refine ⟨?_, kx, ky, kz, nxy, nxz, nyz, pa, pb, pc⟩
  have ex : env.kindOf x = some .local := by unfold Env.kindOf; rw [he]; exact kx
  have ey : env.kindOf y = some .local := by unfold Env.kindOf; rw [he]; exact ky
  have ez : env.kindOf z = some .local := by unfold Env.kindOf; rw [he]; exact kz
  have f8 : ([a, b, c].all (foldedForSure 8)) = false := by rw [Bool.not_eq_true'] at t1; exact t1
  have c8 : ([a, b, c].all (constantsAlone 8)) = false := by rw [Bool.not_eq_true'] at t2; exact t2
  have hyx : (y == x) = false := by simpa using nxy.symm
  have hzx : (z == x) = false := by simpa using nxz.symm
  have hzy : (z == y) = false := by simpa using nyz.symm
  have hp1 : (Expr.Name x px).pos.line = px.line := rfl
  have ed : [x, y, z].eraseDups = [x, y, z] := by simp [List.eraseDups_cons, hyx, hzx, hzy]
  unfold swappedStores
  simp only [List.head?_cons, Option.map_some, Option.getD_some, hp1, List.filterMap_cons, List.filterMap_nil, ex, ey, ez, ly, lz, bk]
  simp only [f8, c8, List.any_cons, List.any_nil]
  simp [ed]
  intro w
  rcases w with w | w | w
  · cases a <;> first | (cases w; done) | cases pa
  · cases b <;> first | (cases w; done) | cases pb
  · cases c <;> first | (cases w; done) | cases pc
/-- what three names at once are, looked at -/
theorem par3_parts {sc raw : Scope} {N : List Str} {bor : Bool} {i j l : Nat} {a b c : E} {nw : Bool} {st : Stmt} (h : okS G sc raw N bor (if nw = true then .par3N i j l a b c else .par3 i j l a b c) st = true) : ∃ (x y z : Str) (px py pz pt pt2 pos : Pos) (kt k2 : Nat) (a' b' c' : Expr), st = .Assign [.Tuple [.Name x px, .Name y py, .Name z pz] kt pt] (.Tuple [a', b', c'] k2 pt2) pos ∧
    okL sc raw N i x = true ∧ okL sc raw N j y = true ∧ okL sc raw N l z = true ∧ okE G sc raw N a a' = true ∧ okE G sc raw N b b' = true ∧ okE G sc raw N c c' = true ∧ parOk3 sc x y z px py pz a' b' c' = true ∧ (if nw = true then (isNewE c && slotOk bor [i, j] && slotOk bor [l]) = true else slotOk bor [i, j, l] = true) := by
  cases st <;> first | (cases nw <;> cases h; done) | skip
  rename_i ts e' pos
  rcases ts with _ | ⟨t, _ | ⟨t2, ts⟩⟩ <;> first | (cases nw <;> cases h; done) | skip
  rotate_left
  · cases t <;> first | (cases nw <;> cases h; done) | skip
    rename_i es _ _
    rcases es with _ | ⟨e1, _ | ⟨e2, _ | ⟨e3, _ | ⟨e4, es⟩⟩⟩⟩ <;> first | (cases nw <;> cases h; done) | skip
    all_goals (cases e1 <;> first | (cases nw <;> cases h; done) | skip)
    all_goals (cases e2 <;> first | (cases nw <;> cases h; done) | skip)
    all_goals (cases e3 <;> first | (cases nw <;> cases h; done) | skip)
  cases t <;> first | (cases nw <;> cases h; done) | skip
  rename_i es kt pt
  rcases es with _ | ⟨e1, _ | ⟨e2, _ | ⟨e3, _ | ⟨e4, es⟩⟩⟩⟩ <;> first | (cases nw <;> cases h; done) | skip
  all_goals (cases e1 <;> first | (cases nw <;> cases h; done) | skip)
  all_goals (cases e2 <;> first | (cases nw <;> cases h; done) | skip)
  all_goals (cases e3 <;> first | (cases nw <;> cases h; done) | skip)
  rename_i x px y py z pz
  cases e' <;> first | (cases nw <;> cases h; done) | skip
  rename_i vs k2 pt2
  rcases vs with _ | ⟨a', _ | ⟨b', _ | ⟨c', _ | ⟨d', vs⟩⟩⟩⟩ <;> first | (cases nw <;> cases h; done) | skip
  refine ⟨x, y, z, px, py, pz, pt, pt2, pos, kt, k2, a', b', c', rfl, ?_⟩
  cases nw with
  | false =>
    obtain ⟨h, h8⟩ := band (show (okL sc raw N i x && okL sc raw N j y && okL sc raw N l z && okE G sc raw N a a' && okE G sc raw N b b' && okE G sc raw N c c' && parOk3 sc x y z px py pz a' b' c' && slotOk bor [i, j, l]) = true from h)
    obtain ⟨h, h7⟩ := band h
    obtain ⟨h, h6⟩ := band h
    obtain ⟨h, h5⟩ := band h
    obtain ⟨h, h4⟩ := band h
    obtain ⟨h, h3⟩ := band h
    obtain ⟨h1, h2⟩ := band h
    exact ⟨h1, h2, h3, h4, h5, h6, h7, h8⟩
  | true =>
    obtain ⟨h, h10⟩ := band (show (okL sc raw N i x && okL sc raw N j y && okL sc raw N l z && okE G sc raw N a a' && okE G sc raw N b b' && okE G sc raw N c c' && isNewE c && parOk3 sc x y z px py pz a' b' c' && slotOk bor [i, j] && slotOk bor [l]) = true from h)
    obtain ⟨h, h9⟩ := band h
    obtain ⟨h, h7⟩ := band h
    obtain ⟨h, h8⟩ := band h
    obtain ⟨h, h6⟩ := band h
    obtain ⟨h, h5⟩ := band h
    obtain ⟨h, h4⟩ := band h
    obtain ⟨h, h3⟩ := band h
    obtain ⟨h1, h2⟩ := band h
    exact ⟨h1, h2, h3, h4, h5, h6, h7, by rw [if_pos rfl, h8, h9, h10]; rfl⟩
theorem ix_ne {X : Cx} {i j : Nat} {x y : Str} (h : X.N[i]? = some x) (h2 : X.N[j]? = some y) (n : x ≠ y) : i ≠ j := fun z => by
  subst z
  rw [h] at h2
  exact n (Option.some.inj h2)
theorem stPar3 {i j l : Nat} {a b d : E} : SoundS G (.par3 i j l a b d) := by
  intro k sc raw N X st fc c hx h
  obtain ⟨x, y, z, px, py, pz, pt, pt2, pos, kt, k2, a', b', c', rfl, h1, h2, h3, h4, h5, h6, h7, h8⟩ := par3_parts (nw := false) h
  have h8 : slotOk fc.bor [i, j, l] = true := h8
  obtain ⟨sw, lx, ly, lz, nxy, nxz, nyz, pa, pb, pc⟩ := par_sw3 (pt := pt) (pt2 := pt2) (kt := kt) (k2 := k2) c.scE h7
  obtain ⟨g1, _, _⟩ := l_of c h1
  obtain ⟨g2, _, _⟩ := l_of c h2
  obtain ⟨g3, _, _⟩ := l_of c h3
  have hstc : starEach [c'] X.env = [(false, eval c' X.env)] := star_of (plain_star pc)
  have hstb : starEach [b', c'] X.env = (false, eval b' X.env) :: starEach [c'] X.env := star_of (plain_star pb)
  refine ((ps_par3 c.calm (nd_of c) g1 g2 g3 (ix_ne g1 g2 nxy) (ix_ne g1 g3 nxz) (ix_ne g2 g3 nyz) (by rw [c.scE]; exact lx) (by rw [c.scE]; exact ly) (by rw [c.scE]; exact lz) (pa_cons (sound G a c h4).1 (pa_cons (sound G b c h5).1 (pa_cons (sound G d c h6).1 pa_nil hstc) hstb) (star_of (plain_star pa))) sw sw_tup)).imp fun Dn σ H q => ?_
  obtain ⟨F, ρ, g, q⟩ := q
  have q : FinS X fc F Dn (ev G a ρ >>= fun p => keep p.1 >>= fun d1 => ev G b p.2 >>= fun q => keep q.1 >>= fun d2 => ev G d q.2 >>= fun r => keep r.1 >>= fun d3 => if (free r.2 i && free r.2 j && free r.2 l) = true then .ok (.nx, ((r.2.set i (.dat d1)).set j (.dat d2)).set l (.dat d3)) else .bad) := q
  refine ⟨F, ρ, g.en, (q.ev g).mono fun v H1 q => ?_⟩
  obtain ⟨F1, ρ1, o, s1, g1', r1, q⟩ := q
  obtain ⟨d1, ed, q⟩ := q.ok
  refine ⟨F1, ρ1, g1'.en, (q.ev g1').mono fun w H2 q => ?_⟩
  obtain ⟨F2, ρ2, o2, s2, g2', r2, q⟩ := q
  obtain ⟨d2, ed2, q⟩ := q.ok
  refine ⟨F2, ρ2, g2'.en, (q.ev g2').mono fun u H3 q => ?_⟩
  obtain ⟨F3, ρ3, o3, s3, g3', r3, q⟩ := q
  obtain ⟨d3, ed3, q⟩ := q.ok
  obtain ⟨q1, q2⟩ := q.iff
  cases hf : (free ρ3 i && free ρ3 j && free ρ3 l) with
  | false => exact (q2 hf).elim
  | true =>
    obtain ⟨f12, f3⟩ := band hf
    obtain ⟨f1, f2⟩ := band f12
    have q := q1 hf
    obtain ⟨en1, ow1, _⟩ := set_dat g3'.en f1 (((keep_rp r1 ed).mono s2).mono s3)
    obtain ⟨en2, ow2, _⟩ := set_dat en1 (free_set f2) ((keep_rp r2 ed2).mono s3)
    obtain ⟨en3, ow3, _⟩ := set_dat en2 (free_set (free_set f3)) (keep_rp r3 ed3)
    refine ⟨v, w, u, rfl, q _ F3 H3 same_rfl ⟨en3, g3'.ex, fun l hl => g3'.ow l (ow1 l (ow2 l (ow3 l hl))), fun l hl => ⟨(g3'.lb l hl).1, ?_⟩⟩⟩
    have h0 := slot0 h8 (g3'.lb l hl).1
    rw [List.getElem?_set_ne (fun z => h0 (by rw [z]; simp)), List.getElem?_set_ne (fun z => h0 (by rw [z]; simp)), List.getElem?_set_ne (fun z => h0 (by rw [z]; simp))]
    exact (g3'.lb l hl).2
theorem stPar3N {i j l : Nat} {a b d : E} : SoundS G (.par3N i j l a b d) := by
  intro k sc raw N X st fc c hx h
  obtain ⟨x, y, z, px, py, pz, pt, pt2, pos, kt, k2, a', b', c', rfl, h1, h2, h3, h4, h5, h6, h7, h8⟩ := par3_parts (nw := true) h
  obtain ⟨h8, h10⟩ := band (show (isNewE d && slotOk fc.bor [i, j] && slotOk fc.bor [l]) = true from h8)
  obtain ⟨h8, h9⟩ := band h8
  obtain ⟨sw, lx, ly, lz, nxy, nxz, nyz, pa, pb, pc⟩ := par_sw3 (pt := pt) (pt2 := pt2) (kt := kt) (k2 := k2) c.scE h7
  obtain ⟨g1, _, _⟩ := l_of c h1
  obtain ⟨g2, _, _⟩ := l_of c h2
  obtain ⟨g3, _, _⟩ := l_of c h3
  have hstc : starEach [c'] X.env = [(false, eval c' X.env)] := star_of (plain_star pc)
  have hstb : starEach [b', c'] X.env = (false, eval b' X.env) :: starEach [c'] X.env := star_of (plain_star pb)
  refine ((ps_par3 c.calm (nd_of c) g1 g2 g3 (ix_ne g1 g2 nxy) (ix_ne g1 g3 nxz) (ix_ne g2 g3 nyz) (by rw [c.scE]; exact lx) (by rw [c.scE]; exact ly) (by rw [c.scE]; exact lz) (pa_cons (sound G a c h4).1 (pa_cons (sound G b c h5).1 (pa_cons ((sound G d c h6).2.2 h8) pa_nil hstc) hstb) (star_of (plain_star pa))) sw sw_tup)).imp fun Dn σ H q => ?_
  obtain ⟨F, ρ, g, q⟩ := q
  have q : FinS X fc F Dn (ev G a ρ >>= fun p => keep p.1 >>= fun d1 => ev G b p.2 >>= fun q => keep q.1 >>= fun d2 => ev G d q.2 >>= nwK fun ds ρ' => if (free ρ' i && free ρ' j && free ρ' l) = true then .ok (.nx, ((ρ'.set i (.dat d1)).set j (.dat d2)).set l (.own false ds)) else .bad) := q
  refine ⟨F, ρ, g.en, (q.ev g).mono fun v H1 q => ?_⟩
  obtain ⟨F1, ρ1, o, s1, g1', r1, q⟩ := q
  obtain ⟨d1, ed, q⟩ := q.ok
  refine ⟨F1, ρ1, g1'.en, (q.ev g1').mono fun w H2 q => ?_⟩
  obtain ⟨F2, ρ2, o2, s2, g2', r2, q⟩ := q
  obtain ⟨d2, ed2, q⟩ := q.ok
  refine ⟨F2, ρ2, g2'.en, FinS.new g2' q fun ds ρ' p xs F' H' s' g' hp r z q => ?_⟩
  obtain ⟨q1, q2⟩ := q.iff
  cases hf : (free ρ' i && free ρ' j && free ρ' l) with
  | false => exact (q2 hf).elim
  | true =>
    obtain ⟨f12, f3⟩ := band hf
    obtain ⟨f1, f2⟩ := band f12
    have q := q1 hf
    obtain ⟨en1, ow1, _⟩ := set_dat g'.en f1 (((keep_rp r1 ed).mono s2).mono s')
    obtain ⟨en2, ow2, _⟩ := set_dat en1 (free_set f2) ((keep_rp r2 ed2).mono s')
    have ga : Good X.K fc F' H' ((σ.set i (some v)).set j (some w)) ((ρ'.set i (.dat d1)).set j (.dat d2)) := ⟨en2, g'.ex, fun l hl => g'.ow l (ow1 l (ow2 l hl)), fun l hl => ⟨(g'.lb l hl).1, by
      have h0 := slot0 h9 (g'.lb l hl).1
      rw [List.getElem?_set_ne (fun z => h0 (by rw [z]; simp)), List.getElem?_set_ne (fun z => h0 (by rw [z]; simp))]
      exact (g'.lb l hl).2⟩⟩
    exact ⟨v, w, .ref p, rfl, q _ F' _ same_rfl (ga.new h10 (free_set (free_set f3)) hp r z)⟩
mutual
theorem soundS : ∀ s : S, SoundS G s
  | .asg _ _ => st_asg
  | .par _ _ _ _ => st_par
  | .new _ _ => st_new
  | .newC _ _ _ => st_newC
  | .setI _ _ _ => st_setI
  | .app _ _ => st_app
  | .ext _ _ => st_ext
  | .exp _ => st_exp
  | .ret _ => st_ret
  | .retL _ => st_retL
  | .retN => st_retN
  | .ifs _ a b => st_ifs (soundSs a) (soundSs b)
  | .fors _ _ b => st_fors (soundSs b)
  | .whl _ _ b => st_whl (soundSs b)
  | .pass => st_pass
  | .brk => st_brk
  | .cnt => st_cnt
  | .never => st_never
  | .rse _ => st_rse
  | .parN _ _ _ _ => stParN
  | .par3 _ _ _ _ _ _ => stPar3
  | .par3N _ _ _ _ _ _ => stPar3N
theorem soundSs : ∀ s : Ss, SoundSs G s
  | .nil => st_nil
  | .cons s r => st_cons (soundS s) (soundSs r)
end
end DP

/-! DP, part 15: a def keeps what its body's small tree says. -/
namespace DP
open PySem PySem.Spec PyProof.Rows L2
def finP : R (Fl × Slots) → R (D × List D)
  | .ok (.rt d, _) => .ok (d, [])
  | .ok (.nx, _) => .ok (.none, [])
  | .exc c fs => .exc c fs
  | _ => .bad
def finN : R (Fl × Slots) → R (D × List D)
  | .ok (.rn ds, _) => .ok (.list ds, [])
  | .exc c fs => .exc c fs
  | _ => .bad
def finB : R (Fl × Slots) → R (D × List D)
  | .ok (.rt d, ρ) => (match (ρ : Slots)[0]? with
    | some (Cell.own true es) => .ok (d, es)
    | _ => .bad)
  | .ok (.nx, ρ) => (match (ρ : Slots)[0]? with
    | some (Cell.own true es) => .ok (.none, es)
    | _ => .bad)
  | _ => .bad
def slots0 (m : Nat) (ds : List D) : Slots := ds.map Cell.dat ++ List.replicate (m - ds.length) .un
def slotsB (m : Nat) (es ds : List D) : Slots := Cell.own true es :: (ds.map Cell.dat ++ List.replicate (m - 1 - ds.length) .un)
/-- a call, by the body's small tree; m: how many names -/
def runF (G : Gm) (bor nw : Bool) (m : Nat) (body : Ss) (ds : List D) : R (D × List D) :=
  if bor = true then (match ds with
    | .list es :: r => finB (exs G body (slotsB m es r))
    | _ => .bad)
  else if nw = true then finN (exs G body (slots0 m ds)) else finP (exs G body (slots0 m ds))
def sigOf (G : Gm) (x : Str) (n : Nat) (bor nw : Bool) (m : Nat) (body : Ss) : Sig := ⟨x, n, bor, nw, runF G bor nw m body⟩
variable [Tb]
/-- what stands in the module -/
structure Mod (P : Program) (w : World) (K : Frag) (mg : Str → Option Value) (base : Heap) (k : Nat) (G : Gm) : Prop where
  blt : ∀ x ∈ bNames, mg x = none
  fns : ∀ (j : Nat) (g : Sig), G.fns[j]? = some g → HasFn P w K mg base k g
  cst : ∀ (j : Nat) (p : Str × Lit), G.cst[j]? = some p → ∃ u, mg p.1 = some u ∧ RelV (litV p.2) u
  smK : K.lookup sysModules = none
  exn : ∀ (j : Nat) (c : Str), G.exn[j]? = some c → HasExn K mg c
  wds : ∀ (j : Nat) (wd : Wd), G.wds[j]? = some wd → HasWd P w K mg base wd
section
variable {P : Program} {w : World} {K : Frag} {mg : Str → Option Value} {base : Heap}
theorem start_get {N : List Str} {vs : List V} {i : Nat} {v : V} (h : vs[i]? = some v) : (L2.start N vs)[i]? = some (some v) := by
  have hl : i < vs.length := (List.getElem?_eq_some_iff.mp h).1
  unfold L2.start
  rw [List.getElem?_append_left (by rw [List.length_map]; exact hl), List.getElem?_map, h]
  rfl
theorem slots0_get {m : Nat} {ds : List D} {i : Nat} {c : Cell} (h : (slots0 m ds)[i]? = some c) : (∃ d, ds[i]? = some d ∧ c = .dat d) ∨ c = .un := by
  unfold slots0 at h
  by_cases hi : i < ds.length
  · rw [List.getElem?_append_left (by rw [List.length_map]; exact hi), List.getElem?_map] at h
    cases e : ds[i]? with
    | none => rw [e] at h; cases h
    | some d => rw [e] at h; exact .inl ⟨d, rfl, (Option.some.inj h).symm⟩
  · rw [List.getElem?_append_right (by rw [List.length_map]; omega), List.getElem?_replicate] at h
    split at h
    · exact .inr (Option.some.inj h).symm
    · cases h
theorem env0 {N : List Str} {F H : Hp} {vs : List V} {ds : List D} (s : Same F H) (sm : Sm F) (tb : TbOk F H) (r : Rps K F vs ds) : EnvOk K F H (L2.start N vs) (slots0 N.length ds) := by
  have hl := r.len
  refine ⟨s, ?_, fun i c h => ?_, fun i j l b b' d1 d2 e1 _ _ _ => ?_, sm, tb⟩
  · unfold L2.start slots0
    rw [List.length_append, List.length_append, List.length_map, List.length_map, List.length_replicate, List.length_replicate, hl]
  · rcases slots0_get h with ⟨d, e, rfl⟩ | rfl
    · obtain ⟨v, ev, rv⟩ := r.get e
      exact ⟨v, by rw [start_get ev]; rfl, rv⟩
    · trivial
  · rcases slots0_get e1 with ⟨d, _, z⟩ | z <;> cases z
theorem slotsB_get {m : Nat} {es ds : List D} {i : Nat} {c : Cell} (h : (slotsB m es ds)[i]? = some c) : (i = 0 ∧ c = .own true es) ∨ (∃ j d, i = j + 1 ∧ ds[j]? = some d ∧ c = .dat d) ∨ c = .un := by
  cases i with
  | zero => exact .inl ⟨rfl, (Option.some.inj h).symm⟩
  | succ j =>
    have h : (slots0 (m - 1) ds)[j]? = some c := h
    rcases slots0_get h with ⟨d, e, rfl⟩ | rfl
    · exact .inr (.inl ⟨j, d, rfl, e, rfl⟩)
    · exact .inr (.inr rfl)
theorem envB {N : List Str} {F H : Hp} {l : Addr} {xs ws : List V} {es ds : List D} (s : Same F H) (sm : Sm F) (tb : TbOk F H) (hF : F l = none) (hH : H l = some (.lst xs)) (rx : Rps K F xs es) (z : xs.length ≤ sizeLine) (r : Rps K F ws ds) (hn : ws.length + 1 ≤ N.length) :
    EnvOk K F H (L2.start N (.ref l :: ws)) (slotsB N.length es ds) := by
  have hl := r.len
  refine ⟨s, ?_, fun i c h => ?_, fun i j l b b' d1 d2 e1 e2 _ _ => ?_, sm, tb⟩
  · unfold L2.start slotsB
    simp only [List.length_append, List.length_cons, List.length_map, List.length_replicate]
    omega
  · rcases slotsB_get h with ⟨rfl, rfl⟩ | ⟨j, d, rfl, e, rfl⟩ | rfl
    · exact ⟨l, xs, rfl, hF, hH, rx, z⟩
    · obtain ⟨v, ev, rv⟩ := r.get e
      refine ⟨v, ?_, rv⟩
      rw [start_get (i := j + 1) (v := v) (by simpa using ev)]
      rfl
    · trivial
  · rcases slotsB_get e1 with ⟨rfl, _⟩ | ⟨_, _, _, _, z⟩ | z
    · rcases slotsB_get e2 with ⟨rfl, _⟩ | ⟨_, _, _, _, z⟩ | z
      · rfl
      · cases z
      · cases z
    · cases z
    · cases z
/-- the rule of a def, where nothing is being shown -/
theorem fn_go {x qual : Str} {st : Stmt} {f : Addr} {fd : FuncData} {N ps : List Str} {k : Nat} {sp : Sp} {CX : CXT} (F : Fun K x qual st f fd) (S : FnScope N ps (defScope st)) (few : ∀ vs H Q E, sp vs H Q E → vs.length = ps.length)
    (body : ∀ (c : Value), (∃ oc od osl kV doc pm an ct, K.lookup f = some ⟨oc, od, .func (PySem.W.fnOf x qual (defArgs st) (defBody st) (defScope st) .none kV doc pm an c ct), osl⟩) → ∀ (A : Around) (out : List Env) (s : Shared) (H : Hp) (vs : List V) (Q : VK) (E : XK), A.guards = some [] → Room k (A.deeper (envOfC qual (defScope st) s.heap.objs.size f c)) → sp vs H Q E →
      ∃ t, PSs (cxOf CX P w K mg base N qual (defScope st) f c A out s H E) (defBody st) t ∧ t { nx := fun _ H' => Q .non H', rt := Q } (L2.start N vs) H) : FnG P w K mg base CX (k + 1) f fd ps sp := by
  obtain ⟨oc, od, kV, doc, pm, an, c, ct, osl, rfl, look, code⟩ := F.ex
  refine ⟨few, fun A out s H args us vs Q E gd room e0 bd rel q => ?_⟩
  have kin : K.In s.heap := e0.mod.kin.keeps fun b o e => (e0.bs b o e).1
  have noL : s.heap.NoLimit := e0.mod.nolimit.keeps fun b o e => (e0.bs b o e).1
  have kinds : ∀ y ∈ ps.zip us, (defScope st).names.lookup y.1 = some .local ∨ ((defScope st).names.lookup y.1 = some .cell ∧ ((cellsFrom (s.heap.objs.size + 1) (defScope st).names []).lookup y.1).isSome = true) := by
    rintro ⟨n, v⟩ hy
    refine (S.par n (List.of_mem_zip hy).1).imp id fun z => ⟨z, PySem.W.cellsFrom_some _ _ _ (.inl z)⟩
  refine codeAny_call_function room.depth (kin _ _ look) rfl S.co S.gen rfl (PySem.W.codeRec_of kin code) (bd _ _ _ _ ?_)
  refine wpAny_newFunctionEnv_cells S.kind kinds ?_
  rintro env rfl s1 ic
  refine ⟨noL.keeps ic.toInCall.keep, codeAny_func ?_⟩
  obtain ⟨t, ht, hq⟩ := body c ⟨_, _, _, _, _, _, _, _, look⟩ A out s H vs Q E gd (room.deeper _) q
  have I := inv_start (CX := CX) (P := P) (w := w) (mg := mg) (base := base) (f := f) (qual := qual) (cd := c) (outer := out) (E := E) S room.hd e0 (few _ _ _ _ q) rel ic
  refine wpAny_mono (ht.run [] s1 (L2.start N vs) H _ I hq) (fun fl s2 z => ?_) fun _ _ z => z
  cases fl with
  | ret u =>
    obtain ⟨v, σ2, H2, J, rv, qv⟩ := z
    exact ⟨v, H2, J.os, J.bare, J.base, J.hok, rv, qv⟩
  | next =>
    obtain ⟨σ2, H2, J, qv⟩ := z
    exact ⟨V.non, H2, J.os, J.bare, J.base, J.hok, rfl, qv⟩
  | brk =>
    obtain ⟨_, _, _, no⟩ := z
    exact no.elim
  | cont =>
    obtain ⟨_, _, _, no⟩ := z
    exact no.elim
theorem tkx_of {X : Cx} {W : WX} {cls : Value} {d : Option Addr} {σ : L2.St} {H : Hp} (tk : Takes X W) (h : W cls d σ H) : TkX X cls d σ H := tk.imp fun c d' σ' H' ⟨e1, e2, e3, e4⟩ => by
  subst e1 e2 e3 e4
  exact h
theorem fn_ok {x qual : Str} {st : Stmt} {f : Addr} {fd : FuncData} {N ps : List Str} {k : Nat} {G : Gm} {bor nw : Bool} {body : Ss} (F : Fun K x qual st f fd) (S : FnScope N ps (defScope st))
    (hb : (bor && nw) = false) (hp : bor = true → 1 ≤ ps.length) (M : Mod P w K mg base k G) (kk : Nat) (hkk : k ≤ kk)
    (hlam : G.wds ≠ [] → k + 2 ≤ kk ∧ ∃ c P', (∀ oc od osl kV doc pm an cdv ct, K.lookup f = some ⟨oc, od, .func (PySem.W.fnOf x qual (defArgs st) (defBody st) (defScope st) .none kV doc pm an cdv ct), osl⟩ → cdv = .ref c) ∧ LamX.TabB base mg c P' ∧ (P', qual ++ ".<locals>." ++ "<lambda>") ∈ Tb.l ∧ ∀ p ∈ Tb.l, p.1 = P' → p.2 = qual ++ ".<locals>." ++ "<lambda>") (hok : okSs G (defScope st) (defScope st) N bor body (defBody st) = true) : FnG P w K mg base (L2.CX P w) (kk + 1) f fd ps (spOf K mg (sigOf G x ps.length bor nw N.length body)) := by
  have hpl : ps.length ≤ N.length := by have := congrArg List.length S.pre; rw [List.length_take] at this; omega
  refine fn_go F S (fun vs H Q E h => h.1) fun cdv lk A outer s H vs Q E gd hr h => ?_
  have here : Here G k (defScope st) (defScope st) N (cxOf (L2.CX P w) P w K mg base N qual (defScope st) f cdv A outer s H E) :=
    ⟨rfl, rfl, S.nd, rfl, fun _ _ => rfl, M.blt, M.fns, M.cst, hr.mono hkk, gd, M.smK, M.exn, M.wds, fun z => by
      obtain ⟨h1, c, P', h2, h3, h4, h5⟩ := hlam z
      obtain ⟨oc, od, osl, kV, doc, pm, an, ct, lk⟩ := lk
      exact ⟨c, P', h2 _ _ _ _ _ _ _ _ _ lk, h3, h4, h5, hr.mono h1⟩⟩
  have tk : Takes (cxOf (L2.CX P w) P w K mg base N qual (defScope st) f cdv A outer s H E) (fun cls d _ H => E cls d H) := takes_of rfl rfl rfl rfl
  have po : PassesOwn (model P w) (cxOf (L2.CX P w) P w K mg base N qual (defScope st) f cdv A outer s H E).A (cxOf (L2.CX P w) P w K mg base N qual (defScope st) f cdv A outer s H E).env (cxOf (L2.CX P w) P w K mg base N qual (defScope st) f cdv A outer s H E).xe := passes_of rfl
  obtain ⟨hlen, F0, sF, sm, tb, h⟩ := h
  rcases h with ⟨hb1, ds, cc, fs, rd, er, ee⟩ | ⟨hb1, hn1, ds, r, rd, er, q⟩ | ⟨hb1, hn1, ds, es, u, rd, er, q⟩ | ⟨hb1, l, ws, xs, es, ds, r, rfl, hF, hH, rx, hz, rd, er, q⟩
  · obtain rfl : bor = false := hb1
    have er : runF G false nw N.length body ds = .exc cc fs := er
    have er : exs G body (slots0 N.length ds) = .exc cc fs := by
      cases nw with
      | true =>
        have er : finN (exs G body (slots0 N.length ds)) = .exc cc fs := er
        cases e : exs G body (slots0 N.length ds) with
        | exc => rw [e] at er; cases er; rfl
        | bad => rw [e] at er; cases er
        | ok p =>
          obtain ⟨fl, ρ'⟩ := p
          rw [e] at er
          cases fl <;> cases er
      | false =>
        have er : finP (exs G body (slots0 N.length ds)) = .exc cc fs := er
        cases e : exs G body (slots0 N.length ds) with
        | exc => rw [e] at er; cases er; rfl
        | bad => rw [e] at er; cases er
        | ok p =>
          obtain ⟨fl, ρ'⟩ := p
          rw [e] at er
          cases fl <;> cases er
    let fc : Fc := ⟨false, fun _ => False, F0, H⟩
    have g : Good K fc F0 H (L2.start N vs) (slots0 N.length ds) := ⟨env0 sF sm tb rd, Ext.refl, fun l ⟨i, b, d2, e1, _⟩ => (by rcases slots0_get e1 with ⟨d, _, z⟩ | z <;> cases z), fun l z => z.elim⟩
    refine ⟨RdS _ fc (exs G body), soundSs body fc here po hok, F0, _, g, ?_⟩
    rw [er]
    exact fun F' H' _ ex sub cls σ' m => tkx_of tk (σ := σ') (ee F' H' ex sub cls m)
  · obtain rfl : bor = false := hb1
    obtain rfl : nw = false := hn1
    have er : finP (exs G body (slots0 N.length ds)) = .ok r := er
    let fc : Fc := ⟨false, fun _ => False, F0, H⟩
    have g : Good K fc F0 H (L2.start N vs) (slots0 N.length ds) := ⟨env0 sF sm tb rd, Ext.refl, fun l ⟨i, b, d2, e1, _⟩ => (by rcases slots0_get e1 with ⟨d, _, z⟩ | z <;> cases z), fun l z => z.elim⟩
    refine ⟨RdS _ fc (exs G body), soundSs body fc here po hok, F0, _, g, ?_⟩
    cases e : exs G body (slots0 N.length ds) with
    | exc => rw [e] at er; cases er
    | bad => rw [e] at er; cases er
    | ok p =>
      obtain ⟨fl, ρ'⟩ := p
      rw [e] at er
      cases fl with
      | nx =>
        cases er
        exact fun σ' F' H' s' g' => q .non F' H' g'.ex g'.en.sub .non
      | rt d =>
        cases er
        exact fun v σ' F' H' s' g' rv => q v F' H' g'.ex g'.en.sub rv
      | _ => cases er
  · obtain rfl : bor = false := hb1
    obtain rfl : nw = true := hn1
    have er : finN (exs G body (slots0 N.length ds)) = .ok (.list es, u) := er
    let fc : Fc := ⟨false, fun _ => False, F0, H⟩
    have g : Good K fc F0 H (L2.start N vs) (slots0 N.length ds) := ⟨env0 sF sm tb rd, Ext.refl, fun l ⟨i, b, d2, e1, _⟩ => (by rcases slots0_get e1 with ⟨d, _, z⟩ | z <;> cases z), fun l z => z.elim⟩
    refine ⟨RdS _ fc (exs G body), soundSs body fc here po hok, F0, _, g, ?_⟩
    cases e : exs G body (slots0 N.length ds) with
    | exc => rw [e] at er; cases er
    | bad => rw [e] at er; cases er
    | ok p =>
      obtain ⟨fl, ρ'⟩ := p
      rw [e] at er
      cases fl with
      | rn d =>
        cases er
        exact fun p xs σ' F' H' s' g' hp r z => q p xs F' H' g'.ex g'.en.sub hp r z
      | _ => cases er
  · obtain rfl : bor = true := hb1
    have er : finB (exs G body (slotsB N.length es ds)) = .ok r := er
    let fc : Fc := ⟨true, fun a => a = l, F0, H⟩
    have hws : ws.length + 1 ≤ N.length := by
      have hlen : ws.length + 1 = ps.length := hlen
      omega
    have en := envB (N := N) sF sm tb hF hH rx hz rd hws
    have g : Good K fc F0 H (L2.start N (.ref l :: ws)) (slotsB N.length es ds) := by
      refine ⟨en, Ext.refl, fun l' ⟨i, b, d2, e1, e2⟩ => ?_, fun l' z => ⟨rfl, by rw [show l' = l from z]; rfl⟩⟩
      rcases slotsB_get e1 with ⟨rfl, _⟩ | ⟨_, _, _, _, z⟩ | z
      · have e2 : some (some (V.ref l)) = some (some (V.ref l')) := e2
        exact .inl (V.ref.inj (Option.some.inj (Option.some.inj e2))).symm
      · cases z
      · cases z
    refine ⟨RdS _ fc (exs G body), soundSs body fc here po hok, F0, _, g, ?_⟩
    cases e : exs G body (slotsB N.length es ds) with
    | exc => rw [e] at er; cases er
    | bad => rw [e] at er; cases er
    | ok p =>
      obtain ⟨fl, ρ'⟩ := p
      rw [e] at er
      have last : ∀ {σ' : L2.St} {F' H' : Hp} {es' : List D}, Good K fc F' H' σ' ρ' → ρ'[0]? = some (Cell.own true es') → ∃ xs', F' l = none ∧ H' l = some (.lst xs') ∧ Rps K F' xs' es' ∧ xs'.length ≤ sizeLine := fun {σ' F' H' es'} g' e0 => by
        obtain ⟨l', xs', el, h1, h2, h3, h4⟩ := own_at g'.en e0
        have el2 := (g'.lb l rfl).2
        rw [el2] at el
        obtain rfl : l = l' := V.ref.inj (Option.some.inj (Option.some.inj el))
        exact ⟨xs', h1, h2, h3, h4⟩
      cases fl with
      | nx =>
        have er : (match ρ'[0]? with
          | some (.own true es) => R.ok (PyData.none, es)
          | _ => .bad) = .ok r := er
        split at er
        · rename_i es' e0
          cases er
          intro σ' F' H' s' g'
          obtain ⟨xs', h1, h2, h3, h4⟩ := last g' e0
          exact q .non F' H' xs' g'.ex g'.en.sub h1 h2 h3 h4 .non
        · cases er
      | rt d =>
        have er : (match ρ'[0]? with
          | some (.own true es) => R.ok (d, es)
          | _ => .bad) = .ok r := er
        split at er
        · rename_i es' e0
          cases er
          intro v σ' F' H' s' g' rv
          obtain ⟨xs', h1, h2, h3, h4⟩ := last g' e0
          exact q v F' H' xs' g'.ex g'.en.sub h1 h2 h3 h4 rv
        · cases er
      | _ => cases er
end
end DP

/-! DP, part 16: the module's names; the law's end. -/
namespace DP
open PySem PySem.Spec PyProof.Rows L2
variable [Tb]
section
variable {P : Program} {w : World} {K : Frag} {mg : Str → Option Value} {base : Heap} {k : Nat}
theorem fns_nil : ∀ (j : Nat) (g : Sig), ([] : List Sig)[j]? = some g → HasFn P w K mg base k g := fun j g e => by simp at e
theorem fns_cons {g0 : Sig} {l : List Sig} (h : HasFn P w K mg base k g0) (r : ∀ (j : Nat) (g : Sig), l[j]? = some g → HasFn P w K mg base k g) : ∀ (j : Nat) (g : Sig), (g0 :: l)[j]? = some g → HasFn P w K mg base k g
  | 0, g, e => by
    obtain rfl : g0 = g := by simpa using e
    exact h
  | j + 1, g, e => r j g (by simpa using e)
theorem cst_nil : ∀ (j : Nat) (p : Str × Lit), ([] : List (Str × Lit))[j]? = some p → ∃ u, mg p.1 = some u ∧ RelV (litV p.2) u := fun j g e => by simp at e
theorem cst_cons {g0 : Str × Lit} {l : List (Str × Lit)} (h : ∃ u, mg g0.1 = some u ∧ RelV (litV g0.2) u) (r : ∀ (j : Nat) (p : Str × Lit), l[j]? = some p → ∃ u, mg p.1 = some u ∧ RelV (litV p.2) u) :
    ∀ (j : Nat) (p : Str × Lit), (g0 :: l)[j]? = some p → ∃ u, mg p.1 = some u ∧ RelV (litV p.2) u
  | 0, g, e => by
    obtain rfl : g0 = g := by simpa using e
    exact h
  | j + 1, g, e => r j g (by simpa using e)
theorem fun_bind {x qual : Str} {st : Stmt} {f : Addr} {fd : FuncData} {p : Str} (F : Fun K x qual st f fd)
    (h : ∀ (kV doc pm : Value) (an : Option Addr) (cdv ct : Value) (u : Value), bindArgs (PySem.W.fnOf x qual (defArgs st) (defBody st) (defScope st) .none kV doc pm an cdv ct) ⟨[u], []⟩ = pure [(p, u)]) : ∀ (s : Shared) (u : Value), BindsTo s fd ⟨[u], []⟩ [(p, u)] := by
  obtain ⟨oc, od, kV, doc, pm, an, cdv, ct, osl, rfl, lk, hcd⟩ := F.ex
  exact fun s u => .of_eq (h kV doc pm an cdv ct u)
end
theorem exn_nil {K : Frag} {mg : Str → Option Value} : ∀ (j : Nat) (c : Str), ([] : List Str)[j]? = some c → HasExn K mg c := fun j g e => by simp at e
theorem exn_cons {K : Frag} {mg : Str → Option Value} {c0 : Str} {l : List Str} (h : HasExn K mg c0) (r : ∀ (j : Nat) (c : Str), l[j]? = some c → HasExn K mg c) : ∀ (j : Nat) (c : Str), (c0 :: l)[j]? = some c → HasExn K mg c
  | 0, c, e => by
    obtain rfl : c0 = c := by simpa using e
    exact h
  | j + 1, c, e => r j c (by simpa using e)
theorem wds_nil {P : Program} {w : World} {K : Frag} {mg : Str → Option Value} {base : Heap} : ∀ (j : Nat) (d : Wd), ([] : List Wd)[j]? = some d → HasWd P w K mg base d := fun j g e => by simp at e
theorem wds_cons {P : Program} {w : World} {K : Frag} {mg : Str → Option Value} {base : Heap} {c0 : Wd} {l : List Wd} (h : HasWd P w K mg base c0) (r : ∀ (j : Nat) (d : Wd), l[j]? = some d → HasWd P w K mg base d) : ∀ (j : Nat) (d : Wd), (c0 :: l)[j]? = some d → HasWd P w K mg base d
  | 0, c, e => by
    obtain rfl : c0 = c := by simpa using e
    exact h
  | j + 1, c, e => r j c (by simpa using e)
theorem code_at {K : Frag} {mg : Str → Option Value} {x y q : Str} {f0 c : Addr} {as : Arguments} {bd : List Stmt} {sc : Scope} {oc0 : Value} {od0 : Option Addr} {kV0 doc0 pm0 : Value} {an0 : Option Addr} {ct0 : Value} {osl0 : Array (Option Value)} (m : mg x = some (.ref f0))
    (l : K.lookup f0 = some ⟨oc0, od0, .func (PySem.W.fnOf y q as bd sc .none kV0 doc0 pm0 an0 (.ref c) ct0), osl0⟩) : ∀ f, mg x = some (.ref f) → ∀ oc od osl kV doc pm an cdv ct, K.lookup f = some ⟨oc, od, .func (PySem.W.fnOf y q as bd sc .none kV doc pm an cdv ct), osl⟩ → cdv = .ref c := by
  intro f hf oc od osl kV doc pm an cdv ct lk
  obtain rfl : f0 = f := Value.ref.inj (Option.some.inj (m.symm.trans hf))
  rw [l] at lk
  have := Option.some.inj lk
  injection this with _ _ h _
  injection h with h
  injection h with _ _ _ _ _ _ _ _ _ _ _ h
  first | exact h.symm | (simp_all)
theorem rel_lit {l : Lit} {v : Value} (h : RelV (litV l) v) : RelV (litV l) v := h
/-- behind the top: the script stands apart from the module table -/
theorem att_call {l : PySem.W.OpenLaw} {n : Nat} {q : Program} {loose : List Str} {XP : (Str → Option Value) → Heap → Prop} {YP : World → Heap → Prop} {d : DefRec} (most : l.most = some n) (nodef : d.params.defaults = [])
    (call : ∀ (w : World) (s0 s1 : Shared) (mg mb : Str → Option Value) (f a : Addr) (us : List Value) (ns : List Int), PySem.W.Ground q loose [] XP w s0 mg mb s1.heap → YP w s1.heap → mg d.name = some (.ref f) →
      s1.heap.get? a = some { cls := .type "list", data := .seq us.toArray } → a ≠ sysModules → IntsAre us ns → ns.length ≤ n → s1.gens = #[] →
      codeAny (model l.prog w) callerA (.call (.ref f) ⟨[.ref a], []⟩) (fun r t => r = .ok (.ret (.bool true)) ∧ OldK s1.heap t.heap ∧ t.os = s1.os ∧ AllBare t.gens) s1) :
    PySem.W.WalkO q loose XP YP l.row.toRowW d [] (fun f vs => PySem.call f vs) := by
  intro w s0 s1 mg mb G Y f o pm cd doc dV kV ho hd hcd hD hmg noG args vals as pre lay reads well away
  obtain ⟨a, us, ns, rfl, rfl, obj, areI, few⟩ := Att.script_of most pre well
  have na : a ≠ sysModules := by
    cases reads with
    | cons r1 _ =>
      cases r1 with
      | list _ _ _ _ => exact beq_eq_false_iff_ne.mp (away a (List.mem_append_left _ List.mem_cons_self))
  refine PySem.W.enter_call (codeAny_mono (call w s0 s1 mg mb f a us ns G Y hmg obj na areI few noG) ?_)
  rintro r t ⟨rfl, old, os, bare⟩
  exact ⟨.inl ⟨.bool true, .bool true, [], rfl, fun _ => rfl, .bool true, Att.post_true l _, fun _ => ⟨List.Pairwise.nil, nofun⟩⟩, old, os, bare⟩
/-- the law's end: the script is a list that is told or the module's own; cs: code objects and their tables, empty yet -/
theorem end_call {P : Program} {w : World} {K : Frag} {mg mb : Str → Option Value} {k : Nat} {f a : Addr} {fd : FuncData} {p : Str} {g : Sig} {s1 : Shared} {us : List Value} {ns : List Int} {cs : List (Addr × Addr)}
    (kin : K.In s1.heap) (nsG : s1.heap.Ns mainGlobals mg) (nsB : s1.heap.Ns builtinsNs mb)
    (bOk : ∀ x : Str, x ≠ "__name__" → mb x = bootBuiltins x) (noL : s1.heap.NoLimit)
    (hT : ∀ p ∈ cs, s1.heap.get? p.2 = some { cls := .none, data := .fields #[] }) (nT : ∀ p ∈ cs, K.lookup p.2 = none) (C : ∀ p ∈ cs, PySem.W.CodeHd s1.heap p.1 p.2)
    (hbm : ∃ (bm : Addr) (ob : Obj), mg "__builtins__" = some (.ref bm) ∧ bm ≠ builtinsNs ∧ s1.heap.get? bm = some ob ∧ ob.cls = .type "module" ∧ ob.dict = some builtinsNs ∧ ob.data = .plain) (htb : ∀ p ∈ Tb.l, p.1 ∈ cs.map (·.2))
    (noG : s1.gens = #[]) (obj : s1.heap.get? a = some { cls := .type "list", data := .seq us.toArray })
    (areI : IntsAre us ns) (few : ns.length ≤ sizeLine) (room : Room k callerA) (smK : K.lookup sysModules = none) (na : a ≠ sysModules) (mods : ∃ om es ep, s1.heap.get? sysModules = some om ∧ om.data = .dict es ep)
    (F : ∀ base : Heap, K.In base → (∀ p ∈ cs, LamX.TabB base mg p.1 p.2) → FnG P w K mg base (L2.CX P w) k f fd [p] (spOf K mg g))
    (bd : ∀ (s : Shared) (u : Value), BindsTo s fd ⟨[u], []⟩ [(p, u)]) (g1 : g.bor = false) (g2 : g.nw = false) (g3 : g.n = 1)
    (tr : g.sem [.list (ns.map PyData.int)] = .ok (.bool true, [])) :
    codeAny (model P w) callerA (.call (.ref f) ⟨[.ref a], []⟩)
      (fun r t => r = .ok (.ret (.bool true)) ∧ OldK s1.heap t.heap ∧ t.os = s1.os ∧ AllBare t.gens) s1 := by
  have rel := vals_ints areI
  have lu := areI.length
  obtain ⟨om, mes, mep, hom, hmd⟩ := mods
  have isT : ∀ b : Addr, b ∈ cs.map (·.2) → s1.heap.get? b = some { cls := .none, data := .fields #[] } := fun b hb => by
    obtain ⟨p, hp, e⟩ := List.mem_map.mp hb
    rw [← e]; exact hT p hp
  have aT : a ∉ cs.map (·.2) := fun z => by
    have q := isT a z
    rw [obj] at q
    exact nomatch (show Data.seq us.toArray _ = Data.fields #[] from congrArg Obj.data (Option.some.inj q))
  have sT : sysModules ∉ cs.map (·.2) := fun z => by
    have q := isT _ z
    rw [hom] at q
    obtain rfl := Option.some.inj q
    cases hmd
  have kT : ∀ b : Addr, b ∈ cs.map (·.2) → K.lookup b = none := fun b hb => by
    obtain ⟨p, hp, e⟩ := List.mem_map.mp hb
    rw [← e]; exact nT p hp
  suffices main : ∀ F0 H : Hp, Same F0 H → NoT F0 → LsK K F0 a (ns.map V.int) → HOk P w H s1.heap → Sm F0 → (∀ b, H b ≠ none → K.lookup b = none) → (∀ b, H b ≠ none → b = a ∨ b = sysModules ∨ b ∈ cs.map (·.2)) →
      (∀ b u, H b = some u → (∃ o v, u = .frz o v) ∨ b ∈ cs.map (·.2)) → (∀ b ∈ cs.map (·.2), H b = some (.tbl #[])) → codeAny (model P w) callerA (.call (.ref f) ⟨[.ref a], []⟩)
        (fun r t => r = .ok (.ret (.bool true)) ∧ OldK s1.heap t.heap ∧ t.os = s1.os ∧ AllBare t.gens) s1 by
    cases hk : K.lookup a with
    | some o =>
      have eo := kin a o hk
      rw [obj] at eo
      obtain rfl := Option.some.inj eo
      let H : Hp := fun b => if b = sysModules then some (.frz om (.own 0)) else if b ∈ cs.map (·.2) then some (.tbl #[]) else none
      have at_ : ∀ {b : Addr} {u : HO}, H b = some u → (b = sysModules ∧ u = .frz om (.own 0)) ∨ (b ∈ cs.map (·.2) ∧ u = .tbl #[]) := fun {b u} z => by
        have z : (if b = sysModules then some (HO.frz om (.own 0)) else if b ∈ cs.map (·.2) then some (.tbl #[]) else none) = some u := z
        split at z
        · exact .inl ⟨by assumption, (Option.some.inj z).symm⟩
        · split at z
          · exact .inr ⟨by assumption, (Option.some.inj z).symm⟩
          · cases z
      have at2 : ∀ {b : Addr}, H b ≠ none → b = sysModules ∨ b ∈ cs.map (·.2) := fun {b} z => by
        obtain ⟨u, hu⟩ := Option.ne_none_iff_exists'.mp z
        exact (at_ hu).imp And.left And.left
      refine main (fun b => if b = sysModules then some (.frz om (.own 0)) else none) H (fun b u z => ?_) (fun b ps z => ?_) (.inr ⟨us, _, hk, rel, by omega⟩) (fun b u z => ?_) ⟨om, if_pos rfl⟩ (fun b z => ?_) (fun b z => .inr (at2 z)) (fun b u z => ?_) (fun b hb => (if_neg (show ¬ b = sysModules from fun z => sT (z ▸ hb))).trans (if_pos hb))
      · dsimp only at z
        split at z
        · rename_i hb
          exact (if_pos hb).trans z
        · cases z
      · dsimp only at z
        split at z <;> cases z
      · rcases at_ z with ⟨rfl, rfl⟩ | ⟨hb, rfl⟩
        · exact ⟨hom, om, hom⟩
        · exact isT b hb
      · rcases at2 z with rfl | hb
        · exact smK
        · exact kT b hb
      · rcases at_ z with ⟨_, rfl⟩ | ⟨hb, rfl⟩
        · exact .inl ⟨_, _, rfl⟩
        · exact .inr hb
    | none =>
      let H : Hp := fun b => if b = sysModules then some (.frz om (.own 0)) else if b ∈ cs.map (·.2) then some (.tbl #[]) else if b = a then some (.frz { cls := .type "list", data := .seq us.toArray } (.lst (ns.map V.int))) else none
      have at_ : ∀ {b : Addr} {u : HO}, H b = some u → (b = sysModules ∧ u = .frz om (.own 0)) ∨ (b ∈ cs.map (·.2) ∧ u = .tbl #[]) ∨ (b = a ∧ u = .frz { cls := .type "list", data := .seq us.toArray } (.lst (ns.map V.int))) := fun {b u} z => by
        have z : (if b = sysModules then some (HO.frz om (.own 0)) else if b ∈ cs.map (·.2) then some (.tbl #[]) else if b = a then some (.frz { cls := .type "list", data := .seq us.toArray } (.lst (ns.map V.int))) else none) = some u := z
        split at z
        · exact .inl ⟨by assumption, (Option.some.inj z).symm⟩
        · split at z
          · exact .inr (.inl ⟨by assumption, (Option.some.inj z).symm⟩)
          · split at z
            · exact .inr (.inr ⟨by assumption, (Option.some.inj z).symm⟩)
            · cases z
      have at2 : ∀ {b : Addr}, H b ≠ none → b = a ∨ b = sysModules ∨ b ∈ cs.map (·.2) := fun {b} z => by
        obtain ⟨u, hu⟩ := Option.ne_none_iff_exists'.mp z
        rcases at_ hu with z | z | z
        · exact .inr (.inl z.1)
        · exact .inr (.inr z.1)
        · exact .inl z.1
      refine main (fun b => if b = sysModules then some (.frz om (.own 0)) else if b = a then some (.frz { cls := .type "list", data := .seq us.toArray } (.lst (ns.map V.int))) else none) H (fun b u z => ?_) (fun b ps z => ?_) (.inl (.inr ⟨_, (if_neg na).trans (if_pos rfl)⟩)) (fun b u z => ?_) ⟨om, if_pos rfl⟩ (fun b z => ?_) (fun b z => at2 z) (fun b u z => ?_) (fun b hb => (if_neg (show ¬ b = sysModules from fun z => sT (z ▸ hb))).trans (if_pos hb))
      · dsimp only at z
        split at z
        · rename_i hb
          exact (if_pos hb).trans z
        · rename_i hb
          split at z
          · rename_i hb2
            subst hb2
            exact (if_neg hb).trans ((if_neg aT).trans ((if_pos rfl).trans z))
          · cases z
      · dsimp only at z
        split at z
        · cases z
        · split at z <;> cases z
      · rcases at_ z with ⟨rfl, rfl⟩ | ⟨hb, rfl⟩ | ⟨rfl, rfl⟩
        · exact ⟨hom, om, hom⟩
        · exact isT b hb
        · exact ⟨obj, by rw [List.length_map]; exact few, us, _, rel, obj⟩
      · rcases at2 z with rfl | rfl | hb
        · exact hk
        · exact smK
        · exact kT b hb
      · rcases at_ z with ⟨_, rfl⟩ | ⟨hb, rfl⟩ | ⟨_, rfl⟩
        · exact .inl ⟨_, _, rfl⟩
        · exact .inr hb
        · exact .inl ⟨_, _, rfl⟩
  intro F0 H sF nF lst ok sm kNo only frz tbl
  have noD : ∀ {b : Addr} {o : Obj}, b ≠ sysModules → s1.heap.get? b = some o → (∀ vs n, o.data ≠ .seq vs n) → o.data ≠ .fields #[] → H b = none := fun {b o} nb e h1 h2 => by
    by_cases z : H b = none
    · exact z
    · rcases only b z with e' | e' | e'
      · rw [e', obj] at e
        obtain rfl := Option.some.inj e
        exact (h1 _ _ rfl).elim
      · exact absurd e' nb
      · rw [isT b e'] at e
        obtain rfl := Option.some.inj e
        exact (h2 rfl).elim
  have away : ∀ {b : Addr} {o : Obj} {es : Array DictEntry} {ep : Nat}, b ≠ sysModules → s1.heap.get? b = some o → o.data = .dict es ep → H b = none := fun {b o es ep} nb e d =>
    noD nb e (fun vs n z => by rw [d] at z; cases z) (fun z => by rw [d] at z; cases z)
  have put : ∀ {b : Addr} {m : Str → Option Value}, b ≠ sysModules → s1.heap.Ns b m → (hidT s1.heap H).Ns b m := fun {b m} nb h => by
    obtain ⟨o, es, ep, e, d, r⟩ := h
    exact ⟨o, es, ep, hidT_get e (away nb e d), d, r⟩
  have kin2 : K.In (hidT s1.heap H) := fun b o e => hidT_get (kin b o e) (by
    by_cases z : H b = none
    · exact z
    · rw [kNo b z] at e
      cases e)
  have md : L2.Mod K mg (hidT s1.heap H) := by
    refine ⟨kin2, put (by decide) nsG, ⟨mb, put (by decide) nsB, bOk⟩, ?_⟩
    obtain ⟨mc, m1, m2⟩ := noL
    exact ⟨mc, put (by decide) m1, m2⟩
  have env : Env0 P w K mg (hidT s1.heap H) callerA [] s1 H := by
    refine ⟨rfl, md, fun b o e => of_hidT e, Nat.le_of_eq (hidT_size _ _), trivial, fun b hb => ?_, ok, .of_eq noG⟩
    exact absurd (show b ∈ ([] : List Addr) from hb) (by simp)
  have TB : ∀ p ∈ cs, LamX.TabB (hidT s1.heap H) mg p.1 p.2 := fun p hp => by
    have hTp := hT p hp
    refine ⟨?_, ?_, fun z => ?_⟩
    · obtain ⟨o, us', file, tf, flags, tg, inF, text, tt, e1, r1, r2, r3, r4, r5, r6, r7, r8, hne⟩ := C p hp
      have ns1 : p.1 ≠ sysModules := fun z => by
        rw [z, hom] at e1
        obtain rfl := Option.some.inj e1
        rw [hmd] at r2
        cases r2
      refine ⟨o, us', file, tf, flags, tg, inF, text, tt, hidT_get e1 (noD ns1 e1 (fun vs n z => ?_) fun z => ?_), r1, r2, r3, r4, r5, r6, r7, r8, hne⟩
      · rw [r2] at z; cases z
      · rw [r2] at z
        cases z
        simp at r3
    · obtain ⟨bm, ob, b1, b2, b3, b4, b5, b6⟩ := hbm
      have nG : bm ≠ mainGlobals := fun q => by
        obtain ⟨o, es, ep, e, hd, _⟩ := nsG
        rw [q, e] at b3
        cases b3
        rw [hd] at b6
        cases b6
      have nP : bm ≠ p.2 := fun q => by
        rw [q, hTp] at b3
        cases b3
        cases b6
      have ns2 : bm ≠ sysModules := fun z => by
        rw [z, hom] at b3
        obtain rfl := Option.some.inj b3
        rw [hmd] at b6
        cases b6
      refine ⟨bm, ob, b1, b2, nG, nP, hidT_get b3 (noD ns2 b3 (fun vs n z => ?_) fun z => ?_), b4, b5, b6⟩
      · rw [b6] at z; cases z
      · rw [b6] at z; cases z
    · obtain ⟨o, es, ep, e, hd, _⟩ := nsG
      rw [z, hTp] at e
      cases e
      cases hd
  have tbs : LamX.Tabs Tb.l H := fun q hq => LamX.TabS.nil (tbl _ (htb q hq))
  have sp : spOf K mg g [.ref a] H (fun v _ => v = .bl true) (fun _ _ _ => False) := by
    refine ⟨g3.symm, F0, sF, sm, ⟨tbs, nF⟩, .inr (.inl ⟨g1, g2, [.list (ns.map PyData.int)], _, .cons (.lst lst (.ints ns) (by rw [List.length_map]; exact few)) .nil, tr, fun v F' H' _ _ r => ?_⟩)⟩
    cases r
    rfl
  refine codeAny_mono ((F _ kin2 TB).go callerA [] s1 H ⟨[.ref a], []⟩ [.ref a] [.ref a] _ _ rfl room env (bd s1 (.ref a)) (.cons rfl .nil) sp) fun r t h => ?_
  cases r with
  | error e =>
    obtain ⟨_, _, _, _, _, _, _, _, _, _, _, _, z⟩ := (show L2.CX P w [] H s1 (fun _ _ _ => False) e t from h)
    exact z.elim
  | ok fl =>
    cases fl with
    | ret u =>
      obtain ⟨v, H', os, bare, un, ok', rv, q⟩ := h
      obtain rfl : v = .bl true := q
      obtain rfl : u = Value.bool true := rv
      have key : ∀ b o, b ∉ cs.map (·.2) → s1.heap.get? b = some o → t.heap.get? b = some o := fun b o nb e => by
        cases hb : H b with
        | none => exact un.keep b o e hb (fun z => absurd (show b ∈ ([] : List Addr) from z) (by simp)) (by simp)
        | some u =>
          obtain ⟨ob, xs, rfl⟩ := (frz b u hb).resolve_right nb
          have k1 := (ok b _ hb).1
          have k2 := (ok' b _ (un.frzs b ob _ hb)).1
          rw [e] at k1
          obtain rfl := Option.some.inj k1
          exact k2
      have grown : ∀ p ∈ cs, ∃ more : Array Value, t.heap.get? p.2 = some { cls := .none, data := .fields more } := fun p hp => by
        obtain ⟨more, z⟩ := un.tbls p.2 #[] (tbl p.2 (List.mem_map.mpr ⟨p, hp, rfl⟩))
        exact ⟨_, ok' p.2 _ z⟩
      refine ⟨rfl, ⟨fun b o e => ?_, fun b o e => ?_⟩, os, bare⟩
      · by_cases hb : b ∈ cs.map (·.2)
        · obtain ⟨p, hp, ep⟩ := List.mem_map.mp hb
          obtain ⟨more, hm⟩ := grown p hp
          rw [← ep] at e ⊢
          rw [hT p hp] at e
          cases e
          exact .inr (.inl ⟨((C p hp).tab (hT p hp)).isCodeTable, rfl, #[], more, rfl, by rw [Array.empty_append]; exact hm⟩)
        · exact .inl (key b o hb e)
      · by_cases hb : b ∈ cs.map (·.2)
        · obtain ⟨p, hp, ep⟩ := List.mem_map.mp hb
          obtain ⟨more, hm⟩ := grown p hp
          rw [← ep]
          exact ⟨_, hm⟩
        · exact ⟨o, key b o hb e⟩
    | _ => exact False.elim h
theorem law_walk {l : PySem.W.OpenLaw} {k : Nat} {q : Program} {loose : List Str} {XP : (Str → Option Value) → Heap → Prop} {YP : World → Heap → Prop} {d : DefRec} {K : Params → Frag} {p : Str} {g : Sig} (cs : World → List (Addr × Addr))
    (most : l.most = some 63) (nodef : d.params.defaults = []) (room : Room k callerA) (kin : ∀ (w : World) (h : Heap), YP w h → (K w.params).In h)
    (g1 : g.bor = false) (g2 : g.nw = false) (g3 : g.n = 1) (tr : ∀ ns : List Int, ns.length ≤ 63 → g.sem [.list (ns.map PyData.int)] = .ok (.bool true, []))
    (imp : importsNone q = true) (smK : ∀ w : World, (K w.params).lookup sysModules = none)
    (hcs : ∀ (w : World), ∀ t ∈ cs w, (∃ (d' : DefRec) (x : Str), (recsOf q).find? (fun e => e.name == x) = some d' ∧ PySem.W.tabIn (K w.params) x = some t) ∧ (K w.params).lookup t.2 = none) (htb : ∀ (w : World), ∀ p ∈ Tb.l, p.1 ∈ (cs w).map (·.2))
    (F : ∀ (w : World) (mg : Str → Option Value) (f : Addr) (h : Heap), (K w.params).In h → h.Ns mainGlobals mg → mg d.name = some (.ref f) →
      ∃ fd : FuncData, (∀ (s : Shared) (u : Value), BindsTo s fd ⟨[u], []⟩ [(p, u)]) ∧ ∀ base : Heap, (K w.params).In base → (∀ t ∈ cs w, LamX.TabB base mg t.1 t.2) → FnG l.prog w (K w.params) mg base (L2.CX l.prog w) k f fd [p] (spOf (K w.params) mg g)) :
    PySem.W.WalkO q loose XP YP l.row.toRowW d [] (fun f vs => PySem.call f vs) := by
  refine att_call most nodef fun w s0 s1 mg mb f a us ns G Y hmg obj na areI few noG => ?_
  have kx := kin w _ Y
  have mods : ∃ om es ep, s1.heap.get? sysModules = some om ∧ om.data = .dict es ep := by
    obtain ⟨mm, ⟨om, es, ep, hom, hd, _⟩, _⟩ := (G.T.seer imp).mods
    exact ⟨om, es, ep, hom, hd⟩
  obtain ⟨fd, bd, hF⟩ := F w mg f _ kx G.T.g hmg
  have tabs : ∀ t ∈ cs w, PySem.W.CodeHd s1.heap t.1 t.2 ∧ s1.heap.get? t.2 = some { cls := .none, data := .fields #[] } := fun t ht => by
    obtain ⟨⟨d', x, h1, h2⟩, _⟩ := hcs w t ht
    exact PySem.W.tab_of G.T kx h1 h2
  exact end_call kx G.T.g G.T.b G.T.builtins G.T.nolimit (fun t ht => (tabs t ht).2) (fun t ht => (hcs w t ht).2) (fun t ht => (tabs t ht).1) G.T.bmain (htb w) noG obj areI (Nat.le_trans few (by decide)) room (smK w) na mods hF bd g1 g2 g3 (tr ns few)
end DP

/-! DP, part 17: the run by rewriting. -/
namespace DP
open PySem PySem.Spec PyProof.Rows L2
@[simp] theorem r_assoc {α β γ : Type} (x : R α) (f : α → R β) (g : β → R γ) : ((x >>= f) >>= g) = (x >>= fun a => f a >>= g) := by cases x <;> rfl
@[simp] theorem r_ite {α β : Type} {p : Prop} [Decidable p] (x y : R α) (f : α → R β) : ((if p then x else y) >>= f) = if p then x >>= f else y >>= f := by split <;> rfl
@[simp] theorem peek_val (ρ : Slots) (d : D) : peek ρ (.val d) = .ok d := Eq.trans rfl rfl
def peekC : Option Cell → R D
  | some (.own _ ds) => .ok (.list ds)
  | _ => .bad
@[simp] theorem peek_plc (ρ : Slots) (i : Nat) : peek ρ (.plc i) = peekC ρ[i]? := by
  unfold peek peekC
  rfl
@[simp] theorem peekC_own (b : Bool) (ds : List D) : peekC (some (.own b ds)) = .ok (.list ds) := Eq.trans rfl rfl
@[simp] theorem keep_val (d : D) : keep (.val d) = .ok d := Eq.trans rfl rfl
@[simp] theorem keep_plc (i : Nat) : keep (.plc i) = .bad := Eq.trans rfl rfl
@[simp] theorem asB_bool (b : Bool) : asB (.bool b) = .ok b := Eq.trans rfl rfl
@[simp] theorem asI_int (i : Int) : asI (.int i) = .ok i := Eq.trans rfl rfl
def rdC (i : Nat) (ρ : Slots) : Option Cell → R (Opd × Slots)
  | some (.dat d) => .ok (.val d, ρ)
  | some (.own _ _) => .ok (.plc i, ρ)
  | _ => .bad
@[simp] theorem rdC_dat (i : Nat) (ρ : Slots) (d : D) : rdC i ρ (some (.dat d)) = .ok (.val d, ρ) := Eq.trans rfl rfl
@[simp] theorem rdC_own (i : Nat) (ρ : Slots) (b : Bool) (ds : List D) : rdC i ρ (some (.own b ds)) = .ok (.plc i, ρ) := Eq.trans rfl rfl
def frC (i : Nat) (ρ : Slots) : Option Cell → R (Opd × Slots)
  | some (.dat d) => .ok (.val d, ρ)
  | some (.own false ds) => .ok (.val (.list ds), ρ.set i (.dat (.list ds)))
  | _ => .bad
@[simp] theorem frC_dat (i : Nat) (ρ : Slots) (d : D) : frC i ρ (some (.dat d)) = .ok (.val d, ρ) := Eq.trans rfl rfl
@[simp] theorem frC_own (i : Nat) (ρ : Slots) (ds : List D) : frC i ρ (some (.own false ds)) = .ok (.val (.list ds), ρ.set i (.dat (.list ds))) := Eq.trans rfl rfl
section
variable (G : Gm)
@[simp] theorem ev_var (i : Nat) (ρ : Slots) : ev G (.var i) ρ = rdC i ρ ρ[i]? := Eq.trans rfl rfl
@[simp] theorem ev_frz (i : Nat) (ρ : Slots) : ev G (.frz i) ρ = frC i ρ ρ[i]? := Eq.trans rfl rfl
@[simp] theorem ev_lit (l : Lit) (ρ : Slots) : ev G (.lit l) ρ = .ok (.val (litD l), ρ) := Eq.trans rfl rfl
def cstC : Option (Str × Lit) → Slots → R (Opd × Slots)
  | some p, ρ => .ok (.val (litD p.2), ρ)
  | none, _ => .bad
@[simp] theorem cstC_some (p : Str × Lit) (ρ : Slots) : cstC (some p) ρ = .ok (.val (litD p.2), ρ) := Eq.trans rfl rfl
@[simp] theorem ev_cst (j : Nat) (ρ : Slots) : ev G (.cst j) ρ = cstC G.cst[j]? ρ := by
  show (match G.cst[j]? with | some p => R.ok (Opd.val (litD p.2), ρ) | none => .bad) = _
  cases G.cst[j]? <;> rfl
@[simp] theorem litD_int (i : Int) : litD (.int i) = .int i := Eq.trans rfl rfl
@[simp] theorem litD_bl (i : Bool) : litD (.bl i) = .bool i := Eq.trans rfl rfl
@[simp] theorem litD_non : litD .non = .none := Eq.trans rfl rfl
@[simp] theorem litD_str (x : Str) : litD (.str x) = .str x := Eq.trans rfl rfl
@[simp] theorem ev_tup (es : Es) (ρ : Slots) : ev G (.tup es) ρ = evs G es ρ >>= fun p => if sz p.1.length = true then .ok (.val (.tuple p.1), p.2) else .bad := Eq.trans rfl rfl
@[simp] theorem ev_lst (es : Es) (ρ : Slots) : ev G (.lst es) ρ = evs G es ρ >>= fun p => if sz p.1.length = true then .ok (.val (.list p.1), p.2) else .bad := Eq.trans rfl rfl
@[simp] theorem ev_bin (o : O2) (a b : E) (ρ : Slots) : ev G (.bin o a b) ρ = ev G a ρ >>= fun p => ev G b p.2 >>= fun q => peek q.2 p.1 >>= fun x => peek q.2 q.1 >>= fun y => op2 o x y >>= fun d => .ok (.val d, q.2) := Eq.trans rfl rfl
@[simp] theorem ev_cmp (o : Oc) (a b : E) (ρ : Slots) : ev G (.cmp o a b) ρ = ev G a ρ >>= fun p => ev G b p.2 >>= fun q => peek q.2 p.1 >>= fun x => peek q.2 q.1 >>= fun y => cmpD o x y >>= fun d => .ok (.val (.bool d), q.2) := Eq.trans rfl rfl
@[simp] theorem ev_chn (o1 o2 : Oc) (a b c : E) (ρ : Slots) : ev G (.chn o1 o2 a b c) ρ = ev G a ρ >>= fun p => ev G b p.2 >>= fun q => peek q.2 p.1 >>= fun x => peek q.2 q.1 >>= fun y => cmpD o1 x y >>= fun k =>
      if k = true then ev G c q.2 >>= fun t => peek t.2 q.1 >>= fun y => peek t.2 t.1 >>= fun z => cmpD o2 y z >>= fun k2 => .ok (.val (.bool k2), t.2) else .ok (.val (.bool false), q.2) := Eq.trans rfl rfl
@[simp] theorem ev_neg (a : E) (ρ : Slots) : ev G (.neg a) ρ = ev G a ρ >>= fun p => peek p.2 p.1 >>= fun x => asI x >>= fun i => .ok (.val (.int (-i)), p.2) := Eq.trans rfl rfl
@[simp] theorem ev_not (a : E) (ρ : Slots) : ev G (.not a) ρ = ev G a ρ >>= fun p => peek p.2 p.1 >>= fun x => asB x >>= fun b => .ok (.val (.bool (!b)), p.2) := Eq.trans rfl rfl
@[simp] theorem ev_and (es : Es) (ρ : Slots) : ev G (.and es) ρ = evAnd G es ρ := Eq.trans rfl rfl
@[simp] theorem ev_or (es : Es) (ρ : Slots) : ev G (.or es) ρ = evOr G es ρ := Eq.trans rfl rfl
@[simp] theorem ev_ife (c a b : E) (ρ : Slots) : ev G (.ife c a b) ρ = ev G c ρ >>= fun p => peek p.2 p.1 >>= fun x => asB x >>= fun k => if k = true then ev G a p.2 else ev G b p.2 := Eq.trans rfl rfl
@[simp] theorem ev_ix (a i : E) (ρ : Slots) : ev G (.ix a i) ρ = ev G a ρ >>= fun p => ev G i p.2 >>= fun q => peek q.2 p.1 >>= fun x => peek q.2 q.1 >>= fun y => ixD x y >>= fun d => .ok (.val d, q.2) := Eq.trans rfl rfl
@[simp] theorem ev_slc (a lo hi : E) (ρ : Slots) : ev G (.slc a lo hi) ρ = ev G a ρ >>= fun p => part lo (ev G lo p.2) p.2 >>= fun q => part hi (ev G hi q.2) q.2 >>= fun t => peek t.2 p.1 >>= fun x => slcD x q.1 t.1 >>= fun d => .ok (.val d, t.2) := Eq.trans rfl rfl
@[simp] theorem part_nop (r : R (Opd × Slots)) (ρ : Slots) : part .nop r ρ = .ok (none, ρ) := Eq.trans rfl rfl
theorem part_e {e : E} (h : isNop e = false) (r : R (Opd × Slots)) (ρ : Slots) : part e r ρ = r >>= fun p => peek p.2 p.1 >>= fun x => asI x >>= fun i => .ok (some i, p.2) := by cases e <;> first | rfl | cases h
@[simp] theorem part_lit (l : Lit) (r : R (Opd × Slots)) (ρ : Slots) : part (.lit l) r ρ = r >>= fun p => peek p.2 p.1 >>= fun x => asI x >>= fun i => .ok (some i, p.2) := Eq.trans rfl rfl
@[simp] theorem part_var (l : Nat) (r : R (Opd × Slots)) (ρ : Slots) : part (.var l) r ρ = r >>= fun p => peek p.2 p.1 >>= fun x => asI x >>= fun i => .ok (some i, p.2) := Eq.trans rfl rfl
@[simp] theorem part_bin (o : O2) (a b : E) (r : R (Opd × Slots)) (ρ : Slots) : part (.bin o a b) r ρ = r >>= fun p => peek p.2 p.1 >>= fun x => asI x >>= fun i => .ok (some i, p.2) := Eq.trans rfl rfl
@[simp] theorem part_neg (a : E) (r : R (Opd × Slots)) (ρ : Slots) : part (.neg a) r ρ = r >>= fun p => peek p.2 p.1 >>= fun x => asI x >>= fun i => .ok (some i, p.2) := Eq.trans rfl rfl
@[simp] theorem callBC_own (g : Sig) (i : Nat) (es : List D) (ρ : Slots) (b : Bool) (ds : List D) : callBC (some g) i es ρ (some (.own b ds)) = if (g.bor && decide (es.length + 1 = g.n)) = true then nx (g.sem (.list ds :: es)) >>= fun r => .ok (.val r.1, ρ.set i (.own b r.2)) else .bad := Eq.trans rfl rfl
@[simp] theorem callC_some (g : Sig) (ds : List D) (ρ : Slots) : callC (some g) ds ρ = if (!g.bor && decide (ds.length = g.n)) = true then g.sem ds >>= fun r => .ok (.val r.1, ρ) else .bad := Eq.trans rfl rfl
@[simp] theorem ev_call (j : Nat) (es : Es) (ρ : Slots) : ev G (.call j es) ρ = evs G es ρ >>= fun p => callC G.fns[j]? p.1 p.2 := Eq.trans rfl rfl
@[simp] theorem ev_callB (j i : Nat) (es : Es) (ρ : Slots) : ev G (.callB j i es) ρ = if isOwn ρ[i]? = true then evs G es ρ >>= fun p => callBC G.fns[j]? i p.1 p.2 p.2[i]? else .bad := Eq.trans rfl rfl
@[simp] theorem ev_bi (f : Bi) (a : E) (ρ : Slots) : ev G (.bi f a) ρ = ev G a ρ >>= fun p => peek p.2 p.1 >>= fun x => biD f x >>= fun d => .ok (.val d, p.2) := Eq.trans rfl rfl
@[simp] theorem ev_isi (a : E) (t : Ty) (ρ : Slots) : ev G (.isi a t) ρ = ev G a ρ >>= fun p => peek p.2 p.1 >>= fun x => .ok (.val (.bool (tyD t x)), p.2) := Eq.trans rfl rfl
@[simp] theorem ev_comp2 (elt cond cond2 : E) (tg tg2 : Tg) (it it2 : I) (ρ : Slots) : ev G (.comp2 elt tg it cond tg2 it2 cond2) ρ = evI G it ρ >>= fun p => compLoop2 (turnC2 G elt tg cond tg2 it2 cond2) p.1 p.2 >>= fun q => if sz q.1.length = true then R.ok (Opd.val (.list q.1), q.2) else .bad := comp2_eq elt tg it cond tg2 it2 cond2 ρ
@[simp] theorem ev_comp (elt cond : E) (tg : Tg) (it : I) (ρ : Slots) : ev G (.comp elt tg it cond) ρ = evI G it ρ >>= fun p => compLoop (turnC G elt tg cond) p.1 p.2 >>= fun q => .ok (.val (.list q.1), q.2) := Eq.trans rfl rfl
@[simp] theorem evs_nil (ρ : Slots) : evs G .nil ρ = .ok ([], ρ) := Eq.trans rfl rfl
@[simp] theorem evs_cons (e : E) (es : Es) (ρ : Slots) : evs G (.cons e es) ρ = ev G e ρ >>= fun p => keep p.1 >>= fun d => evs G es p.2 >>= fun q => .ok (d :: q.1, q.2) := Eq.trans rfl rfl
@[simp] theorem evAnd_one (e : E) (ρ : Slots) : evAnd G (.cons e .nil) ρ = ev G e ρ := Eq.trans rfl rfl
@[simp] theorem evAnd_cons (e e2 : E) (es : Es) (ρ : Slots) : evAnd G (.cons e (.cons e2 es)) ρ = ev G e ρ >>= fun p => peek p.2 p.1 >>= fun x => asB x >>= fun k => if k = true then evAnd G (.cons e2 es) p.2 else .ok (.val (.bool false), p.2) := Eq.trans rfl rfl
@[simp] theorem evOr_one (e : E) (ρ : Slots) : evOr G (.cons e .nil) ρ = ev G e ρ := Eq.trans rfl rfl
@[simp] theorem evOr_cons (e e2 : E) (es : Es) (ρ : Slots) : evOr G (.cons e (.cons e2 es)) ρ = ev G e ρ >>= fun p => peek p.2 p.1 >>= fun x => asB x >>= fun k => if k = true then .ok (.val (.bool true), p.2) else evOr G (.cons e2 es) p.2 := Eq.trans rfl rfl
@[simp] theorem evI_seq (a : E) (ρ : Slots) : evI G (.seq a) ρ = ev G a ρ >>= fun p => keep p.1 >>= fun x => items? x >>= fun ds => .ok (ds, p.2) := Eq.trans rfl rfl
def rngC (i j : Int) (ρ : Slots) : R (List D × Slots) := if (rngOk i j && sz (j - i).toNat) = true then .ok (rngD i j, ρ) else .bad
@[simp] theorem evI_rng (a : E) (ρ : Slots) : evI G (.rng a) ρ = ev G a ρ >>= fun p => peek p.2 p.1 >>= fun x => asI x >>= fun i => rngC 0 i p.2 := by
  show (ev G a ρ >>= fun p => peek p.2 p.1 >>= fun x => asI x >>= fun i => if (rngOk 0 i && sz i.toNat) = true then R.ok (rngD 0 i, p.2) else .bad) = _
  congr 1
  funext p
  congr 1
  funext x
  congr 1
  funext i
  unfold rngC
  rw [Int.sub_zero]
@[simp] theorem evI_rng2 (a b : E) (ρ : Slots) : evI G (.rng2 a b) ρ = ev G a ρ >>= fun p => ev G b p.2 >>= fun q => peek q.2 p.1 >>= fun x => peek q.2 q.1 >>= fun y => asI x >>= fun i => asI y >>= fun j => rngC i j q.2 := Eq.trans rfl rfl
@[simp] theorem items_tup (xs : List D) : items? (.tuple xs) = .ok xs := Eq.trans rfl rfl
@[simp] theorem items_lst (xs : List D) : items? (.list xs) = .ok xs := Eq.trans rfl rfl
@[simp] theorem evT_eq (c : E) (ρ : Slots) : evT G c ρ = ev G c ρ >>= fun p => peek p.2 p.1 >>= fun x => asB x >>= fun k => .ok (k, p.2) := Eq.trans rfl rfl
@[simp] theorem turnC_eq (elt cond : E) (tg : Tg) (d : D) (ρ1 : Slots) : turnC G elt tg cond d ρ1 = nx (putTg tg d (wipeR ρ1 tg.slots) >>= fun ρ2 => ev G cond ρ2 >>= fun c => peek c.2 c.1 >>= fun x => asB x >>= fun k =>
        if k = true then ev G elt c.2 >>= fun y => keep y.1 >>= fun d' => .ok (some d', unwipe ρ1 y.2 tg.slots) else .ok (none, unwipe ρ1 c.2 tg.slots)) := Eq.trans rfl rfl
/-! statements -/
@[simp] theorem exs_nil (ρ : Slots) : exs G .nil ρ = .ok (.nx, ρ) := Eq.trans rfl rfl
def seqC (r : Slots → R (Fl × Slots)) : Fl × Slots → R (Fl × Slots)
  | (.nx, ρ) => r ρ
  | p => .ok p
@[simp] theorem seqC_nx (r : Slots → R (Fl × Slots)) (ρ : Slots) : seqC r (.nx, ρ) = r ρ := Eq.trans rfl rfl
@[simp] theorem seqC_rt (r : Slots → R (Fl × Slots)) (d : D) (ρ : Slots) : seqC r (.rt d, ρ) = .ok (.rt d, ρ) := Eq.trans rfl rfl
@[simp] theorem seqC_rn (r : Slots → R (Fl × Slots)) (d : List D) (ρ : Slots) : seqC r (.rn d, ρ) = .ok (.rn d, ρ) := Eq.trans rfl rfl
@[simp] theorem seqC_bk (r : Slots → R (Fl × Slots)) (ρ : Slots) : seqC r (.bk, ρ) = .ok (.bk, ρ) := Eq.trans rfl rfl
@[simp] theorem seqC_ct (r : Slots → R (Fl × Slots)) (ρ : Slots) : seqC r (.ct, ρ) = .ok (.ct, ρ) := Eq.trans rfl rfl
@[simp] theorem exs_cons (s : S) (r : Ss) (ρ : Slots) : exs G (.cons s r) ρ = ex G s ρ >>= seqC (exs G r) := by
  show (ex G s ρ >>= fun p => match p.1 with
    | .nx => exs G r p.2
    | f => .ok (f, p.2)) = _
  congr 1
  funext p
  obtain ⟨f, ρ'⟩ := p
  cases f <;> rfl
@[simp] theorem ex_asg (tg : Tg) (e : E) (ρ : Slots) : ex G (.asg tg e) ρ = ev G e ρ >>= fun p => keep p.1 >>= fun d => putTg tg d p.2 >>= fun ρ' => .ok (.nx, ρ') := Eq.trans rfl rfl
@[simp] theorem ex_par (i j : Nat) (a b : E) (ρ : Slots) : ex G (.par i j a b) ρ = ev G a ρ >>= fun p => keep p.1 >>= fun d => ev G b p.2 >>= fun q => keep q.1 >>= fun d2 => if (free q.2 i && free q.2 j) = true then .ok (.nx, (q.2.set i (.dat d)).set j (.dat d2)) else .bad := Eq.trans rfl rfl
def newC (i : Nat) : Opd × Slots → R (Fl × Slots)
  | (.val (.list ds), ρ) => if free ρ i = true then .ok (.nx, ρ.set i (.own false ds)) else .bad
  | _ => .bad
@[simp] theorem newC_lst (i : Nat) (ds : List D) (ρ : Slots) : newC i (.val (.list ds), ρ) = if free ρ i = true then .ok (.nx, ρ.set i (.own false ds)) else .bad := Eq.trans rfl rfl
@[simp] theorem ex_new (i : Nat) (e : E) (ρ : Slots) : ex G (.new i e) ρ = ev G e ρ >>= newC i := by
  show (ev G e ρ >>= fun p => (match p.1 with
    | .val (.list ds) => if free p.2 i = true then R.ok (Fl.nx, p.2.set i (.own false ds)) else .bad
    | _ => .bad)) = _
  congr 1
  funext p
  obtain ⟨f, ρ'⟩ := p
  cases f with
  | val d => cases d <;> rfl
  | plc j => rfl
@[simp] theorem ex_newC (i j : Nat) (es : Es) (ρ : Slots) : ex G (.newC i j es) ρ = ev G (.call j es) ρ >>= newC i := by
  show (ev G (.call j es) ρ >>= fun p => (match p.1 with
    | .val (.list ds) => if free p.2 i = true then R.ok (Fl.nx, p.2.set i (.own false ds)) else .bad
    | _ => .bad)) = _
  congr 1
  funext p
  obtain ⟨f, ρ'⟩ := p
  cases f with
  | val d => cases d <;> rfl
  | plc j => rfl
def setC (i : Nat) (ρ : Slots) (d : D) (k : Int) : Option Cell → R (Fl × Slots)
  | some (.own b ds) => (match ixN ds.length k with
        | some j => .ok (.nx, ρ.set i (.own b (ds.set j d)))
        | none => .bad)
  | _ => .bad
theorem setC_own (i : Nat) (ρ : Slots) (d : D) (k : Int) (b : Bool) (ds : List D) (j : Nat) (h : ixN ds.length k = some j) : setC i ρ d k (some (.own b ds)) = .ok (.nx, ρ.set i (.own b (ds.set j d))) := by
  show (match ixN ds.length k with
        | some j => R.ok (Fl.nx, ρ.set i (.own b (ds.set j d)))
        | none => .bad) = _
  rw [h]
@[simp] theorem isOwn_own (b : Bool) (ds : List D) : isOwn (some (.own b ds)) = true := Eq.trans rfl rfl
@[simp] theorem ex_setI (i : Nat) (ix e : E) (ρ : Slots) : ex G (.setI i ix e) ρ = ev G e ρ >>= fun p => keep p.1 >>= fun d => if isOwn p.2[i]? = true then ev G ix p.2 >>= fun q => peek q.2 q.1 >>= fun x => asI x >>= fun k => setC i q.2 d k q.2[i]? else .bad := by
  show (ev G e ρ >>= fun p => keep p.1 >>= fun d => (match p.2[i]? with
    | some (.own _ _) => ev G ix p.2 >>= fun q => peek q.2 q.1 >>= fun x => asI x >>= fun k => (match q.2[i]? with
      | some (.own b ds) => (match ixN ds.length k with
        | some j => R.ok (Fl.nx, q.2.set i (.own b (ds.set j d)))
        | none => .bad)
      | _ => .bad)
    | _ => .bad)) = _
  congr 1
  funext p
  congr 1
  funext d
  cases p.2[i]? with
  | none => rfl
  | some c =>
    cases c <;> rfl
def appC (i : Nat) (ρ : Slots) (d : D) : Option Cell → R (Fl × Slots)
  | some (.own b ds) => if sz (ds.length + 1) = true then .ok (.nx, ρ.set i (.own b (ds ++ [d]))) else .bad
  | _ => .bad
@[simp] theorem appC_own (i : Nat) (ρ : Slots) (d : D) (b : Bool) (ds : List D) : appC i ρ d (some (.own b ds)) = if sz (ds.length + 1) = true then .ok (.nx, ρ.set i (.own b (ds ++ [d]))) else .bad := Eq.trans rfl rfl
@[simp] theorem ex_app (i : Nat) (e : E) (ρ : Slots) : ex G (.app i e) ρ = if isOwn ρ[i]? = true then ev G e ρ >>= fun p => keep p.1 >>= fun d => appC i p.2 d p.2[i]? else .bad := by
  show (match ρ[i]? with
    | some (.own _ _) => ev G e ρ >>= fun p => keep p.1 >>= fun d => (match p.2[i]? with
      | some (.own b ds) => if sz (ds.length + 1) = true then R.ok (Fl.nx, p.2.set i (.own b (ds ++ [d]))) else .bad
      | _ => .bad)
    | _ => .bad) = _
  cases ρ[i]? with
  | none => rfl
  | some c =>
    cases c <;> rfl
@[simp] theorem ex_exp (e : E) (ρ : Slots) : ex G (.exp e) ρ = ev G e ρ >>= fun p => .ok (.nx, p.2) := Eq.trans rfl rfl
@[simp] theorem ex_ret (e : E) (ρ : Slots) : ex G (.ret e) ρ = ev G e ρ >>= fun p => keep p.1 >>= fun d => .ok (.rt d, p.2) := Eq.trans rfl rfl
def retC : Opd × Slots → R (Fl × Slots)
  | (.val (.list ds), ρ) => .ok (.rn ds, ρ)
  | _ => .bad
@[simp] theorem retC_lst (ds : List D) (ρ : Slots) : retC (.val (.list ds), ρ) = .ok (.rn ds, ρ) := Eq.trans rfl rfl
@[simp] theorem ex_retL (e : E) (ρ : Slots) : ex G (.retL e) ρ = ev G e ρ >>= retC := by
  show (ev G e ρ >>= fun p => (match p.1 with
    | .val (.list ds) => R.ok (Fl.rn ds, p.2)
    | _ => .bad)) = _
  congr 1
  funext p
  obtain ⟨f, ρ'⟩ := p
  cases f with
  | val d => cases d <;> rfl
  | plc j => rfl
@[simp] theorem ex_retN (ρ : Slots) : ex G .retN ρ = .ok (.rt .none, ρ) := Eq.trans rfl rfl
@[simp] theorem ex_ifs (c : E) (a b : Ss) (ρ : Slots) : ex G (.ifs c a b) ρ = evT G c ρ >>= fun p => if p.1 = true then exs G a p.2 else exs G b p.2 := Eq.trans rfl rfl
@[simp] theorem ex_fors (tg : Tg) (it : I) (b : Ss) (ρ : Slots) : ex G (.fors tg it b) ρ = evI G it ρ >>= fun p => forLoop (fun d ρ1 => putTg tg d ρ1 >>= fun ρ2 => exs G b ρ2) p.1 p.2 := Eq.trans rfl rfl
@[simp] theorem ex_whl (n : Nat) (c : E) (b : Ss) (ρ : Slots) : ex G (.whl n c b) ρ = whLoop (evT G c) (fun ρ1 => exs G b ρ1) n ρ := Eq.trans rfl rfl
@[simp] theorem ex_pass (ρ : Slots) : ex G .pass ρ = .ok (.nx, ρ) := Eq.trans rfl rfl
@[simp] theorem ex_brk (ρ : Slots) : ex G .brk ρ = .ok (.bk, ρ) := Eq.trans rfl rfl
@[simp] theorem ex_cnt (ρ : Slots) : ex G .cnt ρ = .ok (.ct, ρ) := Eq.trans rfl rfl
@[simp] theorem ex_never (ρ : Slots) : ex G .never ρ = .bad := Eq.trans rfl rfl
end
def freeC : Option Cell → Bool
  | some (.own true _) => false
  | some _ => true
  | none => false
@[simp] theorem freeC_un : freeC (some .un) = true := Eq.trans rfl rfl
@[simp] theorem freeC_dat (d : D) : freeC (some (.dat d)) = true := Eq.trans rfl rfl
@[simp] theorem freeC_own (d : List D) : freeC (some (.own false d)) = true := Eq.trans rfl rfl
@[simp] theorem freeC_bor (d : List D) : freeC (some (.own true d)) = false := Eq.trans rfl rfl
@[simp] theorem free_eq (ρ : Slots) (i : Nat) : free ρ i = freeC ρ[i]? := by unfold free freeC; rfl
@[simp] theorem putTg_nm (i : Nat) (d : D) (ρ : Slots) : putTg (.nm i) d ρ = if free ρ i = true then .ok (ρ.set i (.dat d)) else .bad := Eq.trans rfl rfl
@[simp] theorem putTg_tup (is : List Nat) (ds : List D) (ρ : Slots) : putTg (.tup is) (.tuple ds) ρ = if (is.all fun i => free ρ i) = true then putAll is ds ρ else .bad := Eq.trans rfl rfl
@[simp] theorem putAll_nil (ρ : Slots) : putAll [] [] ρ = .ok ρ := Eq.trans rfl rfl
@[simp] theorem putAll_cons (i : Nat) (is : List Nat) (d : D) (ds : List D) (ρ : Slots) : putAll (i :: is) (d :: ds) ρ = putAll is ds (ρ.set i (.dat d)) := Eq.trans rfl rfl
@[simp] theorem wipeR_nil (ρ : Slots) : wipeR ρ [] = ρ := Eq.trans rfl rfl
@[simp] theorem wipeR_cons (ρ : Slots) (v : Nat) (vs : List Nat) : wipeR ρ (v :: vs) = (wipeR ρ vs).set v .un := Eq.trans rfl rfl
@[simp] theorem unwipe_nil (ρ0 ρ : Slots) : unwipe ρ0 ρ [] = ρ := Eq.trans rfl rfl
def unwC (ρ : Slots) (v : Nat) : Option Cell → Slots
  | some c => ρ.set v c
  | none => ρ
@[simp] theorem unwC_some (ρ : Slots) (v : Nat) (c : Cell) : unwC ρ v (some c) = ρ.set v c := Eq.trans rfl rfl
@[simp] theorem unwipe_cons (ρ0 ρ : Slots) (v : Nat) (vs : List Nat) : unwipe ρ0 ρ (v :: vs) = unwC (unwipe ρ0 ρ vs) v ρ0[v]? := by
  show (match ρ0[v]? with
    | some c => (unwipe ρ0 ρ vs).set v c
    | none => unwipe ρ0 ρ vs) = _
  cases ρ0[v]? <;> rfl
@[simp] theorem slots_nm (i : Nat) : (Tg.nm i).slots = [i] := Eq.trans rfl rfl
@[simp] theorem slots_tup (is : List Nat) : (Tg.tup is).slots = is := Eq.trans rfl rfl
@[simp] theorem gd_t (r : R D) : gd true r = r := Eq.trans rfl rfl
@[simp] theorem add_ii (i j : Int) : op2 .add (.int i) (.int j) = .ok (.int (i + j)) := Eq.trans rfl rfl
@[simp] theorem sub_ii (i j : Int) : op2 .sub (.int i) (.int j) = .ok (.int (i - j)) := Eq.trans rfl rfl
@[simp] theorem mul_ii (i j : Int) : op2 .mul (.int i) (.int j) = gd (i64 i || i64 j) (.ok (.int (i * j))) := Eq.trans rfl rfl
@[simp] theorem fdiv_ii (i j : Int) : op2 .fdiv (.int i) (.int j) = gd (decide (0 < j) && decide (j < 1073741824)) (.ok (.int (i / j))) := Eq.trans rfl rfl
@[simp] theorem mod_ii (i j : Int) : op2 .mod (.int i) (.int j) = gd (decide (0 < j)) (.ok (.int (i % j))) := Eq.trans rfl rfl
@[simp] theorem pow_ii (i j : Int) : op2 .pow (.int i) (.int j) = gd (decide (0 ≤ j) && decide (j ≤ 1000000) && decide (i.natAbs < 2 ^ 64)) (.ok (.int (i ^ j.toNat))) := Eq.trans rfl rfl
@[simp] theorem lt_ii (i j : Int) : cmpD .lt (.int i) (.int j) = .ok (decide (i < j)) := Eq.trans rfl rfl
@[simp] theorem le_ii (i j : Int) : cmpD .le (.int i) (.int j) = .ok (decide (i ≤ j)) := Eq.trans rfl rfl
@[simp] theorem gt_ii (i j : Int) : cmpD .gt (.int i) (.int j) = .ok (decide (j < i)) := Eq.trans rfl rfl
@[simp] theorem ge_ii (i j : Int) : cmpD .ge (.int i) (.int j) = .ok (decide (j ≤ i)) := Eq.trans rfl rfl
@[simp] theorem eq_ii (i j : Int) : cmpD .eq (.int i) (.int j) = .ok (decide (i = j)) := by
  show (if (shp (.int i) && shp (.int j)) = true then R.ok (PyData.eqv (.int i) (.int j)) else .bad) = _
  rw [if_pos (by rfl)]
  rfl
@[simp] theorem ne_ii (i j : Int) : cmpD .ne (.int i) (.int j) = .ok (!decide (i = j)) := by
  show (if (shp (.int i) && shp (.int j)) = true then R.ok (!PyData.eqv (.int i) (.int j)) else .bad) = _
  rw [if_pos (by rfl)]
  rfl
@[simp] theorem int_i (i : Int) : biD .int (.int i) = .ok (.int i) := Eq.trans rfl rfl
@[simp] theorem len_t (xs : List D) : biD .len (.tuple xs) = .ok (.int xs.length) := Eq.trans rfl rfl
@[simp] theorem len_l (xs : List D) : biD .len (.list xs) = .ok (.int xs.length) := Eq.trans rfl rfl
@[simp] theorem tup_l (xs : List D) : biD .tuple (.list xs) = .ok (.tuple xs) := Eq.trans rfl rfl
@[simp] theorem tup_t (xs : List D) : biD .tuple (.tuple xs) = .ok (.tuple xs) := Eq.trans rfl rfl
@[simp] theorem lst_t (xs : List D) : biD .list (.tuple xs) = .ok (.list xs) := Eq.trans rfl rfl
@[simp] theorem lst_l (xs : List D) : biD .list (.list xs) = .ok (.list xs) := Eq.trans rfl rfl
@[simp] theorem abs_i (i : Int) : biD .abs (.int i) = .ok (.int (if i < 0 then -i else i)) := Eq.trans rfl rfl
@[simp] theorem isN_n (d : D) : cmpD .isN d .none = .ok (isN d) := Eq.trans rfl rfl
@[simp] theorem notN_n (d : D) : cmpD .notN d .none = .ok (!isN d) := Eq.trans rfl rfl
def ixC : Option D → R D
  | some d => .ok d
  | none => .bad
@[simp] theorem ixC_some (d : D) : ixC (some d) = .ok d := Eq.trans rfl rfl
@[simp] theorem ix_t (xs : List D) (k : Int) : ixD (.tuple xs) (.int k) = ixC (atI xs k) := by
  show (match atI xs k with | some d => R.ok d | none => .bad) = _
  cases atI xs k <;> rfl
@[simp] theorem ix_l (xs : List D) (k : Int) : ixD (.list xs) (.int k) = ixC (atI xs k) := by
  show (match atI xs k with | some d => R.ok d | none => .bad) = _
  cases atI xs k <;> rfl
theorem atI_lit {α : Type} (xs : List α) (n : Nat) (h : n < xs.length) : atI xs (n : Int) = xs[n]? := by
  unfold atI ixN
  rw [if_pos (by omega), if_pos (by omega)]
  rfl
theorem atI_n {α : Type} (xs : List α) (n : Nat) : atI xs (n : Int) = xs[n]? := by
  by_cases h : n < xs.length
  · exact atI_lit xs n h
  · unfold atI ixN
    rw [if_pos (by omega), if_neg (by omega), List.getElem?_eq_none (by omega)]
    rfl
@[simp] theorem atI_o {α : Type} (xs : List α) (n : Nat) : atI xs (no_index (OfNat.ofNat n) : Int) = xs[(OfNat.ofNat n : Nat)]? := atI_n xs n
theorem ixN_n (m n : Nat) (h : n < m) : ixN m (n : Int) = some n := by
  unfold ixN
  rw [if_pos (by omega), if_pos (by omega)]
  rfl
@[simp] theorem setC_lit (i : Nat) (ρ : Slots) (d : D) (n : Nat) (b : Bool) (ds : List D) : setC i ρ d (no_index (OfNat.ofNat n) : Int) (some (.own b ds)) = if n < ds.length then .ok (.nx, ρ.set i (.own b (ds.set (OfNat.ofNat n : Nat) d))) else .bad := by
  by_cases h : n < ds.length
  · rw [if_pos h]
    exact setC_own i ρ d _ b ds n (ixN_n _ _ h)
  · rw [if_neg h]
    show (match ixN ds.length (n : Int) with
        | some j => R.ok (Fl.nx, ρ.set i (.own b (ds.set j d)))
        | none => .bad) = _
    unfold ixN
    rw [if_pos (by omega), if_neg (by omega)]
@[simp] theorem i64_lit (n : Nat) : i64 (no_index (OfNat.ofNat n) : Int) = decide ((OfNat.ofNat n : Int) < 2 ^ 64) := by
  unfold i64
  have : decide (-(2 ^ 64) < (OfNat.ofNat n : Int)) = true := decide_eq_true (by have : (0 : Int) ≤ (n : Int) := Int.natCast_nonneg n; exact Int.lt_of_lt_of_le (by decide) this)
  rw [this, Bool.true_and]
theorem i64_of {i : Int} (h1 : -(2 ^ 64) < i) (h2 : i < 2 ^ 64) : i64 i = true := by
  unfold i64
  rw [decide_eq_true h1, decide_eq_true h2]; rfl
theorem sz_of {n : Nat} (h : n ≤ sizeLine) : sz n = true := decide_eq_true h
theorem sem_P (G : Gm) (x : Str) (n m : Nat) (b : Ss) (ds : List D) : (sigOf G x n false false m b).sem ds = finP (exs G b (slots0 m ds)) := rfl
theorem sem_N (G : Gm) (x : Str) (n m : Nat) (b : Ss) (ds : List D) : (sigOf G x n false true m b).sem ds = finN (exs G b (slots0 m ds)) := rfl
theorem sem_B (G : Gm) (x : Str) (n m : Nat) (b : Ss) (es ds : List D) : (sigOf G x n true false m b).sem (.list es :: ds) = finB (exs G b (slotsB m es ds)) := rfl
@[simp] theorem finP_rt (d : D) (ρ : Slots) : finP (.ok (.rt d, ρ)) = .ok (d, []) := Eq.trans rfl rfl
@[simp] theorem finP_nx (ρ : Slots) : finP (.ok (.nx, ρ)) = .ok (.none, []) := Eq.trans rfl rfl
@[simp] theorem finN_rn (d : List D) (ρ : Slots) : finN (.ok (.rn d, ρ)) = .ok (.list d, []) := Eq.trans rfl rfl
@[simp] theorem finB_rt (d : D) (es : List D) (ρ : Slots) : finB (.ok (.rt d, Cell.own true es :: ρ)) = .ok (d, es) := Eq.trans rfl rfl
@[simp] theorem finB_nx (es : List D) (ρ : Slots) : finB (.ok (.nx, Cell.own true es :: ρ)) = .ok (.none, es) := Eq.trans rfl rfl
@[simp] theorem i64_mod (x n : Int) (h1 : 0 < n) (h2 : n < 2 ^ 64) : i64 (x % n) = true :=
  i64_of (by have := Int.emod_nonneg x (Int.ne_of_gt h1); omega) (by have := Int.emod_lt_of_pos x h1; omega)
@[simp] theorem compLoop_nil (turn : D → Slots → R (Option D × Slots)) (ρ : Slots) : compLoop turn [] ρ = .ok ([], ρ) := Eq.trans rfl rfl
/-- a comprehension that leaves the slots as they are -/
theorem compLoop_opt (turn : D → Slots → R (Option D × Slots)) (f : D → Option D) (ρ : Slots) : ∀ ds : List D, (∀ d ∈ ds, turn d ρ = .ok (f d, ρ)) → compLoop turn ds ρ = .ok (ds.filterMap f, ρ)
  | [], _ => rfl
  | d :: r, h => by
    show (turn d ρ >>= fun p => compLoop turn r p.2 >>= fun q => R.ok ((match p.1 with | some x => x :: q.1 | none => q.1), q.2)) = _
    rw [h d List.mem_cons_self, bind_ok, compLoop_opt turn f ρ r fun x hx => h x (List.mem_cons_of_mem _ hx), bind_ok, List.filterMap_cons]
    cases f d <;> rfl
theorem compLoop_map (turn : D → Slots → R (Option D × Slots)) (f : D → D) (ρ : Slots) (ds : List D) (h : ∀ d ∈ ds, turn d ρ = .ok (some (f d), ρ)) : compLoop turn ds ρ = .ok (ds.map f, ρ) := by
  rw [compLoop_opt turn (fun d => some (f d)) ρ ds h]
  congr 2
  exact congrFun List.filterMap_eq_map ds
theorem compLoop_filter (turn : D → Slots → R (Option D × Slots)) (f : D → D) (p : D → Bool) (ρ : Slots) (ds : List D) (h : ∀ d ∈ ds, turn d ρ = .ok (if p d = true then some (f d) else none, ρ)) : compLoop turn ds ρ = .ok ((ds.filter p).map f, ρ) := by
  rw [compLoop_opt turn (fun d => if p d = true then some (f d) else none) ρ ds h]
  congr 2
  induction ds with
  | nil => rfl
  | cons d r ih =>
    rw [List.filterMap_cons, List.filter_cons]
    have ih := ih fun x hx => h x (List.mem_cons_of_mem _ hx)
    by_cases hp : p d = true
    · rw [if_pos hp, if_pos hp, List.map_cons, ← ih]
    · rw [if_neg hp, if_neg hp, ← ih]
/-- over numbers -/
theorem compLoop_ints {α : Type} (g : α → D) (turn : D → Slots → R (Option D × Slots)) (f : α → D) (ρ : Slots) (ns : List α) (h : ∀ n ∈ ns, turn (g n) ρ = .ok (some (f n), ρ)) : compLoop turn (ns.map g) ρ = .ok (ns.map f, ρ) := by
  induction ns with
  | nil => rfl
  | cons n r ih =>
    show (turn (g n) ρ >>= fun p => compLoop turn (r.map g) p.2 >>= fun q => R.ok ((match p.1 with | some x => x :: q.1 | none => q.1), q.2)) = _
    rw [h n List.mem_cons_self, bind_ok, ih fun x hx => h x (List.mem_cons_of_mem _ hx)]
    rfl
theorem compLoop_pick {α : Type} (g : α → D) (turn : D → Slots → R (Option D × Slots)) (p : α → Bool) (f : α → D) (ρ : Slots) (ns : List α) (h : ∀ n ∈ ns, turn (g n) ρ = .ok (if p n = true then some (f n) else none, ρ)) : compLoop turn (ns.map g) ρ = .ok ((ns.filter p).map f, ρ) := by
  induction ns with
  | nil => rfl
  | cons n r ih =>
    show (turn (g n) ρ >>= fun q => compLoop turn (r.map g) q.2 >>= fun t => R.ok ((match q.1 with | some x => x :: t.1 | none => t.1), t.2)) = _
    rw [h n List.mem_cons_self, bind_ok, ih fun x hx => h x (List.mem_cons_of_mem _ hx), List.filter_cons]
    by_cases hp : p n = true
    · rw [if_pos hp, if_pos hp]; rfl
    · rw [if_neg hp, if_neg hp]; rfl
/-- the outer loop of two clauses, where each turn gives what it gives -/
theorem compLoop2_map {α : Type} (g : α → D) (turn : D → Slots → R (List D × Slots)) (f : α → List D) (ρ : Slots) : ∀ ns : List α, (∀ n ∈ ns, turn (g n) ρ = .ok (f n, ρ)) → compLoop2 turn (ns.map g) ρ = .ok (ns.flatMap f, ρ)
  | [], _ => rfl
  | n :: r, h => by
    show (turn (g n) ρ >>= fun p => compLoop2 turn (r.map g) p.2 >>= fun q => R.ok (p.1 ++ q.1, q.2)) = _
    rw [h n List.mem_cons_self, bind_ok, compLoop2_map g turn f ρ r fun x hx => h x (List.mem_cons_of_mem _ hx)]
    rfl
/-- a comprehension whose turns may change the slots: J holds throughout, Q of each item -/
theorem compLoop_inv (turn : D → Slots → R (Option D × Slots)) (J : Slots → Prop) (Q : D → Prop) : ∀ (ds : List D) (ρ : Slots), J ρ → (∀ d ∈ ds, ∀ ρ, J ρ → ∃ x ρ', turn d ρ = .ok (some x, ρ') ∧ J ρ' ∧ Q x) → ∃ xs ρ', compLoop turn ds ρ = .ok (xs, ρ') ∧ J ρ' ∧ (∀ x ∈ xs, Q x) ∧ xs.length = ds.length
  | [], ρ, hJ, _ => ⟨[], ρ, rfl, hJ, (fun _ z => by cases z), rfl⟩
  | d :: r, ρ, hJ, h => by
    obtain ⟨x, ρ1, e1, J1, q1⟩ := h d List.mem_cons_self ρ hJ
    obtain ⟨xs, ρ2, e2, J2, q2, l2⟩ := compLoop_inv turn J Q r ρ1 J1 fun y hy => h y (List.mem_cons_of_mem _ hy)
    refine ⟨x :: xs, ρ2, ?_, J2, fun y hy => ?_, by rw [List.length_cons, List.length_cons, l2]⟩
    · show (turn d ρ >>= fun p => compLoop turn r p.2 >>= fun q => R.ok ((match p.1 with | some x => x :: q.1 | none => q.1), q.2)) = _
      rw [e1, bind_ok, e2]
      rfl
    · rcases List.mem_cons.mp hy with rfl | hy
      · exact q1
      · exact q2 y hy
@[simp] theorem forLoop_nil (turn : D → Slots → R (Fl × Slots)) (ρ : Slots) : forLoop turn [] ρ = .ok (.nx, ρ) := Eq.trans rfl rfl
def forC (k : Slots → R (Fl × Slots)) : Fl × Slots → R (Fl × Slots)
  | (.nx, ρ) => k ρ
  | (.ct, ρ) => k ρ
  | (.bk, ρ) => .ok (.nx, ρ)
  | p => .ok p
@[simp] theorem forC_nx (k : Slots → R (Fl × Slots)) (ρ : Slots) : forC k (.nx, ρ) = k ρ := Eq.trans rfl rfl
@[simp] theorem forC_ct (k : Slots → R (Fl × Slots)) (ρ : Slots) : forC k (.ct, ρ) = k ρ := Eq.trans rfl rfl
@[simp] theorem forC_bk (k : Slots → R (Fl × Slots)) (ρ : Slots) : forC k (.bk, ρ) = .ok (.nx, ρ) := Eq.trans rfl rfl
@[simp] theorem forC_rt (k : Slots → R (Fl × Slots)) (d : D) (ρ : Slots) : forC k (.rt d, ρ) = .ok (.rt d, ρ) := Eq.trans rfl rfl
@[simp] theorem forC_rn (k : Slots → R (Fl × Slots)) (d : List D) (ρ : Slots) : forC k (.rn d, ρ) = .ok (.rn d, ρ) := Eq.trans rfl rfl
theorem forLoop_cons (turn : D → Slots → R (Fl × Slots)) (d : D) (r : List D) (ρ : Slots) : forLoop turn (d :: r) ρ = turn d ρ >>= forC (forLoop turn r) := by
  show (turn d ρ >>= fun p => match p.1 with
    | .nx => forLoop turn r p.2
    | .ct => forLoop turn r p.2
    | .bk => .ok (.nx, p.2)
    | f => .ok (f, p.2)) = _
  congr 1
  funext p
  obtain ⟨f, ρ'⟩ := p
  cases f <;> rfl
/-- a for loop that runs through: J i holds behind i turns -/
theorem forLoop_inv (turn : D → Slots → R (Fl × Slots)) (J : Nat → Slots → Prop) : ∀ (ds : List D) (i : Nat) (ρ : Slots), J i ρ → (∀ (j : Nat) d, ds[j]? = some d → ∀ ρ, J (i + j) ρ → ∃ ρ', (turn d ρ = .ok (.nx, ρ') ∨ turn d ρ = .ok (.ct, ρ')) ∧ J (i + j + 1) ρ') → ∃ ρ', forLoop turn ds ρ = .ok (.nx, ρ') ∧ J (i + ds.length) ρ'
  | [], i, ρ, hJ, _ => ⟨ρ, rfl, hJ⟩
  | d :: r, i, ρ, hJ, h => by
    obtain ⟨ρ1, e1, J1⟩ := h 0 d rfl ρ hJ
    obtain ⟨ρ2, e2, J2⟩ := forLoop_inv turn J r (i + 1) ρ1 J1 fun j x hx ρ q => by
      have := h (j + 1) x (by simpa using hx) ρ (by rw [show i + (j + 1) = i + 1 + j from by omega]; exact q)
      rw [show i + (j + 1) = i + 1 + j from by omega] at this
      exact this
    refine ⟨ρ2, ?_, by rw [List.length_cons, show i + (r.length + 1) = i + 1 + r.length from by omega]; exact J2⟩
    rw [forLoop_cons]
    rcases e1 with e1 | e1 <;> rw [e1] <;> exact e2
/-- a for loop that looks for the first item with p: it returns f of it -/
theorem forLoop_find {α : Type} (g : α → D) (turn : D → Slots → R (Fl × Slots)) (p : α → Bool) (f : α → D) : ∀ (ns : List α) (ρ : Slots) (J : Slots → Prop), J ρ → (∀ n ∈ ns, ∀ ρ, J ρ → if p n = true then ∃ ρ', turn (g n) ρ = .ok (.rt (f n), ρ') else ∃ ρ', turn (g n) ρ = .ok (.nx, ρ') ∧ J ρ') →
    match ns.find? p with
    | some n => ∃ ρ', forLoop turn (ns.map g) ρ = .ok (.rt (f n), ρ')
    | none => ∃ ρ', forLoop turn (ns.map g) ρ = .ok (.nx, ρ') ∧ J ρ'
  | [], ρ, J, hJ, _ => ⟨ρ, rfl, hJ⟩
  | n :: r, ρ, J, hJ, h => by
    have h0 := h n List.mem_cons_self ρ hJ
    rw [List.find?_cons, List.map_cons]
    by_cases hp : p n = true
    · rw [if_pos hp] at h0
      obtain ⟨ρ', e⟩ := h0
      rw [hp]
      exact ⟨ρ', by rw [forLoop_cons, e]; rfl⟩
    · rw [if_neg hp] at h0
      obtain ⟨ρ', e, J'⟩ := h0
      have hp' : p n = false := by simpa using hp
      rw [hp']
      have ih := forLoop_find g turn p f r ρ' J J' fun m hm => h m (List.mem_cons_of_mem _ hm)
      dsimp only at ih ⊢
      have e2 : forLoop turn (g n :: r.map g) ρ = forLoop turn (r.map g) ρ' := by rw [forLoop_cons, e]; rfl
      rw [e2]
      exact ih
@[simp] theorem isB_bb (a b : Bool) : cmpD .isB (.bool a) (.bool b) = .ok (a == b) := Eq.trans rfl rfl
@[simp] theorem notB_bb (a b : Bool) : cmpD .notB (.bool a) (.bool b) = .ok (!(a == b)) := Eq.trans rfl rfl
@[simp] theorem repr_d (d : D) : biD .repr d = gd (repOk d) (.ok (.str d.shown)) := Eq.trans rfl rfl
@[simp] theorem extC_own (i : Nat) (ρ : Slots) (es : List D) (b : Bool) (ds : List D) : extC i ρ (.list es) (some (.own b ds)) = if sz (ds.length + es.length) = true then .ok (.nx, ρ.set i (.own b (ds ++ es))) else .bad := Eq.trans rfl rfl
@[simp] theorem ex_ext (G : Gm) (i : Nat) (e : E) (ρ : Slots) : ex G (.ext i e) ρ = if isOwn ρ[i]? = true then ev G e ρ >>= fun p => peek p.2 p.1 >>= fun x => extC i p.2 x p.2[i]? else .bad := Eq.trans rfl rfl
/-! ### what came later -/
@[simp] theorem noW_fns (G : Gm) : G.noW.fns = G.fns := Eq.trans rfl rfl
@[simp] theorem noW_cst (G : Gm) : G.noW.cst = G.cst := Eq.trans rfl rfl
@[simp] theorem wordC_some (w : Wd) (r : R D) (ρ : Slots) : wordC (some w) r ρ = nx (w.sem r) >>= fun d => .ok (.val d, ρ) := Eq.trans rfl rfl
@[simp] theorem ev_word (G : Gm) (j : Nat) (e : E) (ρ : Slots) : ev G (.word j e) ρ = wordC G.wds[j]? (ev G.noW e (hide ρ) >>= fun p => keep p.1) ρ := Eq.trans rfl rfl
@[simp] theorem hide_nil : hide [] = [] := Eq.trans rfl rfl
@[simp] theorem hide_dat (d : D) (ρ : Slots) : hide (.dat d :: ρ) = .dat d :: hide ρ := Eq.trans rfl rfl
@[simp] theorem hide_un (ρ : Slots) : hide (.un :: ρ) = .un :: hide ρ := Eq.trans rfl rfl
@[simp] theorem hide_own (b : Bool) (ds : List D) (ρ : Slots) : hide (.own b ds :: ρ) = .un :: hide ρ := Eq.trans rfl rfl
@[simp] theorem ev_b2 (G : Gm) (mx : Bool) (a b : E) (ρ : Slots) : ev G (.b2 mx a b) ρ = ev G a ρ >>= fun p => ev G b p.2 >>= fun q => peek q.2 p.1 >>= fun x => peek q.2 q.1 >>= fun y => asI x >>= fun i => asI y >>= fun j => .ok (.val (.int (if (if mx = true then decide (i < j) else decide (j < i)) = true then j else i)), q.2) := Eq.trans rfl rfl
@[simp] theorem ev_mth (G : Gm) (m : Mo) (a b : E) (ρ : Slots) : ev G (.mth m a b) ρ = ev G a ρ >>= fun p => peek p.2 p.1 >>= fun x0 => isL x0 >>= fun _ => ev G b p.2 >>= fun q => peek q.2 p.1 >>= fun x => peek q.2 q.1 >>= fun y => mtD m x y >>= fun d => .ok (.val d, q.2) := Eq.trans rfl rfl
@[simp] theorem isL_list (ds : List D) : isL (.list ds) = .ok () := Eq.trans rfl rfl
@[simp] theorem ev_lrg (G : Gm) (it : I) (ρ : Slots) : ev G (.lrg it) ρ = evI G it ρ >>= fun p => .ok (.val (.list p.1), p.2) := Eq.trans rfl rfl
@[simp] theorem evI_zip (G : Gm) (a b : E) (ρ : Slots) : evI G (.zip a b) ρ = ev G a ρ >>= fun p => keep p.1 >>= fun x => ev G b p.2 >>= fun q => keep q.1 >>= fun y => zipD x y >>= fun ds => .ok (ds, q.2) := Eq.trans rfl rfl
@[simp] theorem zip_ll (xs ys : List D) : zipD (.list xs) (.list ys) = .ok (List.zipWith (fun a b => PyData.tuple [a, b]) xs ys) := Eq.trans rfl rfl
@[simp] theorem zip_tt (xs ys : List D) : zipD (.tuple xs) (.tuple ys) = .ok (List.zipWith (fun a b => PyData.tuple [a, b]) xs ys) := Eq.trans rfl rfl
@[simp] theorem evI_enm (G : Gm) (a : E) (ρ : Slots) : evI G (.enm a) ρ = ev G a ρ >>= fun p => keep p.1 >>= fun x => enmC x >>= fun ds => .ok (ds, p.2) := Eq.trans rfl rfl
@[simp] theorem enmC_l (xs : List D) : enmC (.list xs) = .ok (enmD xs) := Eq.trans rfl rfl
@[simp] theorem nwK_val (k : List D → Slots → R (Fl × Slots)) (ds : List D) (ρ : Slots) : nwK k (.val (.list ds), ρ) = k ds ρ := Eq.trans rfl rfl
def rseC : Option Str → R (Fl × Slots)
  | some c => .exc c []
  | none => .bad
@[simp] theorem rseC_some (c : Str) : rseC (some c) = .exc c [] := Eq.trans rfl rfl
@[simp] theorem ex_rse (G : Gm) (j : Nat) (ρ : Slots) : ex G (.rse j) ρ = rseC G.exn[j]? := by
  show (match G.exn[j]? with | some c => R.exc c [] | none => .bad) = _
  cases G.exn[j]? <;> rfl
@[simp] theorem ex_parN (G : Gm) (i j : Nat) (a b : E) (ρ : Slots) : ex G (.parN i j a b) ρ = ev G a ρ >>= fun p => keep p.1 >>= fun d => ev G b p.2 >>= nwK fun ds ρ' => if (free ρ' i && free ρ' j && decide (i ≠ j)) = true then .ok (.nx, (ρ'.set i (.dat d)).set j (.own false ds)) else .bad := Eq.trans rfl rfl
@[simp] theorem ex_par3 (G : Gm) (i j l : Nat) (a b c : E) (ρ : Slots) : ex G (.par3 i j l a b c) ρ = ev G a ρ >>= fun p => keep p.1 >>= fun d => ev G b p.2 >>= fun q => keep q.1 >>= fun d2 => ev G c q.2 >>= fun r => keep r.1 >>= fun d3 => if (free r.2 i && free r.2 j && free r.2 l) = true then .ok (.nx, ((r.2.set i (.dat d)).set j (.dat d2)).set l (.dat d3)) else .bad := Eq.trans rfl rfl
@[simp] theorem ex_par3N (G : Gm) (i j l : Nat) (a b c : E) (ρ : Slots) : ex G (.par3N i j l a b c) ρ = ev G a ρ >>= fun p => keep p.1 >>= fun d => ev G b p.2 >>= fun q => keep q.1 >>= fun d2 => ev G c q.2 >>= nwK fun ds ρ' => if (free ρ' i && free ρ' j && free ρ' l) = true then .ok (.nx, ((ρ'.set i (.dat d)).set j (.dat d2)).set l (.own false ds)) else .bad := Eq.trans rfl rfl
@[simp] theorem finP_exc (c : Str) (fs : List (Str × D)) : finP (.exc c fs) = .exc c fs := Eq.trans rfl rfl
@[simp] theorem finN_exc (c : Str) (fs : List (Str × D)) : finN (.exc c fs) = .exc c fs := Eq.trans rfl rfl
end DP

/-! DP, part 18: about data. -/
namespace DP
open PySem PySem.Spec PyProof.Rows L2
def Okd (k : Nat) (d : D) : Prop := d.canLay0 = true ∧ d.depth ≤ k
def OkA (k : Nat) (ds : List D) : Prop := PyData.canLayAll0 ds = true ∧ PyData.depthAll ds ≤ k
theorem OkA.nil {k : Nat} : OkA k [] := ⟨rfl, Nat.zero_le _⟩
theorem OkA.cons {k : Nat} {d : D} {ds : List D} (h : Okd k d) (r : OkA k ds) : OkA k (d :: ds) := by
  refine ⟨?_, ?_⟩
  · rw [PyData.canLayAll0, h.1, r.1]; rfl
  · rw [PyData.depthAll]; exact Nat.max_le.mpr ⟨h.2, r.2⟩
theorem OkA.of {k : Nat} : ∀ {ds : List D}, (∀ d ∈ ds, Okd k d) → OkA k ds
  | [], _ => .nil
  | d :: ds, h => .cons (h d List.mem_cons_self) (OkA.of fun x hx => h x (List.mem_cons_of_mem _ hx))
theorem Okd.int {k : Nat} (i : Int) : Okd k (.int i) := ⟨rfl, Nat.zero_le _⟩
theorem Okd.bool {k : Nat} (i : Bool) : Okd k (.bool i) := ⟨rfl, Nat.zero_le _⟩
theorem Okd.none {k : Nat} : Okd k .none := ⟨rfl, Nat.zero_le _⟩
theorem Okd.tup {k : Nat} {ds : List D} (h : OkA k ds) : Okd (k + 1) (.tuple ds) := by
  refine ⟨?_, ?_⟩
  · rw [PyData.canLay0]; exact h.1
  · rw [PyData.depth]; exact Nat.succ_le_succ h.2
theorem Okd.lst {k : Nat} {ds : List D} (h : OkA k ds) : Okd (k + 1) (.list ds) := by
  refine ⟨?_, ?_⟩
  · rw [PyData.canLay0]; exact h.1
  · rw [PyData.depth]; exact Nat.succ_le_succ h.2
theorem Okd.mono {j k : Nat} {d : D} (h : Okd j d) (l : j ≤ k) : Okd k d := ⟨h.1, Nat.le_trans h.2 l⟩
theorem OkA.ints {k : Nat} (ns : List Int) : OkA k (ns.map PyData.int) := .of fun d hd => by
  obtain ⟨n, _, rfl⟩ := List.mem_map.mp hd
  exact .int n
theorem shp_of {k : Nat} {d : D} (h : Okd k d) (l : k ≤ 64) : shp d = true := by
  unfold shp SeqAt.shaped
  rw [h.1, decide_eq_true (Nat.le_trans h.2 l)]; rfl
@[simp] theorem shp_int (i : Int) : shp (.int i) = true := shp_of (k := 0) (.int i) (by decide)
@[simp] theorem shp_bool (i : Bool) : shp (.bool i) = true := shp_of (k := 0) (.bool i) (by decide)
@[simp] theorem shp_none : shp .none = true := Eq.trans rfl rfl
def lotD (l : List Int) : D := .tuple (l.map PyData.int)
theorem ok_lot (l : List Int) : Okd 1 (lotD l) := .tup (.ints l)
theorem ok_lots (ls : List (List Int)) : Okd 2 (.list (ls.map lotD)) := .lst (.of fun d hd => by
  obtain ⟨l, _, rfl⟩ := List.mem_map.mp hd
  exact ok_lot l)
@[simp] theorem shp_lot (l : List Int) : shp (lotD l) = true := shp_of (ok_lot l) (by decide)
@[simp] theorem shp_lots (l : List (List Int)) : shp (.list (l.map lotD)) = true := shp_of (ok_lots l) (by decide)
mutual
theorem eqv_same : ∀ d : D, d.canLay0 = true → PyData.eqv d d = true
  | .none, _ => by rw [PyData.eqv]
  | .bool b, _ => by rw [PyData.eqv]; simp
  | .int b, _ => by rw [PyData.eqv]; simp
  | .str b, _ => by rw [PyData.eqv]; simp
  | .list xs, h => by rw [PyData.eqv]; exact eqvA_same xs (by rw [PyData.canLay0] at h; exact h)
  | .tuple xs, h => by rw [PyData.eqv]; exact eqvA_same xs (by rw [PyData.canLay0] at h; exact h)
  | .dict xs, h => by rw [PyData.canLay0] at h; cases h
theorem eqvA_same : ∀ ds : List D, PyData.canLayAll0 ds = true → PyData.eqvAll ds ds = true
  | [], _ => by rw [PyData.eqvAll]
  | d :: ds, h => by
    rw [PyData.canLayAll0, Bool.and_eq_true] at h
    rw [PyData.eqvAll, eqv_same d h.1, eqvA_same ds h.2]; rfl
end
theorem eqOk_of {d e : D} (h : shp d = true) (h2 : shp e = true) : eqOk d e = true := by
  unfold eqOk
  rw [h, h2]; rfl
theorem inOk_of {d : D} {ds : List D} (h : shp d = true) (h2 : shp (.list ds) = true) : inOk d ds = true := by
  unfold inOk
  rw [h, h2]; rfl
theorem inOk_flat {d : D} {ds : List D} (h : flat d = true) (h2 : ds.all flat = true) : inOk d ds = true := by
  unfold inOk
  rw [h, h2]; simp
theorem eq_shp {d e : D} (h : shp d = true) (h2 : shp e = true) : cmpD .eq d e = .ok (PyData.eqv d e) := by
  show (if eqOk d e = true then R.ok (PyData.eqv d e) else .bad) = _
  rw [eqOk_of h h2]; rfl
theorem ne_shp {d e : D} (h : shp d = true) (h2 : shp e = true) : cmpD .ne d e = .ok (!PyData.eqv d e) := by
  show (if eqOk d e = true then R.ok (!PyData.eqv d e) else .bad) = _
  rw [eqOk_of h h2]; rfl
@[simp] theorem eq_ss (x y : Str) : cmpD .eq (.str x) (.str y) = .ok (decide (x = y)) := by
  show (if eqOk (.str x) (.str y) = true then R.ok (PyData.eqv (.str x) (.str y)) else .bad) = _
  have : eqOk (.str x) (.str y) = true := by unfold eqOk; simp [bothS]
  rw [this, eqv_strs]; rfl
@[simp] theorem ne_ss (x y : Str) : cmpD .ne (.str x) (.str y) = .ok (!decide (x = y)) := by
  show (if eqOk (.str x) (.str y) = true then R.ok (!PyData.eqv (.str x) (.str y)) else .bad) = _
  have : eqOk (.str x) (.str y) = true := by unfold eqOk; simp [bothS]
  rw [this, eqv_strs]; rfl
/-- alike: not unlike -/
theorem ne_same {k : Nat} {d : D} (h : Okd k d) (l : k ≤ 64) : cmpD .ne d d = .ok false := by
  rw [ne_shp (shp_of h l) (shp_of h l), eqv_same d h.1]; rfl
theorem eq_same {k : Nat} {d : D} (h : Okd k d) (l : k ≤ 64) : cmpD .eq d d = .ok true := by
  rw [eq_shp (shp_of h l) (shp_of h l), eqv_same d h.1]
@[simp] theorem ne_bb (a b : Bool) : cmpD .ne (.bool a) (.bool b) = .ok (!(a == b)) := by
  rw [ne_shp (shp_bool _) (shp_bool _)]
  rfl
@[simp] theorem eq_bb (a b : Bool) : cmpD .eq (.bool a) (.bool b) = .ok (a == b) := by
  rw [eq_shp (shp_bool _) (shp_bool _)]
  rfl
theorem in_flat {d : D} {ds : List D} (h : flat d = true) (h2 : ds.all flat = true) : cmpD .inn d (.list ds) = .ok (ds.any fun z => PyData.eqv z d) := by
  show (if inOk d ds = true then R.ok (ds.any fun z => PyData.eqv z d) else .bad) = _
  rw [inOk_flat h h2]; rfl
theorem nin_flat {d : D} {ds : List D} (h : flat d = true) (h2 : ds.all flat = true) : cmpD .nin d (.list ds) = .ok (!ds.any fun z => PyData.eqv z d) := by
  show ((if inOk d ds = true then R.ok (ds.any fun z => PyData.eqv z d) else .bad) >>= fun b => R.ok (!b)) = _
  rw [inOk_flat h h2]; rfl
theorem in_flatT {d : D} {ds : List D} (h : flat d = true) (h2 : ds.all flat = true) : cmpD .inn d (.tuple ds) = .ok (ds.any fun z => PyData.eqv z d) := by
  show (if (flat d && ds.all flat) = true then R.ok (ds.any fun z => PyData.eqv z d) else .bad) = _
  rw [h, h2]; rfl
theorem nin_flatT {d : D} {ds : List D} (h : flat d = true) (h2 : ds.all flat = true) : cmpD .nin d (.tuple ds) = .ok (!ds.any fun z => PyData.eqv z d) := by
  show ((if (flat d && ds.all flat) = true then R.ok (ds.any fun z => PyData.eqv z d) else .bad) >>= fun b => R.ok (!b)) = _
  rw [h, h2]; rfl
@[simp] theorem ints_map (ns : List Int) : ints? (ns.map PyData.int) = .ok ns := by
  induction ns with
  | nil => rfl
  | cons n r ih =>
    show (ints? (r.map PyData.int) >>= fun ns => R.ok (n :: ns)) = _
    rw [ih]; rfl
@[simp] theorem bools_map {α : Type} (f : α → Bool) (xs : List α) : bools? (xs.map fun x => PyData.bool (f x)) = .ok (xs.map f) := by
  induction xs with
  | nil => rfl
  | cons n r ih =>
    show (bools? (r.map fun x => PyData.bool (f x)) >>= fun ns => R.ok (f n :: ns)) = _
    rw [ih]; rfl
@[simp] theorem sum_l (ns : List Int) : biD .sum (.list (ns.map PyData.int)) = .ok (.int ns.sum) := by
  show (ints? (ns.map PyData.int) >>= fun ns => R.ok (PyData.int ns.sum)) = _
  rw [ints_map]; rfl
@[simp] theorem sum_t (ns : List Int) : biD .sum (.tuple (ns.map PyData.int)) = .ok (.int ns.sum) := by
  show (ints? (ns.map PyData.int) >>= fun ns => R.ok (PyData.int ns.sum)) = _
  rw [ints_map]; rfl
@[simp] theorem all_l {α : Type} (f : α → Bool) (xs : List α) : biD .all (.list (xs.map fun x => PyData.bool (f x))) = .ok (.bool (xs.all f)) := by
  show (bools? (xs.map fun x => PyData.bool (f x)) >>= fun bs => R.ok (PyData.bool (bs.all id))) = _
  rw [bools_map, bind_ok, List.all_map]
  rfl
@[simp] theorem any_l {α : Type} (f : α → Bool) (xs : List α) : biD .any (.list (xs.map fun x => PyData.bool (f x))) = .ok (.bool (xs.any f)) := by
  show (bools? (xs.map fun x => PyData.bool (f x)) >>= fun bs => R.ok (PyData.bool (bs.any id))) = _
  rw [bools_map, bind_ok, List.any_map]
  rfl
theorem key_kD (p : Int × List Int) : key? (kD' p) = .ok p := by
  show (ints? (p.2.map PyData.int) >>= fun ns => R.ok (p.1, ns)) = _
  rw [ints_map]; rfl
theorem keys_map (ps : List (Int × List Int)) : keys? (ps.map kD') = .ok ps := by
  induction ps with
  | nil => rfl
  | cons n r ih =>
    show (key? (kD' n) >>= fun k => keys? (r.map kD') >>= fun ks => R.ok (k :: ks)) = _
    rw [key_kD, bind_ok, ih]; rfl
theorem sort_keys (ps : List (Int × List Int)) : biD .sorted (.list (ps.map kD')) = .ok (.list ((isort kLt ps).map kD')) := by
  cases ps with
  | nil => rfl
  | cons p r =>
    show (keys? ((p :: r).map kD') >>= fun ks => R.ok (PyData.list ((isort kLt ks).map kD'))) = _
    rw [keys_map]; rfl
theorem ins_mem {α : Type} (lt : α → α → Bool) (x : α) : ∀ (l : List α) (y : α), y ∈ ins lt x l ↔ y = x ∨ y ∈ l
  | [], y => by simp [ins]
  | z :: r, y => by
    unfold ins
    split
    · simp
    · rw [List.mem_cons, ins_mem lt x r y, List.mem_cons]
      constructor
      · rintro (h | h | h)
        · exact .inr (.inl h)
        · exact .inl h
        · exact .inr (.inr h)
      · rintro (h | h | h)
        · exact .inr (.inl h)
        · exact .inl h
        · exact .inr (.inr h)
theorem isort_mem {α : Type} (lt : α → α → Bool) : ∀ (l : List α) (y : α), y ∈ isort lt l ↔ y ∈ l
  | [], y => by simp [isort]
  | z :: r, y => by
    show y ∈ ins lt z (isort lt r) ↔ _
    rw [ins_mem, isort_mem lt r y, List.mem_cons]
theorem atI_int {ns : List Int} {i : Int} (h0 : 0 ≤ i) (h1 : i < ns.length) : atI (ns.map PyData.int) i = some (.int (ns.getD i.toNat 0)) := by
  have e := atI_n (ns.map PyData.int) i.toNat
  rw [Int.toNat_of_nonneg h0, List.getElem?_map, List.getElem?_eq_getElem (by omega)] at e
  rw [e, List.getD_eq_getElem?_getD, List.getElem?_eq_getElem (by omega)]
  rfl
theorem rngD_0 (n : Nat) : rngD 0 (n : Int) = (List.range n).map fun (i : Nat) => PyData.int (i : Int) := by
  unfold rngD
  rw [show ((n : Int) - 0).toNat = n from by omega]
  congr 1
  funext i
  rw [Int.zero_add]
theorem rngOk_0 (n : Nat) (h : n < 2 ^ 62) : rngOk 0 (n : Int) = true := by
  unfold rngOk
  have h1 : (n : Int) < 2 ^ 62 := by omega
  have h2 : -(2 ^ 62) ≤ (n : Int) := by omega
  rw [decide_eq_true h1, decide_eq_true h2]
  rfl
theorem sizeLine_is : sizeLine = 16777216 := by decide +kernel
@[simp] theorem sz_eq (n : Nat) : sz n = decide (n ≤ 16777216) := by
  unfold sz
  rw [sizeLine_is]
@[simp] theorem add_tt (xs ys : List D) : op2 .add (.tuple xs) (.tuple ys) = gd (sz (xs.length + ys.length)) (.ok (.tuple (xs ++ ys))) := Eq.trans rfl rfl
@[simp] theorem add_ll (xs ys : List D) : op2 .add (.list xs) (.list ys) = gd (sz (xs.length + ys.length)) (.ok (.list (xs ++ ys))) := Eq.trans rfl rfl
@[simp] theorem mul_ti (xs : List D) (k : Int) : op2 .mul (.tuple xs) (.int k) = gd (!xs.isEmpty && decide (2 ≤ k) && decide (k ≤ 1000) && decide (xs.length ≤ 1000)) (.ok (.tuple (List.replicate k.toNat xs).flatten)) := Eq.trans rfl rfl
theorem for_bind {β : Type} {turn : D → Slots → R (Fl × Slots)} {ds : List D} {ρ : Slots} {k : Fl × Slots → R β} {P : R β → Prop} (J : Nat → Slots → Prop) (h0 : J 0 ρ)
    (hs : ∀ (j : Nat) d, ds[j]? = some d → ∀ ρ, J j ρ → ∃ ρ', (turn d ρ = .ok (.nx, ρ') ∨ turn d ρ = .ok (.ct, ρ')) ∧ J (j + 1) ρ') (hk : ∀ ρ', J ds.length ρ' → P (k (.nx, ρ'))) : P (forLoop turn ds ρ >>= k) := by
  obtain ⟨ρ', e, j⟩ := forLoop_inv turn J ds 0 ρ h0 fun j d hd ρ hJ => by
    rw [Nat.zero_add] at hJ ⊢
    exact hs j d hd ρ hJ
  rw [Nat.zero_add] at j
  rw [e]
  exact hk ρ' j
/-- the same, the turn's run told apart: simp at it -/
theorem for_bindR {β : Type} {turn : D → Slots → R (Fl × Slots)} {ds : List D} {ρ : Slots} {k : Fl × Slots → R β} {P : R β → Prop} (J : Nat → Slots → Prop) (h0 : J 0 ρ)
    (hs : ∀ (j : Nat) d, ds[j]? = some d → ∀ ρ, J j ρ → ∀ r, turn d ρ = r → ∃ ρ', (r = .ok (.nx, ρ') ∨ r = .ok (.ct, ρ')) ∧ J (j + 1) ρ') (hk : ∀ ρ', J ds.length ρ' → P (k (.nx, ρ'))) : P (forLoop turn ds ρ >>= k) :=
  for_bind J h0 (fun j d hd ρ hJ => hs j d hd ρ hJ _ rfl) hk
theorem rng_at {n : Nat} {j : Nat} {d : D} (h : ((List.range n).map fun (i : Nat) => PyData.int (i : Int))[j]? = some d) : j < n ∧ d = .int (j : Int) := by
  have hl := (List.getElem?_eq_some_iff.mp h).1
  rw [List.length_map, List.length_range] at hl
  rw [List.getElem?_map, List.getElem?_eq_getElem (by rw [List.length_range]; exact hl), List.getElem_range] at h
  exact ⟨hl, (Option.some.inj h).symm⟩
theorem rngC_ok (i j : Int) (ρ : Slots) (h1 : -1000000 ≤ i) (h2 : i ≤ 1000000) (h3 : -1000000 ≤ j) (h4 : j ≤ 1000000) : rngC i j ρ = .ok (rngD i j, ρ) := by
  unfold rngC rngOk
  have e1 : -(2 ^ 62) ≤ i := by omega
  have e2 : i < 2 ^ 62 := by omega
  have e3 : -(2 ^ 62) ≤ j := by omega
  have e4 : j < 2 ^ 62 := by omega
  have e5 : (j - i).toNat ≤ 16777216 := by omega
  rw [decide_eq_true e1, decide_eq_true e2, decide_eq_true e3, decide_eq_true e4, sz_eq, decide_eq_true e5]
  rfl
theorem rngC_nat (n : Nat) (ρ : Slots) (h : n ≤ 1000000) : rngC 0 (n : Int) ρ = .ok ((List.range n).map (fun (i : Nat) => PyData.int (i : Int)), ρ) := by
  rw [rngC_ok 0 n ρ (by decide) (by decide) (by omega) (by omega), rngD_0]
theorem find_bind {α β : Type} {turn : D → Slots → R (Fl × Slots)} {ns : List α} {ρ : Slots} {k : Fl × Slots → R β} {P : R β → Prop} (g : α → D) (p : α → Bool) (f : α → D) {n : α} (hf : ns.find? p = some n) (J : Slots → Prop) (h0 : J ρ)
    (hs : ∀ n ∈ ns, ∀ ρ, J ρ → if p n = true then ∃ ρ', turn (g n) ρ = .ok (.rt (f n), ρ') else ∃ ρ', turn (g n) ρ = .ok (.nx, ρ') ∧ J ρ') (hk : ∀ ρ', P (k (.rt (f n), ρ'))) : P (forLoop turn (ns.map g) ρ >>= k) := by
  have e := forLoop_find g turn p f ns ρ J h0 hs
  rw [hf] at e
  obtain ⟨ρ', e⟩ := e
  rw [e]
  exact hk ρ'
def dicC (ρ : Slots) (y : D) : D → R (Opd × Slots)
  | .int i => .ok (.val (.dict [(.int i, y)]), ρ)
  | .str s => .ok (.val (.dict [(.str s, y)]), ρ)
  | _ => .bad
@[simp] theorem dicC_int (ρ : Slots) (y : D) (i : Int) : dicC ρ y (.int i) = .ok (.val (.dict [(.int i, y)]), ρ) := Eq.trans rfl rfl
@[simp] theorem dicC_str (ρ : Slots) (y : D) (i : Str) : dicC ρ y (.str i) = .ok (.val (.dict [(.str i, y)]), ρ) := Eq.trans rfl rfl
@[simp] theorem ev_dic1 (G : Gm) (k v : E) (ρ : Slots) : ev G (.dic1 k v) ρ = ev G k ρ >>= fun p => ev G v p.2 >>= fun q => peek q.2 p.1 >>= fun x => keep q.1 >>= fun y => dicC q.2 y x := by
  show (ev G k ρ >>= fun p => ev G v p.2 >>= fun q => peek q.2 p.1 >>= fun x => keep q.1 >>= fun y => (match x with
      | .int i => R.ok (Opd.val (.dict [(.int i, y)]), q.2)
      | .str s => .ok (.val (.dict [(.str s, y)]), q.2)
      | _ => .bad)) = _
  congr 1
/-- a comprehension of drawn numbers: M ρ h says that the hand h stands in the slots ρ -/
theorem comp_ints {Hd : List D → Prop} {turn : D → Slots → R (Option D × Slots)} (mk : List D → Slots) (Q : Int → Prop) : ∀ (ds : List D) (h : List D), Hd h →
    (∀ d ∈ ds, ∀ h, Hd h → ∃ (x : Int) (h' : List D), turn d (mk h) = .ok (some (.int x), mk h') ∧ Hd h' ∧ Q x) → ∃ (xs : List Int) (h' : List D), compLoop turn ds (mk h) = .ok (xs.map PyData.int, mk h') ∧ Hd h' ∧ xs.length = ds.length ∧ ∀ x ∈ xs, Q x
  | [], h, hh, _ => ⟨[], h, rfl, hh, rfl, fun x z => (by cases z)⟩
  | d :: r, h, hh, ht => by
    obtain ⟨x, h1, e1, hh1, q1⟩ := ht d List.mem_cons_self h hh
    obtain ⟨xs, h2, e2, hh2, l2, q2⟩ := comp_ints (turn := turn) mk Q r h1 hh1 fun y hy => ht y (List.mem_cons_of_mem _ hy)
    refine ⟨x :: xs, h2, ?_, hh2, by rw [List.length_cons, List.length_cons, l2], fun y hy => ?_⟩
    · show (turn d (mk h) >>= fun p => compLoop turn r p.2 >>= fun q => R.ok ((match p.1 with | some x => x :: q.1 | none => q.1), q.2)) = _
      rw [e1, bind_ok, e2]
      rfl
    · rcases List.mem_cons.mp hy with rfl | hy
      · exact q1
      · exact q2 y hy
end DP

/-! DP: the def that tells an error's word by its class. -/
namespace DP
open PySem PySem.Spec PyProof.Rows L2
/-- the word of what a call let out, by its class -/
def wordSem (cs ws : List Str) : R D → R D
  | .ok d => .ok d
  | .exc c _ => (match cs.findIdx? (fun z => decide (z = c)) with | some i => (match ws[i]? with | some w => .ok (.str w) | none => .bad) | none => .bad)
  | .bad => .bad
def isiOk (sc : Scope) (e : Str) : Expr → Str → Bool
  | .Call (.Name x _) [.Name y _, .Name z _] [] _, c => decide (x = ("isinstance" : Str)) && decide (y = e) && decide (z = c) && glOk sc z
  | _, _ => false
def flagsOk (sc : Scope) (e : Str) : List Expr → List Str → Bool
  | [], [] => true
  | a :: r, c :: cs => isiOk sc e a c && flagsOk sc e r cs
  | _, _ => false
def strsOk : List Expr → List Str → Bool
  | [], [] => true
  | .Constant (.str x) _ _ :: r, w :: ws => decide (x = w) && strsOk r ws
  | _, _ => false
def locOk (sc : Scope) (x : Str) : Bool := (match sc.names.lookup x with | some .local => true | _ => false) && !(x == ("__debug__" : Str)) && !(x == ("__classdict__" : Str))
/-- the def's body -/
def wordOk (sc : Scope) (N : List Str) (cs ws : List Str) : List Stmt → Bool
  | [.Assign [.Name f1 _] (.Constant (.str _) _ _) _,
     .Try [.Assign [.Name f2 _] (.Call (.Name a _) [] [] _) _]
       [.ExceptHandler (some (.Name b _)) (some e)
         [.Assign [.Name g1 _] (.List es _) _,
          .If (.BoolOp .And [.Compare (.Call (.Attribute (.Name g2 _) m1 ap1) [.Constant (.bool true) _ _] [] cp1) [.Eq] [.Constant (.int 1) _ _] _, .Call (.Name i1 _) [.Name e2 _, .Name v _] [] _] _)
            [.Assign [.Name f3 _] (.Subscript (.List ss _) (.Call (.Attribute (.Name g3 _) m2 ap2) [.Constant (.bool true) _ _] [] cp2) _) _] [] _] _] [] [] _,
     .Return (some (.Name f4 _)) _] =>
      decide (N = [a, f1, e, g1]) && decide (f2 = f1) && decide (f3 = f1) && decide (f4 = f1) && decide (g2 = g1) && decide (g3 = g1) && decide (e2 = e) && decide (m1 = ("count" : Str)) && decide (m2 = ("index" : Str)) && decide (i1 = ("isinstance" : Str)) && decide (v = ("ValueError" : Str)) && decide (b = ("BeastError" : Str)) &&
      (ap1.endLine == cp1.line) && (ap2.endLine == cp2.line) && glOk sc b && glOk sc i1 && glOk sc v && locOk sc a && locOk sc f1 && locOk sc e && locOk sc g1 && flagsOk sc e es cs && strsOk ss ws && decide (cs.length = ws.length) && decide (cs.length ≤ 100) && decide cs.Nodup
  | _ => false
/-- the classes of errors -/
structure Cat (K : Frag) (mg : Str → Option Value) (cs : List Str) : Prop where
  base : ∃ CB, mg "BeastError" = some (.ref CB) ∧ ∀ c ∈ cs, ∀ C, mg c = some (.ref C) → PySem.W.exmOne K (.ref C) (.ref CB) = some true
  cls : ∀ c ∈ cs, ∃ C, mg c = some (.ref C) ∧ ExcC K C ∧ PySem.W.kitOne K (.ref C) (.type "ValueError") = some true
  rel : ∀ c ∈ cs, ∀ c2 ∈ cs, ∀ C C2, mg c = some (.ref C) → mg c2 = some (.ref C2) → PySem.W.kitOne K (.ref C) (.ref C2) = some (decide (c2 = c))
  isi : mg "isinstance" = none
  val : mg "ValueError" = none
variable [Tb]
section
variable {X : Cx} {a Dx : Addr} {oe : Obj} {pn : List (Addr × Obj)}
theorem pa_flags {N : List Str} {sc : Scope} {e cn : Str} (hN : X.N[2]? = some e) (hsc : X.env.scope = sc) (hl : locOk sc e = true) (gi : glOk sc ("isinstance" : Str) = true) (mi : X.mg "isinstance" = none) (C : ExcC X.K Dx) (hz : Zc (.ref Dx) none oe) (hf : ∃ vs, oe.data = .fields vs) :
    ∀ (es : List Expr) (cs : List Str), flagsOk sc e es cs = true → (∀ c ∈ cs, ∃ C2, X.mg c = some (.ref C2) ∧ PySem.W.kitOne X.K (.ref Dx) (.ref C2) = some (decide (c = cn))) →
      PA (X.suite a ((a, oe) :: pn)) es (fun σ H Q => σ[2]? = some (some (.ref a)) ∧ Q (cs.map fun c => V.bl (decide (c = cn))) H) := by
  have vis : Vis X.env.scope e := by
    rw [hsc]
    unfold locOk at hl
    obtain ⟨h1, _⟩ := band (band hl).1
    split at h1
    · exact .inl (by assumption)
    · cases h1
  obtain ⟨hl1, hcd⟩ := band hl
  obtain ⟨_, hdb⟩ := band hl1
  have gl : ∀ {x : Str}, glOk sc x = true → Gl X x ∧ (x == ("__debug__" : Str)) = false ∧ x ≠ "__name__" := fun {x} h => by
    unfold glOk at h
    obtain ⟨h1, h2⟩ := band h
    obtain ⟨h1, h3⟩ := band h1
    refine ⟨?_, by simpa using h3, by simpa using h2⟩
    show X.env.scope.names.lookup x = _
    rw [hsc]
    split at h1
    · assumption
    · cases h1
  intro es
  induction es with
  | nil =>
    intro cs h _
    cases cs with
    | nil => exact pa_nil.imp fun σ H Q q => q.2
    | cons _ _ => cases h
  | cons x es ih =>
    intro cs h hc
    cases cs with
    | nil => cases h
    | cons c cs =>
      obtain ⟨h1, h2⟩ := band (show (isiOk sc e x c && flagsOk sc e es cs) = true from h)
      unfold isiOk at h1
      split at h1
      rotate_left
      · cases h1
      rename_i i1 p1 y p2 z p3 p4
      obtain ⟨h1, gz⟩ := band h1
      obtain ⟨h1, ez⟩ := band h1
      obtain ⟨ei, ey⟩ := band h1
      obtain rfl := of_decide_eq_true ei
      obtain rfl := of_decide_eq_true ey
      obtain rfl := of_decide_eq_true ez
      obtain ⟨C2, m2, k2⟩ := hc z List.mem_cons_self
      obtain ⟨g1, g2, g3⟩ := gl gi
      obtain ⟨k1, k3, k4⟩ := gl gz
      have pe : PE (X.suite a ((a, oe) :: pn)) (.Call (.Name "isinstance" p1) [.Name y p2, .Name z p3] [] p4) (fun σ H Q => σ[2]? = some (some (.ref a)) ∧ Q (.bl (decide (z = cn))) H) := by
        have p0 : PA (X.suite a ((a, oe) :: pn)) [.Name y p2, .Name z p3] (tCons (tVar 2) (tCons (tC (.ref C2)) tNil)) :=
          pa_cons (pe_var (i := 2) hN vis (by simpa using hdb) (by simpa using hcd)) (pa_cons (pe_glob k1 m2 rfl k3) pa_nil (by rfl)) (by rfl)
        refine (pe_callB (X := X.suite a ((a, oe) :: pn)) (call_isE C hz hf) g1 mi (by decide +kernel) p0 g3 g2 (by rfl) (by rfl)).imp fun σ H Q q => ?_
        exact ⟨.ref a, q.1, .ref C2, .ref C2, _, rfl, fun u r => r, k2, q.2⟩
      exact (pa_cons pe (ih cs h2 fun c hc' => hc c (List.mem_cons_of_mem _ hc')) (by rfl)).imp fun σ H Q q => ⟨q.1, q.1, q.2⟩
theorem pa_strs {Y : Cx} : ∀ (es : List Expr) (ws : List Str), strsOk es ws = true → PA Y es (fun _ H Q => Q (ws.map V.str) H)
  | [], [], _ => pa_nil.imp fun σ H Q q => q
  | e :: es, w :: ws, h => by
    cases e <;> first | (cases h; done) | skip
    rename_i co j p
    cases co <;> first | (cases h; done) | skip
    rename_i x
    obtain ⟨h1, h2⟩ := band (show (decide (x = w) && strsOk es ws) = true from h)
    obtain rfl := of_decide_eq_true h1
    exact (pa_cons pe_str (pa_strs es ws h2) (by rfl)).imp fun σ H Q q => q
  | [], _ :: _, h => by cases h
  | e :: _, [], h => by cases e <;> first | (cases h; done) | skip; rename_i co _ _; cases co <;> cases h
end
theorem cnt_flags (cn : Str) : ∀ cs : List Str, cs.Nodup → cn ∈ cs → (cs.map fun c => V.bl (decide (c = cn))).countP (fun z => eqV z (.bl true)) = 1
  | [], _, h => by cases h
  | c :: cs, nd, h => by
    obtain ⟨n1, n2⟩ := List.nodup_cons.mp nd
    rw [List.map_cons, List.countP_cons]
    by_cases e : c = cn
    · subst e
      have z : (cs.map fun d => V.bl (decide (d = c))).countP (fun z => eqV z (.bl true)) = 0 := by
        rw [List.countP_eq_zero]
        intro v hv
        obtain ⟨d, hd, rfl⟩ := List.mem_map.mp hv
        have : d ≠ c := fun z => n1 (z ▸ hd)
        simp [eqV, this]
      rw [z]
      simp [eqV]
    · rw [cnt_flags cn cs n2 ((List.mem_cons.mp h).resolve_left fun z => e z.symm)]
      simp [eqV, e]
/-- the handler's reading: the word w stands behind it -/
def tHand (K : Frag) (mg : Str → Option Value) (cs ws : List Str) : Addr → Value → Option Addr → TS := fun a cls d Dn σ H =>
  ∃ (cn : Str) (i : Nat) (w : Str), cn ∈ cs ∧ mg cn = some cls ∧ d = none ∧ σ[2]? = some (some (.ref a)) ∧ 3 < σ.length ∧ cs[i]? = some cn ∧ ws[i]? = some w ∧
    ∀ σ' H', σ'.length = σ.length → σ'[1]? = some (some (.str w)) → (∀ F, Same F H → Ext (fun _ => False) F H F H' ∧ Same F H') → Dn.nx σ' H'
theorem hand_flags {X : Cx} {cs ws : List Str} {sc : Scope} {a : Addr} {oe : Obj} {cls : Value} {d : Option Addr} {pn : List (Addr × Obj)} {an fn en gn : Str} {es ss : List Expr} {g1p lp p1 p2 p3 p4 p5 p6 p7 p8 p9 p10 p11 p12 p13 p14 p15 p16 p17 : Pos} {j1 j2 j3 : Nat} {ap1 cp1 ap2 cp2 : Pos}
    (hN : X.N = [an, fn, en, gn]) (hnd : X.N.Nodup) (hsc : X.env.scope = sc) (lf : locOk sc fn = true) (le : locOk sc en = true) (lg : locOk sc gn = true) (gi : glOk sc ("isinstance" : Str) = true) (gv : glOk sc ("ValueError" : Str) = true) (T : Cat X.K X.mg cs)
    (fo : flagsOk sc en es cs = true) (so : strsOk ss ws = true) (hlen : cs.length = ws.length) (hsz : cs.length ≤ 100) (cnd : cs.Nodup) (l1 : (ap1.endLine == cp1.line) = true) (l2 : (ap2.endLine == cp2.line) = true) (hz : Zc cls d oe) (hf : ∃ vs, oe.data = .fields vs) :
    PSs (X.suite a ((a, oe) :: pn)) [.Assign [.Name gn p1] (.List es p2) p3,
          .If (.BoolOp .And [.Compare (.Call (.Attribute (.Name gn p4) "count" ap1) [.Constant (.bool true) j1 p5] [] cp1) [.Eq] [.Constant (.int 1) j2 p6] p7, .Call (.Name "isinstance" p8) [.Name en p9, .Name "ValueError" p10] [] p11] p12)
            [.Assign [.Name fn p13] (.Subscript (.List ss p14) (.Call (.Attribute (.Name gn p15) "index" ap2) [.Constant (.bool true) j3 p16] [] cp2) p17) g1p] [] lp] (tHand X.K X.mg cs ws a cls d) := by
  refine ⟨fun pins s σ H Dn I q => ?_⟩
  obtain ⟨cn, i, w, hcn, hm, hd, s2, sl, hci, hwi, hq⟩ := q
  subst hd
  obtain ⟨Dx, mD, C, kv⟩ := T.cls cn hcn
  rw [mD] at hm
  obtain rfl : Value.ref Dx = cls := Option.some.inj hm
  have lk : ∀ {x : Str}, locOk sc x = true → X.env.scope.names.lookup x = some .local ∧ (x == ("__debug__" : Str)) = false ∧ (x == ("__classdict__" : Str)) = false := fun {x} h => by
    unfold locOk at h
    obtain ⟨h, h3⟩ := band h
    obtain ⟨h1, h2⟩ := band h
    rw [hsc]
    refine ⟨?_, by simpa using h2, by simpa using h3⟩
    split at h1
    · assumption
    · cases h1
  have gl : ∀ {x : Str}, glOk sc x = true → Gl X x ∧ (x == ("__debug__" : Str)) = false ∧ x ≠ "__name__" := fun {x} h => by
    unfold glOk at h
    obtain ⟨h1, h2⟩ := band h
    obtain ⟨h1, h3⟩ := band h1
    refine ⟨?_, by simpa using h3, by simpa using h2⟩
    show X.env.scope.names.lookup x = _
    rw [hsc]
    split at h1
    · assumption
    · cases h1
  have n1 : X.N[1]? = some fn := by rw [hN]; rfl
  have n2 : X.N[2]? = some en := by rw [hN]; rfl
  have n3 : X.N[3]? = some gn := by rw [hN]; rfl
  obtain ⟨f1, f2, f3⟩ := lk lf
  obtain ⟨e1, e2, e3⟩ := lk le
  obtain ⟨g1, g2, g3⟩ := lk lg
  obtain ⟨i1, i2, i3⟩ := gl gi
  obtain ⟨v1, v2, v3⟩ := gl gv
  have pfl : PA (X.suite a ((a, oe) :: pn)) es (fun σ H Q => σ[2]? = some (some (.ref a)) ∧ Q (cs.map fun c => V.bl (decide (c = cn))) H) := pa_flags (N := X.N) n2 hsc le gi T.isi C hz hf es cs fo fun c hc => by
    obtain ⟨C2, m2, _⟩ := T.cls c hc
    exact ⟨C2, m2, T.rel cn hcn c hc Dx C2 mD m2⟩
  have vg : PE (X.suite a ((a, oe) :: pn)) (.Name gn p4) (tVar 3) := pe_var n3 (.inl g1) g2 g3
  have vg2 : PE (X.suite a ((a, oe) :: pn)) (.Name gn p15) (tVar 3) := pe_var n3 (.inl g1) g2 g3
  have ve : PE (X.suite a ((a, oe) :: pn)) (.Name en p9) (tVar 2) := pe_var n2 (.inl e1) e2 e3
  have pc := pe_bm (apos := ap1) (cpos := cp1) PySem.F.plainAttrs_list PySem.F.slot_list_count PySem.F.type_list_count cntV vg (pa_cons (pe_bl (b := true) (j := j1) (pos := p5)) pa_nil (by rfl)) (by rfl) (by rfl) l1 (by rfl) (by rfl)
  have pi := pe_bm (apos := ap2) (cpos := cp2) PySem.F.plainAttrs_list PySem.F.slot_list_index PySem.F.type_list_index mt_index vg2 (pa_cons (pe_bl (b := true) (j := j3) (pos := p16)) pa_nil (by rfl)) (by rfl) (by rfl) l2 (by rfl) (by rfl)
  have pv := pe_callB (X := X.suite a ((a, oe) :: pn)) (p := p8) (pos := p11) (call_isE C hz hf) i1 T.isi (by decide +kernel) (pa_cons ve (pa_cons (pe_bltn (x := ("ValueError" : Str)) (v := .ty "ValueError") (u := .type "ValueError") (pos := p10) v1 T.val (by decide +kernel) rfl v3 v2) pa_nil (by rfl)) (by rfl)) i3 i2 (by rfl) (by rfl)
  have ptest := (pw_and (pos := p12) (pt_cmpR (pos := p7) (op := .Eq) op_eq pc (pe_int (i := 1) (j := j2) (pos := p6)) (by rfl)) (pw_and1 (pos := p12) (pt_val pv fun _ => rfl))).pt
  have phand := pss_cons (ps_set (X := X.suite a ((a, oe) :: pn)) (pos := p3) (pos' := p1) hnd n3 (.inl g1) (pe_lst (pos := p2) pfl) (by rfl) (.inr g1)) (pss_one (ps_if (pos := lp) ptest (pss_one (ps_set (X := X.suite a ((a, oe) :: pn)) (pos := g1p) (pos' := p13) hnd n1 (.inl f1) (pe_ix (pos := p17) ix_list (pe_lst (pos := p14) (pa_strs ss ws so)) pi (fun _ _ => rfl)) (by rfl) (.inr f1))) pss_nil))
  refine phand.run pins s σ H Dn I ?_
  refine ⟨s2, by rw [List.length_map]; rw [sizeLine_eq]; omega, fun pL hL => ?_⟩
  have at3 : (σ.set 3 (some (V.ref pL)))[3]? = some (some (.ref pL)) := List.getElem?_set_self sl
  have at2 : (σ.set 3 (some (V.ref pL)))[2]? = some (some (.ref a)) := by rw [List.getElem?_set_ne (by decide)]; exact s2
  have fL : (cs.map fun c => V.bl (decide (c = cn))).all flatV = true := by
    rw [List.all_map]
    exact List.all_eq_true.mpr fun c _ => rfl
  have sq : SqL X.K (upd H pL (.lst (cs.map fun c => V.bl (decide (c = cn))))) pL (cs.map fun c => V.bl (decide (c = cn))) := .inl (.inl upd_same)
  have il : i < cs.length := (List.getElem?_eq_some_iff.mp hci).1
  refine ⟨.ref pL, at3, .inl ⟨rfl, _, sq⟩, pL, _, .bl true, rfl, rfl, sq, rfl, fL, ?_⟩
  rw [cnt_flags cn cs cnd hcn]
  refine ⟨rfl, true, rfl, ?_⟩
  refine iteT ?_
  refine ⟨.ref a, at2, .ty "ValueError", .type "ValueError", true, rfl, fun u r => r, kv, true, rfl, ?_⟩
  refine iteT ?_
  refine ⟨by rw [List.length_map, ← hlen]; rw [sizeLine_eq]; omega, fun pM hM => ?_⟩
  have sq2 : SqL X.K (upd (upd H pL (.lst (cs.map fun c => V.bl (decide (c = cn))))) pM (.lst (ws.map V.str))) pL (cs.map fun c => V.bl (decide (c = cn))) := .inl (.inl (by rw [upd_ne (ne_of_none upd_same hM)]; exact upd_same))
  have gi2 : ∀ m : Nat, (cs.map fun c => V.bl (decide (c = cn)))[m]? = (cs[m]?).map fun c => V.bl (decide (c = cn)) := fun m => List.getElem?_map ..
  refine ⟨.ref pL, at3, .inl ⟨rfl, _, sq2⟩, pL, _, .bl true, i, .bl true, rfl, rfl, sq2, rfl, fL, by rw [gi2, hci]; simp, rfl, fun m z' hmi hz' => ?_, pM, ws.map V.str, (i : Nat), .str w, rfl, rfl, .inl (.inl upd_same), ?_, ?_⟩
  · rw [gi2] at hz'
    cases em : cs[m]? with
    | none => rw [em] at hz'; cases hz'
    | some c =>
      rw [em] at hz'
      obtain rfl := Option.some.inj hz'
      have hne : c ≠ cn := fun z => by
        subst z
        have ml : m < cs.length := (List.getElem?_eq_some_iff.mp em).1
        have := (List.getElem?_inj ml cnd).mp (em.trans hci.symm)
        omega
      simp [eqV, hne]
  · have hl : i < ws.length := (List.getElem?_eq_some_iff.mp hwi).1
    have e0 : ixN (ws.map V.str).length ((i : Nat) : Int) = some i := by
      rw [List.length_map]
      unfold ixN
      simp [hl]
    unfold atI
    rw [e0]
    show (ws.map V.str)[i]? = some (.str w)
    rw [List.getElem?_map, hwi]
    rfl
  · have nM : H pM = none := by
      cases z : H pM with
      | none => rfl
      | some u => rw [upd_ne (ne_of_none z hL), z] at hM; cases hM
    refine hq _ _ (by rw [List.length_set, List.length_set]) (List.getElem?_set_self (by rw [List.length_set]; omega)) fun F sF => ?_
    have x1 : Ext (fun _ => False) F H F (upd H pL (.lst (cs.map fun c => V.bl (decide (c = cn))))) := Ext.laidH hL
    have sF1 := sub_updH (o := .lst (cs.map fun c => V.bl (decide (c = cn)))) sF (sF.free hL)
    exact ⟨x1.trans (Ext.laidH (B := fun _ => False) hM) fun l z => z.elim, sub_updH sF1 (sF1.free hM)⟩
/-- the whole def -/
theorem word_gives {P : Program} {w : World} {K : Frag} {mg : Str → Option Value} {base : Heap} {x : Str} {sg : Scope} {g : Addr} {cdv : Value} {bg : List Stmt} {N cs ws : List Str} {an : Str} (T : Cat K mg cs) (hN : N.head? = some an) (hnd : N.Nodup) (ok : wordOk sg N cs ws bg = true) :
    ∀ (X : Cx) (q : Str), X.prog = P → X.w = w → X.K = K → X.mg = mg → X.base = base → GivesW X N x sg g cdv bg an q (TTw K mg (wordSem cs ws)) := by
  rintro X q rfl rfl rfl rfl rfl
  unfold wordOk at ok
  split at ok
  rotate_left
  · cases ok
  rename_i f1 p1 s0 j0 p2 p3 f2 p4 a1 p5 p6 p7 b p8 e g1 p9 es p10 p11 g2 p12 m1 ap1 j1 p13 cp1 j2 p14 p15 i1 p16 e2 p17 v p18 p19 p20 f3 p21 ss p22 g3 p23 m2 ap2 j3 p24 cp2 p25 p26 p27 p28 p29 f4 p30 p31
  obtain ⟨ok, cnd⟩ := band ok
  obtain ⟨ok, hsz⟩ := band ok
  obtain ⟨ok, hlen⟩ := band ok
  obtain ⟨ok, so⟩ := band ok
  obtain ⟨ok, fo⟩ := band ok
  obtain ⟨ok, lg⟩ := band ok
  obtain ⟨ok, le⟩ := band ok
  obtain ⟨ok, lf⟩ := band ok
  obtain ⟨ok, la⟩ := band ok
  obtain ⟨ok, gv⟩ := band ok
  obtain ⟨ok, gi⟩ := band ok
  obtain ⟨ok, gb⟩ := band ok
  obtain ⟨ok, l2⟩ := band ok
  obtain ⟨ok, l1⟩ := band ok
  obtain ⟨ok, eb⟩ := band ok
  obtain ⟨ok, ev⟩ := band ok
  obtain ⟨ok, ei⟩ := band ok
  obtain ⟨ok, em2⟩ := band ok
  obtain ⟨ok, em1⟩ := band ok
  obtain ⟨ok, ee⟩ := band ok
  obtain ⟨ok, eg3⟩ := band ok
  obtain ⟨ok, eg2⟩ := band ok
  obtain ⟨ok, ef4⟩ := band ok
  obtain ⟨ok, ef3⟩ := band ok
  obtain ⟨eN, ef2⟩ := band ok
  obtain rfl := of_decide_eq_true eb
  obtain rfl := of_decide_eq_true ev
  obtain rfl := of_decide_eq_true ei
  obtain rfl := of_decide_eq_true em2
  obtain rfl := of_decide_eq_true em1
  obtain rfl := of_decide_eq_true ee
  obtain rfl := of_decide_eq_true eg3
  obtain rfl := of_decide_eq_true eg2
  obtain rfl := of_decide_eq_true ef4
  obtain rfl := of_decide_eq_true ef3
  obtain rfl := of_decide_eq_true ef2
  obtain rfl := of_decide_eq_true eN
  have cnd := of_decide_eq_true cnd
  have hsz := of_decide_eq_true hsz
  have hlen := of_decide_eq_true hlen
  obtain rfl : a1 = an := Option.some.inj hN
  intro f c' s H Q tl act hc ht
  obtain ⟨F, r, sF, sm, tb, htl, fin⟩ := ht
  have lk : ∀ {x : Str}, locOk sg x = true → sg.names.lookup x = some .local ∧ (x == ("__debug__" : Str)) = false ∧ (x == ("__classdict__" : Str)) = false := fun {x} h => by
    unfold locOk at h
    obtain ⟨h, h3⟩ := band h
    obtain ⟨h1, h2⟩ := band h
    refine ⟨?_, by simpa using h2, by simpa using h3⟩
    split at h1
    · assumption
    · cases h1
  obtain ⟨fk1, fk2, fk3⟩ := lk lf
  obtain ⟨ek1, ek2, ek3⟩ := lk le
  obtain ⟨CB, mB, xB⟩ := T.base
  have gB : (cxOf C8.CX0 X.prog X.w X.K X.mg X.base [a1, f2, e2, g2] x sg g cdv X.A X.stack s H C8.E0).nox.env.scope.names.lookup ("BeastError" : Str) = some .globalImplicit ∧ (("BeastError" : Str) == ("__debug__" : Str)) = false := by
    unfold glOk at gb
    obtain ⟨h1, h2⟩ := band gb
    obtain ⟨h1, h3⟩ := band h1
    refine ⟨?_, by simpa using h3⟩
    show sg.names.lookup _ = _
    split at h1
    · assumption
    · cases h1
  refine ⟨_, pss_cons (X := (cxOf C8.CX0 X.prog X.w X.K X.mg X.base [a1, f2, e2, g2] x sg g cdv X.A X.stack s H C8.E0).nox)
    (ps_set (pos := p3) (pos' := p1) (i := 1) hnd rfl (.inl fk1) (pe_str (x := s0) (j := j0) (pos := p2)) (by rfl) (.inr fk1))
    (pss_cons (ps_try_as (pos := p29) (pos' := p28) (np := p8) (i := 2) (c := .ref CB) (Wout := fun _ _ _ _ => False)
      (tb := fun W D σ H => ∃ Ech : XK, (∀ cls d H', Ech cls d H' → W cls d σ H') ∧ σ[0]? = some (some (.ref f)) ∧ H c' = some (LamX.CodeO c' q) ∧ tl Ech H fun v H' => D.nx (σ.set 1 (some v)) H')
      (ts := tHand X.K X.mg cs ws) rfl rfl hnd rfl ek1 ⟨gB.1, gB.2, .inl mB⟩ LamX.takes0
      (fun W pn xe tk _ => by
        have hp := act W pn xe p5 p6 tk
        have hq := pss_one (ps_set (X := (cxOf C8.CX0 X.prog X.w X.K X.mg X.base [a1, f2, e2, g2] x sg g cdv X.A X.stack s H C8.E0).tr pn xe) (pos := p7) (pos' := p4) (i := 1) hnd rfl (.inl fk1) hp (by rfl) (.inr fk1))
        exact ⟨fun pins s' σ H' D I ⟨Ech, h0, h1, h2, h3⟩ => hq.run pins s' σ H' D I ⟨Ech, h0, h1, h2, h3⟩⟩)
      (fun a oe cls d pn hz hf => hand_flags (X := (cxOf C8.CX0 X.prog X.w X.K X.mg X.base [a1, f2, e2, g2] x sg g cdv X.A X.stack s H C8.E0).nox) (sc := sg) rfl hnd rfl lf le lg gi gv T fo so hlen hsz cnd l1 l2 hz hf))
    (pss_one (ps_ret (pos := p31) (pe_var (pos := p30) (i := 1) rfl (.inl fk1) fk2 fk3)))), ?_⟩
  have ls : (L2.start [a1, f2, e2, g2] [V.ref f]).length = 4 := rfl
  have len1 : ∀ v : V, ((L2.start [a1, f2, e2, g2] [V.ref f]).set 1 (some v)).length = 4 := fun v => by rw [List.length_set]; rfl
  show ∃ Ech : XK, _ ∧ _ ∧ _ ∧ _
  cases r with
  | bad => exact fin.elim
  | ok d =>
    refine ⟨fun _ _ _ => False, fun _ _ _ z => z.elim, rfl, hc, htl _ _ fun v F' H' ex s' rv => ?_⟩
    exact ⟨v, List.getElem?_set_self (by rw [len1]; decide), fin v F' H' ex s' rv⟩
  | exc c fs =>
    have fin : FinD X.K F H Q (match cs.findIdx? (fun z => decide (z = c)) with | some i => (match ws[i]? with | some w => R.ok (PyData.str w) | none => .bad) | none => .bad) := fin
    cases hi : cs.findIdx? (fun z => decide (z = c)) with
    | none => rw [hi] at fin; exact fin.elim
    | some i =>
      rw [hi] at fin
      have fin : FinD X.K F H Q (match ws[i]? with | some w => R.ok (PyData.str w) | none => .bad) := fin
      cases hw : ws[i]? with
      | none => rw [hw] at fin; exact fin.elim
      | some wd =>
        rw [hw] at fin
        have fin : Res X.K F H Q (.str wd) := fin
        obtain ⟨il, ip, _⟩ := List.findIdx?_eq_some_iff_getElem.mp hi
        have ic : cs[i]? = some c := by rw [List.getElem?_eq_getElem il]; rw [of_decide_eq_true ip]
        have cm : c ∈ cs := List.mem_of_getElem? ic
        refine ⟨fun cls d H' => d = none ∧ X.mg c = some cls ∧ ∃ F', Same F' H' ∧ Ext (fun _ => False) F H F' H', fun cls d H' hE => ?_, rfl, hc, htl _ _ fun F' H' ex s' cls m => ⟨rfl, m, F', s', ex⟩⟩
        obtain ⟨rfl, m, F', s', ex⟩ := hE
        obtain ⟨C, mC, _⟩ := T.cls c cm
        have eC : cls = .ref C := Option.some.inj (m.symm.trans mC)
        refine ⟨true, by rw [eC]; exact xB c cm C mC, fun _ a na => ?_, fun z => by cases z⟩
        refine ⟨c, i, wd, cm, m, rfl, List.getElem?_set_self (by rw [len1]; decide), by rw [List.length_set, len1]; decide, ic, hw, fun σ' H'' hl hv hx => ?_⟩
        obtain ⟨ex2, s2⟩ := hx F' s'
        refine ⟨.str wd, by rw [List.getElem?_set_ne (by decide)]; exact hv, ?_⟩
        exact fin _ F' H'' (ex.trans ex2 fun l z => z.elim) s2 (.str _)
end DP
namespace DP
open PySem PySem.Spec PyProof.Rows L2
/-- one class of errors at an address -/
structure CatOne (K : Frag) (mg : Str → Option Value) (CB : Addr) (p : Str × Addr) : Prop where
  m : mg p.1 = some (.ref p.2)
  x : PySem.W.exmOne K (.ref p.2) (.ref CB) = some true
  c : ExcC K p.2
  v : PySem.W.kitOne K (.ref p.2) (.type "ValueError") = some true
theorem cat_mk {K : Frag} {mg : Str → Option Value} {CB : Addr} {l : List (Str × Addr)} (b : mg "BeastError" = some (.ref CB)) (h : ∀ p ∈ l, CatOne K mg CB p) (r : ∀ p ∈ l, ∀ p2 ∈ l, PySem.W.kitOne K (.ref p.2) (.ref p2.2) = some (decide (p2.1 = p.1)))
    (isi : mg "isinstance" = none) (val : mg "ValueError" = none) : Cat K mg (l.map (·.1)) := by
  have at_ : ∀ {c : Str} {C : Addr}, c ∈ l.map (·.1) → mg c = some (.ref C) → ∃ p ∈ l, p.1 = c ∧ p.2 = C := fun {c C} hc m => by
    obtain ⟨p, hp, rfl⟩ := List.mem_map.mp hc
    have := (h p hp).m
    rw [m] at this
    exact ⟨p, hp, rfl, (Value.ref.inj (Option.some.inj this)).symm⟩
  refine ⟨⟨CB, b, fun c hc C m => ?_⟩, fun c hc => ?_, fun c hc c2 hc2 C C2 m m2 => ?_, isi, val⟩
  · obtain ⟨p, hp, rfl, rfl⟩ := at_ hc m
    exact (h p hp).x
  · obtain ⟨p, hp, rfl⟩ := List.mem_map.mp hc
    exact ⟨p.2, (h p hp).m, (h p hp).c, (h p hp).v⟩
  · obtain ⟨p, hp, rfl, rfl⟩ := at_ hc m
    obtain ⟨p2, hp2, rfl, rfl⟩ := at_ hc2 m2
    exact r p hp p2 hp2
end DP

namespace Cbasics
open PySem PySem.Spec PyProof.Rows L2 DP 
def G_is_integer : Gm := ⟨[], [], [], []⟩
def b_is_integer : Ss := (.cons (.ret (.and (.cons (.isi (.var 0) .int) (.cons (.not (.isi (.var 0) .bool)) .nil))))
    .nil)
def g_is_integer : Sig := sigOf G_is_integer "is_integer" 1 false false 1 b_is_integer
@[simp] theorem bor_is_integer : g_is_integer.bor = false := Eq.trans rfl rfl
@[simp] theorem n_is_integer : g_is_integer.n = 1 := Eq.trans rfl rfl
theorem sem_is_integer (ds : List D) : g_is_integer.sem ds = finP (exs G_is_integer b_is_integer (slots0 1 ds)) := sem_P ..
def G_is_within : Gm := ⟨[g_is_integer], [], [], []⟩
def b_is_within : Ss := (.cons (.ret (.and (.cons (.call 0 (.cons (.var 0) .nil)) (.cons (.chn .le .le (.var 1) (.var 0) (.var 2)) .nil))))
    .nil)
def g_is_within : Sig := sigOf G_is_within "is_within" 3 false false 3 b_is_within
@[simp] theorem bor_is_within : g_is_within.bor = false := Eq.trans rfl rfl
@[simp] theorem n_is_within : g_is_within.n = 3 := Eq.trans rfl rfl
@[simp] theorem fn_is_within_0 : G_is_within.fns[0]? = some g_is_integer := Eq.trans rfl rfl
theorem sem_is_within (ds : List D) : g_is_within.sem ds = finP (exs G_is_within b_is_within (slots0 3 ds)) := sem_P ..
def G_is_sized : Gm := ⟨[], [], [], []⟩
def b_is_sized : Ss := (.cons (.ret (.and (.cons (.isi (.var 0) .tuple) (.cons (.chn .le .le (.var 1) (.bi .len (.var 0)) (.var 2)) .nil))))
    .nil)
def g_is_sized : Sig := sigOf G_is_sized "is_sized" 3 false false 3 b_is_sized
@[simp] theorem bor_is_sized : g_is_sized.bor = false := Eq.trans rfl rfl
@[simp] theorem n_is_sized : g_is_sized.n = 3 := Eq.trans rfl rfl
theorem sem_is_sized (ds : List D) : g_is_sized.sem ds = finP (exs G_is_sized b_is_sized (slots0 3 ds)) := sem_P ..
def G_are_within : Gm := ⟨[g_is_within], [], [], []⟩
def b_are_within : Ss := (.cons (.ret (.and (.cons (.isi (.var 0) .tuple) (.cons (.bi .all (.comp (.call 0 (.cons (.var 3) (.cons (.var 1) (.cons (.var 2) .nil)))) (.nm 3) (.seq (.var 0)) (.lit (.bl true)))) .nil))))
    .nil)
def g_are_within : Sig := sigOf G_are_within "are_within" 3 false false 4 b_are_within
@[simp] theorem bor_are_within : g_are_within.bor = false := Eq.trans rfl rfl
@[simp] theorem n_are_within : g_are_within.n = 3 := Eq.trans rfl rfl
@[simp] theorem fn_are_within_0 : G_are_within.fns[0]? = some g_is_within := Eq.trans rfl rfl
theorem sem_are_within (ds : List D) : g_are_within.sem ds = finP (exs G_are_within b_are_within (slots0 4 ds)) := sem_P ..
def G_all_lots : Gm := ⟨[], [], [], []⟩
def b_all_lots : Ss := (.cons (.asg (.nm 1) (.lst (.cons (.tup .nil) .nil)))
    (.cons (.fors (.nm 2) (.rng (.var 0)) (.cons (.asg (.nm 1) (.bin .add (.var 1) (.comp (.bin .add (.var 4) (.tup (.cons (.var 2) .nil))) (.nm 4) (.seq (.var 1)) (.lit (.bl true)))))
    .nil))
    (.cons (.ret (.comp (.var 4) (.tup [3, 4]) (.seq (.bi .sorted (.comp (.tup (.cons (.bi .len (.var 4)) (.cons (.var 4) .nil))) (.nm 4) (.seq (.var 1)) (.lit (.bl true))))) (.lit (.bl true))))
    .nil)))
def g_all_lots : Sig := sigOf G_all_lots "all_lots" 1 false false 5 b_all_lots
@[simp] theorem bor_all_lots : g_all_lots.bor = false := Eq.trans rfl rfl
@[simp] theorem n_all_lots : g_all_lots.n = 1 := Eq.trans rfl rfl
theorem sem_all_lots (ds : List D) : g_all_lots.sem ds = finP (exs G_all_lots b_all_lots (slots0 5 ds)) := sem_P ..
def G_is_rising : Gm := ⟨[], [], [], []⟩
def b_is_rising : Ss := (.cons (.ret (.bi .all (.comp (.cmp .lt (.var 1) (.var 2)) (.tup [1, 2]) (.zip (.var 0) (.slc (.var 0) (.lit (.int 1)) .nop)) (.lit (.bl true)))))
    .nil)
def g_is_rising : Sig := sigOf G_is_rising "is_rising" 1 false false 3 b_is_rising
@[simp] theorem bor_is_rising : g_is_rising.bor = false := Eq.trans rfl rfl
@[simp] theorem n_is_rising : g_is_rising.n = 1 := Eq.trans rfl rfl
theorem sem_is_rising (ds : List D) : g_is_rising.sem ds = finP (exs G_is_rising b_is_rising (slots0 3 ds)) := sem_P ..
def G_is_lot : Gm := ⟨[g_is_rising, g_are_within], [], [], []⟩
def b_is_lot : Ss := (.cons (.ret (.and (.cons (.call 1 (.cons (.var 0) (.cons (.lit (.int 0)) (.cons (.bin .sub (.var 1) (.lit (.int 1))) .nil)))) (.cons (.call 0 (.cons (.var 0) .nil)) .nil))))
    .nil)
def g_is_lot : Sig := sigOf G_is_lot "is_lot" 2 false false 2 b_is_lot
@[simp] theorem bor_is_lot : g_is_lot.bor = false := Eq.trans rfl rfl
@[simp] theorem n_is_lot : g_is_lot.n = 2 := Eq.trans rfl rfl
@[simp] theorem fn_is_lot_0 : G_is_lot.fns[0]? = some g_is_rising := Eq.trans rfl rfl
@[simp] theorem fn_is_lot_1 : G_is_lot.fns[1]? = some g_are_within := Eq.trans rfl rfl
theorem sem_is_lot (ds : List D) : g_is_lot.sem ds = finP (exs G_is_lot b_is_lot (slots0 2 ds)) := sem_P ..
def G_is_order : Gm := ⟨[g_are_within], [], [], []⟩
def b_is_order : Ss := (.cons (.ret (.and (.cons (.call 0 (.cons (.var 0) (.cons (.lit (.int 0)) (.cons (.bin .sub (.var 1) (.lit (.int 1))) .nil)))) (.cons (.cmp .eq (.bi .len (.var 0)) (.var 1)) (.cons (.cmp .eq (.bi .sorted (.var 0)) (.lrg (.rng (.var 1)))) .nil)))))
    .nil)
def g_is_order : Sig := sigOf G_is_order "is_order" 2 false false 2 b_is_order
@[simp] theorem bor_is_order : g_is_order.bor = false := Eq.trans rfl rfl
@[simp] theorem n_is_order : g_is_order.n = 2 := Eq.trans rfl rfl
@[simp] theorem fn_is_order_0 : G_is_order.fns[0]? = some g_are_within := Eq.trans rfl rfl
theorem sem_is_order (ds : List D) : g_is_order.sem ds = finP (exs G_is_order b_is_order (slots0 2 ds)) := sem_P ..
def G_all_orders : Gm := ⟨[], [], [], []⟩
def b_all_orders : Ss := (.cons (.asg (.nm 1) (.lst (.cons (.tup .nil) .nil)))
    (.cons (.fors (.nm 2) (.rng (.var 0)) (.cons (.asg (.nm 1) (.comp2 (.bin .add (.var 3) (.tup (.cons (.var 4) .nil))) (.nm 3) (.seq (.var 1)) (.lit (.bl true)) (.nm 4) (.rng (.var 0)) (.cmp .nin (.var 4) (.var 3))))
    .nil))
    (.cons (.ret (.var 1))
    .nil)))
def g_all_orders : Sig := sigOf G_all_orders "all_orders" 1 false false 5 b_all_orders
@[simp] theorem bor_all_orders : g_all_orders.bor = false := Eq.trans rfl rfl
@[simp] theorem n_all_orders : g_all_orders.n = 1 := Eq.trans rfl rfl
theorem sem_all_orders (ds : List D) : g_all_orders.sem ds = finP (exs G_all_orders b_all_orders (slots0 5 ds)) := sem_P ..
def G_is_name : Gm := ⟨[], [], [], []⟩
def b_is_name : Ss := (.cons (.ret (.and (.cons (.isi (.var 0) .str) (.cons (.chn .le .le (.lit (.int 1)) (.bi .len (.var 0)) (.lit (.int 8))) (.cons (.bi .all (.comp (.chn .le .le (.lit (.str "a")) (.var 1) (.lit (.str "z"))) (.nm 1) (.seq (.var 0)) (.lit (.bl true)))) .nil)))))
    .nil)
def g_is_name : Sig := sigOf G_is_name "is_name" 1 false false 2 b_is_name
@[simp] theorem bor_is_name : g_is_name.bor = false := Eq.trans rfl rfl
@[simp] theorem n_is_name : g_is_name.n = 1 := Eq.trans rfl rfl
theorem sem_is_name (ds : List D) : g_is_name.sem ds = finP (exs G_is_name b_is_name (slots0 2 ds)) := sem_P ..
def G_common : Gm := ⟨[], [], [], []⟩
def b_common : Ss := (.cons (.par 0 1 (.bi .abs (.var 0)) (.bi .abs (.var 1)))
    (.cons (.whl 1000000 (.cmp .gt (.var 1) (.lit (.int 0))) (.cons (.par 0 1 (.var 1) (.bin .mod (.var 0) (.var 1)))
    .nil))
    (.cons (.ret (.var 0))
    .nil)))
def g_common : Sig := sigOf G_common "common" 2 false false 2 b_common
@[simp] theorem bor_common : g_common.bor = false := Eq.trans rfl rfl
@[simp] theorem n_common : g_common.n = 2 := Eq.trans rfl rfl
theorem sem_common (ds : List D) : g_common.sem ds = finP (exs G_common b_common (slots0 2 ds)) := sem_P ..
def G_fraction : Gm := ⟨[g_common], [], [], []⟩
def b_fraction : Ss := (.cons (.asg (.nm 2) (.ife (.cmp .gt (.var 1) (.lit (.int 0))) (.call 0 (.cons (.var 0) (.cons (.var 1) .nil))) (.neg (.call 0 (.cons (.var 0) (.cons (.var 1) .nil))))))
    (.cons (.ret (.tup (.cons (.bin .fdiv (.var 0) (.var 2)) (.cons (.bin .fdiv (.var 1) (.var 2)) .nil))))
    .nil))
def g_fraction : Sig := sigOf G_fraction "fraction" 2 false false 3 b_fraction
@[simp] theorem bor_fraction : g_fraction.bor = false := Eq.trans rfl rfl
@[simp] theorem n_fraction : g_fraction.n = 2 := Eq.trans rfl rfl
@[simp] theorem fn_fraction_0 : G_fraction.fns[0]? = some g_common := Eq.trans rfl rfl
theorem sem_fraction (ds : List D) : g_fraction.sem ds = finP (exs G_fraction b_fraction (slots0 3 ds)) := sem_P ..
def G_is_fraction : Gm := ⟨[g_common, g_is_integer, g_is_sized], [], [], []⟩
def b_is_fraction : Ss := (.cons (.ifs (.or (.cons (.not (.call 2 (.cons (.var 0) (.cons (.lit (.int 2)) (.cons (.lit (.int 2)) .nil))))) (.cons (.not (.bi .all (.comp (.call 1 (.cons (.var 1) .nil)) (.nm 1) (.seq (.var 0)) (.lit (.bl true))))) (.cons (.cmp .lt (.ix (.var 0) (.lit (.int 1))) (.lit (.int 1))) .nil)))) (.cons (.ret (.lit (.bl false)))
    .nil) .nil)
    (.cons (.ret (.cmp .eq (.call 0 (.cons (.ix (.var 0) (.lit (.int 0))) (.cons (.ix (.var 0) (.lit (.int 1))) .nil))) (.lit (.int 1))))
    .nil))
def g_is_fraction : Sig := sigOf G_is_fraction "is_fraction" 1 false false 2 b_is_fraction
@[simp] theorem bor_is_fraction : g_is_fraction.bor = false := Eq.trans rfl rfl
@[simp] theorem n_is_fraction : g_is_fraction.n = 1 := Eq.trans rfl rfl
@[simp] theorem fn_is_fraction_0 : G_is_fraction.fns[0]? = some g_common := Eq.trans rfl rfl
@[simp] theorem fn_is_fraction_1 : G_is_fraction.fns[1]? = some g_is_integer := Eq.trans rfl rfl
@[simp] theorem fn_is_fraction_2 : G_is_fraction.fns[2]? = some g_is_sized := Eq.trans rfl rfl
theorem sem_is_fraction (ds : List D) : g_is_fraction.sem ds = finP (exs G_is_fraction b_is_fraction (slots0 2 ds)) := sem_P ..
def G_plus : Gm := ⟨[g_fraction], [], [], []⟩
def b_plus : Ss := (.cons (.ret (.call 0 (.cons (.bin .add (.bin .mul (.ix (.var 0) (.lit (.int 0))) (.ix (.var 1) (.lit (.int 1)))) (.bin .mul (.ix (.var 1) (.lit (.int 0))) (.ix (.var 0) (.lit (.int 1))))) (.cons (.bin .mul (.ix (.var 0) (.lit (.int 1))) (.ix (.var 1) (.lit (.int 1)))) .nil))))
    .nil)
def g_plus : Sig := sigOf G_plus "plus" 2 false false 2 b_plus
@[simp] theorem bor_plus : g_plus.bor = false := Eq.trans rfl rfl
@[simp] theorem n_plus : g_plus.n = 2 := Eq.trans rfl rfl
@[simp] theorem fn_plus_0 : G_plus.fns[0]? = some g_fraction := Eq.trans rfl rfl
theorem sem_plus (ds : List D) : g_plus.sem ds = finP (exs G_plus b_plus (slots0 2 ds)) := sem_P ..
def G_power : Gm := ⟨[], [], [], []⟩
def b_power : Ss := (.cons (.asg (.nm 2) (.lit (.int 1)))
    (.cons (.fors (.nm 3) (.rng (.var 1)) (.cons (.asg (.nm 2) (.bin .mul (.var 2) (.var 0)))
    .nil))
    (.cons (.ret (.var 2))
    .nil)))
def g_power : Sig := sigOf G_power "power" 2 false false 4 b_power
@[simp] theorem bor_power : g_power.bor = false := Eq.trans rfl rfl
@[simp] theorem n_power : g_power.n = 2 := Eq.trans rfl rfl
theorem sem_power (ds : List D) : g_power.sem ds = finP (exs G_power b_power (slots0 4 ds)) := sem_P ..
def G_minus : Gm := ⟨[g_fraction], [], [], []⟩
def b_minus : Ss := (.cons (.ret (.call 0 (.cons (.bin .sub (.bin .mul (.ix (.var 0) (.lit (.int 0))) (.ix (.var 1) (.lit (.int 1)))) (.bin .mul (.ix (.var 1) (.lit (.int 0))) (.ix (.var 0) (.lit (.int 1))))) (.cons (.bin .mul (.ix (.var 0) (.lit (.int 1))) (.ix (.var 1) (.lit (.int 1)))) .nil))))
    .nil)
def g_minus : Sig := sigOf G_minus "minus" 2 false false 2 b_minus
@[simp] theorem bor_minus : g_minus.bor = false := Eq.trans rfl rfl
@[simp] theorem n_minus : g_minus.n = 2 := Eq.trans rfl rfl
@[simp] theorem fn_minus_0 : G_minus.fns[0]? = some g_fraction := Eq.trans rfl rfl
theorem sem_minus (ds : List D) : g_minus.sem ds = finP (exs G_minus b_minus (slots0 2 ds)) := sem_P ..
def G_times : Gm := ⟨[g_fraction], [], [], []⟩
def b_times : Ss := (.cons (.ret (.call 0 (.cons (.bin .mul (.ix (.var 0) (.lit (.int 0))) (.ix (.var 1) (.lit (.int 0)))) (.cons (.bin .mul (.ix (.var 0) (.lit (.int 1))) (.ix (.var 1) (.lit (.int 1)))) .nil))))
    .nil)
def g_times : Sig := sigOf G_times "times" 2 false false 2 b_times
@[simp] theorem bor_times : g_times.bor = false := Eq.trans rfl rfl
@[simp] theorem n_times : g_times.n = 2 := Eq.trans rfl rfl
@[simp] theorem fn_times_0 : G_times.fns[0]? = some g_fraction := Eq.trans rfl rfl
theorem sem_times (ds : List D) : g_times.sem ds = finP (exs G_times b_times (slots0 2 ds)) := sem_P ..
def G_over : Gm := ⟨[g_fraction], [], [], []⟩
def b_over : Ss := (.cons (.ret (.call 0 (.cons (.bin .mul (.ix (.var 0) (.lit (.int 0))) (.ix (.var 1) (.lit (.int 1)))) (.cons (.bin .mul (.ix (.var 0) (.lit (.int 1))) (.ix (.var 1) (.lit (.int 0)))) .nil))))
    .nil)
def g_over : Sig := sigOf G_over "over" 2 false false 2 b_over
@[simp] theorem bor_over : g_over.bor = false := Eq.trans rfl rfl
@[simp] theorem n_over : g_over.n = 2 := Eq.trans rfl rfl
@[simp] theorem fn_over_0 : G_over.fns[0]? = some g_fraction := Eq.trans rfl rfl
theorem sem_over (ds : List D) : g_over.sem ds = finP (exs G_over b_over (slots0 2 ds)) := sem_P ..
def G_is_less : Gm := ⟨[], [], [], []⟩
def b_is_less : Ss := (.cons (.ret (.cmp .lt (.bin .mul (.ix (.var 0) (.lit (.int 0))) (.ix (.var 1) (.lit (.int 1)))) (.bin .mul (.ix (.var 1) (.lit (.int 0))) (.ix (.var 0) (.lit (.int 1))))))
    .nil)
def g_is_less : Sig := sigOf G_is_less "is_less" 2 false false 2 b_is_less
@[simp] theorem bor_is_less : g_is_less.bor = false := Eq.trans rfl rfl
@[simp] theorem n_is_less : g_is_less.n = 2 := Eq.trans rfl rfl
theorem sem_is_less (ds : List D) : g_is_less.sem ds = finP (exs G_is_less b_is_less (slots0 2 ds)) := sem_P ..
end Cbasics

namespace Cbeavers
open PySem PySem.Spec PyProof.Rows L2 DP Cbasics
def G_is_rule : Gm := ⟨[g_is_within, g_is_sized], [], [], []⟩
def b_is_rule : Ss := (.cons (.ifs (.or (.cons (.not (.call 1 (.cons (.var 1) (.cons (.lit (.int 3)) (.cons (.lit (.int 3)) .nil))))) (.cons (.not (.call 0 (.cons (.ix (.var 1) (.lit (.int 0))) (.cons (.lit (.int 0)) (.cons (.lit (.int 1)) .nil))))) (.cons (.not (.call 0 (.cons (.ix (.var 1) (.lit (.int 1))) (.cons (.neg (.lit (.int 1))) (.cons (.lit (.int 1)) .nil))))) .nil)))) (.cons (.ret (.lit (.bl false)))
    .nil) .nil)
    (.cons (.ret (.and (.cons (.cmp .ne (.ix (.var 1) (.lit (.int 1))) (.lit (.int 0))) (.cons (.or (.cons (.cmp .isN (.ix (.var 1) (.lit (.int 2))) (.lit .non)) (.cons (.call 0 (.cons (.ix (.var 1) (.lit (.int 2))) (.cons (.lit (.int 0)) (.cons (.bin .sub (.var 0) (.lit (.int 1))) .nil)))) .nil))) .nil))))
    .nil))
def g_is_rule : Sig := sigOf G_is_rule "is_rule" 2 false false 2 b_is_rule
@[simp] theorem bor_is_rule : g_is_rule.bor = false := Eq.trans rfl rfl
@[simp] theorem n_is_rule : g_is_rule.n = 2 := Eq.trans rfl rfl
@[simp] theorem fn_is_rule_0 : G_is_rule.fns[0]? = some g_is_within := Eq.trans rfl rfl
@[simp] theorem fn_is_rule_1 : G_is_rule.fns[1]? = some g_is_sized := Eq.trans rfl rfl
theorem sem_is_rule (ds : List D) : g_is_rule.sem ds = finP (exs G_is_rule b_is_rule (slots0 2 ds)) := sem_P ..
def G_is_machine : Gm := ⟨[g_is_rule, g_is_sized], [("MOST_STATES", (.int 3))], [], []⟩
def b_is_machine : Ss := (.cons (.ifs (.or (.cons (.not (.call 1 (.cons (.var 0) (.cons (.lit (.int 1)) (.cons (.cst 0) .nil))))) (.cons (.not (.bi .all (.comp (.call 1 (.cons (.var 1) (.cons (.lit (.int 2)) (.cons (.lit (.int 2)) .nil)))) (.nm 1) (.seq (.var 0)) (.lit (.bl true))))) .nil))) (.cons (.ret (.lit (.bl false)))
    .nil) .nil)
    (.cons (.ret (.bi .all (.comp (.bi .all (.comp (.call 0 (.cons (.bi .len (.var 0)) (.cons (.var 2) .nil))) (.nm 2) (.seq (.var 1)) (.lit (.bl true)))) (.nm 1) (.seq (.var 0)) (.lit (.bl true)))))
    .nil))
def g_is_machine : Sig := sigOf G_is_machine "is_machine" 1 false false 3 b_is_machine
@[simp] theorem bor_is_machine : g_is_machine.bor = false := Eq.trans rfl rfl
@[simp] theorem n_is_machine : g_is_machine.n = 1 := Eq.trans rfl rfl
@[simp] theorem fn_is_machine_0 : G_is_machine.fns[0]? = some g_is_rule := Eq.trans rfl rfl
@[simp] theorem fn_is_machine_1 : G_is_machine.fns[1]? = some g_is_sized := Eq.trans rfl rfl
@[simp] theorem cst_is_machine_0 : G_is_machine.cst[0]? = some (("MOST_STATES" : Str), ((.int 3) : Lit)) := Eq.trans rfl rfl
theorem sem_is_machine (ds : List D) : g_is_machine.sem ds = finP (exs G_is_machine b_is_machine (slots0 3 ds)) := sem_P ..
def G_check_machine : Gm := ⟨[g_is_machine], [], ["NoMachine"], []⟩
def b_check_machine : Ss := (.cons (.ifs (.not (.call 0 (.cons (.var 0) .nil))) (.cons (.rse 0)
    .nil) .nil)
    .nil)
def g_check_machine : Sig := sigOf G_check_machine "check_machine" 1 false false 1 b_check_machine
@[simp] theorem bor_check_machine : g_check_machine.bor = false := Eq.trans rfl rfl
@[simp] theorem n_check_machine : g_check_machine.n = 1 := Eq.trans rfl rfl
@[simp] theorem fn_check_machine_0 : G_check_machine.fns[0]? = some g_is_machine := Eq.trans rfl rfl
@[simp] theorem exn_check_machine_0 : G_check_machine.exn[0]? = some ("NoMachine" : Str) := Eq.trans rfl rfl
theorem sem_check_machine (ds : List D) : g_check_machine.sem ds = finP (exs G_check_machine b_check_machine (slots0 1 ds)) := sem_P ..
def G_check_machine_steps : Gm := ⟨[g_is_within, g_check_machine], [("MOST_RUN_STEPS", (.int 500))], ["NoNumber"], []⟩
def b_check_machine_steps : Ss := (.cons (.exp (.call 1 (.cons (.var 0) .nil)))
    (.cons (.ifs (.not (.call 0 (.cons (.var 1) (.cons (.lit (.int 0)) (.cons (.cst 0) .nil))))) (.cons (.rse 0)
    .nil) .nil)
    .nil))
def g_check_machine_steps : Sig := sigOf G_check_machine_steps "check_machine_steps" 2 false false 2 b_check_machine_steps
@[simp] theorem bor_check_machine_steps : g_check_machine_steps.bor = false := Eq.trans rfl rfl
@[simp] theorem n_check_machine_steps : g_check_machine_steps.n = 2 := Eq.trans rfl rfl
@[simp] theorem fn_check_machine_steps_0 : G_check_machine_steps.fns[0]? = some g_is_within := Eq.trans rfl rfl
@[simp] theorem fn_check_machine_steps_1 : G_check_machine_steps.fns[1]? = some g_check_machine := Eq.trans rfl rfl
@[simp] theorem cst_check_machine_steps_0 : G_check_machine_steps.cst[0]? = some (("MOST_RUN_STEPS" : Str), ((.int 500) : Lit)) := Eq.trans rfl rfl
@[simp] theorem exn_check_machine_steps_0 : G_check_machine_steps.exn[0]? = some ("NoNumber" : Str) := Eq.trans rfl rfl
theorem sem_check_machine_steps (ds : List D) : g_check_machine_steps.sem ds = finP (exs G_check_machine_steps b_check_machine_steps (slots0 2 ds)) := sem_P ..
def G_stepped : Gm := ⟨[], [], [], []⟩
def b_stepped : Ss := (.cons (.asg (.tup [3, 4, 5]) (.var 1))
    (.cons (.asg (.tup [6, 7, 8]) (.ix (.ix (.var 0) (.var 3)) (.ife (.cmp .inn (.var 4) (.var 5)) (.lit (.int 1)) (.lit (.int 0)))))
    (.cons (.asg (.nm 2) (.comp (.var 9) (.nm 9) (.seq (.var 5)) (.cmp .ne (.var 9) (.var 4))))
    (.cons (.ret (.tup (.cons (.var 8) (.cons (.bin .add (.var 4) (.var 7)) (.cons (.bi .tuple (.bi .sorted (.ife (.cmp .eq (.var 6) (.lit (.int 1))) (.bin .add (.var 2) (.lst (.cons (.var 4) .nil))) (.var 2)))) .nil)))))
    .nil))))
def g_stepped : Sig := sigOf G_stepped "stepped" 2 false false 10 b_stepped
@[simp] theorem bor_stepped : g_stepped.bor = false := Eq.trans rfl rfl
@[simp] theorem n_stepped : g_stepped.n = 2 := Eq.trans rfl rfl
theorem sem_stepped (ds : List D) : g_stepped.sem ds = finP (exs G_stepped b_stepped (slots0 10 ds)) := sem_P ..
def G_stands_up_to : Gm := ⟨[g_stepped], [], [], []⟩
def b_stands_up_to : Ss := (.cons (.new 2 (.lst (.cons (.tup (.cons (.lit (.int 0)) (.cons (.lit (.int 0)) (.cons (.tup .nil) .nil)))) .nil)))
    (.cons (.whl 1000000 (.and (.cons (.cmp .le (.bi .len (.var 2)) (.var 1)) (.cons (.cmp .notN (.ix (.ix (.var 2) (.neg (.lit (.int 1)))) (.lit (.int 0))) (.lit .non)) .nil))) (.cons (.app 2 (.call 0 (.cons (.var 0) (.cons (.ix (.var 2) (.neg (.lit (.int 1)))) .nil))))
    .nil))
    (.cons (.ret (.frz 2))
    .nil)))
def g_stands_up_to : Sig := sigOf G_stands_up_to "stands_up_to" 2 false false 3 b_stands_up_to
@[simp] theorem bor_stands_up_to : g_stands_up_to.bor = false := Eq.trans rfl rfl
@[simp] theorem n_stands_up_to : g_stands_up_to.n = 2 := Eq.trans rfl rfl
@[simp] theorem fn_stands_up_to_0 : G_stands_up_to.fns[0]? = some g_stepped := Eq.trans rfl rfl
theorem sem_stands_up_to (ds : List D) : g_stands_up_to.sem ds = finP (exs G_stands_up_to b_stands_up_to (slots0 3 ds)) := sem_P ..
def G_stand_after : Gm := ⟨[g_stands_up_to, g_check_machine_steps], [], [], []⟩
def b_stand_after : Ss := (.cons (.exp (.call 1 (.cons (.var 0) (.cons (.var 1) .nil))))
    (.cons (.ret (.ix (.call 0 (.cons (.var 0) (.cons (.var 1) .nil))) (.neg (.lit (.int 1)))))
    .nil))
def g_stand_after : Sig := sigOf G_stand_after "stand_after" 2 false false 2 b_stand_after
@[simp] theorem bor_stand_after : g_stand_after.bor = false := Eq.trans rfl rfl
@[simp] theorem n_stand_after : g_stand_after.n = 2 := Eq.trans rfl rfl
@[simp] theorem fn_stand_after_0 : G_stand_after.fns[0]? = some g_stands_up_to := Eq.trans rfl rfl
@[simp] theorem fn_stand_after_1 : G_stand_after.fns[1]? = some g_check_machine_steps := Eq.trans rfl rfl
theorem sem_stand_after (ds : List D) : g_stand_after.sem ds = finP (exs G_stand_after b_stand_after (slots0 2 ds)) := sem_P ..
def G_bounds_of_way : Gm := ⟨[g_stands_up_to, g_check_machine_steps], [], [], []⟩
def b_bounds_of_way : Ss := (.cons (.exp (.call 1 (.cons (.var 0) (.cons (.var 1) .nil))))
    (.cons (.asg (.nm 2) (.comp (.var 4) (.tup [3, 4, 5]) (.seq (.call 0 (.cons (.var 0) (.cons (.var 1) .nil)))) (.lit (.bl true))))
    (.cons (.ret (.tup (.cons (.bi .min (.var 2)) (.cons (.bi .max (.var 2)) .nil))))
    .nil)))
def g_bounds_of_way : Sig := sigOf G_bounds_of_way "bounds_of_way" 2 false false 6 b_bounds_of_way
@[simp] theorem bor_bounds_of_way : g_bounds_of_way.bor = false := Eq.trans rfl rfl
@[simp] theorem n_bounds_of_way : g_bounds_of_way.n = 2 := Eq.trans rfl rfl
@[simp] theorem fn_bounds_of_way_0 : G_bounds_of_way.fns[0]? = some g_stands_up_to := Eq.trans rfl rfl
@[simp] theorem fn_bounds_of_way_1 : G_bounds_of_way.fns[1]? = some g_check_machine_steps := Eq.trans rfl rfl
theorem sem_bounds_of_way (ds : List D) : g_bounds_of_way.sem ds = finP (exs G_bounds_of_way b_bounds_of_way (slots0 6 ds)) := sem_P ..
def G_states_taken : Gm := ⟨[g_stands_up_to, g_check_machine_steps], [], [], []⟩
def b_states_taken : Ss := (.cons (.exp (.call 1 (.cons (.var 0) (.cons (.var 1) .nil))))
    (.cons (.asg (.nm 2) (.comp (.ix (.var 3) (.lit (.int 0))) (.nm 3) (.seq (.slc (.call 0 (.cons (.var 0) (.cons (.var 1) .nil))) .nop (.neg (.lit (.int 1))))) (.lit (.bl true))))
    (.cons (.ret (.bi .tuple (.comp (.mth .cnt (.var 2) (.var 4)) (.nm 4) (.rng (.bi .len (.var 0))) (.lit (.bl true)))))
    .nil)))
def g_states_taken : Sig := sigOf G_states_taken "states_taken" 2 false false 5 b_states_taken
@[simp] theorem bor_states_taken : g_states_taken.bor = false := Eq.trans rfl rfl
@[simp] theorem n_states_taken : g_states_taken.n = 2 := Eq.trans rfl rfl
@[simp] theorem fn_states_taken_0 : G_states_taken.fns[0]? = some g_stands_up_to := Eq.trans rfl rfl
@[simp] theorem fn_states_taken_1 : G_states_taken.fns[1]? = some g_check_machine_steps := Eq.trans rfl rfl
theorem sem_states_taken (ds : List D) : g_states_taken.sem ds = finP (exs G_states_taken b_states_taken (slots0 5 ds)) := sem_P ..
def G_stand_shape : Gm := ⟨[], [], [], []⟩
def b_stand_shape : Ss := (.cons (.asg (.tup [1, 2, 3]) (.var 0))
    (.cons (.ret (.tup (.cons (.var 1) (.cons (.bi .tuple (.comp (.bin .sub (.var 4) (.var 2)) (.nm 4) (.seq (.var 3)) (.lit (.bl true)))) .nil))))
    .nil))
def g_stand_shape : Sig := sigOf G_stand_shape "stand_shape" 1 false false 5 b_stand_shape
@[simp] theorem bor_stand_shape : g_stand_shape.bor = false := Eq.trans rfl rfl
@[simp] theorem n_stand_shape : g_stand_shape.n = 1 := Eq.trans rfl rfl
theorem sem_stand_shape (ds : List D) : g_stand_shape.sem ds = finP (exs G_stand_shape b_stand_shape (slots0 5 ds)) := sem_P ..
def G_is_end_told : Gm := ⟨[g_is_within, g_stand_shape, g_stands_up_to, g_is_sized, g_check_machine], [("MOST_RUN_STEPS", (.int 500)), ("AGAIN", (.str "again")), ("STOPS", (.str "stops"))], [], []⟩
def b_is_end_told : Ss := (.cons (.exp (.call 4 (.cons (.var 0) .nil)))
    (.cons (.ifs (.or (.cons (.not (.call 3 (.cons (.var 1) (.cons (.lit (.int 3)) (.cons (.lit (.int 4)) .nil))))) (.cons (.not (.isi (.ix (.var 1) (.lit (.int 0))) .str)) .nil))) (.cons (.ret (.lit (.bl false)))
    .nil) .nil)
    (.cons (.asg (.nm 2) (.call 2 (.cons (.var 0) (.cons (.cst 0) .nil))))
    (.cons (.ifs (.cmp .eq (.ix (.var 1) (.lit (.int 0))) (.cst 2)) (.cons (.ifs (.or (.cons (.cmp .ne (.bi .len (.var 1)) (.lit (.int 3))) (.cons (.cmp .notN (.ix (.ix (.var 2) (.neg (.lit (.int 1)))) (.lit (.int 0))) (.lit .non)) .nil))) (.cons (.ret (.lit (.bl false)))
    .nil) .nil)
    (.cons (.asg (.nm 5) (.bi .len (.ix (.ix (.var 2) (.neg (.lit (.int 1)))) (.lit (.int 2)))))
    (.cons (.ret (.and (.cons (.call 0 (.cons (.ix (.var 1) (.lit (.int 1))) (.cons (.bin .sub (.bi .len (.var 2)) (.lit (.int 1))) (.cons (.bin .sub (.bi .len (.var 2)) (.lit (.int 1))) .nil)))) (.cons (.call 0 (.cons (.ix (.var 1) (.lit (.int 2))) (.cons (.var 5) (.cons (.var 5) .nil)))) .nil))))
    .nil))) .nil)
    (.cons (.ifs (.or (.cons (.cmp .ne (.ix (.var 1) (.lit (.int 0))) (.cst 1)) (.cons (.cmp .ne (.bi .len (.var 1)) (.lit (.int 4))) .nil))) (.cons (.ret (.lit (.bl false)))
    .nil) .nil)
    (.cons (.ifs (.or (.cons (.not (.call 0 (.cons (.ix (.var 1) (.lit (.int 1))) (.cons (.lit (.int 0)) (.cons (.cst 0) .nil))))) (.cons (.not (.call 0 (.cons (.ix (.var 1) (.lit (.int 2))) (.cons (.lit (.int 1)) (.cons (.cst 0) .nil))))) .nil))) (.cons (.ret (.lit (.bl false)))
    .nil) .nil)
    (.cons (.asg (.nm 3) (.bin .add (.ix (.var 1) (.lit (.int 1))) (.ix (.var 1) (.lit (.int 2)))))
    (.cons (.ifs (.or (.cons (.cmp .ge (.var 3) (.bi .len (.var 2))) (.cons (.cmp .ne (.call 1 (.cons (.ix (.var 2) (.ix (.var 1) (.lit (.int 1)))) .nil)) (.call 1 (.cons (.ix (.var 2) (.var 3)) .nil))) .nil))) (.cons (.ret (.lit (.bl false)))
    .nil) .nil)
    (.cons (.asg (.nm 4) (.bin .sub (.ix (.ix (.var 2) (.var 3)) (.lit (.int 1))) (.ix (.ix (.var 2) (.ix (.var 1) (.lit (.int 1)))) (.lit (.int 1)))))
    (.cons (.ret (.call 0 (.cons (.ix (.var 1) (.lit (.int 3))) (.cons (.var 4) (.cons (.var 4) .nil)))))
    .nil))))))))))
def g_is_end_told : Sig := sigOf G_is_end_told "is_end_told" 2 false false 6 b_is_end_told
@[simp] theorem bor_is_end_told : g_is_end_told.bor = false := Eq.trans rfl rfl
@[simp] theorem n_is_end_told : g_is_end_told.n = 2 := Eq.trans rfl rfl
@[simp] theorem fn_is_end_told_0 : G_is_end_told.fns[0]? = some g_is_within := Eq.trans rfl rfl
@[simp] theorem fn_is_end_told_1 : G_is_end_told.fns[1]? = some g_stand_shape := Eq.trans rfl rfl
@[simp] theorem fn_is_end_told_2 : G_is_end_told.fns[2]? = some g_stands_up_to := Eq.trans rfl rfl
@[simp] theorem fn_is_end_told_3 : G_is_end_told.fns[3]? = some g_is_sized := Eq.trans rfl rfl
@[simp] theorem fn_is_end_told_4 : G_is_end_told.fns[4]? = some g_check_machine := Eq.trans rfl rfl
@[simp] theorem cst_is_end_told_0 : G_is_end_told.cst[0]? = some (("MOST_RUN_STEPS" : Str), ((.int 500) : Lit)) := Eq.trans rfl rfl
@[simp] theorem cst_is_end_told_1 : G_is_end_told.cst[1]? = some (("AGAIN" : Str), ((.str "again") : Lit)) := Eq.trans rfl rfl
@[simp] theorem cst_is_end_told_2 : G_is_end_told.cst[2]? = some (("STOPS" : Str), ((.str "stops") : Lit)) := Eq.trans rfl rfl
theorem sem_is_end_told (ds : List D) : g_is_end_told.sem ds = finP (exs G_is_end_told b_is_end_told (slots0 6 ds)) := sem_P ..
def G_check_best : Gm := ⟨[g_is_within], [("MOST_BEST_STEPS", (.int 12)), ("MOST_BEST_STATES", (.int 2))], ["NoNumber"], []⟩
def b_check_best : Ss := (.cons (.ifs (.or (.cons (.not (.call 0 (.cons (.var 0) (.cons (.lit (.int 1)) (.cons (.cst 1) .nil))))) (.cons (.not (.call 0 (.cons (.var 1) (.cons (.lit (.int 0)) (.cons (.cst 0) .nil))))) .nil))) (.cons (.rse 0)
    .nil) .nil)
    .nil)
def g_check_best : Sig := sigOf G_check_best "check_best" 2 false false 2 b_check_best
@[simp] theorem bor_check_best : g_check_best.bor = false := Eq.trans rfl rfl
@[simp] theorem n_check_best : g_check_best.n = 2 := Eq.trans rfl rfl
@[simp] theorem fn_check_best_0 : G_check_best.fns[0]? = some g_is_within := Eq.trans rfl rfl
@[simp] theorem cst_check_best_0 : G_check_best.cst[0]? = some (("MOST_BEST_STEPS" : Str), ((.int 12) : Lit)) := Eq.trans rfl rfl
@[simp] theorem cst_check_best_1 : G_check_best.cst[1]? = some (("MOST_BEST_STATES" : Str), ((.int 2) : Lit)) := Eq.trans rfl rfl
@[simp] theorem exn_check_best_0 : G_check_best.exn[0]? = some ("NoNumber" : Str) := Eq.trans rfl rfl
theorem sem_check_best (ds : List D) : g_check_best.sem ds = finP (exs G_check_best b_check_best (slots0 2 ds)) := sem_P ..
def G_rules_of_many : Gm := ⟨[], [], [], []⟩
def b_rules_of_many : Ss := (.cons (.new 1 (.lst .nil))
    (.cons (.fors (.nm 2) (.seq (.tup (.cons (.lit (.int 0)) (.cons (.lit (.int 1)) .nil)))) (.cons (.fors (.nm 3) (.seq (.tup (.cons (.neg (.lit (.int 1))) (.cons (.lit (.int 1)) .nil)))) (.cons (.ext 1 (.comp (.tup (.cons (.var 2) (.cons (.var 3) (.cons (.var 4) .nil)))) (.nm 4) (.seq (.bin .add (.lst (.cons (.lit .non) .nil)) (.lrg (.rng (.var 0))))) (.lit (.bl true))))
    .nil))
    .nil))
    (.cons (.ret (.frz 1))
    .nil)))
def g_rules_of_many : Sig := sigOf G_rules_of_many "rules_of_many" 1 false false 5 b_rules_of_many
@[simp] theorem bor_rules_of_many : g_rules_of_many.bor = false := Eq.trans rfl rfl
@[simp] theorem n_rules_of_many : g_rules_of_many.n = 1 := Eq.trans rfl rfl
theorem sem_rules_of_many (ds : List D) : g_rules_of_many.sem ds = finP (exs G_rules_of_many b_rules_of_many (slots0 5 ds)) := sem_P ..
def G_raw_mirrored : Gm := ⟨[], [], [], []⟩
def b_raw_mirrored : Ss := (.cons (.ret (.bi .tuple (.comp (.bi .tuple (.comp (.tup (.cons (.var 2) (.cons (.bin .sub (.lit (.int 0)) (.var 3)) (.cons (.var 4) .nil)))) (.tup [2, 3, 4]) (.seq (.var 1)) (.lit (.bl true)))) (.nm 1) (.seq (.var 0)) (.lit (.bl true)))))
    .nil)
def g_raw_mirrored : Sig := sigOf G_raw_mirrored "raw_mirrored" 1 false false 5 b_raw_mirrored
@[simp] theorem bor_raw_mirrored : g_raw_mirrored.bor = false := Eq.trans rfl rfl
@[simp] theorem n_raw_mirrored : g_raw_mirrored.n = 1 := Eq.trans rfl rfl
theorem sem_raw_mirrored (ds : List D) : g_raw_mirrored.sem ds = finP (exs G_raw_mirrored b_raw_mirrored (slots0 5 ds)) := sem_P ..
def G_mirrored_machine : Gm := ⟨[g_raw_mirrored, g_check_machine], [], [], []⟩
def b_mirrored_machine : Ss := (.cons (.exp (.call 1 (.cons (.var 0) .nil)))
    (.cons (.ret (.call 0 (.cons (.var 0) .nil)))
    .nil))
def g_mirrored_machine : Sig := sigOf G_mirrored_machine "mirrored_machine" 1 false false 1 b_mirrored_machine
@[simp] theorem bor_mirrored_machine : g_mirrored_machine.bor = false := Eq.trans rfl rfl
@[simp] theorem n_mirrored_machine : g_mirrored_machine.n = 1 := Eq.trans rfl rfl
@[simp] theorem fn_mirrored_machine_0 : G_mirrored_machine.fns[0]? = some g_raw_mirrored := Eq.trans rfl rfl
@[simp] theorem fn_mirrored_machine_1 : G_mirrored_machine.fns[1]? = some g_check_machine := Eq.trans rfl rfl
theorem sem_mirrored_machine (ds : List D) : g_mirrored_machine.sem ds = finP (exs G_mirrored_machine b_mirrored_machine (slots0 1 ds)) := sem_P ..
def G_raw_renamed : Gm := ⟨[], [], [], []⟩
def b_raw_renamed : Ss := (.cons (.new 2 (.bin .mul (.lst (.cons (.lit .non) .nil)) (.bi .len (.var 0))))
    (.cons (.fors (.tup [3, 4]) (.enm (.var 0)) (.cons (.asg (.nm 5) (.comp (.tup (.cons (.var 6) (.cons (.var 7) (.cons (.ife (.cmp .isN (.var 8) (.lit .non)) (.lit .non) (.ix (.var 1) (.var 8))) .nil)))) (.tup [6, 7, 8]) (.seq (.var 4)) (.lit (.bl true))))
    (.cons (.setI 2 (.ix (.var 1) (.var 3)) (.bi .tuple (.var 5)))
    .nil)))
    (.cons (.ret (.bi .tuple (.var 2)))
    .nil)))
def g_raw_renamed : Sig := sigOf G_raw_renamed "raw_renamed" 2 false false 9 b_raw_renamed
@[simp] theorem bor_raw_renamed : g_raw_renamed.bor = false := Eq.trans rfl rfl
@[simp] theorem n_raw_renamed : g_raw_renamed.n = 2 := Eq.trans rfl rfl
theorem sem_raw_renamed (ds : List D) : g_raw_renamed.sem ds = finP (exs G_raw_renamed b_raw_renamed (slots0 9 ds)) := sem_P ..
def G_renamed_machine : Gm := ⟨[g_raw_renamed, g_is_order, g_check_machine], [], ["NoOrder"], []⟩
def b_renamed_machine : Ss := (.cons (.exp (.call 2 (.cons (.var 0) .nil)))
    (.cons (.ifs (.or (.cons (.not (.call 1 (.cons (.var 1) (.cons (.bi .len (.var 0)) .nil)))) (.cons (.cmp .ne (.ix (.var 1) (.lit (.int 0))) (.lit (.int 0))) .nil))) (.cons (.rse 0)
    .nil) .nil)
    (.cons (.ret (.call 0 (.cons (.var 0) (.cons (.var 1) .nil))))
    .nil)))
def g_renamed_machine : Sig := sigOf G_renamed_machine "renamed_machine" 2 false false 2 b_renamed_machine
@[simp] theorem bor_renamed_machine : g_renamed_machine.bor = false := Eq.trans rfl rfl
@[simp] theorem n_renamed_machine : g_renamed_machine.n = 2 := Eq.trans rfl rfl
@[simp] theorem fn_renamed_machine_0 : G_renamed_machine.fns[0]? = some g_raw_renamed := Eq.trans rfl rfl
@[simp] theorem fn_renamed_machine_1 : G_renamed_machine.fns[1]? = some g_is_order := Eq.trans rfl rfl
@[simp] theorem fn_renamed_machine_2 : G_renamed_machine.fns[2]? = some g_check_machine := Eq.trans rfl rfl
@[simp] theorem exn_renamed_machine_0 : G_renamed_machine.exn[0]? = some ("NoOrder" : Str) := Eq.trans rfl rfl
theorem sem_renamed_machine (ds : List D) : g_renamed_machine.sem ds = finP (exs G_renamed_machine b_renamed_machine (slots0 2 ds)) := sem_P ..
def G_are_alike_machines : Gm := ⟨[g_raw_mirrored, g_raw_renamed, g_all_orders, g_check_machine], [], [], []⟩
def b_are_alike_machines : Ss := (.cons (.exp (.call 3 (.cons (.var 0) .nil)))
    (.cons (.exp (.call 3 (.cons (.var 1) .nil)))
    (.cons (.ifs (.cmp .ne (.bi .len (.var 0)) (.bi .len (.var 1))) (.cons (.ret (.lit (.bl false)))
    .nil) .nil)
    (.cons (.asg (.nm 2) (.comp (.var 4) (.nm 4) (.seq (.call 2 (.cons (.bi .len (.var 0)) .nil))) (.cmp .eq (.ix (.var 4) (.lit (.int 0))) (.lit (.int 0)))))
    (.cons (.asg (.nm 3) (.comp2 (.call 1 (.cons (.var 5) (.cons (.var 4) .nil))) (.nm 5) (.seq (.tup (.cons (.var 0) (.cons (.call 0 (.cons (.var 0) .nil)) .nil)))) (.lit (.bl true)) (.nm 4) (.seq (.var 2)) (.lit (.bl true))))
    (.cons (.ret (.cmp .inn (.var 1) (.var 3)))
    .nil))))))
def g_are_alike_machines : Sig := sigOf G_are_alike_machines "are_alike_machines" 2 false false 6 b_are_alike_machines
@[simp] theorem bor_are_alike_machines : g_are_alike_machines.bor = false := Eq.trans rfl rfl
@[simp] theorem n_are_alike_machines : g_are_alike_machines.n = 2 := Eq.trans rfl rfl
@[simp] theorem fn_are_alike_machines_0 : G_are_alike_machines.fns[0]? = some g_raw_mirrored := Eq.trans rfl rfl
@[simp] theorem fn_are_alike_machines_1 : G_are_alike_machines.fns[1]? = some g_raw_renamed := Eq.trans rfl rfl
@[simp] theorem fn_are_alike_machines_2 : G_are_alike_machines.fns[2]? = some g_all_orders := Eq.trans rfl rfl
@[simp] theorem fn_are_alike_machines_3 : G_are_alike_machines.fns[3]? = some g_check_machine := Eq.trans rfl rfl
theorem sem_are_alike_machines (ds : List D) : g_are_alike_machines.sem ds = finP (exs G_are_alike_machines b_are_alike_machines (slots0 6 ds)) := sem_P ..
end Cbeavers

namespace L80
open PySem PySem.Spec PyProof.Rows L2 DP 
def G__law_hand : Gm := ⟨[], [], [], []⟩
def b__law_hand : Ss := (.cons (.asg (.nm 1) (.comp (.bi .abs (.bi .int (.var 2))) (.nm 2) (.seq (.slc (.var 0) .nop (.lit (.int 63)))) (.lit (.bl true))))
    (.cons (.retL (.lst (.cons (.var 1) (.cons (.lit (.int 0)) (.cons (.lit (.int 0)) (.cons (.bin .add (.lit (.int 97)) (.bin .mul (.lit (.int 13)) (.bi .len (.var 1)))) (.cons (.lit (.int 0)) .nil)))))))
    .nil))
def g__law_hand : Sig := sigOf G__law_hand "_law_hand" 1 false true 3 b__law_hand
@[simp] theorem bor__law_hand : g__law_hand.bor = false := Eq.trans rfl rfl
@[simp] theorem n__law_hand : g__law_hand.n = 1 := Eq.trans rfl rfl
theorem sem__law_hand (ds : List D) : g__law_hand.sem ds = finN (exs G__law_hand b__law_hand (slots0 3 ds)) := sem_N ..
def G__law_draw : Gm := ⟨[], [], [], []⟩
def b__law_draw : Ss := (.cons (.ifs (.and (.cons (.cmp .eq (.ix (.var 0) (.lit (.int 2))) (.lit (.int 0))) (.cons (.cmp .lt (.ix (.var 0) (.lit (.int 1))) (.bi .len (.ix (.var 0) (.lit (.int 0))))) .nil))) (.cons (.asg (.nm 3) (.ix (.ix (.var 0) (.lit (.int 0))) (.ix (.var 0) (.lit (.int 1)))))
    (.cons (.setI 0 (.lit (.int 1)) (.bin .add (.ix (.var 0) (.lit (.int 1))) (.lit (.int 1))))
    (.cons (.setI 0 (.lit (.int 3)) (.bin .mod (.bi .int (.bin .add (.bin .add (.bin .mul (.ix (.var 0) (.lit (.int 3))) (.lit (.int 69621))) (.bin .mul (.var 3) (.lit (.int 40692)))) (.lit (.int 31)))) (.lit (.int 2147483629))))
    (.cons (.ifs (.cmp .ge (.var 3) (.bin .pow (.lit (.int 10)) (.lit (.int 18)))) (.cons (.setI 0 (.lit (.int 2)) (.var 3))
    .nil) .nil)
    .nil)))) .nil)
    (.cons (.ifs (.cmp .gt (.ix (.var 0) (.lit (.int 2))) (.lit (.int 0))) (.cons (.asg (.nm 4) (.bin .mod (.bi .int (.ix (.var 0) (.lit (.int 2)))) (.var 1)))
    (.cons (.setI 0 (.lit (.int 2)) (.bin .fdiv (.ix (.var 0) (.lit (.int 2))) (.var 1)))
    (.cons (.ret (.var 4))
    .nil))) .nil)
    (.cons (.setI 0 (.lit (.int 4)) (.bin .add (.ix (.var 0) (.lit (.int 4))) (.lit (.int 1))))
    (.cons (.asg (.nm 2) (.bin .mod (.bi .int (.bin .mul (.bi .int (.bin .add (.ix (.var 0) (.lit (.int 3))) (.bin .mul (.lit (.int 7919)) (.ix (.var 0) (.lit (.int 4)))))) (.lit (.int 48271)))) (.lit (.int 2147483647))))
    (.cons (.asg (.nm 2) (.bin .mod (.bi .int (.bin .mul (.var 2) (.bin .add (.bin .fdiv (.var 2) (.lit (.int 1009))) (.lit (.int 69621))))) (.lit (.int 2147483647))))
    (.cons (.asg (.nm 2) (.bin .mod (.bi .int (.bin .mul (.var 2) (.bin .add (.bin .fdiv (.var 2) (.lit (.int 2003))) (.lit (.int 40014))))) (.lit (.int 2147483563))))
    (.cons (.ret (.bin .mod (.bi .int (.bin .fdiv (.var 2) (.lit (.int 16)))) (.var 1)))
    .nil)))))))
def g__law_draw : Sig := sigOf G__law_draw "_law_draw" 2 true false 5 b__law_draw
@[simp] theorem bor__law_draw : g__law_draw.bor = true := Eq.trans rfl rfl
@[simp] theorem n__law_draw : g__law_draw.n = 2 := Eq.trans rfl rfl
theorem sem__law_draw (es ds : List D) : g__law_draw.sem (.list es :: ds) = finB (exs G__law_draw b__law_draw (slotsB 5 es ds)) := sem_B ..
def G__law_any : Gm := ⟨[g__law_draw], [], [], []⟩
def b__law_any : Ss := (.cons (.ret (.ix (.var 1) (.callB 0 0 (.cons (.bi .len (.var 1)) .nil))))
    .nil)
def g__law_any : Sig := sigOf G__law_any "_law_any" 2 true false 2 b__law_any
@[simp] theorem bor__law_any : g__law_any.bor = true := Eq.trans rfl rfl
@[simp] theorem n__law_any : g__law_any.n = 2 := Eq.trans rfl rfl
@[simp] theorem fn__law_any_0 : G__law_any.fns[0]? = some g__law_draw := Eq.trans rfl rfl
theorem sem__law_any (es ds : List D) : g__law_any.sem (.list es :: ds) = finB (exs G__law_any b__law_any (slotsB 2 es ds)) := sem_B ..
def b__law_is : Ss := (.cons (.ifs (.or (.cons (.cmp .isN (.var 1) (.lit .non)) (.cons (.cmp .isN (.var 0) (.lit .non)) .nil))) (.cons (.ret (.and (.cons (.cmp .isN (.var 1) (.lit .non)) (.cons (.cmp .isN (.var 0) (.lit .non)) .nil))))
    .nil) .nil)
    (.cons (.ifs (.or (.cons (.isi (.var 1) .tuple) (.cons (.isi (.var 1) .list) .nil))) (.cons (.ifs (.cmp .ne (.isi (.var 0) .tuple) (.isi (.var 1) .tuple)) (.cons (.ret (.lit (.bl false)))
    .nil) .nil)
    (.cons (.ifs (.cmp .ne (.isi (.var 0) .list) (.isi (.var 1) .list)) (.cons (.ret (.lit (.bl false)))
    .nil) .nil)
    (.cons (.ret (.and (.cons (.cmp .eq (.bi .len (.var 0)) (.bi .len (.var 1))) (.cons (.bi .all (.comp (.call 0 (.cons (.var 2) (.cons (.var 3) .nil))) (.tup [2, 3]) (.zip (.var 0) (.var 1)) (.lit (.bl true)))) .nil))))
    .nil))) .nil)
    (.cons (.ifs (.or (.cons (.cmp .ne (.isi (.var 0) .bool) (.isi (.var 1) .bool)) (.cons (.cmp .ne (.isi (.var 0) .int) (.isi (.var 1) .int)) .nil))) (.cons (.ret (.lit (.bl false)))
    .nil) .nil)
    (.cons (.ret (.and (.cons (.cmp .eq (.isi (.var 0) .str) (.isi (.var 1) .str)) (.cons (.cmp .eq (.var 0) (.var 1)) .nil))))
    .nil))))
def gr__law_is : Nat → Sig
  | 0 => ⟨"_law_is", 2, false, false, fun _ => .bad⟩
  | k + 1 => sigOf ⟨[gr__law_is k], [], [], []⟩ "_law_is" 2 false false 4 b__law_is
def G__law_is (k : Nat) : Gm := ⟨[gr__law_is k], [], [], []⟩
def g__law_is : Sig := gr__law_is 8
@[simp] theorem bor__law_is : g__law_is.bor = false := Eq.trans rfl rfl
@[simp] theorem n__law_is : g__law_is.n = 2 := Eq.trans rfl rfl
@[simp] theorem borr__law_is (k : Nat) : (gr__law_is k).bor = false := by cases k <;> rfl
@[simp] theorem nr__law_is (k : Nat) : (gr__law_is k).n = 2 := by cases k <;> rfl
theorem nm__law_is (k : Nat) : (gr__law_is k).name = "_law_is" ∧ (gr__law_is k).nw = false := by cases k <;> exact ⟨rfl, rfl⟩
@[simp] theorem fn__law_is_0 (k : Nat) : (G__law_is k).fns[0]? = some (gr__law_is k) := Eq.trans rfl rfl
theorem sem__law_is (k : Nat) (ds : List D) : (gr__law_is (k + 1)).sem ds = finP (exs (G__law_is k) b__law_is (slots0 4 ds)) := sem_P ..
def G__law_machine : Gm := ⟨[g__law_any, g__law_draw], [], [], []⟩
def b__law_machine : Ss := (.cons (.parN 3 4 (.bin .add (.lit (.int 1)) (.callB 1 0 (.cons (.var 1) .nil))) (.lst .nil))
    (.cons (.fors (.nm 2) (.rng (.var 3)) (.cons (.new 5 (.lst .nil))
    (.cons (.fors (.nm 6) (.rng (.lit (.int 2))) (.cons (.asg (.nm 7) (.bin .add (.bin .mul (.lrg (.rng (.var 3))) (.lit (.int 2))) (.lst (.cons (.lit .non) .nil))))
    (.cons (.app 5 (.tup (.cons (.callB 1 0 (.cons (.lit (.int 2)) .nil)) (.cons (.bin .sub (.bin .mul (.lit (.int 2)) (.callB 1 0 (.cons (.lit (.int 2)) .nil))) (.lit (.int 1))) (.cons (.callB 0 0 (.cons (.var 7) .nil)) .nil)))))
    .nil)))
    (.cons (.app 4 (.bi .tuple (.var 5)))
    .nil))))
    (.cons (.ret (.bi .tuple (.var 4)))
    .nil)))
def g__law_machine : Sig := sigOf G__law_machine "_law_machine" 2 true false 8 b__law_machine
@[simp] theorem bor__law_machine : g__law_machine.bor = true := Eq.trans rfl rfl
@[simp] theorem n__law_machine : g__law_machine.n = 2 := Eq.trans rfl rfl
@[simp] theorem fn__law_machine_0 : G__law_machine.fns[0]? = some g__law_any := Eq.trans rfl rfl
@[simp] theorem fn__law_machine_1 : G__law_machine.fns[1]? = some g__law_draw := Eq.trans rfl rfl
theorem sem__law_machine (es ds : List D) : g__law_machine.sem (.list es :: ds) = finB (exs G__law_machine b__law_machine (slotsB 8 es ds)) := sem_B ..
def G__law_stands : Gm := ⟨[], [], [], []⟩
def b__law_stands : Ss := (.cons (.asg (.tup [4, 5, 6]) (.tup (.cons (.lit (.int 0)) (.cons (.lit (.int 0)) (.cons (.lst .nil) .nil)))))
    (.cons (.new 2 (.lst (.cons (.tup (.cons (.lit (.int 0)) (.cons (.lit (.int 0)) (.cons (.tup .nil) .nil)))) .nil)))
    (.cons (.fors (.nm 3) (.rng (.var 1)) (.cons (.ifs (.cmp .notN (.var 4) (.lit .non)) (.cons (.asg (.tup [7, 8, 9]) (.ix (.ix (.var 0) (.var 4)) (.ife (.cmp .inn (.var 5) (.var 6)) (.lit (.int 1)) (.lit (.int 0)))))
    (.cons (.asg (.nm 6) (.bi .sorted (.bin .add (.comp (.var 10) (.nm 10) (.seq (.var 6)) (.cmp .ne (.var 10) (.var 5))) (.ife (.cmp .eq (.var 7) (.lit (.int 1))) (.lst (.cons (.var 5) .nil)) (.lst .nil)))))
    (.cons (.asg (.tup [4, 5]) (.tup (.cons (.var 9) (.cons (.bin .add (.var 5) (.var 8)) .nil))))
    (.cons (.app 2 (.tup (.cons (.var 4) (.cons (.var 5) (.cons (.bi .tuple (.var 6)) .nil)))))
    .nil)))) .nil)
    .nil))
    (.cons (.ret (.frz 2))
    .nil))))
def g__law_stands : Sig := sigOf G__law_stands "_law_stands" 2 false false 11 b__law_stands
@[simp] theorem bor__law_stands : g__law_stands.bor = false := Eq.trans rfl rfl
@[simp] theorem n__law_stands : g__law_stands.n = 2 := Eq.trans rfl rfl
theorem sem__law_stands (ds : List D) : g__law_stands.sem ds = finP (exs G__law_stands b__law_stands (slots0 11 ds)) := sem_P ..
end L80

namespace K80
open PySem PySem.Spec PyProof.Rows L2 DP Cbasics Cbeavers L80
/-! ### the text, and its small trees -/
def topS (i : Nat) : Stmt := PySem.Challenge.pw_beastriddles_k80_whole_beavers_step_by_s.main.body.getD i (.Pass ⟨0, 0, 0, 0⟩)
instance tabI : Tb := ⟨[(189, "law.<locals>.<lambda>")]⟩
abbrev s__law_word : Stmt := topS 25
abbrev N__law_word : List Str := ["call", "found", "e", "flags"]
def w__law_word : Wd := ⟨"_law_word", wordSem ["NoMachine", "NoNumber"] ["!NoMachine", "!NoNumber"]⟩
abbrev s_is_integer : Stmt := topS 1
abbrev N_is_integer : List Str := ["thing"]
abbrev s_is_within : Stmt := topS 2
abbrev N_is_within : List Str := ["thing", "least", "most"]
abbrev s_is_sized : Stmt := topS 3
abbrev N_is_sized : List Str := ["thing", "least", "most"]
abbrev s_is_rule : Stmt := topS 11
abbrev N_is_rule : List Str := ["many", "thing"]
abbrev s_is_machine : Stmt := topS 12
abbrev N_is_machine : List Str := ["thing", "state", "rule"]
abbrev s_check_machine : Stmt := topS 13
abbrev N_check_machine : List Str := ["machine"]
abbrev s_check_machine_steps : Stmt := topS 14
abbrev N_check_machine_steps : List Str := ["machine", "steps"]
abbrev s_stepped : Stmt := topS 15
abbrev N_stepped : List Str := ["machine", "stand", "rest", "state", "place", "logs", "write", "move", "later", "one"]
abbrev s_stands_up_to : Stmt := topS 16
abbrev N_stands_up_to : List Str := ["machine", "steps", "found"]
abbrev s_stand_after : Stmt := topS 17
abbrev N_stand_after : List Str := ["machine", "steps"]
abbrev s_bounds_of_way : Stmt := topS 18
abbrev N_bounds_of_way : List Str := ["machine", "steps", "places", "state", "place", "logs"]
abbrev s_states_taken : Stmt := topS 19
abbrev N_states_taken : List Str := ["machine", "steps", "states", "stand", "state"]
abbrev s__law_hand : Stmt := topS 21
abbrev N__law_hand : List Str := ["script", "cells", "cell"]
abbrev s__law_draw : Stmt := topS 22
abbrev N__law_draw : List Str := ["hand", "many", "number", "cell", "digit"]
abbrev s__law_any : Stmt := topS 23
abbrev N__law_any : List Str := ["hand", "some"]
abbrev s__law_is : Stmt := topS 24
abbrev N__law_is : List Str := ["given_so", "due", "one", "other"]
abbrev s__law_machine : Stmt := topS 26
abbrev N__law_machine : List Str := ["hand", "most", "state", "many", "found", "rules", "log", "nexts"]
abbrev s__law_stands : Stmt := topS 27
abbrev N__law_stands : List Str := ["machine", "most", "found", "turn", "state", "place", "logs", "write", "move", "later", "one"]
abbrev s__law_is_machine : Stmt := topS 28
abbrev N__law_is_machine : List Str := ["thing", "rules", "rule", "some", "one"]
def G__law_is_machine : Gm := ⟨[], [], [], []⟩
def b__law_is_machine : Ss := (.cons (.ifs (.or (.cons (.not (.isi (.var 0) .tuple)) (.cons (.not (.chn .le .le (.lit (.int 1)) (.bi .len (.var 0)) (.lit (.int 3)))) .nil))) (.cons (.ret (.lit (.bl false)))
    .nil) .nil)
    (.cons (.fors (.nm 1) (.seq (.var 0)) (.cons (.ifs (.or (.cons (.not (.isi (.var 1) .tuple)) (.cons (.cmp .ne (.bi .len (.var 1)) (.lit (.int 2))) .nil))) (.cons (.ret (.lit (.bl false)))
    .nil) .nil)
    (.cons (.fors (.nm 2) (.seq (.var 1)) (.cons (.ifs (.or (.cons (.not (.isi (.var 2) .tuple)) (.cons (.cmp .ne (.bi .len (.var 2)) (.lit (.int 3))) .nil))) (.cons (.ret (.lit (.bl false)))
    .nil) .nil)
    (.cons (.asg (.nm 3) (.bin .add (.comp (.var 4) (.nm 4) (.seq (.slc (.var 2) .nop (.lit (.int 2)))) (.lit (.bl true))) (.ife (.cmp .notN (.ix (.var 2) (.lit (.int 2))) (.lit .non)) (.lst (.cons (.ix (.var 2) (.lit (.int 2))) .nil)) (.lst .nil))))
    (.cons (.ifs (.not (.bi .all (.comp (.and (.cons (.isi (.var 4) .int) (.cons (.not (.isi (.var 4) .bool)) .nil))) (.nm 4) (.seq (.var 3)) (.lit (.bl true))))) (.cons (.ret (.lit (.bl false)))
    .nil) .nil)
    (.cons (.ifs (.or (.cons (.cmp .nin (.ix (.var 2) (.lit (.int 0))) (.tup (.cons (.lit (.int 0)) (.cons (.lit (.int 1)) .nil)))) (.cons (.cmp .nin (.ix (.var 2) (.lit (.int 1))) (.tup (.cons (.neg (.lit (.int 1))) (.cons (.lit (.int 1)) .nil)))) .nil))) (.cons (.ret (.lit (.bl false)))
    .nil) .nil)
    (.cons (.ifs (.and (.cons (.cmp .notN (.ix (.var 2) (.lit (.int 2))) (.lit .non)) (.cons (.not (.chn .le .lt (.lit (.int 0)) (.ix (.var 2) (.lit (.int 2))) (.bi .len (.var 0)))) .nil))) (.cons (.ret (.lit (.bl false)))
    .nil) .nil)
    .nil))))))
    .nil)))
    (.cons (.ret (.lit (.bl true)))
    .nil)))
def g__law_is_machine : Sig := sigOf G__law_is_machine "_law_is_machine" 1 false false 5 b__law_is_machine
@[simp] theorem bor__law_is_machine : g__law_is_machine.bor = false := Eq.trans rfl rfl
@[simp] theorem n__law_is_machine : g__law_is_machine.n = 1 := Eq.trans rfl rfl
theorem sem__law_is_machine (ds : List D) : g__law_is_machine.sem ds = finP (exs G__law_is_machine b__law_is_machine (slots0 5 ds)) := sem_P ..
abbrev s__law_bent : Stmt := topS 29
abbrev N__law_bent : List Str := ["hand", "machine", "odd", "rule", "rules", "some", "state", "log", "spot"]
def G__law_bent : Gm := ⟨[g__law_any, g__law_draw], [], [], []⟩
def b__law_bent : Ss := (.cons (.par3 6 7 8 (.callB 1 0 (.cons (.bi .len (.var 1)) .nil)) (.callB 1 0 (.cons (.lit (.int 2)) .nil)) (.callB 1 0 (.cons (.lit (.int 3)) .nil)))
    (.cons (.asg (.nm 2) (.callB 0 0 (.cons (.lst (.cons (.lit (.int 0)) (.cons (.lit (.int 1)) (.cons (.neg (.lit (.int 1))) (.cons (.lit (.int 2)) (.cons (.bi .len (.var 1)) (.cons (.lit (.bl true)) (.cons (.lit .non) (.cons (.lit (.str "?")) (.cons (.lit (.int 3)) .nil)))))))))) .nil)))
    (.cons (.asg (.nm 3) (.bin .add (.bin .add (.slc (.ix (.ix (.var 1) (.var 6)) (.var 7)) .nop (.var 8)) (.tup (.cons (.var 2) .nil))) (.slc (.ix (.ix (.var 1) (.var 6)) (.var 7)) (.bin .add (.var 8) (.lit (.int 1))) .nop)))
    (.cons (.asg (.nm 4) (.bin .add (.bin .add (.slc (.ix (.var 1) (.var 6)) .nop (.var 7)) (.tup (.cons (.var 3) .nil))) (.slc (.ix (.var 1) (.var 6)) (.bin .add (.var 7) (.lit (.int 1))) .nop)))
    (.cons (.new 5 (.bin .mul (.lst (.cons (.bin .add (.bin .add (.slc (.var 1) .nop (.var 6)) (.tup (.cons (.var 4) .nil))) (.slc (.var 1) (.bin .add (.var 6) (.lit (.int 1))) .nop)) .nil)) (.lit (.int 4))))
    (.cons (.new 5 (.bin .add (.var 5) (.lst (.cons (.slc (.var 1) (.lit (.int 1)) .nop) (.cons (.bin .add (.var 1) (.var 1)) (.cons (.bi .list (.var 1)) .nil))))))
    (.cons (.app 5 (.bin .add (.bin .add (.slc (.var 1) .nop (.var 6)) (.tup (.cons (.slc (.ix (.var 1) (.var 6)) .nop (.lit (.int 1))) .nil))) (.slc (.var 1) (.bin .add (.var 6) (.lit (.int 1))) .nop)))
    (.cons (.ret (.callB 0 0 (.cons (.frz 5) .nil)))
    .nil))))))))
def g__law_bent : Sig := sigOf G__law_bent "_law_bent" 2 true false 9 b__law_bent
@[simp] theorem bor__law_bent : g__law_bent.bor = true := Eq.trans rfl rfl
@[simp] theorem n__law_bent : g__law_bent.n = 2 := Eq.trans rfl rfl
@[simp] theorem fn__law_bent_0 : G__law_bent.fns[0]? = some g__law_any := Eq.trans rfl rfl
@[simp] theorem fn__law_bent_1 : G__law_bent.fns[1]? = some g__law_draw := Eq.trans rfl rfl
theorem sem__law_bent (es ds : List D) : g__law_bent.sem (.list es :: ds) = finB (exs G__law_bent b__law_bent (slotsB 9 es ds)) := sem_B ..
abbrev s__law_case_right : Stmt := topS 30
abbrev N__law_case_right : List Str := ["hand", "stands", "places", "taken_so", "many", "told_so", "thing", "machine", "steps_so", "shown", "stand", "state", "turn"]
def G__law_case_right : Gm := ⟨[g__law_bent, g__law_is, g__law_is_machine, g_is_machine, g_stand_after, g_states_taken, g_bounds_of_way, g__law_stands, g__law_draw, g__law_any, g__law_machine], [], [], []⟩
def b__law_case_right : Ss := (.cons (.asg (.tup [7, 8]) (.tup (.cons (.callB 10 0 (.cons (.lit (.int 3)) .nil)) (.cons (.callB 8 0 (.cons (.callB 9 0 (.cons (.lst (.cons (.lit (.int 6)) (.cons (.lit (.int 41)) .nil))) .nil)) .nil)) .nil))))
    (.cons (.asg (.nm 1) (.call 7 (.cons (.var 7) (.cons (.var 8) .nil))))
    (.cons (.asg (.nm 2) (.comp (.ix (.var 10) (.lit (.int 1))) (.nm 10) (.seq (.var 1)) (.lit (.bl true))))
    (.cons (.asg (.nm 3) (.comp (.ix (.var 10) (.lit (.int 0))) (.nm 10) (.seq (.slc (.var 1) .nop (.neg (.lit (.int 1))))) (.lit (.bl true))))
    (.cons (.asg (.nm 4) (.bi .tuple (.comp (.mth .cnt (.var 3) (.var 11)) (.nm 11) (.rng (.bi .len (.var 7))) (.lit (.bl true)))))
    (.cons (.asg (.nm 5) (.lst (.cons (.call 4 (.cons (.var 7) (.cons (.var 8) .nil))) (.cons (.call 6 (.cons (.var 7) (.cons (.var 8) .nil))) (.cons (.call 5 (.cons (.var 7) (.cons (.var 8) .nil))) .nil)))))
    (.cons (.ifs (.not (.call 1 (.cons (.var 5) (.cons (.lst (.cons (.ix (.var 1) (.neg (.lit (.int 1)))) (.cons (.tup (.cons (.bi .min (.var 2)) (.cons (.bi .max (.var 2)) .nil))) (.cons (.var 4) .nil)))) .nil)))) (.cons (.ret (.lit (.bl false)))
    .nil) .nil)
    (.cons (.ifs (.cmp .ne (.bi .sum (.ix (.var 5) (.lit (.int 2)))) (.bin .sub (.bi .len (.var 1)) (.lit (.int 1)))) (.cons (.ret (.lit (.bl false)))
    .nil) .nil)
    (.cons (.ifs (.and (.cons (.cmp .isN (.ix (.ix (.var 1) (.neg (.lit (.int 1)))) (.lit (.int 0))) (.lit .non)) (.cons (.cmp .ne (.call 4 (.cons (.var 7) (.cons (.lit (.int 500)) .nil))) (.ix (.var 1) (.neg (.lit (.int 1))))) .nil))) (.cons (.ret (.lit (.bl false)))
    .nil) .nil)
    (.cons (.fors (.nm 6) (.seq (.bin .add (.lst (.cons (.var 7) .nil)) (.comp (.callB 0 0 (.cons (.var 7) .nil)) (.nm 12) (.rng (.lit (.int 6))) (.lit (.bl true))))) (.cons (.asg (.nm 9) (.bi .repr (.var 6)))
    (.cons (.ifs (.or (.cons (.not (.call 1 (.cons (.call 3 (.cons (.var 6) .nil)) (.cons (.call 2 (.cons (.var 6) .nil)) .nil)))) (.cons (.cmp .ne (.bi .repr (.var 6)) (.var 9)) .nil))) (.cons (.ret (.lit (.bl false)))
    .nil) .nil)
    .nil)))
    (.cons (.ret (.lit (.bl true)))
    .nil)))))))))))
def g__law_case_right : Sig := sigOf G__law_case_right "_law_case_right" 1 true false 13 b__law_case_right
@[simp] theorem bor__law_case_right : g__law_case_right.bor = true := Eq.trans rfl rfl
@[simp] theorem n__law_case_right : g__law_case_right.n = 1 := Eq.trans rfl rfl
@[simp] theorem fn__law_case_right_0 : G__law_case_right.fns[0]? = some g__law_bent := Eq.trans rfl rfl
@[simp] theorem fn__law_case_right_1 : G__law_case_right.fns[1]? = some g__law_is := Eq.trans rfl rfl
@[simp] theorem fn__law_case_right_2 : G__law_case_right.fns[2]? = some g__law_is_machine := Eq.trans rfl rfl
@[simp] theorem fn__law_case_right_3 : G__law_case_right.fns[3]? = some g_is_machine := Eq.trans rfl rfl
@[simp] theorem fn__law_case_right_4 : G__law_case_right.fns[4]? = some g_stand_after := Eq.trans rfl rfl
@[simp] theorem fn__law_case_right_5 : G__law_case_right.fns[5]? = some g_states_taken := Eq.trans rfl rfl
@[simp] theorem fn__law_case_right_6 : G__law_case_right.fns[6]? = some g_bounds_of_way := Eq.trans rfl rfl
@[simp] theorem fn__law_case_right_7 : G__law_case_right.fns[7]? = some g__law_stands := Eq.trans rfl rfl
@[simp] theorem fn__law_case_right_8 : G__law_case_right.fns[8]? = some g__law_draw := Eq.trans rfl rfl
@[simp] theorem fn__law_case_right_9 : G__law_case_right.fns[9]? = some g__law_any := Eq.trans rfl rfl
@[simp] theorem fn__law_case_right_10 : G__law_case_right.fns[10]? = some g__law_machine := Eq.trans rfl rfl
theorem sem__law_case_right (es ds : List D) : g__law_case_right.sem (.list es :: ds) = finB (exs G__law_case_right b__law_case_right (slotsB 13 es ds)) := sem_B ..
abbrev s_law : Stmt := topS 31
abbrev N_law : List Str := ["script", "hand", "told_so", "rule", "bad", "none", "words", "stop", "two", "turn"]
def G_law : Gm := ⟨[g__law_case_right, g_is_machine, g_states_taken, g_bounds_of_way, g_stand_after, g__law_any, g__law_is, g__law_hand], [], [], [w__law_word]⟩
def b_law : Ss := (.cons (.newC 1 7 (.cons (.var 0) .nil))
    (.cons (.asg (.tup [7, 8]) (.tup (.cons (.tup (.cons (.tup (.cons (.tup (.cons (.lit (.int 1)) (.cons (.lit (.int 1)) (.cons (.lit .non) .nil)))) (.cons (.tup (.cons (.lit (.int 0)) (.cons (.lit (.int 1)) (.cons (.lit .non) .nil)))) .nil))) .nil)) (.cons (.tup (.cons (.tup (.cons (.tup (.cons (.lit (.int 1)) (.cons (.lit (.int 1)) (.cons (.lit (.int 1)) .nil)))) (.cons (.tup (.cons (.lit (.int 1)) (.cons (.neg (.lit (.int 1))) (.cons (.lit (.int 1)) .nil)))) .nil))) (.cons (.tup (.cons (.tup (.cons (.lit (.int 1)) (.cons (.neg (.lit (.int 1))) (.cons (.lit (.int 0)) .nil)))) (.cons (.tup (.cons (.lit (.int 1)) (.cons (.lit (.int 1)) (.cons (.lit .non) .nil)))) .nil))) .nil))) .nil))))
    (.cons (.asg (.nm 2) (.lst (.cons (.call 4 (.cons (.var 7) (.cons (.lit (.int 5)) .nil))) (.cons (.call 4 (.cons (.var 8) (.cons (.lit (.int 2)) .nil))) (.cons (.call 4 (.cons (.var 8) (.cons (.lit (.int 500)) .nil))) .nil)))))
    (.cons (.asg (.nm 2) (.bin .add (.var 2) (.lst (.cons (.call 3 (.cons (.var 8) (.cons (.lit (.int 6)) .nil))) (.cons (.call 2 (.cons (.var 8) (.cons (.lit (.int 6)) .nil))) .nil)))))
    (.cons (.ifs (.not (.call 6 (.cons (.var 2) (.cons (.lst (.cons (.tup (.cons (.lit .non) (.cons (.lit (.int 1)) (.cons (.tup (.cons (.lit (.int 0)) .nil)) .nil)))) (.cons (.tup (.cons (.lit (.int 0)) (.cons (.lit (.int 0)) (.cons (.tup (.cons (.lit (.int 0)) (.cons (.lit (.int 1)) .nil))) .nil)))) (.cons (.tup (.cons (.lit .non) (.cons (.lit (.int 0)) (.cons (.tup (.cons (.neg (.lit (.int 2))) (.cons (.neg (.lit (.int 1))) (.cons (.lit (.int 0)) (.cons (.lit (.int 1)) .nil))))) .nil)))) (.cons (.tup (.cons (.neg (.lit (.int 2))) (.cons (.lit (.int 1)) .nil))) (.cons (.tup (.cons (.lit (.int 3)) (.cons (.lit (.int 3)) .nil))) .nil)))))) .nil)))) (.cons (.ret (.lit (.bl false)))
    .nil) .nil)
    (.cons (.asg (.nm 3) (.tup (.cons (.lit (.int 0)) (.cons (.lit (.int 1)) (.cons (.lit (.int 0)) .nil)))))
    (.cons (.asg (.nm 4) (.lst (.cons (.lit .non) (.cons (.tup .nil) (.cons (.lst (.cons (.tup (.cons (.var 3) (.cons (.var 3) .nil))) .nil)) (.cons (.tup (.cons (.tup (.cons (.var 3) .nil)) .nil)) (.cons (.tup (.cons (.tup (.cons (.var 3) (.cons (.tup (.cons (.lit (.int 0)) (.cons (.lit (.int 1)) (.cons (.lit (.int 1)) .nil)))) .nil))) .nil)) (.cons (.tup (.cons (.tup (.cons (.tup (.cons (.lit (.int 2)) (.cons (.lit (.int 1)) (.cons (.lit (.int 0)) .nil)))) (.cons (.var 3) .nil))) .nil)) (.cons (.lit (.str "?")) (.cons (.lit (.int 0)) .nil))))))))))
    (.cons (.asg (.nm 4) (.bin .add (.var 4) (.lst (.cons (.tup (.cons (.tup (.cons (.tup (.cons (.lit (.int 0)) (.cons (.lit (.int 0)) (.cons (.lit (.int 0)) .nil)))) (.cons (.var 3) .nil))) .nil)) (.cons (.tup (.cons (.tup (.cons (.tup (.cons (.lit (.int 0)) (.cons (.lit (.int 1)) (.cons (.neg (.lit (.int 1))) .nil)))) (.cons (.var 3) .nil))) .nil)) (.cons (.tup (.cons (.tup (.cons (.tup (.cons (.lit (.int 0)) (.cons (.lit (.int 1)) (.cons (.lit (.bl true)) .nil)))) (.cons (.var 3) .nil))) .nil)) (.cons (.tup (.cons (.tup (.cons (.tup (.cons (.lit (.int 0)) (.cons (.lit (.int 1)) .nil))) (.cons (.var 3) .nil))) .nil)) .nil)))))))
    (.cons (.asg (.nm 4) (.callB 5 1 (.cons (.bin .add (.var 4) (.lst (.cons (.tup (.cons (.tup (.cons (.var 3) (.cons (.lst (.cons (.lit (.int 0)) (.cons (.lit (.int 1)) (.cons (.lit (.int 0)) .nil)))) .nil))) .nil)) (.cons (.bin .mul (.tup (.cons (.tup (.cons (.var 3) (.cons (.var 3) .nil))) .nil)) (.lit (.int 4))) (.cons (.tup (.cons (.var 3) (.cons (.var 3) .nil))) .nil))))) .nil)))
    (.cons (.asg (.nm 5) (.callB 5 1 (.cons (.lst (.cons (.lit .non) (.cons (.neg (.lit (.int 1))) (.cons (.lit (.int 501)) (.cons (.lit (.bl true)) (.cons (.lit (.str "?")) .nil)))))) .nil)))
    (.cons (.new 6 (.lst (.cons (.word 0 (.call 4 (.cons (.var 4) (.cons (.var 5) .nil)))) (.cons (.word 0 (.call 4 (.cons (.var 7) (.cons (.var 5) .nil)))) .nil))))
    (.cons (.app 6 (.word 0 (.call 3 (.cons (.var 4) (.cons (.var 5) .nil)))))
    (.cons (.app 6 (.word 0 (.call 3 (.cons (.var 7) (.cons (.var 5) .nil)))))
    (.cons (.app 6 (.word 0 (.call 2 (.cons (.var 4) (.cons (.var 5) .nil)))))
    (.cons (.app 6 (.word 0 (.call 2 (.cons (.var 7) (.cons (.var 5) .nil)))))
    (.cons (.ifs (.or (.cons (.cmp .ne (.var 6) (.bin .mul (.lst (.cons (.lit (.str "!NoMachine")) (.cons (.lit (.str "!NoNumber")) .nil))) (.lit (.int 3)))) (.cons (.cmp .notB (.call 1 (.cons (.var 4) .nil)) (.lit (.bl false))) .nil))) (.cons (.ret (.lit (.bl false)))
    .nil) .nil)
    (.cons (.ret (.bi .all (.comp (.callB 0 1 .nil) (.nm 9) (.rng (.lit (.int 6))) (.lit (.bl true)))))
    .nil)))))))))))))))))
def g_law : Sig := sigOf G_law "law" 1 false false 10 b_law
@[simp] theorem bor_law : g_law.bor = false := Eq.trans rfl rfl
@[simp] theorem n_law : g_law.n = 1 := Eq.trans rfl rfl
@[simp] theorem fn_law_0 : G_law.fns[0]? = some g__law_case_right := Eq.trans rfl rfl
@[simp] theorem fn_law_1 : G_law.fns[1]? = some g_is_machine := Eq.trans rfl rfl
@[simp] theorem fn_law_2 : G_law.fns[2]? = some g_states_taken := Eq.trans rfl rfl
@[simp] theorem fn_law_3 : G_law.fns[3]? = some g_bounds_of_way := Eq.trans rfl rfl
@[simp] theorem fn_law_4 : G_law.fns[4]? = some g_stand_after := Eq.trans rfl rfl
@[simp] theorem fn_law_5 : G_law.fns[5]? = some g__law_any := Eq.trans rfl rfl
@[simp] theorem fn_law_6 : G_law.fns[6]? = some g__law_is := Eq.trans rfl rfl
@[simp] theorem fn_law_7 : G_law.fns[7]? = some g__law_hand := Eq.trans rfl rfl
@[simp] theorem wd_law_0 : G_law.wds[0]? = some w__law_word := Eq.trans rfl rfl
theorem sem_law (ds : List D) : g_law.sem ds = finP (exs G_law b_law (slots0 10 ds)) := sem_P ..
/-! ### the looks -/
theorem cw__law_word : wordOk (defScope s__law_word) N__law_word ["NoMachine", "NoNumber"] ["!NoMachine", "!NoNumber"] (defBody s__law_word) = true := by decide +kernel
theorem sc__law_word : FnScope N__law_word ["call"] (defScope s__law_word) := ⟨rfl, rfl, rfl, by decide +kernel, rfl, by decide +kernel, by decide +kernel⟩
theorem c_is_integer : okSs G_is_integer (defScope s_is_integer) (defScope s_is_integer) N_is_integer false b_is_integer (defBody s_is_integer) = true := by decide +kernel
theorem sc_is_integer : FnScope N_is_integer ["thing"] (defScope s_is_integer) := ⟨rfl, rfl, rfl, by decide +kernel, rfl, by decide +kernel, by decide +kernel⟩
theorem c_is_within : okSs G_is_within (defScope s_is_within) (defScope s_is_within) N_is_within false b_is_within (defBody s_is_within) = true := by decide +kernel
theorem sc_is_within : FnScope N_is_within ["thing", "least", "most"] (defScope s_is_within) := ⟨rfl, rfl, rfl, by decide +kernel, rfl, by decide +kernel, by decide +kernel⟩
theorem c_is_sized : okSs G_is_sized (defScope s_is_sized) (defScope s_is_sized) N_is_sized false b_is_sized (defBody s_is_sized) = true := by decide +kernel
theorem sc_is_sized : FnScope N_is_sized ["thing", "least", "most"] (defScope s_is_sized) := ⟨rfl, rfl, rfl, by decide +kernel, rfl, by decide +kernel, by decide +kernel⟩
theorem c_is_rule : okSs G_is_rule (defScope s_is_rule) (defScope s_is_rule) N_is_rule false b_is_rule (defBody s_is_rule) = true := by decide +kernel
theorem sc_is_rule : FnScope N_is_rule ["many", "thing"] (defScope s_is_rule) := ⟨rfl, rfl, rfl, by decide +kernel, rfl, by decide +kernel, by decide +kernel⟩
theorem c_is_machine : okSs G_is_machine (defScope s_is_machine) (defScope s_is_machine) N_is_machine false b_is_machine (defBody s_is_machine) = true := by decide +kernel
theorem sc_is_machine : FnScope N_is_machine ["thing"] (defScope s_is_machine) := ⟨rfl, rfl, rfl, by decide +kernel, rfl, by decide +kernel, by decide +kernel⟩
theorem c_check_machine : okSs G_check_machine (defScope s_check_machine) (defScope s_check_machine) N_check_machine false b_check_machine (defBody s_check_machine) = true := by decide +kernel
theorem sc_check_machine : FnScope N_check_machine ["machine"] (defScope s_check_machine) := ⟨rfl, rfl, rfl, by decide +kernel, rfl, by decide +kernel, by decide +kernel⟩
theorem c_check_machine_steps : okSs G_check_machine_steps (defScope s_check_machine_steps) (defScope s_check_machine_steps) N_check_machine_steps false b_check_machine_steps (defBody s_check_machine_steps) = true := by decide +kernel
theorem sc_check_machine_steps : FnScope N_check_machine_steps ["machine", "steps"] (defScope s_check_machine_steps) := ⟨rfl, rfl, rfl, by decide +kernel, rfl, by decide +kernel, by decide +kernel⟩
theorem c_stepped : okSs G_stepped (defScope s_stepped) (defScope s_stepped) N_stepped false b_stepped (defBody s_stepped) = true := by decide +kernel
theorem sc_stepped : FnScope N_stepped ["machine", "stand"] (defScope s_stepped) := ⟨rfl, rfl, rfl, by decide +kernel, rfl, by decide +kernel, by decide +kernel⟩
theorem c_stands_up_to : okSs G_stands_up_to (defScope s_stands_up_to) (defScope s_stands_up_to) N_stands_up_to false b_stands_up_to (defBody s_stands_up_to) = true := by decide +kernel
theorem sc_stands_up_to : FnScope N_stands_up_to ["machine", "steps"] (defScope s_stands_up_to) := ⟨rfl, rfl, rfl, by decide +kernel, rfl, by decide +kernel, by decide +kernel⟩
theorem c_stand_after : okSs G_stand_after (defScope s_stand_after) (defScope s_stand_after) N_stand_after false b_stand_after (defBody s_stand_after) = true := by decide +kernel
theorem sc_stand_after : FnScope N_stand_after ["machine", "steps"] (defScope s_stand_after) := ⟨rfl, rfl, rfl, by decide +kernel, rfl, by decide +kernel, by decide +kernel⟩
theorem c_bounds_of_way : okSs G_bounds_of_way (defScope s_bounds_of_way) (defScope s_bounds_of_way) N_bounds_of_way false b_bounds_of_way (defBody s_bounds_of_way) = true := by decide +kernel
theorem sc_bounds_of_way : FnScope N_bounds_of_way ["machine", "steps"] (defScope s_bounds_of_way) := ⟨rfl, rfl, rfl, by decide +kernel, rfl, by decide +kernel, by decide +kernel⟩
theorem c_states_taken : okSs G_states_taken (defScope s_states_taken) (defScope s_states_taken) N_states_taken false b_states_taken (defBody s_states_taken) = true := by decide +kernel
theorem sc_states_taken : FnScope N_states_taken ["machine", "steps"] (defScope s_states_taken) := ⟨rfl, rfl, rfl, by decide +kernel, rfl, by decide +kernel, by decide +kernel⟩
theorem c__law_hand : okSs G__law_hand (defScope s__law_hand) (defScope s__law_hand) N__law_hand false b__law_hand (defBody s__law_hand) = true := by decide +kernel
theorem sc__law_hand : FnScope N__law_hand ["script"] (defScope s__law_hand) := ⟨rfl, rfl, rfl, by decide +kernel, rfl, by decide +kernel, by decide +kernel⟩
theorem c__law_draw : okSs G__law_draw (defScope s__law_draw) (defScope s__law_draw) N__law_draw true b__law_draw (defBody s__law_draw) = true := by decide +kernel
theorem sc__law_draw : FnScope N__law_draw ["hand", "many"] (defScope s__law_draw) := ⟨rfl, rfl, rfl, by decide +kernel, rfl, by decide +kernel, by decide +kernel⟩
theorem c__law_any : okSs G__law_any (defScope s__law_any) (defScope s__law_any) N__law_any true b__law_any (defBody s__law_any) = true := by decide +kernel
theorem sc__law_any : FnScope N__law_any ["hand", "some"] (defScope s__law_any) := ⟨rfl, rfl, rfl, by decide +kernel, rfl, by decide +kernel, by decide +kernel⟩
theorem c__law_is (k : Nat) : okSs (G__law_is k) (defScope s__law_is) (defScope s__law_is) N__law_is false b__law_is (defBody s__law_is) = true := by cases k <;> rfl
theorem sc__law_is : FnScope N__law_is ["given_so", "due"] (defScope s__law_is) := ⟨rfl, rfl, rfl, by decide +kernel, rfl, by decide +kernel, by decide +kernel⟩
theorem c__law_machine : okSs G__law_machine (defScope s__law_machine) (defScope s__law_machine) N__law_machine true b__law_machine (defBody s__law_machine) = true := by decide +kernel
theorem sc__law_machine : FnScope N__law_machine ["hand", "most"] (defScope s__law_machine) := ⟨rfl, rfl, rfl, by decide +kernel, rfl, by decide +kernel, by decide +kernel⟩
theorem c__law_stands : okSs G__law_stands (defScope s__law_stands) (defScope s__law_stands) N__law_stands false b__law_stands (defBody s__law_stands) = true := by decide +kernel
theorem sc__law_stands : FnScope N__law_stands ["machine", "most"] (defScope s__law_stands) := ⟨rfl, rfl, rfl, by decide +kernel, rfl, by decide +kernel, by decide +kernel⟩
theorem c__law_is_machine : okSs G__law_is_machine (defScope s__law_is_machine) (defScope s__law_is_machine) N__law_is_machine false b__law_is_machine (defBody s__law_is_machine) = true := by decide +kernel
theorem sc__law_is_machine : FnScope N__law_is_machine ["thing"] (defScope s__law_is_machine) := ⟨rfl, rfl, rfl, by decide +kernel, rfl, by decide +kernel, by decide +kernel⟩
theorem c__law_bent : okSs G__law_bent (defScope s__law_bent) (defScope s__law_bent) N__law_bent true b__law_bent (defBody s__law_bent) = true := by decide +kernel
theorem sc__law_bent : FnScope N__law_bent ["hand", "machine"] (defScope s__law_bent) := ⟨rfl, rfl, rfl, by decide +kernel, rfl, by decide +kernel, by decide +kernel⟩
theorem c__law_case_right : okSs G__law_case_right (defScope s__law_case_right) (defScope s__law_case_right) N__law_case_right true b__law_case_right (defBody s__law_case_right) = true := by decide +kernel
theorem sc__law_case_right : FnScope N__law_case_right ["hand"] (defScope s__law_case_right) := ⟨rfl, rfl, rfl, by decide +kernel, rfl, by decide +kernel, by decide +kernel⟩
theorem c_law : okSs G_law (defScope s_law) (defScope s_law) N_law false b_law (defBody s_law) = true := by decide +kernel
theorem sc_law : FnScope N_law ["script"] (defScope s_law) := ⟨rfl, rfl, rfl, by decide +kernel, rfl, by decide +kernel, by decide +kernel⟩
/-! ### what they keep -/
section
variable {P : Program} {w : World} {K : Frag} {mg : Str → Option Value} {base : Heap}
/-- the names of the module -/
structure Top (K : Frag) (mg : Str → Option Value) : Prop where
  blt : ∀ x ∈ bNames, mg x = none
  sm : List.lookup sysModules K = none
  v_MOST_STATES : ∃ u, mg "MOST_STATES" = some u ∧ RelV (litV (.int 3)) u
  v_MOST_RUN_STEPS : ∃ u, mg "MOST_RUN_STEPS" = some u ∧ RelV (litV (.int 500)) u
  x_NoMachine : HasExn K mg "NoMachine"
  x_NoNumber : HasExn K mg "NoNumber"
  cat__law_word : Cat K mg ["NoMachine", "NoNumber"]
  f__law_word : ∃ f fd, mg "_law_word" = some (.ref f) ∧ Fun K "_law_word" "_law_word" s__law_word f fd
  f_is_integer : ∃ f fd, mg "is_integer" = some (.ref f) ∧ Fun K "is_integer" "is_integer" s_is_integer f fd
  f_is_within : ∃ f fd, mg "is_within" = some (.ref f) ∧ Fun K "is_within" "is_within" s_is_within f fd
  f_is_sized : ∃ f fd, mg "is_sized" = some (.ref f) ∧ Fun K "is_sized" "is_sized" s_is_sized f fd
  f_is_rule : ∃ f fd, mg "is_rule" = some (.ref f) ∧ Fun K "is_rule" "is_rule" s_is_rule f fd
  f_is_machine : ∃ f fd, mg "is_machine" = some (.ref f) ∧ Fun K "is_machine" "is_machine" s_is_machine f fd
  f_check_machine : ∃ f fd, mg "check_machine" = some (.ref f) ∧ Fun K "check_machine" "check_machine" s_check_machine f fd
  f_check_machine_steps : ∃ f fd, mg "check_machine_steps" = some (.ref f) ∧ Fun K "check_machine_steps" "check_machine_steps" s_check_machine_steps f fd
  f_stepped : ∃ f fd, mg "stepped" = some (.ref f) ∧ Fun K "stepped" "stepped" s_stepped f fd
  f_stands_up_to : ∃ f fd, mg "stands_up_to" = some (.ref f) ∧ Fun K "stands_up_to" "stands_up_to" s_stands_up_to f fd
  f_stand_after : ∃ f fd, mg "stand_after" = some (.ref f) ∧ Fun K "stand_after" "stand_after" s_stand_after f fd
  f_bounds_of_way : ∃ f fd, mg "bounds_of_way" = some (.ref f) ∧ Fun K "bounds_of_way" "bounds_of_way" s_bounds_of_way f fd
  f_states_taken : ∃ f fd, mg "states_taken" = some (.ref f) ∧ Fun K "states_taken" "states_taken" s_states_taken f fd
  f__law_hand : ∃ f fd, mg "_law_hand" = some (.ref f) ∧ Fun K "_law_hand" "_law_hand" s__law_hand f fd
  f__law_draw : ∃ f fd, mg "_law_draw" = some (.ref f) ∧ Fun K "_law_draw" "_law_draw" s__law_draw f fd
  f__law_any : ∃ f fd, mg "_law_any" = some (.ref f) ∧ Fun K "_law_any" "_law_any" s__law_any f fd
  f__law_is : ∃ f fd, mg "_law_is" = some (.ref f) ∧ Fun K "_law_is" "_law_is" s__law_is f fd
  f__law_machine : ∃ f fd, mg "_law_machine" = some (.ref f) ∧ Fun K "_law_machine" "_law_machine" s__law_machine f fd
  f__law_stands : ∃ f fd, mg "_law_stands" = some (.ref f) ∧ Fun K "_law_stands" "_law_stands" s__law_stands f fd
  f__law_is_machine : ∃ f fd, mg "_law_is_machine" = some (.ref f) ∧ Fun K "_law_is_machine" "_law_is_machine" s__law_is_machine f fd
  f__law_bent : ∃ f fd, mg "_law_bent" = some (.ref f) ∧ Fun K "_law_bent" "_law_bent" s__law_bent f fd
  f__law_case_right : ∃ f fd, mg "_law_case_right" = some (.ref f) ∧ Fun K "_law_case_right" "_law_case_right" s__law_case_right f fd
  f_law : ∃ f fd, mg "law" = some (.ref f) ∧ Fun K "law" "law" s_law f fd
  t_law : ∀ f, mg "law" = some (.ref f) → ∀ oc od osl kV doc pm an cdv ct, List.lookup f K = some ⟨oc, od, .func (PySem.W.fnOf "law" "law" (defArgs s_law) (defBody s_law) (defScope s_law) .none kV doc pm an cdv ct), osl⟩ → cdv = .ref 191
/-- the tables of those that make lambdas -/
def Tabl (base : Heap) (mg : Str → Option Value) : Prop := ∀ t ∈ ([(191, 189)] : List (Addr × Addr)), LamX.TabB base mg t.1 t.2
theorem hw__law_word (T : Top K mg) : HasWd P w K mg base w__law_word := by
  obtain ⟨f, fd, m, F⟩ := T.f__law_word
  have B := F.binds (ps := ["call"]) fun _ _ _ _ _ _ us hl => match us, hl with | [_], _ => rfl
  obtain ⟨oc, od, kV, doc, pm, an, cdv, ct, osl, rfl, lk, hcd⟩ := F.ex
  exact ⟨f, "call", defArgs s__law_word, defBody s__law_word, defScope s__law_word, .none, kV, doc, pm, cdv, ct, oc, an, od, osl, N__law_word, m, F.kp, lk, hcd, B, sc__law_word, rfl, .inl (by decide +kernel), by decide, by decide, word_gives T.cat__law_word rfl (by decide) cw__law_word⟩
theorem o_is_integer (T : Top K mg) {f : Addr} {fd : FuncData} (F : Fun K "is_integer" "is_integer" s_is_integer f fd) : FnG P w K mg base (L2.CX P w) 1 f fd ["thing"] (spOf K mg g_is_integer) :=
  fn_ok F sc_is_integer rfl (fun _ => by decide) ⟨T.blt, fns_nil, cst_nil, T.sm, exn_nil, wds_nil⟩ _ (Nat.le_refl _) (fun z => absurd rfl z) c_is_integer
theorem h_is_integer (T : Top K mg) : HasFn P w K mg base 1 g_is_integer := by
  obtain ⟨f, fd, m, F⟩ := T.f_is_integer
  exact ⟨f, fd, ["thing"], m, F.kp, F.binds fun _ _ _ _ _ _ us hl => match us, hl with | [_], _ => rfl, o_is_integer T F⟩
theorem o_is_within (T : Top K mg) {f : Addr} {fd : FuncData} (F : Fun K "is_within" "is_within" s_is_within f fd) : FnG P w K mg base (L2.CX P w) 2 f fd ["thing", "least", "most"] (spOf K mg g_is_within) :=
  fn_ok F sc_is_within rfl (fun _ => by decide) ⟨T.blt, fns_cons ((h_is_integer T).mono (by decide)) (fns_nil), cst_nil, T.sm, exn_nil, wds_nil⟩ _ (Nat.le_refl _) (fun z => absurd rfl z) c_is_within
theorem h_is_within (T : Top K mg) : HasFn P w K mg base 2 g_is_within := by
  obtain ⟨f, fd, m, F⟩ := T.f_is_within
  exact ⟨f, fd, ["thing", "least", "most"], m, F.kp, F.binds fun _ _ _ _ _ _ us hl => match us, hl with | [_, _, _], _ => rfl, o_is_within T F⟩
theorem o_is_sized (T : Top K mg) {f : Addr} {fd : FuncData} (F : Fun K "is_sized" "is_sized" s_is_sized f fd) : FnG P w K mg base (L2.CX P w) 1 f fd ["thing", "least", "most"] (spOf K mg g_is_sized) :=
  fn_ok F sc_is_sized rfl (fun _ => by decide) ⟨T.blt, fns_nil, cst_nil, T.sm, exn_nil, wds_nil⟩ _ (Nat.le_refl _) (fun z => absurd rfl z) c_is_sized
theorem h_is_sized (T : Top K mg) : HasFn P w K mg base 1 g_is_sized := by
  obtain ⟨f, fd, m, F⟩ := T.f_is_sized
  exact ⟨f, fd, ["thing", "least", "most"], m, F.kp, F.binds fun _ _ _ _ _ _ us hl => match us, hl with | [_, _, _], _ => rfl, o_is_sized T F⟩
theorem o_is_rule (T : Top K mg) {f : Addr} {fd : FuncData} (F : Fun K "is_rule" "is_rule" s_is_rule f fd) : FnG P w K mg base (L2.CX P w) 3 f fd ["many", "thing"] (spOf K mg g_is_rule) :=
  fn_ok F sc_is_rule rfl (fun _ => by decide) ⟨T.blt, fns_cons ((h_is_within T).mono (by decide)) (fns_cons ((h_is_sized T).mono (by decide)) (fns_nil)), cst_nil, T.sm, exn_nil, wds_nil⟩ _ (Nat.le_refl _) (fun z => absurd rfl z) c_is_rule
theorem h_is_rule (T : Top K mg) : HasFn P w K mg base 3 g_is_rule := by
  obtain ⟨f, fd, m, F⟩ := T.f_is_rule
  exact ⟨f, fd, ["many", "thing"], m, F.kp, F.binds fun _ _ _ _ _ _ us hl => match us, hl with | [_, _], _ => rfl, o_is_rule T F⟩
theorem o_is_machine (T : Top K mg) {f : Addr} {fd : FuncData} (F : Fun K "is_machine" "is_machine" s_is_machine f fd) : FnG P w K mg base (L2.CX P w) 4 f fd ["thing"] (spOf K mg g_is_machine) :=
  fn_ok F sc_is_machine rfl (fun _ => by decide) ⟨T.blt, fns_cons ((h_is_rule T).mono (by decide)) (fns_cons ((h_is_sized T).mono (by decide)) (fns_nil)), cst_cons T.v_MOST_STATES (cst_nil), T.sm, exn_nil, wds_nil⟩ _ (Nat.le_refl _) (fun z => absurd rfl z) c_is_machine
theorem h_is_machine (T : Top K mg) : HasFn P w K mg base 4 g_is_machine := by
  obtain ⟨f, fd, m, F⟩ := T.f_is_machine
  exact ⟨f, fd, ["thing"], m, F.kp, F.binds fun _ _ _ _ _ _ us hl => match us, hl with | [_], _ => rfl, o_is_machine T F⟩
theorem o_check_machine (T : Top K mg) {f : Addr} {fd : FuncData} (F : Fun K "check_machine" "check_machine" s_check_machine f fd) : FnG P w K mg base (L2.CX P w) 5 f fd ["machine"] (spOf K mg g_check_machine) :=
  fn_ok F sc_check_machine rfl (fun _ => by decide) ⟨T.blt, fns_cons ((h_is_machine T).mono (by decide)) (fns_nil), cst_nil, T.sm, exn_cons T.x_NoMachine (exn_nil), wds_nil⟩ _ (Nat.le_refl _) (fun z => absurd rfl z) c_check_machine
theorem h_check_machine (T : Top K mg) : HasFn P w K mg base 5 g_check_machine := by
  obtain ⟨f, fd, m, F⟩ := T.f_check_machine
  exact ⟨f, fd, ["machine"], m, F.kp, F.binds fun _ _ _ _ _ _ us hl => match us, hl with | [_], _ => rfl, o_check_machine T F⟩
theorem o_check_machine_steps (T : Top K mg) {f : Addr} {fd : FuncData} (F : Fun K "check_machine_steps" "check_machine_steps" s_check_machine_steps f fd) : FnG P w K mg base (L2.CX P w) 6 f fd ["machine", "steps"] (spOf K mg g_check_machine_steps) :=
  fn_ok F sc_check_machine_steps rfl (fun _ => by decide) ⟨T.blt, fns_cons ((h_is_within T).mono (by decide)) (fns_cons ((h_check_machine T).mono (by decide)) (fns_nil)), cst_cons T.v_MOST_RUN_STEPS (cst_nil), T.sm, exn_cons T.x_NoNumber (exn_nil), wds_nil⟩ _ (Nat.le_refl _) (fun z => absurd rfl z) c_check_machine_steps
theorem h_check_machine_steps (T : Top K mg) : HasFn P w K mg base 6 g_check_machine_steps := by
  obtain ⟨f, fd, m, F⟩ := T.f_check_machine_steps
  exact ⟨f, fd, ["machine", "steps"], m, F.kp, F.binds fun _ _ _ _ _ _ us hl => match us, hl with | [_, _], _ => rfl, o_check_machine_steps T F⟩
theorem o_stepped (T : Top K mg) {f : Addr} {fd : FuncData} (F : Fun K "stepped" "stepped" s_stepped f fd) : FnG P w K mg base (L2.CX P w) 1 f fd ["machine", "stand"] (spOf K mg g_stepped) :=
  fn_ok F sc_stepped rfl (fun _ => by decide) ⟨T.blt, fns_nil, cst_nil, T.sm, exn_nil, wds_nil⟩ _ (Nat.le_refl _) (fun z => absurd rfl z) c_stepped
theorem h_stepped (T : Top K mg) : HasFn P w K mg base 1 g_stepped := by
  obtain ⟨f, fd, m, F⟩ := T.f_stepped
  exact ⟨f, fd, ["machine", "stand"], m, F.kp, F.binds fun _ _ _ _ _ _ us hl => match us, hl with | [_, _], _ => rfl, o_stepped T F⟩
theorem o_stands_up_to (T : Top K mg) {f : Addr} {fd : FuncData} (F : Fun K "stands_up_to" "stands_up_to" s_stands_up_to f fd) : FnG P w K mg base (L2.CX P w) 2 f fd ["machine", "steps"] (spOf K mg g_stands_up_to) :=
  fn_ok F sc_stands_up_to rfl (fun _ => by decide) ⟨T.blt, fns_cons ((h_stepped T).mono (by decide)) (fns_nil), cst_nil, T.sm, exn_nil, wds_nil⟩ _ (Nat.le_refl _) (fun z => absurd rfl z) c_stands_up_to
theorem h_stands_up_to (T : Top K mg) : HasFn P w K mg base 2 g_stands_up_to := by
  obtain ⟨f, fd, m, F⟩ := T.f_stands_up_to
  exact ⟨f, fd, ["machine", "steps"], m, F.kp, F.binds fun _ _ _ _ _ _ us hl => match us, hl with | [_, _], _ => rfl, o_stands_up_to T F⟩
theorem o_stand_after (T : Top K mg) {f : Addr} {fd : FuncData} (F : Fun K "stand_after" "stand_after" s_stand_after f fd) : FnG P w K mg base (L2.CX P w) 7 f fd ["machine", "steps"] (spOf K mg g_stand_after) :=
  fn_ok F sc_stand_after rfl (fun _ => by decide) ⟨T.blt, fns_cons ((h_stands_up_to T).mono (by decide)) (fns_cons ((h_check_machine_steps T).mono (by decide)) (fns_nil)), cst_nil, T.sm, exn_nil, wds_nil⟩ _ (Nat.le_refl _) (fun z => absurd rfl z) c_stand_after
theorem h_stand_after (T : Top K mg) : HasFn P w K mg base 7 g_stand_after := by
  obtain ⟨f, fd, m, F⟩ := T.f_stand_after
  exact ⟨f, fd, ["machine", "steps"], m, F.kp, F.binds fun _ _ _ _ _ _ us hl => match us, hl with | [_, _], _ => rfl, o_stand_after T F⟩
theorem o_bounds_of_way (T : Top K mg) {f : Addr} {fd : FuncData} (F : Fun K "bounds_of_way" "bounds_of_way" s_bounds_of_way f fd) : FnG P w K mg base (L2.CX P w) 7 f fd ["machine", "steps"] (spOf K mg g_bounds_of_way) :=
  fn_ok F sc_bounds_of_way rfl (fun _ => by decide) ⟨T.blt, fns_cons ((h_stands_up_to T).mono (by decide)) (fns_cons ((h_check_machine_steps T).mono (by decide)) (fns_nil)), cst_nil, T.sm, exn_nil, wds_nil⟩ _ (Nat.le_refl _) (fun z => absurd rfl z) c_bounds_of_way
theorem h_bounds_of_way (T : Top K mg) : HasFn P w K mg base 7 g_bounds_of_way := by
  obtain ⟨f, fd, m, F⟩ := T.f_bounds_of_way
  exact ⟨f, fd, ["machine", "steps"], m, F.kp, F.binds fun _ _ _ _ _ _ us hl => match us, hl with | [_, _], _ => rfl, o_bounds_of_way T F⟩
theorem o_states_taken (T : Top K mg) {f : Addr} {fd : FuncData} (F : Fun K "states_taken" "states_taken" s_states_taken f fd) : FnG P w K mg base (L2.CX P w) 7 f fd ["machine", "steps"] (spOf K mg g_states_taken) :=
  fn_ok F sc_states_taken rfl (fun _ => by decide) ⟨T.blt, fns_cons ((h_stands_up_to T).mono (by decide)) (fns_cons ((h_check_machine_steps T).mono (by decide)) (fns_nil)), cst_nil, T.sm, exn_nil, wds_nil⟩ _ (Nat.le_refl _) (fun z => absurd rfl z) c_states_taken
theorem h_states_taken (T : Top K mg) : HasFn P w K mg base 7 g_states_taken := by
  obtain ⟨f, fd, m, F⟩ := T.f_states_taken
  exact ⟨f, fd, ["machine", "steps"], m, F.kp, F.binds fun _ _ _ _ _ _ us hl => match us, hl with | [_, _], _ => rfl, o_states_taken T F⟩
theorem o__law_hand (T : Top K mg) {f : Addr} {fd : FuncData} (F : Fun K "_law_hand" "_law_hand" s__law_hand f fd) : FnG P w K mg base (L2.CX P w) 1 f fd ["script"] (spOf K mg g__law_hand) :=
  fn_ok F sc__law_hand rfl (fun _ => by decide) ⟨T.blt, fns_nil, cst_nil, T.sm, exn_nil, wds_nil⟩ _ (Nat.le_refl _) (fun z => absurd rfl z) c__law_hand
theorem h__law_hand (T : Top K mg) : HasFn P w K mg base 1 g__law_hand := by
  obtain ⟨f, fd, m, F⟩ := T.f__law_hand
  exact ⟨f, fd, ["script"], m, F.kp, F.binds fun _ _ _ _ _ _ us hl => match us, hl with | [_], _ => rfl, o__law_hand T F⟩
theorem o__law_draw (T : Top K mg) {f : Addr} {fd : FuncData} (F : Fun K "_law_draw" "_law_draw" s__law_draw f fd) : FnG P w K mg base (L2.CX P w) 1 f fd ["hand", "many"] (spOf K mg g__law_draw) :=
  fn_ok F sc__law_draw rfl (fun _ => by decide) ⟨T.blt, fns_nil, cst_nil, T.sm, exn_nil, wds_nil⟩ _ (Nat.le_refl _) (fun z => absurd rfl z) c__law_draw
theorem h__law_draw (T : Top K mg) : HasFn P w K mg base 1 g__law_draw := by
  obtain ⟨f, fd, m, F⟩ := T.f__law_draw
  exact ⟨f, fd, ["hand", "many"], m, F.kp, F.binds fun _ _ _ _ _ _ us hl => match us, hl with | [_, _], _ => rfl, o__law_draw T F⟩
theorem o__law_any (T : Top K mg) {f : Addr} {fd : FuncData} (F : Fun K "_law_any" "_law_any" s__law_any f fd) : FnG P w K mg base (L2.CX P w) 2 f fd ["hand", "some"] (spOf K mg g__law_any) :=
  fn_ok F sc__law_any rfl (fun _ => by decide) ⟨T.blt, fns_cons ((h__law_draw T).mono (by decide)) (fns_nil), cst_nil, T.sm, exn_nil, wds_nil⟩ _ (Nat.le_refl _) (fun z => absurd rfl z) c__law_any
theorem h__law_any (T : Top K mg) : HasFn P w K mg base 2 g__law_any := by
  obtain ⟨f, fd, m, F⟩ := T.f__law_any
  exact ⟨f, fd, ["hand", "some"], m, F.kp, F.binds fun _ _ _ _ _ _ us hl => match us, hl with | [_, _], _ => rfl, o__law_any T F⟩
theorem hr__law_is (T : Top K mg) : ∀ k : Nat, HasFn P w K mg base (0 + k) (gr__law_is k)
  | 0 => by
    obtain ⟨f, fd, m, F⟩ := T.f__law_is
    refine ⟨f, fd, ["given_so", "due"], m, F.kp, F.binds fun _ _ _ _ _ _ us hl => match us, hl with | [_, _], _ => rfl, ⟨fun vs H Q E h => h.1, fun A out s H args us vs Q E gd room e0 bt rel sp => ?_⟩⟩
    obtain ⟨_, F0, _, _, _, h⟩ := sp
    rcases h with ⟨_, ds, c, fs, _, e, _⟩ | ⟨_, _, ds, r, _, e, _⟩ | ⟨_, _, ds, es, u, _, e, _⟩ | ⟨_, l, ws, xs, es, ds, r, _, _, _, _, _, _, e, _⟩ <;> cases e
  | k + 1 => by
    have ih := hr__law_is T k
    obtain ⟨f, fd, m, F⟩ := T.f__law_is
    exact ⟨f, fd, ["given_so", "due"], m, F.kp, F.binds fun _ _ _ _ _ _ us hl => match us, hl with | [_, _], _ => rfl, fn_ok (G := G__law_is k) F sc__law_is rfl (fun z => by cases z) ⟨T.blt, fns_cons (ih) (fns_nil), cst_nil, T.sm, exn_nil, fun _ _ z => by simp [G__law_is] at z⟩ (0 + k) (Nat.le_refl _) (fun z => absurd rfl z) (c__law_is k)⟩
theorem h__law_is (T : Top K mg) : HasFn P w K mg base 8 g__law_is := (hr__law_is T 8).mono (by decide)
theorem o__law_machine (T : Top K mg) {f : Addr} {fd : FuncData} (F : Fun K "_law_machine" "_law_machine" s__law_machine f fd) : FnG P w K mg base (L2.CX P w) 3 f fd ["hand", "most"] (spOf K mg g__law_machine) :=
  fn_ok F sc__law_machine rfl (fun _ => by decide) ⟨T.blt, fns_cons ((h__law_any T).mono (by decide)) (fns_cons ((h__law_draw T).mono (by decide)) (fns_nil)), cst_nil, T.sm, exn_nil, wds_nil⟩ _ (Nat.le_refl _) (fun z => absurd rfl z) c__law_machine
theorem h__law_machine (T : Top K mg) : HasFn P w K mg base 3 g__law_machine := by
  obtain ⟨f, fd, m, F⟩ := T.f__law_machine
  exact ⟨f, fd, ["hand", "most"], m, F.kp, F.binds fun _ _ _ _ _ _ us hl => match us, hl with | [_, _], _ => rfl, o__law_machine T F⟩
theorem o__law_stands (T : Top K mg) {f : Addr} {fd : FuncData} (F : Fun K "_law_stands" "_law_stands" s__law_stands f fd) : FnG P w K mg base (L2.CX P w) 1 f fd ["machine", "most"] (spOf K mg g__law_stands) :=
  fn_ok F sc__law_stands rfl (fun _ => by decide) ⟨T.blt, fns_nil, cst_nil, T.sm, exn_nil, wds_nil⟩ _ (Nat.le_refl _) (fun z => absurd rfl z) c__law_stands
theorem h__law_stands (T : Top K mg) : HasFn P w K mg base 1 g__law_stands := by
  obtain ⟨f, fd, m, F⟩ := T.f__law_stands
  exact ⟨f, fd, ["machine", "most"], m, F.kp, F.binds fun _ _ _ _ _ _ us hl => match us, hl with | [_, _], _ => rfl, o__law_stands T F⟩
theorem o__law_is_machine (T : Top K mg) {f : Addr} {fd : FuncData} (F : Fun K "_law_is_machine" "_law_is_machine" s__law_is_machine f fd) : FnG P w K mg base (L2.CX P w) 1 f fd ["thing"] (spOf K mg g__law_is_machine) :=
  fn_ok F sc__law_is_machine rfl (fun _ => by decide) ⟨T.blt, fns_nil, cst_nil, T.sm, exn_nil, wds_nil⟩ _ (Nat.le_refl _) (fun z => absurd rfl z) c__law_is_machine
theorem h__law_is_machine (T : Top K mg) : HasFn P w K mg base 1 g__law_is_machine := by
  obtain ⟨f, fd, m, F⟩ := T.f__law_is_machine
  exact ⟨f, fd, ["thing"], m, F.kp, F.binds fun _ _ _ _ _ _ us hl => match us, hl with | [_], _ => rfl, o__law_is_machine T F⟩
theorem o__law_bent (T : Top K mg) {f : Addr} {fd : FuncData} (F : Fun K "_law_bent" "_law_bent" s__law_bent f fd) : FnG P w K mg base (L2.CX P w) 3 f fd ["hand", "machine"] (spOf K mg g__law_bent) :=
  fn_ok F sc__law_bent rfl (fun _ => by decide) ⟨T.blt, fns_cons ((h__law_any T).mono (by decide)) (fns_cons ((h__law_draw T).mono (by decide)) (fns_nil)), cst_nil, T.sm, exn_nil, wds_nil⟩ _ (Nat.le_refl _) (fun z => absurd rfl z) c__law_bent
theorem h__law_bent (T : Top K mg) : HasFn P w K mg base 3 g__law_bent := by
  obtain ⟨f, fd, m, F⟩ := T.f__law_bent
  exact ⟨f, fd, ["hand", "machine"], m, F.kp, F.binds fun _ _ _ _ _ _ us hl => match us, hl with | [_, _], _ => rfl, o__law_bent T F⟩
theorem o__law_case_right (T : Top K mg) {f : Addr} {fd : FuncData} (F : Fun K "_law_case_right" "_law_case_right" s__law_case_right f fd) : FnG P w K mg base (L2.CX P w) 9 f fd ["hand"] (spOf K mg g__law_case_right) :=
  fn_ok F sc__law_case_right rfl (fun _ => by decide) ⟨T.blt, fns_cons ((h__law_bent T).mono (by decide)) (fns_cons ((h__law_is T).mono (by decide)) (fns_cons ((h__law_is_machine T).mono (by decide)) (fns_cons ((h_is_machine T).mono (by decide)) (fns_cons ((h_stand_after T).mono (by decide)) (fns_cons ((h_states_taken T).mono (by decide)) (fns_cons ((h_bounds_of_way T).mono (by decide)) (fns_cons ((h__law_stands T).mono (by decide)) (fns_cons ((h__law_draw T).mono (by decide)) (fns_cons ((h__law_any T).mono (by decide)) (fns_cons ((h__law_machine T).mono (by decide)) (fns_nil))))))))))), cst_nil, T.sm, exn_nil, wds_nil⟩ _ (Nat.le_refl _) (fun z => absurd rfl z) c__law_case_right
theorem h__law_case_right (T : Top K mg) : HasFn P w K mg base 9 g__law_case_right := by
  obtain ⟨f, fd, m, F⟩ := T.f__law_case_right
  exact ⟨f, fd, ["hand"], m, F.kp, F.binds fun _ _ _ _ _ _ us hl => match us, hl with | [_], _ => rfl, o__law_case_right T F⟩
theorem o_law (T : Top K mg) (B : Tabl base mg) {f : Addr} {fd : FuncData} (hm : mg "law" = some (.ref f)) (F : Fun K "law" "law" s_law f fd) : FnG P w K mg base (L2.CX P w) 12 f fd ["script"] (spOf K mg g_law) :=
  fn_ok (k := 9) F sc_law rfl (fun _ => by decide) ⟨T.blt, fns_cons ((h__law_case_right T).mono (by decide)) (fns_cons ((h_is_machine T).mono (by decide)) (fns_cons ((h_states_taken T).mono (by decide)) (fns_cons ((h_bounds_of_way T).mono (by decide)) (fns_cons ((h_stand_after T).mono (by decide)) (fns_cons ((h__law_any T).mono (by decide)) (fns_cons ((h__law_is T).mono (by decide)) (fns_cons ((h__law_hand T).mono (by decide)) (fns_nil)))))))), cst_nil, T.sm, exn_nil, wds_cons (hw__law_word T) (wds_nil)⟩ 11 (by decide) (fun _ => ⟨by decide, 191, 189, fun oc od osl kV doc pm an cdv ct lk => T.t_law f hm oc od osl kV doc pm an cdv ct lk, B _ List.mem_cons_self, by decide, by decide⟩) c_law
theorem h_law (T : Top K mg) (B : Tabl base mg) : HasFn P w K mg base 12 g_law := by
  obtain ⟨f, fd, m, F⟩ := T.f_law
  exact ⟨f, fd, ["script"], m, F.kp, F.binds fun _ _ _ _ _ _ us hl => match us, hl with | [_], _ => rfl, o_law T B m F⟩
theorem law_all (T : Top K mg) {a : Addr} (h : mg "law" = some (.ref a)) : ∃ fd : FuncData, (∀ (s : Shared) (u : Value), BindsTo s fd ⟨[u], []⟩ [("script", u)]) ∧ ∀ base : Heap, K.In base → Tabl base mg → FnG P w K mg base (L2.CX P w) 12 a fd ["script"] (spOf K mg g_law) := by
  obtain ⟨f, fd, m, F⟩ := T.f_law
  obtain rfl : f = a := Value.ref.inj (Option.some.inj (m.symm.trans h))
  exact ⟨fd, fun_bind F fun _ _ _ _ _ _ _ => rfl, fun base _ B => o_law T B m F⟩
end
end K80

namespace L80
open PySem PySem.Spec PyProof.Rows L2 DP
/-- what a hand is: cells, the place in them, what is left of a big one, the state, the count -/
def Hd (h : List D) : Prop := ∃ (cs : List Int) (p b s c : Int), h = [.list (cs.map PyData.int), .int p, .int b, .int s, .int c] ∧ 0 ≤ p
/-- an answer that is a number below m, and a hand -/
def Drw (m : Int) (r : R (D × List D)) : Prop := ∃ (d : Int) (h : List D), r = .ok (.int d, h) ∧ 0 ≤ d ∧ d < m ∧ Hd h
theorem Drw.mod {m : Int} (hm : 0 < m) (x : Int) (cs : List Int) (p b s c : Int) (h3 : 0 ≤ p) : Drw m (.ok (.int (x % m), [.list (cs.map PyData.int), .int p, .int b, .int s, .int c])) :=
  ⟨_, _, rfl, Int.emod_nonneg _ (Int.ne_of_gt hm), Int.emod_lt_of_pos _ hm, cs, p, b, s, c, rfl, h3⟩
theorem sp_draw {h : List D} (hh : Hd h) (m : Int) (hm : 0 < m) (hm2 : m < 1073741824) : Drw m (g__law_draw.sem [.list h, .int m]) := by
  obtain ⟨cs, p, b, s, c, rfl, hp⟩ := hh
  rw [sem__law_draw]
  by_cases hb : b = 0
  · by_cases hl : p < cs.length
    · obtain ⟨z, hz⟩ : ∃ z, cs[p.toNat]? = some z := ⟨cs[p.toNat]'(by omega), List.getElem?_eq_getElem (by omega)⟩
      have ha : atI (cs.map PyData.int) p = some (.int z) := by
        have e := atI_n (cs.map PyData.int) p.toNat
        rw [Int.toNat_of_nonneg hp, List.getElem?_map, hz] at e
        exact e
      by_cases hz1 : 1000000000000000000 ≤ z
      · have hz2 : 0 < z := by omega
        simp [b__law_draw, slotsB, hm, hm2, hb, hl, ha, hz1, hz2]
        exact .mod hm _ _ _ _ _ _ (by omega)
      · simp [b__law_draw, slotsB, hm, hm2, hb, hl, ha, hz1]
        exact .mod hm _ _ _ _ _ _ (by omega)
    · simp [b__law_draw, slotsB, hm, hm2, hb, hl]
      exact .mod hm _ _ _ _ _ _ hp
  · by_cases hb2 : 0 < b
    · simp [b__law_draw, slotsB, hm, hm2, hb, hb2]
      exact .mod hm _ _ _ _ _ _ hp
    · simp [b__law_draw, slotsB, hm, hm2, hb, hb2]
      exact .mod hm _ _ _ _ _ _ hp
/-- one of some things -/
theorem sp_any {h : List D} (hh : Hd h) (xs : List D) (h0 : 0 < xs.length) (h1 : xs.length < 1000000) : ∃ x h', g__law_any.sem [.list h, .list xs] = .ok (x, h') ∧ x ∈ xs ∧ Hd h' := by
  rw [sem__law_any]
  obtain ⟨d, h', e, d0, d1, hh'⟩ := sp_draw hh (xs.length : Int) (by omega) (by omega)
  obtain ⟨x, hx⟩ : ∃ x, xs[d.toNat]? = some x := ⟨xs[d.toNat]'(by omega), List.getElem?_eq_getElem (by omega)⟩
  have ha : atI xs d = some x := by
    have e := atI_n xs d.toNat
    rw [Int.toNat_of_nonneg d0, hx] at e
    exact e
  refine ⟨x, h', ?_, List.mem_of_getElem? hx, hh'⟩
  simp [b__law_any, slotsB, e, ha]
theorem sp_hand (ns : List Int) (h : ns.length ≤ 63) : ∃ h', g__law_hand.sem [.list (ns.map PyData.int)] = .ok (.list h', []) ∧ Hd h' := by
  rw [sem__law_hand]
  have e1 : slcD (.list (ns.map PyData.int)) none (some 63) = .ok (.list (ns.map PyData.int)) := by
    have e : DP.cutD (ns.map PyData.int) none (some 63) = ns.map PyData.int := by
      unfold DP.cutD
      rw [HT.sIx_none, show HT.sIx (ns.map PyData.int).length (ns.map PyData.int).length (some 63) = min 63 (ns.map PyData.int).length from HT.sIx_nat _ _ 63]
      rw [List.drop_zero, List.take_of_length_le (by rw [List.length_map]; omega)]
    show R.ok (PyData.list (DP.cutD _ _ _)) = _
    rw [e]
  simp [b__law_hand, slots0, e1]
  rw [compLoop_ints (f := fun i : Int => PyData.int (if i < 0 then -i else i))]
  · simp
    exact ⟨ns.map (fun i : Int => if i < 0 then -i else i), 0, 0, _, 0, by rw [List.map_map]; rfl, by decide⟩
  · intro n hn
    simp
/-! ### the same, through and through -/
inductive Pl : Nat → D → Prop
  | flt {n : Nat} {d : D} : flat d = true → Pl n d
  | tup {n : Nat} {xs : List D} : (∀ x ∈ xs, Pl n x) → Pl (n + 1) (.tuple xs)
  | lst {n : Nat} {xs : List D} : (∀ x ∈ xs, Pl n x) → Pl (n + 1) (.list xs)
theorem zip_same (xs : List D) : List.zipWith (fun a b => PyData.tuple [a, b]) xs xs = xs.map fun x => PyData.tuple [x, x] := by
  induction xs with
  | nil => rfl
  | cons x r ih => rw [List.zipWith_cons_cons, ih]; rfl
theorem is_flat (k : Nat) (d : D) (h : flat d = true) : (gr__law_is (k + 1)).sem [d, d] = .ok (.bool true, []) := by
  rw [sem__law_is]
  cases d <;> first | (cases h; done) | skip
  all_goals simp [b__law_is, slots0, tyD, isN]
theorem is_items {k : Nat} {xs : List D} (ih : ∀ x ∈ xs, (gr__law_is (k + 1)).sem [x, x] = .ok (.bool true, [])) (t : Bool) : (gr__law_is (k + 2)).sem [if t = true then .tuple xs else .list xs, if t = true then .tuple xs else .list xs] = .ok (.bool true, []) := by
  rw [sem__law_is]
  cases t
  all_goals
    simp [b__law_is, slots0, tyD, isN, zip_same]
    rw [compLoop_ints (f := fun _ => PyData.bool true)]
    · simp
    · intro x hx
      simp [ih x hx]
theorem is_same (k : Nat) : ∀ d : D, Pl k d → (gr__law_is (k + 1)).sem [d, d] = .ok (.bool true, []) := by
  induction k with
  | zero =>
    intro d h
    cases h with
    | flt h => exact is_flat 0 d h
  | succ k ih =>
    intro d h
    cases h with
    | flt h => exact is_flat (k + 1) d h
    | tup h => exact is_items (fun x hx => ih x (h x hx)) true
    | lst h => exact is_items (fun x hx => ih x (h x hx)) false
theorem Pl.mono {j k : Nat} {d : D} (h : Pl j d) (l : j ≤ k) : Pl k d := by
  induction h generalizing k with
  | flt h => exact .flt h
  | tup _ ih => cases k with
    | zero => exact absurd l (by omega)
    | succ k => exact .tup fun x hx => ih x hx (by omega)
  | lst _ ih => cases k with
    | zero => exact absurd l (by omega)
    | succ k => exact .lst fun x hx => ih x hx (by omega)
theorem sp_is {d : D} (h : Pl 7 d) : g__law_is.sem [d, d] = .ok (.bool true, []) := is_same 7 d h
end L80

namespace Cbasics
open PySem PySem.Spec PyProof.Rows L2 DP
/-! ### numbers, tuples -/
def isI : D → Bool
  | .int _ => true
  | _ => false
def wi (a b : Int) : D → Bool
  | .int i => decide (a ≤ i) && decide (i ≤ b)
  | _ => false
theorem sp_is_integer (d : D) : g_is_integer.sem [d] = .ok (.bool (isI d), []) := by
  rw [sem_is_integer]
  cases d <;> simp [b_is_integer, slots0, tyD, isI]
theorem sp_is_within (d : D) (a b : Int) : g_is_within.sem [d, .int a, .int b] = .ok (.bool (wi a b d), []) := by
  rw [sem_is_within]
  cases d with
  | int i =>
    by_cases h : a ≤ i <;> simp [b_is_within, slots0, sp_is_integer, isI, wi, h]
  | _ => simp [b_is_within, slots0, sp_is_integer, isI, wi]
theorem sp_is_sized (d : D) (a b : Int) : g_is_sized.sem [d, .int a, .int b] = .ok (.bool (match d with | .tuple xs => decide (a ≤ (xs.length : Int)) && decide ((xs.length : Int) ≤ b) | _ => false), []) := by
  rw [sem_is_sized]
  cases d with
  | tuple xs => by_cases h : a ≤ (xs.length : Int) <;> simp [b_is_sized, slots0, tyD, h]
  | _ => simp [b_is_sized, slots0, tyD]
theorem sp_are_within (d : D) (a b : Int) : g_are_within.sem [d, .int a, .int b] = .ok (.bool (match d with | .tuple xs => xs.all (wi a b) | _ => false), []) := by
  rw [sem_are_within]
  cases d with
  | tuple xs =>
    simp [b_are_within, slots0, tyD]
    rw [compLoop_map (f := fun d => .bool (wi a b d))]
    · simp
    · intro d _
      simp [sp_is_within]
  | _ => simp [b_are_within, slots0, tyD]
/-! ### lots -/
def Fn : Nat → List (List Int)
  | 0 => [[]]
  | n + 1 => Fn n ++ (Fn n).map (· ++ [(n : Int)])
theorem Fn_len : ∀ n, (Fn n).length = 2 ^ n
  | 0 => rfl
  | n + 1 => by
    show (Fn n ++ (Fn n).map (· ++ [(n : Int)])).length = _
    rw [List.length_append, List.length_map, Fn_len n, Nat.pow_succ]; omega
theorem Fn_few : ∀ n, ∀ l ∈ Fn n, l.length ≤ n ∧ ∀ i ∈ l, 0 ≤ i ∧ i < n
  | 0, l, h => by
    rw [List.mem_singleton.mp h]
    exact ⟨Nat.le_refl _, fun i z => by cases z⟩
  | n + 1, l, h => by
    rcases List.mem_append.mp h with h | h
    · obtain ⟨h1, h2⟩ := Fn_few n l h
      exact ⟨by omega, fun i hi => by have := h2 i hi; omega⟩
    · obtain ⟨l0, h0, rfl⟩ := List.mem_map.mp h
      obtain ⟨h1, h2⟩ := Fn_few n l0 h0
      refine ⟨by rw [List.length_append]; simp; omega, fun i hi => ?_⟩
      rcases List.mem_append.mp hi with hi | hi
      · have := h2 i hi; omega
      · rw [List.mem_singleton.mp hi]; omega
def key (l : List Int) : Int × List Int := (l.length, l)
def Lots (n : Nat) : List (List Int) := (isort kLt ((Fn n).map key)).map (·.2)
theorem Lots_mem (n : Nat) (l : List Int) : l ∈ Lots n ↔ l ∈ Fn n := by
  unfold Lots
  rw [List.mem_map]
  constructor
  · rintro ⟨p, hp, rfl⟩
    obtain ⟨l0, h0, rfl⟩ := List.mem_map.mp ((isort_mem _ _ _).mp hp)
    exact h0
  · exact fun h => ⟨key l, (isort_mem _ _ _).mpr (List.mem_map.mpr ⟨l, h, rfl⟩), rfl⟩
theorem pow8 {n : Nat} (h : n ≤ 11) : 2 ^ n ≤ 2048 := Nat.pow_le_pow_right (by decide) h
theorem sp_all_lots (n : Nat) (h : n ≤ 11) : g_all_lots.sem [.int n] = .ok (.list ((Lots n).map lotD), []) := by
  rw [sem_all_lots]
  have hr := fun ρ => rngC_nat n ρ (by omega)
  simp [b_all_lots, slots0, hr]
  refine for_bind (P := fun r => finP r = _) (fun j ρ => ∃ c, ρ = [Cell.dat (.int n), .dat (.list ((Fn j).map lotD)), c, .un, .un] ∧ freeC (some c) = true) ⟨.un, rfl, rfl⟩ (fun j d hd ρ hJ => ?_) (fun ρ hJ => ?_)
  · obtain ⟨hj, rfl⟩ := rng_at hd
    obtain ⟨c, rfl, hc⟩ := hJ
    have hp := pow8 (n := j) (by omega)
    have hf : (Fn j).length + (Fn j).length ≤ 16777216 := by rw [Fn_len]; omega
    refine ⟨[Cell.dat (.int n), .dat (.list ((Fn (j + 1)).map lotD)), .dat (.int j), .un, .un], .inl ?_, _, rfl, rfl⟩
    simp [hc]
    rw [compLoop_ints (f := fun l => lotD (l ++ [(j : Int)]))]
    · simp [hf, Fn, Function.comp_def]
    · intro l hl
      have hl2 := (Fn_few j l hl).1
      have hl3 : l.length + 1 ≤ 16777216 := by omega
      simp [lotD, hl3]
  · obtain ⟨c, rfl, hc⟩ := hJ
    simp
    rw [compLoop_ints (f := fun l => kD' (key l))]
    · simp
      rw [show (Fn n).map (fun l => kD' (key l)) = ((Fn n).map key).map kD' from by rw [List.map_map]; rfl, sort_keys]
      simp
      rw [compLoop_ints (f := fun p => lotD p.2)]
      · simp [Lots, Function.comp_def]
      · intro p hp
        simp [kD', lotD]
    · intro l hl
      simp [lotD, kD', key]

end Cbasics

namespace Cbeavers
open PySem PySem.Spec PyProof.Rows L2 DP Cbasics
abbrev Rule := Int × Int × Option Nat
abbrev Mach := List (Rule × Rule)
abbrev Stand := Option Nat × Int × List Int
def stD : Option Nat → D
  | none => .none
  | some q => .int (q : Nat)
def ruleD (r : Rule) : D := .tuple [.int r.1, .int r.2.1, stD r.2.2]
def stateD (s : Rule × Rule) : D := .tuple [ruleD s.1, ruleD s.2]
def machD (M : Mach) : D := .tuple (M.map stateD)
def standD (s : Stand) : D := .tuple [stD s.1, .int s.2.1, .tuple (s.2.2.map PyData.int)]
def srt (l : List Int) : List Int := isort (fun a b : Int => decide (a < b)) l
def rl (M : Mach) (q : Nat) (b : Bool) : Rule := if b = true then (M.getD q ((0, 0, none), (0, 0, none))).2 else (M.getD q ((0, 0, none), (0, 0, none))).1
def step (M : Mach) (q : Nat) (p : Int) (L : List Int) : Stand :=
  ((rl M q (decide (p ∈ L))).2.2, p + (rl M q (decide (p ∈ L))).2.1, srt (L.filter (fun x => !decide (x = p)) ++ if (rl M q (decide (p ∈ L))).1 = 1 then [p] else []))
/-- the stand behind n steps, or the last one -/
def last (M : Mach) : Nat → Stand
  | 0 => (some 0, 0, [])
  | n + 1 => match (last M n).1 with
    | none => last M n
    | some q => step M q (last M n).2.1 (last M n).2.2
def trj (M : Mach) : Nat → List Stand
  | 0 => [(some 0, 0, [])]
  | n + 1 => match (last M n).1 with
    | none => trj M n
    | some _ => trj M n ++ [last M (n + 1)]
theorem last_none {M : Mach} {n : Nat} (e : (last M n).1 = none) : last M (n + 1) = last M n := by
  show (match (last M n).1 with | none => last M n | some q => step M q (last M n).2.1 (last M n).2.2) = _
  rw [e]
theorem last_some {M : Mach} {n q : Nat} (e : (last M n).1 = some q) : last M (n + 1) = step M q (last M n).2.1 (last M n).2.2 := by
  show (match (last M n).1 with | none => last M n | some q => step M q (last M n).2.1 (last M n).2.2) = _
  rw [e]
theorem trj_none {M : Mach} {n : Nat} (e : (last M n).1 = none) : trj M (n + 1) = trj M n := by
  show (match (last M n).1 with | none => trj M n | some _ => trj M n ++ [last M (n + 1)]) = _
  rw [e]
theorem trj_some {M : Mach} {n q : Nat} (e : (last M n).1 = some q) : trj M (n + 1) = trj M n ++ [last M (n + 1)] := by
  show (match (last M n).1 with | none => trj M n | some _ => trj M n ++ [last M (n + 1)]) = _
  rw [e]
def okR (n : Nat) (r : Rule) : Prop := (r.1 = 0 ∨ r.1 = 1) ∧ (r.2.1 = -1 ∨ r.2.1 = 1) ∧ ∀ q, r.2.2 = some q → q < n
structure Val (M : Mach) : Prop where
  lo : 1 ≤ M.length
  hi : M.length ≤ 3
  ok : ∀ s ∈ M, okR M.length s.1 ∧ okR M.length s.2
theorem rl_ok {M : Mach} (v : Val M) {q : Nat} (h : q < M.length) (b : Bool) : okR M.length (rl M q b) := by
  have e : M.getD q ((0, 0, none), (0, 0, none)) = M[q] := by rw [List.getD_eq_getElem?_getD, List.getElem?_eq_getElem h]; rfl
  unfold rl
  rw [e]
  have := v.ok M[q] (List.getElem_mem h)
  cases b
  · exact this.1
  · exact this.2
theorem last_in {M : Mach} (v : Val M) : ∀ n q, (last M n).1 = some q → q < M.length
  | 0, q, h => by
    obtain rfl : 0 = q := Option.some.inj h
    exact v.lo
  | n + 1, q, h => by
    cases e : (last M n).1 with
    | none => rw [last_none e, e] at h; cases h
    | some q0 =>
      rw [last_some e] at h
      exact (rl_ok v (last_in v n q0 e) _).2.2 q h
theorem last_stop {M : Mach} {j : Nat} (h : (last M j).1 = none) : ∀ i, last M (j + i) = last M j ∧ trj M (j + i) = trj M j
  | 0 => ⟨rfl, rfl⟩
  | i + 1 => by
    obtain ⟨h1, h2⟩ := last_stop h i
    have e : (last M (j + i)).1 = none := by rw [h1]; exact h
    rw [← Nat.add_assoc]
    exact ⟨(last_none e).trans h1, (trj_none e).trans h2⟩
theorem trj_last (M : Mach) : ∀ n, ∃ l, trj M n = l ++ [last M n] ∧ l.length ≤ n
  | 0 => ⟨[], rfl, Nat.le_refl _⟩
  | n + 1 => by
    obtain ⟨l, h1, h2⟩ := trj_last M n
    cases e : (last M n).1 with
    | none => exact ⟨l, by rw [trj_none e, last_none e]; exact h1, by omega⟩
    | some q => exact ⟨trj M n, trj_some e, by rw [h1, List.length_append]; simp; omega⟩
theorem at_last (l : List D) (x : D) : atI (l ++ [x]) (-1) = some x := by
  unfold atI
  have e : ixN (l ++ [x]).length (-1) = some l.length := by
    unfold ixN
    rw [List.length_append]
    simp
    omega
  rw [e]
  simp
theorem at_trj (M : Mach) (n : Nat) : atI ((trj M n).map standD) (-1) = some (standD (last M n)) := by
  obtain ⟨l, h, _⟩ := trj_last M n
  rw [h, List.map_append]
  exact at_last _ _
theorem trj_len (M : Mach) (n : Nat) : (trj M n).length ≤ n + 1 := by
  obtain ⟨l, h, h2⟩ := trj_last M n
  rw [h, List.length_append]
  simpa using h2
/-! ### what the operators do here -/
theorem in_ints (p : Int) (L : List Int) : cmpD .inn (.int p) (.tuple (L.map PyData.int)) = .ok (decide (p ∈ L)) := by
  rw [in_flatT rfl (by rw [List.all_map]; exact List.all_eq_true.mpr fun _ _ => rfl)]
  congr 1
  rw [List.any_map]
  induction L with
  | nil => rfl
  | cons x r ih =>
    rw [List.any_cons, ih]
    by_cases h : x = p
    · subst h; simp [PyData.eqv]
    · have h2 : p ≠ x := fun z => h z.symm
      simp [PyData.eqv, h, h2]
theorem in_intsL (p : Int) (L : List Int) : cmpD .inn (.int p) (.list (L.map PyData.int)) = .ok (decide (p ∈ L)) := by
  rw [in_flat rfl (by rw [List.all_map]; exact List.all_eq_true.mpr fun _ _ => rfl)]
  congr 1
  rw [List.any_map]
  induction L with
  | nil => rfl
  | cons x r ih =>
    rw [List.any_cons, ih]
    by_cases h : x = p
    · subst h; simp [PyData.eqv]
    · have h2 : p ≠ x := fun z => h z.symm
      simp [PyData.eqv, h, h2]
theorem sort_ints (ns : List Int) : biD .sorted (.list (ns.map PyData.int)) = .ok (.list ((srt ns).map PyData.int)) := by
  show sortD (ns.map PyData.int) = _
  unfold sortD
  rw [DP.ints_map]
  rfl
theorem srt_mem (l : List Int) (y : Int) : y ∈ srt l ↔ y ∈ l := isort_mem _ l y
theorem srt_len (l : List Int) : (srt l).length = l.length := by
  have : ∀ (x : Int) (l : List Int), (ins (fun a b : Int => decide (a < b)) x l).length = l.length + 1 := by
    intro x l
    induction l with
    | nil => rfl
    | cons z r ih =>
      unfold ins
      split
      · rfl
      · rw [List.length_cons, ih, List.length_cons]
  unfold srt
  induction l with
  | nil => rfl
  | cons x r ih =>
    show (ins _ x (isort _ r)).length = _
    rw [this, ih, List.length_cons]
theorem last_logs (M : Mach) : ∀ n, (last M n).2.2.length ≤ n
  | 0 => Nat.le_refl _
  | n + 1 => by
    have ih := last_logs M n
    cases e : (last M n).1 with
    | none => rw [last_none e]; omega
    | some q =>
      rw [last_some e]
      show (srt _).length ≤ _
      rw [srt_len, List.length_append]
      have h1 := List.length_filter_le (fun x => !decide (x = (last M n).2.1)) (last M n).2.2
      split <;> simp <;> omega
theorem rule_at {M : Mach} {q : Nat} (h : q < M.length) (b : Bool) : ∃ x, atI (M.map stateD) (q : Int) = some x ∧ ∃ rs, x = .tuple rs ∧ rs[if b = true then 1 else 0]? = some (ruleD (rl M q b)) := by
  have e : M.getD q ((0, 0, none), (0, 0, none)) = M[q] := by rw [List.getD_eq_getElem?_getD, List.getElem?_eq_getElem h]; rfl
  refine ⟨stateD M[q], by rw [atI_n, List.getElem?_map, List.getElem?_eq_getElem h]; rfl, _, rfl, ?_⟩
  unfold rl
  rw [e]
  cases b <;> rfl
theorem sp_stepped {M : Mach} {q : Nat} (h : q < M.length) (p : Int) (L : List Int) (hL : L.length ≤ 100000) : g_stepped.sem [machD M, standD (some q, p, L)] = .ok (standD (step M q p L), []) := by
  rw [sem_stepped]
  obtain ⟨x, e1, rs, rfl, e2⟩ := rule_at h (decide (p ∈ L))
  have hf := List.length_filter_le (fun x => !decide (x = p)) L
  have hm : (List.filter (fun x => !decide (x = p)) L).length + 1 ≤ 16777216 := by omega
  by_cases hp : p ∈ L
  · have e2 : rs[1]? = some (ruleD (rl M q true)) := by simpa [hp] using e2
    by_cases hw : (rl M q true).1 = 1
    · simp [b_stepped, slots0, machD, standD, stD, e1, e2, in_ints, hp, ruleD]
      rw [compLoop_pick (p := fun x => !decide (x = p)) (f := fun x => PyData.int x)]
      · simp [hw, hm]
        rw [show (List.map (fun x => PyData.int x) (List.filter (fun x => !decide (x = p)) L)) ++ [PyData.int p] = (List.filter (fun x => !decide (x = p)) L ++ [p]).map PyData.int from by simp, sort_ints]
        simp [step, hp, hw, stD]
      · intro n hn
        simp
        by_cases h : n = p <;> simp [h]
    · simp [b_stepped, slots0, machD, standD, stD, e1, e2, in_ints, hp, ruleD]
      rw [compLoop_pick (p := fun x => !decide (x = p)) (f := fun x => PyData.int x)]
      · simp [hw]
        rw [show (List.map (fun x => PyData.int x) (List.filter (fun x => !decide (x = p)) L)) = (List.filter (fun x => !decide (x = p)) L).map PyData.int from rfl, sort_ints]
        simp [step, hp, hw, stD]
      · intro n hn
        simp
        by_cases h : n = p <;> simp [h]
  · have e2 : rs[0]? = some (ruleD (rl M q false)) := by simpa [hp] using e2
    by_cases hw : (rl M q false).1 = 1
    · simp [b_stepped, slots0, machD, standD, stD, e1, e2, in_ints, hp, ruleD]
      rw [compLoop_pick (p := fun x => !decide (x = p)) (f := fun x => PyData.int x)]
      · simp [hw, hm]
        rw [show (List.map (fun x => PyData.int x) (List.filter (fun x => !decide (x = p)) L)) ++ [PyData.int p] = (List.filter (fun x => !decide (x = p)) L ++ [p]).map PyData.int from by simp, sort_ints]
        simp [step, hp, hw, stD]
      · intro n hn
        simp
        by_cases h : n = p <;> simp [h]
    · simp [b_stepped, slots0, machD, standD, stD, e1, e2, in_ints, hp, ruleD]
      rw [compLoop_pick (p := fun x => !decide (x = p)) (f := fun x => PyData.int x)]
      · simp [hw]
        rw [show (List.map (fun x => PyData.int x) (List.filter (fun x => !decide (x = p)) L)) = (List.filter (fun x => !decide (x = p)) L).map PyData.int from rfl, sort_ints]
        simp [step, hp, hw, stD]
      · intro n hn
        simp
        by_cases h : n = p <;> simp [h]
/-! ### the walk -/
theorem trj_alive {M : Mach} : ∀ n, (∀ j < n, (last M j).1 ≠ none) → (trj M n).length = n + 1
  | 0, _ => rfl
  | n + 1, h => by
    cases e : (last M n).1 with
    | none => exact absurd e (h n (Nat.lt_succ_self n))
    | some q => rw [trj_some e, List.length_append, trj_alive n fun j hj => h j (Nat.lt_succ_of_lt hj)]; rfl
theorem wh_go {c : Slots → R (Bool × Slots)} {b : Slots → R (Fl × Slots)} {n : Nat} {ρ ρ' ρ'' : Slots} (hc : c ρ = .ok (true, ρ')) (hb : b ρ' = .ok (.nx, ρ'')) : whLoop c b (n + 1) ρ = whLoop c b n ρ'' := by
  show (c ρ >>= fun t => if t.1 = true then b t.2 >>= fun p => (match p.1 with
    | .nx => whLoop c b n p.2
    | .ct => whLoop c b n p.2
    | .bk => .ok (.nx, p.2)
    | f => .ok (f, p.2)) else .ok (.nx, t.2)) = _
  rw [hc, bind_ok, if_pos rfl, hb]
  rfl
theorem wh_end {c : Slots → R (Bool × Slots)} {b : Slots → R (Fl × Slots)} {n : Nat} {ρ ρ' : Slots} (hc : c ρ = .ok (false, ρ')) : whLoop c b (n + 1) ρ = .ok (.nx, ρ') := by
  show (c ρ >>= fun t => if t.1 = true then b t.2 >>= fun p => (match p.1 with
    | .nx => whLoop c b n p.2
    | .ct => whLoop c b n p.2
    | .bk => .ok (.nx, p.2)
    | f => .ok (f, p.2)) else .ok (.nx, t.2)) = _
  rw [hc, bind_ok]
  rfl
theorem stands_loop {M : Mach} (v : Val M) (steps : Nat) (hs : steps ≤ 500) : ∀ (k j fuel : Nat), j + k = steps → (∀ i < j, (last M i).1 ≠ none) → k < fuel →
    whLoop (evT G_stands_up_to (.and (.cons (.cmp .le (.bi .len (.var 2)) (.var 1)) (.cons (.cmp .notN (.ix (.ix (.var 2) (.neg (.lit (.int 1)))) (.lit (.int 0))) (.lit .non)) .nil))))
      (fun ρ1 => exs G_stands_up_to (.cons (.app 2 (.call 0 (.cons (.var 0) (.cons (.ix (.var 2) (.neg (.lit (.int 1)))) .nil)))) .nil) ρ1) fuel
      [.dat (machD M), .dat (.int (steps : Nat)), .own false ((trj M j).map standD)] = .ok (.nx, [.dat (machD M), .dat (.int (steps : Nat)), .own false ((trj M steps).map standD)])
  | k, j, 0, _, _, h => absurd h (Nat.not_lt_zero k)
  | 0, j, fuel + 1, hj, al, _ => by
    obtain rfl : j = steps := by omega
    have hl := trj_alive j al
    have h0 : ¬ ((j : Int) + 1 ≤ (j : Int)) := by omega
    refine wh_end ?_
    simp [hl, h0]
  | k + 1, j, fuel + 1, hj, al, hf => by
    have hl := trj_alive j al
    have h0 : ((j : Int) + 1 ≤ (steps : Int)) := by omega
    have hz : j + 1 + 1 ≤ 16777216 := by omega
    cases e : (last M j).1 with
    | none =>
      have ht : trj M steps = trj M j := by rw [← hj]; exact (last_stop e _).2
      rw [ht]
      refine wh_end ?_
      simp [hl, h0, at_trj, standD, stD, e, isN]
    | some q =>
      have hq := last_in v j q e
      have n2 : standD (last M j) = .tuple [.int (q : Nat), .int (last M j).2.1, .tuple ((last M j).2.2.map PyData.int)] := by unfold standD; rw [e]; rfl
      have hb := last_logs M j
      have r := stands_loop v steps hs k (j + 1) fuel (by omega) (fun i hi => by
        by_cases h : i = j
        · subst h; rw [e]; simp
        · exact al i (by omega)) (by omega)
      rw [trj_some e, last_some e, List.map_append] at r
      have sp := sp_stepped hq (last M j).2.1 (last M j).2.2 (by omega)
      rw [show standD (some q, (last M j).2.1, (last M j).2.2) = standD (last M j) from n2.symm] at sp
      refine (wh_go (ρ' := [.dat (machD M), .dat (.int (steps : Nat)), .own false ((trj M j).map standD)]) ?_ ?_).trans r
      · simp [hl, h0, at_trj, n2, isN]
      · simp [at_trj, sp, hl, hz]
theorem sp_stands {M : Mach} (v : Val M) (steps : Nat) (hs : steps ≤ 500) : g_stands_up_to.sem [machD M, .int (steps : Nat)] = .ok (.list ((trj M steps).map standD), []) := by
  rw [sem_stands_up_to]
  have r := stands_loop v steps hs steps 0 1000000 (by omega) (fun i hi => absurd hi (Nat.not_lt_zero i)) (by omega)
  have e0 : (trj M 0).map standD = [.tuple [.int 0, .int 0, .tuple []]] := rfl
  rw [e0] at r
  have h1 : ex G_stands_up_to (.new 2 (.lst (.cons (.tup (.cons (.lit (.int 0)) (.cons (.lit (.int 0)) (.cons (.tup .nil) .nil)))) .nil))) (slots0 3 [machD M, .int (steps : Nat)]) = .ok (.nx, [.dat (machD M), .dat (.int (steps : Nat)), .own false [.tuple [.int 0, .int 0, .tuple []]]]) := by
    simp [slots0]
  unfold b_stands_up_to
  rw [exs_cons, h1, bind_ok, seqC_nx, exs_cons]
  have h2 := r
  rw [show ex G_stands_up_to (.whl 1000000 (.and (.cons (.cmp .le (.bi .len (.var 2)) (.var 1)) (.cons (.cmp .notN (.ix (.ix (.var 2) (.neg (.lit (.int 1)))) (.lit (.int 0))) (.lit .non)) .nil))) (.cons (.app 2 (.call 0 (.cons (.var 0) (.cons (.ix (.var 2) (.neg (.lit (.int 1)))) .nil)))) .nil))
    [.dat (machD M), .dat (.int (steps : Nat)), .own false [.tuple [.int 0, .int 0, .tuple []]]] = .ok (.nx, [.dat (machD M), .dat (.int (steps : Nat)), .own false ((trj M steps).map standD)]) from h2]
  simp
/-! ### is it a machine -/
def isR (n : Nat) : D → Bool
  | .tuple [a, b, c] => wi 0 1 a && wi (-1) 1 b && !(match b with | .int i => decide (i = 0) | _ => false) && (isN c || wi 0 ((n : Int) - 1) c)
  | _ => false
def isS : D → Bool
  | .tuple rs => decide (rs.length = 2)
  | _ => false
def isSR (n : Nat) : D → Bool
  | .tuple rs => rs.all (isR n)
  | _ => false
def isM : D → Bool
  | .tuple ss => decide (1 ≤ ss.length) && decide (ss.length ≤ 3) && ss.all isS && ss.all (isSR ss.length)
  | _ => false
theorem sp_is_rule (n : Nat) (d : D) : g_is_rule.sem [.int (n : Nat), d] = .ok (.bool (isR n d), []) := by
  rw [sem_is_rule]
  have no : (∀ a b c, d ≠ .tuple [a, b, c]) → g_is_sized.sem [d, .int 3, .int 3] = .ok (.bool false, []) ∧ isR n d = false := fun h => by
    rw [sp_is_sized]
    cases d with
    | tuple xs =>
      have : xs.length ≠ 3 := fun z => by
        match xs, z with
        | [a, b, c], _ => exact h a b c rfl
      refine ⟨?_, ?_⟩
      · have h2 : ¬ ((3 : Int) ≤ (xs.length : Int) ∧ (xs.length : Int) ≤ 3) := by omega
        congr 2
        simp
        omega
      · match xs, this with
        | [], _ => rfl
        | [_], _ => rfl
        | [_, _], _ => rfl
        | [_, _, _], z => exact absurd rfl z
        | _ :: _ :: _ :: _ :: _, _ => rfl
    | _ => exact ⟨rfl, rfl⟩
  by_cases hd : ∃ a b c, d = .tuple [a, b, c]
  · obtain ⟨a, b, c, rfl⟩ := hd
    have es : g_is_sized.sem [.tuple [a, b, c], .int 3, .int 3] = .ok (.bool true, []) := by rw [sp_is_sized]; rfl
    have ea := sp_is_within a 0 1
    have eb := sp_is_within b (-1) 1
    have ec := sp_is_within c 0 ((n : Int) - 1)
    cases ha : wi 0 1 a with
    | false =>
      rw [ha] at ea
      simp [b_is_rule, slots0, es, ea, isR, ha]
    | true =>
      rw [ha] at ea
      cases hb : wi (-1) 1 b with
      | false =>
        rw [hb] at eb
        simp [b_is_rule, slots0, es, ea, eb, isR, ha, hb]
      | true =>
        rw [hb] at eb
        obtain ⟨i, rfl⟩ : ∃ i, b = .int i := by cases b <;> first | exact ⟨_, rfl⟩ | cases hb
        by_cases hi : i = 0
        · subst hi
          simp [b_is_rule, slots0, es, ea, eb, isR, ha, hb]
        · cases hc : isN c with
          | true => simp [b_is_rule, slots0, es, ea, eb, isR, ha, hb, hi, hc]
          | false => simp [b_is_rule, slots0, es, ea, eb, isR, ha, hb, hi, hc, ec]
  · obtain ⟨e1, e2⟩ := no fun a b c z => hd ⟨a, b, c, z⟩
    rw [e2]
    simp [b_is_rule, slots0, e1]
theorem sized2 (s : D) : g_is_sized.sem [s, .int 2, .int 2] = .ok (.bool (isS s), []) := by
  rw [sp_is_sized]
  cases s with
  | tuple xs =>
    show R.ok (PyData.bool (decide ((2 : Int) ≤ (xs.length : Int)) && decide ((xs.length : Int) ≤ 2)), []) = .ok (.bool (decide (xs.length = 2)), [])
    by_cases hx : xs.length = 2
    · simp [hx]
    · congr 3
      simp [hx]
      omega
  | _ => rfl
theorem sp_is_machine (d : D) : g_is_machine.sem [d] = .ok (.bool (isM d), []) := by
  rw [sem_is_machine]
  cases d with
  | tuple ss =>
    have e1 := sp_is_sized (.tuple ss) 1 3
    by_cases h : 1 ≤ ss.length ∧ ss.length ≤ 3
    · obtain ⟨h1, h2⟩ := h
      have h3 : (1 : Int) ≤ (ss.length : Int) := by omega
      have h4 : (ss.length : Int) ≤ 3 := by omega
      simp [h3, h4] at e1
      simp [b_is_machine, slots0, e1]
      rw [compLoop_map (f := fun d => .bool (isS d))]
      · cases hs : ss.all isS with
        | false => simp [hs, isM]
        | true =>
          simp [hs]
          rw [compLoop_map (f := fun d => .bool (isSR ss.length d))]
          · have h5 : 1 ≤ ss.length := h1
            simp [isM, hs, h5, h2]
          · intro s hsm
            obtain ⟨rs, rfl⟩ : ∃ rs, s = .tuple rs := by
              have := List.all_eq_true.mp hs s hsm
              cases s <;> first | exact ⟨_, rfl⟩ | cases this
            simp
            rw [compLoop_map (f := fun d => .bool (isR ss.length d))]
            · simp [isSR]
            · intro r _
              simp [sp_is_rule]
      · intro s _
        have e2 := sized2 s
        simp [e2]
    · have h3 : ¬ ((1 : Int) ≤ (ss.length : Int) ∧ (ss.length : Int) ≤ 3) := by omega
      have e2 : g_is_sized.sem [.tuple ss, .int 1, .int 3] = .ok (.bool false, []) := by
        rw [e1]
        congr 2
        simp
        omega
      have e3 : isM (.tuple ss) = false := by
        unfold isM
        by_cases h1 : 1 ≤ ss.length
        · have h2 : ¬ ss.length ≤ 3 := fun z => h ⟨h1, z⟩
          simp [h1, h2]
        · simp [h1]
      rw [e3]
      simp [b_is_machine, slots0, e2]
  | _ =>
    simp [b_is_machine, slots0, sp_is_sized, isM]
theorem isR_ok {n : Nat} {r : Rule} (h : okR n r) : isR n (ruleD r) = true := by
  obtain ⟨w, m, l⟩ := r
  obtain ⟨h1, h2, h3⟩ := h
  have a1 : wi 0 1 (.int w) = true := by rcases h1 with rfl | rfl <;> rfl
  have a2 : wi (-1) 1 (.int m) = true := by rcases h2 with rfl | rfl <;> rfl
  have a3 : decide (m = 0) = false := by rcases h2 with rfl | rfl <;> rfl
  show (wi 0 1 (.int w) && wi (-1) 1 (.int m) && !(decide (m = 0)) && (isN (stD l) || wi 0 ((n : Int) - 1) (stD l))) = true
  rw [a1, a2, a3]
  cases l with
  | none => rfl
  | some q =>
    have := h3 q rfl
    show (isN (.int (q : Nat)) || (decide (0 ≤ (q : Int)) && decide ((q : Int) ≤ (n : Int) - 1))) = true
    rw [decide_eq_true (by omega), decide_eq_true (by omega)]
    rfl
theorem isM_ok {M : Mach} (v : Val M) : isM (machD M) = true := by
  show (decide (1 ≤ (M.map stateD).length) && decide ((M.map stateD).length ≤ 3) && (M.map stateD).all isS && (M.map stateD).all (isSR (M.map stateD).length)) = true
  rw [List.length_map, decide_eq_true v.lo, decide_eq_true v.hi]
  have h1 : (M.map stateD).all isS = true := by
    rw [List.all_map]
    exact List.all_eq_true.mpr fun _ _ => rfl
  have h2 : (M.map stateD).all (isSR M.length) = true := by
    rw [List.all_map]
    refine List.all_eq_true.mpr fun s hs => ?_
    obtain ⟨o1, o2⟩ := v.ok s hs
    show (isR M.length (ruleD s.1) && (isR M.length (ruleD s.2) && true)) = true
    rw [isR_ok o1, isR_ok o2]
    rfl
  rw [h1, h2]
  rfl
theorem sp_check_no {d : D} (h : isM d = false) : g_check_machine.sem [d] = .exc "NoMachine" [] := by
  rw [sem_check_machine]
  have e := sp_is_machine d
  rw [h] at e
  simp [b_check_machine, slots0, e]
theorem sp_check_yes {d : D} (h : isM d = true) : g_check_machine.sem [d] = .ok (.none, []) := by
  rw [sem_check_machine]
  have e := sp_is_machine d
  rw [h] at e
  simp [b_check_machine, slots0, e]
theorem sp_checks_no {d : D} (h : isM d = false) (n : D) : g_check_machine_steps.sem [d, n] = .exc "NoMachine" [] := by
  rw [sem_check_machine_steps]
  simp [b_check_machine_steps, slots0, sp_check_no h]
theorem sp_checks_num {d : D} (h : isM d = true) {n : D} (hn : wi 0 500 n = false) : g_check_machine_steps.sem [d, n] = .exc "NoNumber" [] := by
  rw [sem_check_machine_steps]
  have e := sp_is_within n 0 500
  rw [hn] at e
  simp [b_check_machine_steps, slots0, sp_check_yes h, e]
theorem sp_checks_yes {d : D} (h : isM d = true) {n : D} (hn : wi 0 500 n = true) : g_check_machine_steps.sem [d, n] = .ok (.none, []) := by
  rw [sem_check_machine_steps]
  have e := sp_is_within n 0 500
  rw [hn] at e
  simp [b_check_machine_steps, slots0, sp_check_yes h, e]
theorem wi_nat {n : Nat} (h : n ≤ 500) : wi 0 500 (.int (n : Nat)) = true := by
  show (decide (0 ≤ (n : Int)) && decide ((n : Int) ≤ 500)) = true
  rw [decide_eq_true (by omega), decide_eq_true (by omega)]
  rfl
theorem sp_after {M : Mach} (v : Val M) (n : Nat) (h : n ≤ 500) : g_stand_after.sem [machD M, .int (n : Nat)] = .ok (standD (last M n), []) := by
  rw [sem_stand_after]
  simp [b_stand_after, slots0, sp_checks_yes (isM_ok v) (wi_nat h), sp_stands v n h, at_trj]
/-- the three that look, at what is wrong -/
theorem sp_wrong {d n : D} {c : Str} (h : g_check_machine_steps.sem [d, n] = .exc c []) : g_stand_after.sem [d, n] = .exc c [] ∧ g_bounds_of_way.sem [d, n] = .exc c [] ∧ g_states_taken.sem [d, n] = .exc c [] := by
  rw [sem_stand_after, sem_bounds_of_way, sem_states_taken]
  refine ⟨?_, ?_, ?_⟩
  · simp [b_stand_after, slots0, h]
  · simp [b_bounds_of_way, slots0, h]
  · simp [b_states_taken, slots0, h]
def places (M : Mach) (n : Nat) : List Int := (trj M n).map (·.2.1)
theorem trj_ne (M : Mach) (n : Nat) : trj M n ≠ [] := fun z => by
  obtain ⟨l, h, _⟩ := trj_last M n
  rw [z] at h
  exact absurd h (by simp)
theorem min_ints (ns : List Int) (h : ns ≠ []) : biD .min (.list (ns.map PyData.int)) = .ok (.int (minI ns)) := by
  show (ints? (ns.map PyData.int) >>= fun ns => if ns.isEmpty = true then R.bad else R.ok (PyData.int (minI ns))) = _
  rw [DP.ints_map, bind_ok]
  cases ns with
  | nil => exact absurd rfl h
  | cons _ _ => rfl
theorem max_ints (ns : List Int) (h : ns ≠ []) : biD .max (.list (ns.map PyData.int)) = .ok (.int (maxI ns)) := by
  show (ints? (ns.map PyData.int) >>= fun ns => if ns.isEmpty = true then R.bad else R.ok (PyData.int (maxI ns))) = _
  rw [DP.ints_map, bind_ok]
  cases ns with
  | nil => exact absurd rfl h
  | cons _ _ => rfl
theorem places_ne (M : Mach) (n : Nat) : places M n ≠ [] := fun z => trj_ne M n (List.map_eq_nil_iff.mp z)
theorem sp_bounds {M : Mach} (v : Val M) (n : Nat) (h : n ≤ 500) : g_bounds_of_way.sem [machD M, .int (n : Nat)] = .ok (.tuple [.int (minI (places M n)), .int (maxI (places M n))], []) := by
  rw [sem_bounds_of_way]
  simp [b_bounds_of_way, slots0, sp_checks_yes (isM_ok v) (wi_nat h), sp_stands v n h]
  rw [compLoop_ints (f := fun s : Stand => PyData.int s.2.1)]
  · simp
    rw [show (trj M n).map (fun s => PyData.int s.2.1) = (places M n).map PyData.int from by unfold places; rw [List.map_map]; rfl, min_ints _ (places_ne M n), max_ints _ (places_ne M n)]
    simp
  · intro s _
    simp [standD]
theorem cut_last (xs : List D) (h : xs ≠ []) : slcD (.list xs) none (some (-1)) = .ok (.list xs.dropLast) := by
  show R.ok (PyData.list (DP.cutD xs none (some (-1)))) = _
  have e : DP.cutD xs none (some (-1)) = xs.dropLast := by
    unfold DP.cutD
    have hl : 0 < xs.length := List.length_pos_iff.mpr h
    have e1 : HT.sIx xs.length xs.length (some (-1)) = xs.length - 1 := by
      unfold HT.sIx
      simp
      omega
    rw [HT.sIx_none, e1, List.drop_zero, List.dropLast_eq_take, Nat.sub_zero]
  rw [e]
/-- the states of the steps -/
def taken (M : Mach) (n : Nat) : List Stand := (trj M n).dropLast
theorem taken_ok {M : Mach} (v : Val M) : ∀ n, ∀ s ∈ taken M n, ∃ q, s.1 = some q ∧ q < M.length
  | 0, s, h => by cases h
  | n + 1, s, h => by
    cases e : (last M n).1 with
    | none =>
      unfold taken at h
      rw [trj_none e] at h
      exact taken_ok v n s h
    | some q =>
      unfold taken at h
      rw [trj_some e, List.dropLast_concat] at h
      obtain ⟨l, h1, _⟩ := trj_last M n
      have h2 : taken M n = l := by unfold taken; rw [h1, List.dropLast_concat]
      rw [h1] at h
      rcases List.mem_append.mp h with h | h
      · exact taken_ok v n s (by rw [h2]; exact h)
      · rw [List.mem_singleton.mp h]
        exact ⟨q, e, last_in v n q e⟩
theorem taken_len (M : Mach) (n : Nat) : (taken M n).length = (trj M n).length - 1 := List.length_dropLast
def stateN (s : Stand) : Int := match s.1 with | some q => (q : Nat) | none => -1
def counts (M : Mach) (n : Nat) : List Int := (List.range M.length).map fun (q : Nat) => ((((taken M n).map stateN).countP (fun z => decide (z = ((q : Nat) : Int))) : Nat) : Int)
theorem cnt_ints (ns : List Int) (k : Int) : mtD .cnt (.list (ns.map PyData.int)) (.int k) = .ok (.int (ns.countP (fun z => decide (z = k)) : Nat)) := by
  show (if (flat (.int k) && (ns.map PyData.int).all flat) = true then R.ok (PyData.int ((ns.map PyData.int).countP (fun z => PyData.eqv z (.int k)) : Nat)) else .bad) = _
  have f : (ns.map PyData.int).all flat = true := by rw [List.all_map]; exact List.all_eq_true.mpr fun _ _ => rfl
  rw [f]
  rw [if_pos (show (flat (.int k) && true) = true from rfl), List.countP_map]
  congr 3
theorem sp_states {M : Mach} (v : Val M) (n : Nat) (h : n ≤ 500) : g_states_taken.sem [machD M, .int (n : Nat)] = .ok (.tuple ((counts M n).map PyData.int), []) := by
  rw [sem_states_taken]
  have hm : M.length ≤ 1000000 := by have := v.hi; omega
  have ne : (trj M n).map standD ≠ [] := fun z => trj_ne M n (List.map_eq_nil_iff.mp z)
  have dl : ((trj M n).map standD).dropLast = (taken M n).map standD := by unfold taken; rw [List.map_dropLast]
  simp [b_states_taken, slots0, sp_checks_yes (isM_ok v) (wi_nat h), sp_stands v n h, cut_last _ ne, dl]
  rw [compLoop_ints (f := fun s : Stand => PyData.int (stateN s))]
  · simp [machD]
    rw [rngC_nat _ _ hm]
    simp
    rw [compLoop_ints (f := fun q : Nat => PyData.int (((taken M n).map stateN).countP (fun z => decide (z = (q : Int))) : Nat))]
    · simp [counts]
    · intro q _
      have e := cnt_ints ((taken M n).map stateN) (q : Int)
      rw [List.map_map] at e
      simp
      rw [show (taken M n).map (fun s => PyData.int (stateN s)) = (taken M n).map (PyData.int ∘ stateN) from rfl, e]
      simp
  · intro s hs
    obtain ⟨q, e, _⟩ := taken_ok v n s hs
    simp [standD, stD, e, stateN]
/-- all steps together -/
theorem counts_sum {M : Mach} (v : Val M) (n : Nat) : (counts M n).sum = ((taken M n).length : Int) := by
  have key : ∀ (m : Nat) (l : List Int), (∀ z ∈ l, ∃ q : Nat, z = (q : Int) ∧ q < m) → ((List.range m).map fun q => ((l.countP (fun z => decide (z = ((q : Nat) : Int))) : Nat) : Int)).sum = (l.length : Int) := by
    intro m l
    induction l with
    | nil =>
      intro _
      induction m with
      | zero => rfl
      | succ m ih => rw [List.range_succ, List.map_append, List.sum_append, ih (fun z hz => by cases hz)]; rfl
    | cons z l ih =>
      intro h
      have ih := ih fun y hy => h y (List.mem_cons_of_mem _ hy)
      obtain ⟨q0, rfl, hq⟩ := h z List.mem_cons_self
      have add : ∀ m : Nat, ((List.range m).map fun q => (((((q0 : Nat) : Int) :: l).countP (fun z => decide (z = ((q : Nat) : Int))) : Nat) : Int)).sum = ((List.range m).map fun q => ((l.countP (fun z => decide (z = ((q : Nat) : Int))) : Nat) : Int)).sum + if q0 < m then 1 else 0 := by
        intro m
        induction m with
        | zero => rfl
        | succ m ih2 =>
          rw [List.range_succ, List.map_append, List.map_append, List.sum_append, List.sum_append, ih2]
          simp only [List.map_cons, List.map_nil, List.sum_cons, List.sum_nil, List.countP_cons]
          by_cases e : q0 = m
          · subst e
            simp
            omega
          · have e2 : ((q0 : Nat) : Int) ≠ (m : Int) := by omega
            by_cases e3 : q0 < m
            · have e4 : q0 < m + 1 := by omega
              simp [e2, e3, e4]
              omega
            · have e4 : ¬ q0 < m + 1 := by omega
              simp [e2, e3, e4]
      rw [add m, ih, if_pos hq]
      simp
  unfold counts
  rw [key M.length _ (fun z hz => by
    obtain ⟨s, hs, rfl⟩ := List.mem_map.mp hz
    obtain ⟨q, e, hq⟩ := taken_ok v n s hs
    exact ⟨q, by unfold stateN; rw [e], hq⟩), List.length_map]
end Cbeavers

namespace K80
open PySem PySem.Spec PyProof.Rows L2 DP Cbasics Cbeavers L80
theorem sp_lstands {M : Mach} (v : Val M) (n : Nat) (hn : n ≤ 1000) : g__law_stands.sem [machD M, .int (n : Nat)] = .ok (.list ((trj M n).map standD), []) := by
  rw [sem__law_stands]
  have hr := fun ρ => rngC_nat n ρ (by omega)
  simp [b__law_stands, slots0, hr]
  refine for_bindR (P := fun r => finP r = _) (fun j ρ => ∃ c3 c7 c8 c9, ρ = [Cell.dat (machD M), .dat (.int (n : Nat)), .own false ((trj M j).map standD), c3, .dat (stD (last M j).1), .dat (.int (last M j).2.1), .dat (.list ((last M j).2.2.map PyData.int)), c7, c8, c9, .un] ∧
    freeC (some c3) = true ∧ freeC (some c7) = true ∧ freeC (some c8) = true ∧ freeC (some c9) = true) ⟨.un, .un, .un, .un, rfl, rfl, rfl, rfl, rfl⟩ (fun j d hd ρ hJ r hr => ?_) (fun ρ hJ => ?_)
  · obtain ⟨hj, rfl⟩ := rng_at hd
    obtain ⟨c3, c7, c8, c9, rfl, h3, h7, h8, h9⟩ := hJ
    cases e : (last M j).1 with
    | none =>
      simp [h3, e, stD, isN] at hr
      subst hr
      refine ⟨_, .inl rfl, .dat (.int (j : Nat)), c7, c8, c9, ?_, rfl, h7, h8, h9⟩
      rw [trj_none e, last_none e, e]
      rfl
    | some q =>
      have hq := last_in v j q e
      obtain ⟨x, e1, rs, rfl, e2⟩ := rule_at hq (decide ((last M j).2.1 ∈ (last M j).2.2))
      have hb := last_logs M j
      have hf := List.length_filter_le (fun x => !decide (x = (last M j).2.1)) (last M j).2.2
      have hm : (List.filter (fun x => !decide (x = (last M j).2.1)) (last M j).2.2).length ≤ 16777215 := by omega
      have hm0 : (List.filter (fun x => !decide (x = (last M j).2.1)) (last M j).2.2).length ≤ 16777216 := by omega
      have hl : (trj M j).length ≤ 16777215 := by have := trj_len M j; omega
      have ec : ∀ ρ : Slots, ρ[5]? = some (.dat (.int (last M j).2.1)) → ρ[10]? = some .un → ρ.length = 11 → True := fun _ _ _ _ => trivial
      generalize hp : decide ((last M j).2.1 ∈ (last M j).2.2) = bp at e2
      have e2 : rs[if bp = true then 1 else 0]? = some (ruleD (rl M q bp)) := e2
      have hstep : last M (j + 1) = ((rl M q bp).2.2, (last M j).2.1 + (rl M q bp).2.1, srt ((last M j).2.2.filter (fun x => !decide (x = (last M j).2.1)) ++ if (rl M q bp).1 = 1 then [(last M j).2.1] else [])) := by
        rw [last_some e]
        unfold Cbeavers.step
        rw [hp]
      have fin : ∀ r, r = R.ok (Fl.nx, [Cell.dat (machD M), .dat (.int (n : Nat)), .own false ((trj M j).map standD ++ [standD (last M (j + 1))]), .dat (.int (j : Nat)), .dat (stD (last M (j + 1)).1), .dat (.int (last M (j + 1)).2.1), .dat (.list ((last M (j + 1)).2.2.map PyData.int)), .dat (.int (rl M q bp).1), .dat (.int (rl M q bp).2.1), .dat (stD (rl M q bp).2.2), .un]) →
          ∃ ρ', (r = .ok (.nx, ρ') ∨ r = .ok (.ct, ρ')) ∧ ∃ c3 c7 c8 c9, ρ' = [Cell.dat (machD M), .dat (.int (n : Nat)), .own false ((trj M (j + 1)).map standD), c3, .dat (stD (last M (j + 1)).1), .dat (.int (last M (j + 1)).2.1), .dat (.list ((last M (j + 1)).2.2.map PyData.int)), c7, c8, c9, .un] ∧
            freeC (some c3) = true ∧ freeC (some c7) = true ∧ freeC (some c8) = true ∧ freeC (some c9) = true := fun r hr =>
        ⟨_, .inl hr, _, _, _, _, by rw [trj_some e, List.map_append]; rfl, rfl, rfl, rfl, rfl⟩
      refine fin r ?_
      rw [← hr, hstep]
      cases bp with
      | true =>
        have e2 : rs[1]? = some (ruleD (rl M q true)) := e2
        have hp2 : (last M j).2.1 ∈ (last M j).2.2 := of_decide_eq_true hp
        by_cases hw : (rl M q true).1 = 1
        · simp [h3, h7, h8, h9, e, stD, isN, machD, e1, e2, in_intsL, hp2, ruleD]
          rw [compLoop_pick (p := fun x => !decide (x = (last M j).2.1)) (f := fun x => PyData.int x)]
          · simp [hw, hm]
            rw [show (List.map (fun x => PyData.int x) (List.filter (fun x => !decide (x = (last M j).2.1)) (last M j).2.2)) ++ [PyData.int (last M j).2.1] = (List.filter (fun x => !decide (x = (last M j).2.1)) (last M j).2.2 ++ [(last M j).2.1]).map PyData.int from by simp, sort_ints]
            simp [hl, standD]
            cases (rl M q true).2.2 <;> rfl
          · intro x _
            simp
            by_cases h : x = (last M j).2.1 <;> simp [h]
        · simp [h3, h7, h8, h9, e, stD, isN, machD, e1, e2, in_intsL, hp2, ruleD]
          rw [compLoop_pick (p := fun x => !decide (x = (last M j).2.1)) (f := fun x => PyData.int x)]
          · simp [hw, hm0]
            rw [show (List.map (fun x => PyData.int x) (List.filter (fun x => !decide (x = (last M j).2.1)) (last M j).2.2)) = (List.filter (fun x => !decide (x = (last M j).2.1)) (last M j).2.2).map PyData.int from rfl, sort_ints]
            simp [hl, standD]
            cases (rl M q true).2.2 <;> rfl
          · intro x _
            simp
            by_cases h : x = (last M j).2.1 <;> simp [h]
      | false =>
        have e2 : rs[0]? = some (ruleD (rl M q false)) := e2
        have hp2 : (last M j).2.1 ∉ (last M j).2.2 := of_decide_eq_false hp
        by_cases hw : (rl M q false).1 = 1
        · simp [h3, h7, h8, h9, e, stD, isN, machD, e1, e2, in_intsL, hp2, ruleD]
          rw [compLoop_pick (p := fun x => !decide (x = (last M j).2.1)) (f := fun x => PyData.int x)]
          · simp [hw, hm]
            rw [show (List.map (fun x => PyData.int x) (List.filter (fun x => !decide (x = (last M j).2.1)) (last M j).2.2)) ++ [PyData.int (last M j).2.1] = (List.filter (fun x => !decide (x = (last M j).2.1)) (last M j).2.2 ++ [(last M j).2.1]).map PyData.int from by simp, sort_ints]
            simp [hl, standD]
            cases (rl M q false).2.2 <;> rfl
          · intro x _
            simp
            by_cases h : x = (last M j).2.1 <;> simp [h]
        · simp [h3, h7, h8, h9, e, stD, isN, machD, e1, e2, in_intsL, hp2, ruleD]
          rw [compLoop_pick (p := fun x => !decide (x = (last M j).2.1)) (f := fun x => PyData.int x)]
          · simp [hw, hm0]
            rw [show (List.map (fun x => PyData.int x) (List.filter (fun x => !decide (x = (last M j).2.1)) (last M j).2.2)) = (List.filter (fun x => !decide (x = (last M j).2.1)) (last M j).2.2).map PyData.int from rfl, sort_ints]
            simp [hl, standD]
            cases (rl M q false).2.2 <;> rfl
          · intro x _
            simp
            by_cases h : x = (last M j).2.1 <;> simp [h]
  · obtain ⟨c3, c7, c8, c9, rfl, h3, h7, h8, h9⟩ := hJ
    simp
/-! ### a drawn machine -/
theorem draw2 {h : List D} (hh : Hd h) : ∃ (d : Int) (h' : List D), g__law_draw.sem [.list h, .int 2] = .ok (.int d, h') ∧ (d = 0 ∨ d = 1) ∧ Hd h' := by
  obtain ⟨d, h', e, d0, d1, hh'⟩ := sp_draw hh 2 (by decide) (by decide)
  exact ⟨d, h', e, by omega, hh'⟩
def nextsD (m : Nat) : List D := ((List.range m).map fun (i : Nat) => PyData.int (i : Int)) ++ ((List.range m).map fun (i : Nat) => PyData.int (i : Int)) ++ [.none]
theorem next_any {h : List D} (hh : Hd h) {m : Nat} (hm : m ≤ 3) : ∃ (q : Option Nat) (h' : List D), g__law_any.sem [.list h, .list (nextsD m)] = .ok (stD q, h') ∧ (∀ i, q = some i → i < m) ∧ Hd h' := by
  obtain ⟨x, h', e, hx, hh'⟩ := sp_any hh (nextsD m) (by unfold nextsD; simp; omega) (by unfold nextsD; simp; omega)
  unfold nextsD at hx
  rcases List.mem_append.mp hx with hx | hx
  · have : ∃ i : Nat, i < m ∧ x = .int (i : Nat) := by
      rcases List.mem_append.mp hx with hx | hx <;>
      · obtain ⟨i, hi, rfl⟩ := List.mem_map.mp hx
        exact ⟨i, List.mem_range.mp hi, rfl⟩
    obtain ⟨i, hi, rfl⟩ := this
    exact ⟨some i, h', e, fun j z => by rw [← Option.some.inj z]; exact hi, hh'⟩
  · rw [List.mem_singleton.mp hx] at e
    exact ⟨none, h', e, fun j z => (by cases z), hh'⟩
/-- rules of a state -/
def OkP (m : Nat) (s : Rule × Rule) : Prop := okR m s.1 ∧ okR m s.2
def Jm (m j : Nat) (ρ : Slots) : Prop := ∃ (h : List D) (l : List (Rule × Rule)) (c2 c5 c6 c7 : Cell), ρ = [Cell.own true h, .dat (.int 3), c2, .dat (.int (m : Nat)), .own false (l.map stateD), c5, c6, c7] ∧ l.length = j ∧ (∀ s ∈ l, OkP m s) ∧ Hd h ∧ freeC (some c2) = true ∧ freeC (some c5) = true ∧ freeC (some c6) = true ∧ freeC (some c7) = true
theorem sp_machine {h : List D} (hh : Hd h) : ∃ (M : Mach) (h' : List D), g__law_machine.sem [.list h, .int 3] = .ok (machD M, h') ∧ Val M ∧ Hd h' := by
  rw [sem__law_machine]
  obtain ⟨d, h1, e1, d0, d1, hh1⟩ := sp_draw hh 3 (by decide) (by decide)
  obtain ⟨m, rfl, hm⟩ : ∃ m : Nat, d = (m : Int) - 1 ∧ 1 ≤ m ∧ m ≤ 3 := ⟨(d + 1).toNat, by omega, by omega⟩
  have hr := fun ρ => rngC_nat m ρ (by omega)
  have h2r := fun ρ => rngC_nat 2 ρ (by omega)
  have em : (1 : Int) + ((m : Int) - 1) = (m : Int) := by omega
  simp [b__law_machine, slotsB, e1, em, hr]
  suffices q : ∀ r, (∃ (l : List (Rule × Rule)) (h' : List D), finB r = .ok (.tuple (l.map stateD), h') ∧ l.length = m ∧ (∀ s ∈ l, OkP m s) ∧ Hd h') → ∃ (M : Mach) (h' : List D), finB r = .ok (machD M, h') ∧ Val M ∧ Hd h' by
    refine q _ ?_
    refine for_bindR (P := fun r => ∃ (l : List (Rule × Rule)) (h' : List D), finB r = .ok (.tuple (l.map stateD), h') ∧ l.length = m ∧ (∀ s ∈ l, OkP m s) ∧ Hd h')
      (Jm m)
      ⟨h1, [], .un, .un, .un, .un, rfl, rfl, fun s z => (by cases z), hh1, rfl, rfl, rfl, rfl⟩ (fun j d hd ρ hJ r hr2 => ?_) (fun ρ hJ => ?_)
    · obtain ⟨hj, rfl⟩ := rng_at hd
      obtain ⟨h0, l, c2, c5, c6, c7, rfl, hl, ok, hh0, f2, f5, f6, f7⟩ := hJ
      simp [f2, f5, h2r] at hr2
      subst hr2
      refine for_bindR (P := fun r => ∃ ρ', (r = R.ok (Fl.nx, ρ') ∨ r = R.ok (Fl.ct, ρ')) ∧ Jm m (j + 1) ρ') (fun i ρ => ∃ (h : List D) (rs : List Rule) (c6 c7 : Cell), ρ = [Cell.own true h, .dat (.int 3), .dat (.int (j : Nat)), .dat (.int (m : Nat)), .own false (l.map stateD), .own false (rs.map ruleD), c6, c7] ∧ rs.length = i ∧ (∀ r ∈ rs, okR m r) ∧ Hd h ∧ freeC (some c6) = true ∧ freeC (some c7) = true)
        ⟨h0, [], c6, c7, rfl, rfl, fun s z => (by cases z), hh0, f6, f7⟩ (fun i d hd ρ hJ r hr2 => ?_) (fun ρ hJ => ?_)
      · have hi : i < 2 := (List.getElem?_eq_some_iff.mp hd).1
        obtain ⟨h0, rs, c6, c7, rfl, hrs, okr, hh0, f6, f7⟩ := hJ
        obtain ⟨w, g1, ew, hw, hg1⟩ := draw2 hh0
        obtain ⟨mv, g2, emv, hmv, hg2⟩ := draw2 hg1
        obtain ⟨q, g3, eq, hq, hg3⟩ := next_any hg2 hm.2
        have hz1 : rs.length ≤ 16777215 := by omega
        have hz2 : m ≤ 16777216 := by omega
        have hn : gd (decide (-(2 ^ 63) ≤ (2 : Int)) && decide ((2 : Int) < 2 ^ 63) && sz (((List.range m).map fun (i : Nat) => PyData.int (i : Int)).length * (2 : Int).toNat)) (.ok (.list (List.replicate (2 : Int).toNat ((List.range m).map fun (i : Nat) => PyData.int (i : Int))).flatten)) = .ok (.list (((List.range m).map fun (i : Nat) => PyData.int (i : Int)) ++ ((List.range m).map fun (i : Nat) => PyData.int (i : Int)))) := by
          have : m * 2 ≤ 16777216 := by omega
          simp [this, List.replicate]
        have hmul : op2 .mul (.list ((List.range m).map fun (i : Nat) => PyData.int (i : Int))) (.int 2) = .ok (.list (((List.range m).map fun (i : Nat) => PyData.int (i : Int)) ++ ((List.range m).map fun (i : Nat) => PyData.int (i : Int)))) := hn
        have hi64 : i64 2 = true := by decide
        have hlen : m + (m + 1) ≤ 16777216 := by omega
        have hlen2 : m + m ≤ 16777215 := by omega
        have eq : g__law_any.sem [.list g2, .list (((List.range m).map fun (i : Nat) => PyData.int (i : Int)) ++ (((List.range m).map fun (i : Nat) => PyData.int (i : Int)) ++ [PyData.none]))] = .ok (stD q, g3) := by rw [← List.append_assoc]; exact eq
        simp [f6, f7, hr, hmul, hlen2, ew, emv, eq, hi64, hz1] at hr2
        subst hr2
        refine ⟨_, .inl rfl, g3, rs ++ [(w, 2 * mv - 1, q)], .dat d, .dat (.list (((List.range m).map fun (i : Nat) => PyData.int (i : Int)) ++ (((List.range m).map fun (i : Nat) => PyData.int (i : Int)) ++ [PyData.none]))), ?_, by simp [hrs], ?_, hg3, rfl, rfl⟩
        · rw [List.map_append]; rfl
        · intro r hr
          rcases List.mem_append.mp hr with hr | hr
          · exact okr r hr
          · rw [List.mem_singleton.mp hr]
            exact ⟨hw, by rcases hmv with rfl | rfl <;> simp, hq⟩
      · obtain ⟨h0, rs, c6, c7, rfl, hrs, okr, hh0, f6, f7⟩ := hJ
        have hrs : rs.length = 2 := hrs
        match rs, hrs with
        | [a, b], _ =>
          have hz : l.length ≤ 16777215 := by omega
          refine ⟨_, .inl (by simp [hz]; rfl), h0, l ++ [(a, b)], .dat (.int (j : Nat)), .own false [ruleD a, ruleD b], c6, c7, by rw [List.map_append]; rfl, by simp [hl], ?_, hh0, rfl, rfl, f6, f7⟩
          intro s hs
          rcases List.mem_append.mp hs with hs | hs
          · exact ok s hs
          · rw [List.mem_singleton.mp hs]
            exact ⟨okr a (by simp), okr b (by simp)⟩
    · obtain ⟨h0, l, c2, c5, c6, c7, rfl, hl, ok, hh0, f2, f5, f6, f7⟩ := hJ
      refine ⟨l, h0, by simp, by simpa using hl, ok, hh0⟩
  rintro r ⟨l, h', e, hl, ok, hh'⟩
  exact ⟨l, h', e, ⟨by omega, by omega, fun s hs => by rw [hl]; exact ok s hs⟩, hh'⟩
end K80

namespace K80
open PySem PySem.Spec PyProof.Rows L2 DP Cbasics Cbeavers L80
/-! ### the law's own look at a machine -/
theorem wiI {a b : Int} {d : D} (h : wi a b d = true) : isI d = true := by cases d <;> first | rfl | cases h
theorem isI_i (i : Int) : isI (.int i) = true := Eq.trans rfl rfl
theorem int_of {d : D} (h : isI d = true) : ∃ i, d = .int i := by cases d <;> first | exact ⟨_, rfl⟩ | cases h
def bodyR : Ss := (.cons (.ifs (.or (.cons (.not (.isi (.var 2) .tuple)) (.cons (.cmp .ne (.bi .len (.var 2)) (.lit (.int 3))) .nil))) (.cons (.ret (.lit (.bl false)))
    .nil) .nil)
    (.cons (.asg (.nm 3) (.bin .add (.comp (.var 4) (.nm 4) (.seq (.slc (.var 2) .nop (.lit (.int 2)))) (.lit (.bl true))) (.ife (.cmp .notN (.ix (.var 2) (.lit (.int 2))) (.lit .non)) (.lst (.cons (.ix (.var 2) (.lit (.int 2))) .nil)) (.lst .nil))))
    (.cons (.ifs (.not (.bi .all (.comp (.and (.cons (.isi (.var 4) .int) (.cons (.not (.isi (.var 4) .bool)) .nil))) (.nm 4) (.seq (.var 3)) (.lit (.bl true))))) (.cons (.ret (.lit (.bl false)))
    .nil) .nil)
    (.cons (.ifs (.or (.cons (.cmp .nin (.ix (.var 2) (.lit (.int 0))) (.tup (.cons (.lit (.int 0)) (.cons (.lit (.int 1)) .nil)))) (.cons (.cmp .nin (.ix (.var 2) (.lit (.int 1))) (.tup (.cons (.neg (.lit (.int 1))) (.cons (.lit (.int 1)) .nil)))) .nil))) (.cons (.ret (.lit (.bl false)))
    .nil) .nil)
    (.cons (.ifs (.and (.cons (.cmp .notN (.ix (.var 2) (.lit (.int 2))) (.lit .non)) (.cons (.not (.chn .le .lt (.lit (.int 0)) (.ix (.var 2) (.lit (.int 2))) (.bi .len (.var 0)))) .nil))) (.cons (.ret (.lit (.bl false)))
    .nil) .nil)
    .nil)))))
theorem cut3 (a b c : D) : slcD (.tuple [a, b, c]) none (some 2) = .ok (.tuple [a, b]) := rfl
theorem nin2 (i x y : Int) : cmpD .nin (.int i) (.tuple [.int x, .int y]) = .ok (!(decide (i = x) || decide (i = y))) := by
  rw [nin_flatT rfl rfl]
  have e : ∀ x : Int, PyData.eqv (.int x) (.int i) = decide (i = x) := fun x => by
    by_cases h : i = x
    · subst h; simp [PyData.eqv]
    · have h2 : x ≠ i := fun z => h z.symm
      simp [PyData.eqv, h, h2]
  simp only [List.any_cons, List.any_nil, e, Bool.or_false]
theorem all2 (x y : Bool) : biD .all (.list [.bool x, .bool y]) = .ok (.bool (x && (y && true))) := Eq.trans rfl rfl
theorem all3 (x y z : Bool) : biD .all (.list [.bool x, .bool y, .bool z]) = .ok (.bool (x && (y && (z && true)))) := Eq.trans rfl rfl
def JR (th rs : D) (ρ : Slots) : Prop := ∃ c2 c3, ρ = [Cell.dat th, .dat rs, c2, c3, .un] ∧ freeC (some c2) = true ∧ freeC (some c3) = true
theorem look1 (ss : List D) (rs d : D) (l : List D) : compLoop (turnC G__law_is_machine (.and (.cons (.isi (.var 4) .int) (.cons (.not (.isi (.var 4) .bool)) .nil))) (.nm 4) (.lit (.bl true))) l [Cell.dat (.tuple ss), .dat rs, .dat d, .dat (.list l), .un] = .ok (l.map fun x => .bool (isI x), [Cell.dat (.tuple ss), .dat rs, .dat d, .dat (.list l), .un]) := by
  refine compLoop_map _ (fun x => .bool (isI x)) _ _ fun x _ => ?_
  cases x <;> simp [tyD, isI]
theorem look2 (ss : List D) (rs d : D) (a b : D) (c3 : Cell) : compLoop (turnC G__law_is_machine (.var 4) (.nm 4) (.lit (.bl true))) [a, b] [Cell.dat (.tuple ss), .dat rs, .dat d, c3, .un] = .ok ([a, b], [Cell.dat (.tuple ss), .dat rs, .dat d, c3, .un]) := by
  have := compLoop_map (turnC G__law_is_machine (.var 4) (.nm 4) (.lit (.bl true))) id [Cell.dat (.tuple ss), .dat rs, .dat d, c3, .un] [a, b] (fun x _ => by simp)
  simpa using this
theorem run_none (ss : List D) (rs a b : D) (c2 c3 : Cell) (f3 : freeC (some c3) = true) : exs G__law_is_machine bodyR [Cell.dat (.tuple ss), .dat rs, .dat (.tuple [a, b, .none]), c3, .un] =
    (if isR ss.length (.tuple [a, b, .none]) = true then .ok (.nx, [Cell.dat (.tuple ss), .dat rs, .dat (.tuple [a, b, .none]), .dat (.list [a, b]), .un]) else .ok (.rt (.bool false), [Cell.dat (.tuple ss), .dat rs, .dat (.tuple [a, b, .none]), .dat (.list [a, b]), .un])) := by
  have lk := look1 ss rs (.tuple [a, b, .none]) [a, b]
  cases ha : isI a with
  | false =>
    have e0 : isR ss.length (.tuple [a, b, .none]) = false := by
      show (wi 0 1 a && _ && _ && _) = false
      cases h1 : wi 0 1 a with
      | false => rfl
      | true => rw [wiI h1] at ha; cases ha
    rw [e0]
    simp [bodyR, f3, tyD, cut3, look2, isN, lk, all2, ha]
  | true =>
    obtain ⟨i, rfl⟩ := int_of ha
    cases hb : isI b with
    | false =>
      have e0 : isR ss.length (.tuple [.int i, b, .none]) = false := by
        show (wi 0 1 (.int i) && wi (-1) 1 b && _ && _) = false
        cases h1 : wi (-1) 1 b with
        | false => rw [Bool.and_false]; rfl
        | true => rw [wiI h1] at hb; cases hb
      rw [e0]
      simp [bodyR, f3, tyD, cut3, look2, isN, lk, all2, hb, isI_i]
    | true =>
      obtain ⟨j, rfl⟩ := int_of hb
      have e1 : isR ss.length (.tuple [.int i, .int j, .none]) = ((decide (i = 0) || decide (i = 1)) && (decide (j = -1) || decide (j = 1))) := by
        show (decide (0 ≤ i) && decide (i ≤ 1) && (decide (-1 ≤ j) && decide (j ≤ 1)) && !(decide (j = 0)) && (true || _)) = _
        rw [Bool.eq_iff_iff]
        simp
        omega
      rw [e1]
      cases h1 : (decide (i = 0) || decide (i = 1)) with
      | false => simp [bodyR, f3, tyD, cut3, look2, isN, lk, all2, isI, nin2, h1]
      | true =>
        cases h2 : (decide (j = -1) || decide (j = 1)) with
        | false => simp [bodyR, f3, tyD, cut3, look2, isN, lk, all2, isI, nin2, h1, h2]
        | true => simp [bodyR, f3, tyD, cut3, look2, isN, lk, all2, isI, nin2, h1, h2]
theorem run_some (ss : List D) (rs a b c : D) (hc : isN c = false) (c2 c3 : Cell) (f3 : freeC (some c3) = true) : exs G__law_is_machine bodyR [Cell.dat (.tuple ss), .dat rs, .dat (.tuple [a, b, c]), c3, .un] =
    (if isR ss.length (.tuple [a, b, c]) = true then .ok (.nx, [Cell.dat (.tuple ss), .dat rs, .dat (.tuple [a, b, c]), .dat (.list [a, b, c]), .un]) else .ok (.rt (.bool false), [Cell.dat (.tuple ss), .dat rs, .dat (.tuple [a, b, c]), .dat (.list [a, b, c]), .un])) := by
  have lk := look1 ss rs (.tuple [a, b, c]) [a, b, c]
  cases ha : isI a with
  | false =>
    have e0 : isR ss.length (.tuple [a, b, c]) = false := by
      show (wi 0 1 a && _ && _ && _) = false
      cases h1 : wi 0 1 a with
      | false => rfl
      | true => rw [wiI h1] at ha; cases ha
    rw [e0]
    simp [bodyR, f3, tyD, cut3, look2, hc, lk, all3, ha]
  | true =>
    obtain ⟨i, rfl⟩ := int_of ha
    cases hb : isI b with
    | false =>
      have e0 : isR ss.length (.tuple [.int i, b, c]) = false := by
        show (wi 0 1 (.int i) && wi (-1) 1 b && _ && _) = false
        cases h1 : wi (-1) 1 b with
        | false => rw [Bool.and_false]; rfl
        | true => rw [wiI h1] at hb; cases hb
      rw [e0]
      simp [bodyR, f3, tyD, cut3, look2, hc, lk, all3, hb, isI_i]
    | true =>
      obtain ⟨j, rfl⟩ := int_of hb
      cases hcI : isI c with
      | false =>
        have e0 : isR ss.length (.tuple [.int i, .int j, c]) = false := by
          show (_ && _ && _ && (isN c || wi 0 ((ss.length : Int) - 1) c)) = false
          rw [hc]
          cases h1 : wi 0 ((ss.length : Int) - 1) c with
          | false => rw [Bool.or_false, Bool.and_false]
          | true => rw [wiI h1] at hcI; cases hcI
        rw [e0]
        simp [bodyR, f3, tyD, cut3, look2, hc, lk, all3, hcI, isI_i]
      | true =>
        obtain ⟨k, rfl⟩ := int_of hcI
        have e1 : isR ss.length (.tuple [.int i, .int j, .int k]) = ((decide (i = 0) || decide (i = 1)) && (decide (j = -1) || decide (j = 1)) && (decide (0 ≤ k) && decide (k < (ss.length : Int)))) := by
          show (decide (0 ≤ i) && decide (i ≤ 1) && (decide (-1 ≤ j) && decide (j ≤ 1)) && !(decide (j = 0)) && (false || (decide (0 ≤ k) && decide (k ≤ (ss.length : Int) - 1)))) = _
          rw [Bool.eq_iff_iff]
          simp
          omega
        rw [e1]
        cases h1 : (decide (i = 0) || decide (i = 1)) with
        | false => simp [bodyR, f3, tyD, cut3, look2, isN, lk, all3, isI, nin2, h1]
        | true =>
          cases h2 : (decide (j = -1) || decide (j = 1)) with
          | false => simp [bodyR, f3, tyD, cut3, look2, isN, lk, all3, isI, nin2, h1, h2]
          | true =>
            by_cases hk : 0 ≤ k
            · by_cases hk2 : k < (ss.length : Int)
              · simp [bodyR, f3, tyD, cut3, look2, isN, lk, all3, isI, nin2, h1, h2, hk, hk2]
              · simp [bodyR, f3, tyD, cut3, look2, isN, lk, all3, isI, nin2, h1, h2, hk, hk2]
            · simp [bodyR, f3, tyD, cut3, look2, isN, lk, all3, isI, nin2, h1, h2, hk]
theorem run_rule (ss : List D) (rs d : D) (ρ : Slots) (hJ : JR (.tuple ss) rs ρ) : if (!isR ss.length d) = true then ∃ ρ', exs G__law_is_machine bodyR (ρ.set 2 (.dat d)) = .ok (.rt (.bool false), ρ') else ∃ ρ', exs G__law_is_machine bodyR (ρ.set 2 (.dat d)) = .ok (.nx, ρ') ∧ JR (.tuple ss) rs ρ' := by
  obtain ⟨c2, c3, rfl, f2, f3⟩ := hJ
  show if (!isR ss.length d) = true then ∃ ρ', exs G__law_is_machine bodyR [Cell.dat (.tuple ss), .dat rs, .dat d, c3, .un] = .ok (.rt (.bool false), ρ') else ∃ ρ', exs G__law_is_machine bodyR [Cell.dat (.tuple ss), .dat rs, .dat d, c3, .un] = .ok (.nx, ρ') ∧ JR (.tuple ss) rs ρ'
  by_cases hd : ∃ a b c, d = .tuple [a, b, c]
  · obtain ⟨a, b, c, rfl⟩ := hd
    cases hc : isN c with
    | true =>
      obtain rfl : c = .none := by cases c <;> first | rfl | cases hc
      rw [run_none ss rs a b c2 c3 f3]
      cases hr : isR ss.length (.tuple [a, b, .none]) with
      | true => exact ⟨_, rfl, _, _, rfl, rfl, rfl⟩
      | false => exact ⟨_, rfl⟩
    | false =>
      rw [run_some ss rs a b c hc c2 c3 f3]
      cases hr : isR ss.length (.tuple [a, b, c]) with
      | true => exact ⟨_, rfl, _, _, rfl, rfl, rfl⟩
      | false => exact ⟨_, rfl⟩
  · have e0 : isR ss.length d = false := by
      cases d with
      | tuple xs =>
        match xs with
        | [] => rfl
        | [_] => rfl
        | [_, _] => rfl
        | [a, b, c] => exact absurd ⟨a, b, c, rfl⟩ hd
        | _ :: _ :: _ :: _ :: _ => rfl
      | _ => rfl
    rw [e0]
    refine (⟨[Cell.dat (.tuple ss), .dat rs, .dat d, c3, .un], ?_⟩ : ∃ ρ', _ = R.ok (Fl.rt (PyData.bool false), ρ'))
    cases d with
    | tuple xs =>
      have h3 : ¬ ((xs.length : Int) = 3) := fun z => by
        have z : xs.length = 3 := by omega
        match xs, z with
        | [a, b, c], _ => exact hd ⟨a, b, c, rfl⟩
      simp [bodyR, tyD, h3]
    | _ => simp [bodyR, tyD]
end K80

namespace K80
open PySem PySem.Spec PyProof.Rows L2 DP Cbasics Cbeavers L80
/-- a for loop that looks at each thing, and hands back False at the first that is not good -/
theorem for_all {turn : D → Slots → R (Fl × Slots)} (p : D → Bool) (J : Slots → Prop) : ∀ (ds : List D) (ρ : Slots), J ρ →
    (∀ d ∈ ds, ∀ ρ, J ρ → if p d = true then ∃ ρ', turn d ρ = .ok (.nx, ρ') ∧ J ρ' else ∃ ρ', turn d ρ = .ok (.rt (.bool false), ρ')) →
    if ds.all p = true then ∃ ρ', forLoop turn ds ρ = .ok (.nx, ρ') ∧ J ρ' else ∃ ρ', forLoop turn ds ρ = .ok (.rt (.bool false), ρ')
  | [], ρ, hJ, _ => ⟨ρ, rfl, hJ⟩
  | d :: r, ρ, hJ, h => by
    have h0 := h d List.mem_cons_self ρ hJ
    rw [List.all_cons]
    cases hp : p d with
    | true =>
      rw [hp, if_pos rfl] at h0
      obtain ⟨ρ', e, J'⟩ := h0
      have ih := for_all p J r ρ' J' fun d hd => h d (List.mem_cons_of_mem _ hd)
      rw [Bool.true_and, forLoop_cons, e, bind_ok, forC_nx]
      exact ih
    | false =>
      rw [hp, if_neg (by decide)] at h0
      obtain ⟨ρ', e⟩ := h0
      rw [Bool.false_and, if_neg (by decide)]
      refine ⟨ρ', ?_⟩
      rw [forLoop_cons, e, bind_ok, forC_rt]
def bodyS : Ss := (.cons (.ifs (.or (.cons (.not (.isi (.var 1) .tuple)) (.cons (.cmp .ne (.bi .len (.var 1)) (.lit (.int 2))) .nil))) (.cons (.ret (.lit (.bl false)))
    .nil) .nil)
    (.cons (.fors (.nm 2) (.seq (.var 1)) bodyR)
    .nil))
theorem run_state (ss : List D) (s : D) (c2 c3 : Cell) (f2 : freeC (some c2) = true) (f3 : freeC (some c3) = true) :
    if (isS s && isSR ss.length s) = true then ∃ ρ', exs G__law_is_machine bodyS [Cell.dat (.tuple ss), .dat s, c2, c3, .un] = .ok (.nx, ρ') ∧ JR (.tuple ss) s ρ'
      else ∃ ρ', exs G__law_is_machine bodyS [Cell.dat (.tuple ss), .dat s, c2, c3, .un] = .ok (.rt (.bool false), ρ') := by
  by_cases hs : isS s = true
  · obtain ⟨rs, rfl⟩ : ∃ rs, s = .tuple rs := by cases s <;> first | exact ⟨_, rfl⟩ | cases hs
    have hl : rs.length = 2 := of_decide_eq_true hs
    rw [hs, Bool.true_and]
    have L := for_all (turn := fun d ρ1 => putTg (.nm 2) d ρ1 >>= fun ρ2 => exs G__law_is_machine bodyR ρ2) (isR ss.length) (JR (.tuple ss) (.tuple rs)) rs [Cell.dat (.tuple ss), .dat (.tuple rs), c2, c3, .un] ⟨_, _, rfl, f2, f3⟩ fun d _ ρ hJ => by
      have h := run_rule ss (.tuple rs) d ρ hJ
      obtain ⟨e2, e3, rfl, g2, g3⟩ := hJ
      have e : (putTg (.nm 2) d [Cell.dat (.tuple ss), .dat (.tuple rs), e2, e3, .un] >>= fun ρ2 => exs G__law_is_machine bodyR ρ2) = exs G__law_is_machine bodyR [Cell.dat (.tuple ss), .dat (.tuple rs), .dat d, e3, .un] := by
        simp [g2]
      show if isR ss.length d = true then ∃ ρ', (putTg (.nm 2) d _ >>= fun ρ2 => exs G__law_is_machine bodyR ρ2) = _ ∧ _ else ∃ ρ', (putTg (.nm 2) d _ >>= fun ρ2 => exs G__law_is_machine bodyR ρ2) = _
      rw [e]
      cases hr : isR ss.length d with
      | true => rw [hr] at h; exact h
      | false => rw [hr] at h; exact h
    have hd : exs G__law_is_machine bodyS [Cell.dat (.tuple ss), .dat (.tuple rs), c2, c3, .un] = (forLoop (fun d ρ1 => putTg (.nm 2) d ρ1 >>= fun ρ2 => exs G__law_is_machine bodyR ρ2) rs [Cell.dat (.tuple ss), .dat (.tuple rs), c2, c3, .un] >>= seqC (exs G__law_is_machine .nil)) := by
      have h2 : (rs.length : Int) = 2 := by omega
      unfold bodyS
      generalize bodyR = b
      simp [tyD, h2]
    rw [hd]
    show if rs.all (isR ss.length) = true then _ else _
    cases ha : rs.all (isR ss.length) with
    | true =>
      rw [ha] at L
      obtain ⟨ρ', e, J'⟩ := L
      refine ⟨ρ', ?_, J'⟩
      rw [e]
      simp
    | false =>
      rw [ha] at L
      obtain ⟨ρ', e⟩ := L
      refine ⟨ρ', ?_⟩
      rw [e]
      simp
  · rw [Bool.not_eq_true] at hs
    rw [hs, Bool.false_and]
    refine (⟨[Cell.dat (.tuple ss), .dat s, c2, c3, .un], ?_⟩ : ∃ ρ', _ = R.ok (Fl.rt (PyData.bool false), ρ'))
    unfold bodyS
    generalize bodyR = b
    cases s with
    | tuple xs =>
      have h3 : ¬ ((xs.length : Int) = 2) := fun z => by
        have z2 : xs.length = 2 := by omega
        have : decide (xs.length = 2) = false := hs
        rw [z2] at this
        cases this
      simp [tyD, h3]
    | _ => simp [tyD]
theorem sp_law_is_machine (d : D) : g__law_is_machine.sem [d] = .ok (.bool (isM d), []) := by
  rw [sem__law_is_machine]
  show finP (exs G__law_is_machine (.cons (.ifs (.or (.cons (.not (.isi (.var 0) .tuple)) (.cons (.not (.chn .le .le (.lit (.int 1)) (.bi .len (.var 0)) (.lit (.int 3)))) .nil))) (.cons (.ret (.lit (.bl false)))
    .nil) .nil)
    (.cons (.fors (.nm 1) (.seq (.var 0)) bodyS) (.cons (.ret (.lit (.bl true))) .nil))) (slots0 5 [d])) = _
  cases d with
  | tuple ss =>
    by_cases h : 1 ≤ ss.length ∧ ss.length ≤ 3
    · obtain ⟨h1, h2⟩ := h
      have h3 : (1 : Int) ≤ (ss.length : Int) := by omega
      have h4 : (ss.length : Int) ≤ 3 := by omega
      have L := for_all (turn := fun d ρ1 => putTg (.nm 1) d ρ1 >>= fun ρ2 => exs G__law_is_machine bodyS ρ2) (fun s => isS s && isSR ss.length s) (fun ρ => ∃ c1 c2 c3, ρ = [Cell.dat (.tuple ss), c1, c2, c3, .un] ∧ freeC (some c1) = true ∧ freeC (some c2) = true ∧ freeC (some c3) = true) ss [Cell.dat (.tuple ss), .un, .un, .un, .un] ⟨_, _, _, rfl, rfl, rfl, rfl⟩ fun s _ ρ hJ => by
        obtain ⟨c1, c2, c3, rfl, f1, f2, f3⟩ := hJ
        have h := run_state ss s c2 c3 f2 f3
        have e : (putTg (.nm 1) s [Cell.dat (.tuple ss), c1, c2, c3, .un] >>= fun ρ2 => exs G__law_is_machine bodyS ρ2) = exs G__law_is_machine bodyS [Cell.dat (.tuple ss), .dat s, c2, c3, .un] := by
          generalize bodyS = b
          simp [f1]
        show if (isS s && isSR ss.length s) = true then ∃ ρ', (putTg (.nm 1) s _ >>= fun ρ2 => exs G__law_is_machine bodyS ρ2) = _ ∧ _ else ∃ ρ', (putTg (.nm 1) s _ >>= fun ρ2 => exs G__law_is_machine bodyS ρ2) = _
        rw [e]
        cases hr : (isS s && isSR ss.length s) with
        | true =>
          rw [hr] at h
          obtain ⟨ρ', e', c2', c3', rfl, g2, g3⟩ := h
          exact ⟨_, e', _, _, _, rfl, rfl, g2, g3⟩
        | false => rw [hr] at h; exact h
      have hM : isM (.tuple ss) = ss.all (fun s => isS s && isSR ss.length s) := by
        show (decide (1 ≤ ss.length) && decide (ss.length ≤ 3) && ss.all isS && ss.all (isSR ss.length)) = _
        rw [decide_eq_true h1, decide_eq_true h2, Bool.true_and, Bool.true_and]
        generalize isSR ss.length = q
        clear h3 h4 h1 h2 L
        induction ss with
        | nil => rfl
        | cons x r ih =>
          rw [List.all_cons, List.all_cons, List.all_cons, ← ih]
          cases isS x <;> cases q x <;> cases r.all isS <;> rfl
      rw [hM]
      have hd : exs G__law_is_machine (.cons (.ifs (.or (.cons (.not (.isi (.var 0) .tuple)) (.cons (.not (.chn .le .le (.lit (.int 1)) (.bi .len (.var 0)) (.lit (.int 3)))) .nil))) (.cons (.ret (.lit (.bl false)))
    .nil) .nil)
    (.cons (.fors (.nm 1) (.seq (.var 0)) bodyS) (.cons (.ret (.lit (.bl true))) .nil))) (slots0 5 [.tuple ss]) = (forLoop (fun d ρ1 => putTg (.nm 1) d ρ1 >>= fun ρ2 => exs G__law_is_machine bodyS ρ2) ss [Cell.dat (.tuple ss), .un, .un, .un, .un] >>= seqC (exs G__law_is_machine (.cons (.ret (.lit (.bl true))) .nil))) := by
        generalize bodyS = b
        simp [slots0, tyD, h3, h4]
      rw [hd]
      cases ha : ss.all (fun s => isS s && isSR ss.length s) with
      | true =>
        rw [ha] at L
        obtain ⟨ρ', e, J'⟩ := L
        rw [e]
        simp
      | false =>
        rw [ha] at L
        obtain ⟨ρ', e⟩ := L
        rw [e]
        simp
    · have e3 : isM (.tuple ss) = false := by
        show (decide (1 ≤ ss.length) && decide (ss.length ≤ 3) && ss.all isS && ss.all (isSR ss.length)) = false
        by_cases h1 : 1 ≤ ss.length
        · have h2 : ¬ ss.length ≤ 3 := fun z => h ⟨h1, z⟩
          simp [h1, h2]
        · simp [h1]
      rw [e3]
      generalize bodyS = b
      by_cases h3 : (1 : Int) ≤ (ss.length : Int)
      · have h4 : ¬ (ss.length : Int) ≤ 3 := by omega
        simp [slots0, tyD, h3, h4]
      · simp [slots0, tyD, h3]
  | _ =>
    generalize bodyS = b
    simp [slots0, tyD, isM]
end K80

/-! DP: what repr shows tells the data apart. -/
namespace DP
open PySem PySem.Spec PyProof.Rows L2
def cs (x : Str) : List Nat := x.cps.toList
theorem cs_app (x y : Str) : cs (x ++ y) = cs x ++ cs y := by
  show (x.cps ++ y.cps).toList = _
  rw [Array.toList_append]
  rfl
theorem cs_inj {x y : Str} (h : cs x = cs y) : x = y := by
  obtain ⟨a⟩ := x
  obtain ⟨b⟩ := y
  exact congrArg Str.mk (Array.toList_inj.mp h)
/-- behind the first of some texts -/
def tl (e : List Nat) : List (List Nat) → List Nat
  | [] => e
  | y :: r => 44 :: 32 :: (y ++ tl e r)
theorem tl_app (e a : List Nat) : ∀ l : List (List Nat), tl e l ++ a = tl (e ++ a) l
  | [] => rfl
  | y :: r => by
    show 44 :: 32 :: ((y ++ tl e r) ++ a) = 44 :: 32 :: (y ++ tl (e ++ a) r)
    rw [List.append_assoc, tl_app e a r]
theorem cs_join : ∀ (t : Str) (r : List Str), cs (Str.join ", " (t :: r)) = cs t ++ tl [] (r.map cs)
  | t, [] => by
    show cs t = _
    exact (List.append_nil _).symm
  | t, u :: r => by
    show cs (t ++ (", " : Str) ++ Str.join ", " (u :: r)) = _
    rw [cs_app, cs_app, cs_join u r]
    show (cs t ++ [44, 32]) ++ _ = _
    rw [List.append_assoc]
    rfl
theorem cs_from : ∀ (ts : List Str) (k : Nat) (acc : Str), cs (textFrom (k + 1) acc ts) = cs acc ++ tl [] (ts.map cs)
  | [], k, acc => (List.append_nil _).symm
  | t :: r, k, acc => by
    show cs (textFrom (k + 1 + 1) (acc ++ (if k + 1 > 0 then ", " else "" : String) ++ t) r) = _
    rw [cs_from r (k + 1), cs_app, cs_app, if_pos (Nat.succ_pos k)]
    show ((cs acc ++ [44, 32]) ++ cs t) ++ _ = cs acc ++ (44 :: 32 :: (cs t ++ tl [] (r.map cs)))
    simp
theorem cs_list : ∀ ts : List Str, cs (listText ts) = 91 :: (match ts.map cs with
    | [] => [93]
    | t :: r => t ++ tl [93] r)
  | [] => rfl
  | t :: r => by
    show cs (textFrom (0 + 1) (("[" : String) ++ (if 0 > 0 then ", " else "" : String) ++ t) r ++ "]") = _
    rw [cs_app, cs_from, cs_app, cs_app]
    show ((([91] ++ cs (Str.ofString (if (0 : Nat) > 0 then ", " else ""))) ++ cs t) ++ tl [] (r.map cs)) ++ [93] = 91 :: (cs t ++ tl [93] (r.map cs))
    rw [if_neg (by decide), List.append_assoc, tl_app]
    rfl
theorem cs_tup : ∀ ts : List Str, cs (tupleText ts) = 40 :: (match ts.map cs with
    | [] => [41]
    | [t] => t ++ [44, 41]
    | t :: u :: r => t ++ tl [41] (u :: r))
  | [] => rfl
  | [t] => by
    show cs (("(" : Str) ++ Str.join ", " [t] ++ (if ([t] : List Str).length == 1 then ",)" else ")" : String)) = _
    rw [cs_app, cs_app, cs_join]
    show ([40] ++ (cs t ++ [])) ++ [44, 41] = 40 :: (cs t ++ [44, 41])
    simp
  | t :: u :: r => by
    show cs (("(" : Str) ++ Str.join ", " (t :: u :: r) ++ (if (t :: u :: r : List Str).length == 1 then ",)" else ")" : String)) = _
    rw [cs_app, cs_app, cs_join]
    have e : ((t :: u :: r : List Str).length == 1) = false := rfl
    rw [e]
    show ([40] ++ (cs t ++ tl [] ((u :: r).map cs))) ++ [41] = 40 :: (cs t ++ tl [41] ((u :: r).map cs))
    rw [List.append_assoc, List.append_assoc, tl_app]
    rfl
/-- what may stand behind a thing -/
def Stop (a : List Nat) : Prop := a = [] ∨ ∃ c r, a = c :: r ∧ (c = 44 ∨ c = 41 ∨ c = 93 ∨ c = 125 ∨ c = 58)
theorem Stop.tl {e : List Nat} (h : Stop e) : ∀ l : List (List Nat), Stop (tl e l)
  | [] => h
  | y :: r => .inr ⟨44, _, rfl, .inl rfl⟩
theorem stop44 (r : List Nat) : Stop (44 :: r) := .inr ⟨44, r, rfl, .inl rfl⟩
theorem stop41 (r : List Nat) : Stop (41 :: r) := .inr ⟨41, r, rfl, .inr (.inl rfl)⟩
theorem stop93 (r : List Nat) : Stop (93 :: r) := .inr ⟨93, r, rfl, .inr (.inr (.inl rfl))⟩
/-! numbers -/
def dg (n : Nat) : List Nat := (Nat.toDigits 10 n).map Char.toNat
theorem dg_isD {n c : Nat} (h : c ∈ dg n) : 48 ≤ c ∧ c ≤ 57 := by
  obtain ⟨x, hx, rfl⟩ := List.mem_map.mp h
  have := Nat.isDigit_of_mem_toDigits (by decide) (by decide) hx
  unfold Char.isDigit at this
  simp only [Bool.and_eq_true, decide_eq_true_eq] at this
  obtain ⟨h1, h2⟩ := this
  exact ⟨h1, h2⟩
theorem dg_inj0 {n m : Nat} (h : dg n = dg m) : n = m := by
  have h2 : Nat.toDigits 10 n = Nat.toDigits 10 m := by
    unfold dg at h
    refine List.map_inj_right (f := Char.toNat) (fun x y e => ?_) |>.mp h
    exact Char.toNat_inj.mp e
  have a := Nat.ofDigitChars_toDigits (b := 10) (n := n) (by decide) (by decide)
  have b := Nat.ofDigitChars_toDigits (b := 10) (n := m) (by decide) (by decide)
  rw [h2, b] at a
  exact a.symm
theorem dg_ne (n : Nat) : dg n ≠ [] := by
  intro h
  by_cases h0 : n = 0
  · subst h0; cases h
  · have h2 : Nat.toDigits 10 n = [] := by
      unfold dg at h
      exact List.map_eq_nil_iff.mp h
    have a := Nat.ofDigitChars_toDigits (b := 10) (n := n) (by decide) (by decide)
    rw [h2] at a
    exact h0 a.symm
theorem dg_inj {n m : Nat} (h : dg n = dg m) : n = m := by
  have h2 : Nat.toDigits 10 n = Nat.toDigits 10 m := by
    unfold dg at h
    refine List.map_inj_right (f := Char.toNat) (fun x y e => ?_) |>.mp h
    exact Char.toNat_inj.mp e
  have a := Nat.ofDigitChars_toDigits (b := 10) (n := n) (by decide) (by decide)
  have b := Nat.ofDigitChars_toDigits (b := 10) (n := m) (by decide) (by decide)
  rw [h2, b] at a
  exact a.symm
theorem cs_of (s : String) : cs (Str.ofString s) = s.toList.map Char.toNat := by
  unfold cs
  rw [Str.ofString_eq_toList]
theorem cs_int (i : Int) : cs (PyData.shown (.int i)) = if 0 ≤ i then dg i.toNat else 45 :: dg (-i).toNat := by
  rw [PyData.shown, cs_of]
  cases i with
  | ofNat n =>
    rw [if_pos (show 0 ≤ Int.ofNat n from Int.natCast_nonneg n)]
    show (Nat.repr n).toList.map Char.toNat = _
    simp [dg, Nat.repr]
  | negSucc n =>
    rw [if_neg (by omega)]
    show ("-" ++ Nat.repr (n + 1)).toList.map Char.toNat = 45 :: dg (n + 1)
    simp [dg, Nat.repr]
theorem span_dg : ∀ {l m a b : List Nat}, (∀ c ∈ l, 48 ≤ c ∧ c ≤ 57) → (∀ c ∈ m, 48 ≤ c ∧ c ≤ 57) → Stop a → Stop b → l ++ a = m ++ b → l = m ∧ a = b
  | [], [], a, b, _, _, _, _, h => ⟨rfl, h⟩
  | x :: l, [], a, b, hl, _, _, hb, h => by
    exfalso
    have h : x :: (l ++ a) = b := h
    have hx := hl x List.mem_cons_self
    rcases hb with rfl | ⟨c, r, rfl, hc⟩
    · cases h
    · have := (List.cons.inj h).1
      omega
  | [], y :: m, a, b, _, hm, ha, _, h => by
    exfalso
    have h : a = y :: (m ++ b) := h
    have hx := hm y List.mem_cons_self
    rcases ha with rfl | ⟨c, r, rfl, hc⟩
    · cases h
    · have := (List.cons.inj h).1
      omega
  | x :: l, y :: m, a, b, hl, hm, ha, hb, h => by
    obtain ⟨h1, h2⟩ := List.cons.inj (show x :: (l ++ a) = y :: (m ++ b) from h)
    obtain ⟨h3, h4⟩ := span_dg (fun c hc => hl c (List.mem_cons_of_mem _ hc)) (fun c hc => hm c (List.mem_cons_of_mem _ hc)) ha hb h2
    exact ⟨by rw [h1, h3], h4⟩
/-! texts -/
/-- letters alone -/
def plainS (x : Str) : Bool := (cs x).all fun c => decide (63 ≤ c ∧ c ≤ 122 ∧ c ≠ 92)
theorem repr_char {c : Nat} (h : 63 ≤ c ∧ c ≤ 122 ∧ c ≠ 92) (q : Nat) (hq : q = 39) : Builtin.Str.reprChar q c = [c] := by
  subst hq
  obtain ⟨h1, h2, h3⟩ := h
  have : c ∈ (List.range 123).filter fun c => decide (63 ≤ c ∧ c ≤ 122 ∧ c ≠ 92) := List.mem_filter.mpr ⟨List.mem_range.mpr (by omega), by simp; omega⟩
  have all : ∀ c ∈ (List.range 123).filter fun c => decide (63 ≤ c ∧ c ≤ 122 ∧ c ≠ 92), Builtin.Str.reprChar 39 c = [c] := by decide +kernel
  exact all c this
theorem cs_str {x : Str} (h : plainS x = true) : cs (PyData.shown (.str x)) = 39 :: (cs x ++ [39]) := by
  have hp : ∀ c ∈ x.cps.toList, 63 ≤ c ∧ c ≤ 122 ∧ c ≠ 92 := fun c hc => of_decide_eq_true (List.all_eq_true.mp h c hc)
  rw [PyData.shown]
  have n39 : x.cps.contains 39 = false := by
    rw [Bool.eq_false_iff]
    intro z
    rw [← Array.contains_toList, List.contains_iff_mem] at z
    have := hp 39 z
    omega
  have hq : reprQuote x = 39 := by
    unfold reprQuote
    rw [n39]
    rfl
  show ((x.cps.foldl (fun out c => out ++ (Builtin.Str.reprChar (reprQuote x) c).toArray) #[reprQuote x]).push (reprQuote x)).toList = _
  rw [hq, Array.toList_push, ← Array.foldl_toList]
  have key : ∀ (l : List Nat) (acc : Array Nat), (∀ c ∈ l, 63 ≤ c ∧ c ≤ 122 ∧ c ≠ 92) → (l.foldl (fun out c => out ++ (Builtin.Str.reprChar 39 c).toArray) acc).toList = acc.toList ++ l := by
    intro l
    induction l with
    | nil => intro acc _; simp
    | cons c r ih =>
      intro acc hl
      rw [List.foldl_cons, ih _ fun x hx => hl x (List.mem_cons_of_mem _ hx), repr_char (hl c List.mem_cons_self) 39 rfl]
      simp
  rw [key _ _ hp]
  rfl
theorem span_q : ∀ {l m a b : List Nat}, (∀ c ∈ l, c ≠ 39) → (∀ c ∈ m, c ≠ 39) → l ++ 39 :: a = m ++ 39 :: b → l = m ∧ a = b
  | [], [], a, b, _, _, h => ⟨rfl, (List.cons.inj h).2⟩
  | x :: l, [], a, b, hl, _, h => absurd (List.cons.inj (show x :: (l ++ 39 :: a) = 39 :: b from h)).1 (hl x List.mem_cons_self)
  | [], y :: m, a, b, _, hm, h => absurd (List.cons.inj (show 39 :: a = y :: (m ++ 39 :: b) from h)).1.symm (hm y List.mem_cons_self)
  | x :: l, y :: m, a, b, hl, hm, h => by
    obtain ⟨h1, h2⟩ := List.cons.inj (show x :: (l ++ 39 :: a) = y :: (m ++ 39 :: b) from h)
    obtain ⟨h3, h4⟩ := span_q (fun c hc => hl c (List.mem_cons_of_mem _ hc)) (fun c hc => hm c (List.mem_cons_of_mem _ hc)) h2
    exact ⟨by rw [h1, h3], h4⟩
/-! the first sign tells the kind -/
def kindOf : D → Nat
  | .none => 0 | .bool _ => 1 | .int _ => 2 | .str _ => 3 | .list _ => 4 | .tuple _ => 5 | .dict _ => 6
def kindC (c : Nat) : Nat := if c = 78 then 0 else if c = 84 ∨ c = 70 then 1 else if c = 45 ∨ (48 ≤ c ∧ c ≤ 57) then 2 else if c = 39 ∨ c = 34 then 3 else if c = 91 then 4 else if c = 40 then 5 else if c = 123 then 6 else 7
theorem head_of (d : D) : ∃ c r, cs d.shown = c :: r ∧ kindC c = kindOf d := by
  cases d with
  | none => rw [PyData.shown]; exact ⟨78, _, rfl, rfl⟩
  | bool b => rw [PyData.shown]; cases b <;> exact ⟨_, _, rfl, rfl⟩
  | int i =>
    rw [cs_int]
    split
    · cases e : dg i.toNat with
      | nil => exact absurd e (dg_ne _)
      | cons c r =>
        refine ⟨c, r, rfl, ?_⟩
        have := dg_isD (n := i.toNat) (c := c) (by rw [e]; exact List.mem_cons_self)
        show kindC c = 2
        unfold kindC
        rw [if_neg (by omega), if_neg (by omega), if_pos (.inr this)]
    · exact ⟨_, _, rfl, rfl⟩
  | str x =>
    rw [PyData.shown]
    have : ∃ r, cs (reprText x) = reprQuote x :: r := by
      show ∃ r, ((x.cps.foldl (fun out c => out ++ (Builtin.Str.reprChar (reprQuote x) c).toArray) #[reprQuote x]).push (reprQuote x)).toList = _
      rw [Array.toList_push, ← Array.foldl_toList]
      have key : ∀ (q : Nat) (l : List Nat) (acc : Array Nat), ∃ r, (l.foldl (fun out c => out ++ (Builtin.Str.reprChar q c).toArray) acc).toList = acc.toList ++ r := by
        intro q l
        induction l with
        | nil => exact fun acc => ⟨[], by simp⟩
        | cons c r ih =>
          intro acc
          obtain ⟨r2, h2⟩ := ih (acc ++ (Builtin.Str.reprChar q c).toArray)
          exact ⟨Builtin.Str.reprChar q c ++ r2, by rw [List.foldl_cons, h2]; simp⟩
      obtain ⟨r, hr⟩ := key (reprQuote x) x.cps.toList #[reprQuote x]
      exact ⟨r ++ [reprQuote x], by rw [hr]; simp⟩
    obtain ⟨r, hr⟩ := this
    refine ⟨_, r, hr, ?_⟩
    unfold reprQuote
    split <;> rfl
  | list xs => rw [PyData.shown, cs_list]; exact ⟨91, _, rfl, rfl⟩
  | tuple xs => rw [PyData.shown, cs_tup]; exact ⟨40, _, rfl, rfl⟩
  | dict xs =>
    rw [PyData.shown]
    refine ⟨123, ?_, ?_, rfl⟩
    · exact cs (Str.join ", " (PyData.shownKv xs)) ++ [125]
    · show cs (("{" : Str) ++ Str.join ", " (PyData.shownKv xs) ++ ("}" : String)) = _
      rw [cs_app, cs_app]
      show ([123] ++ _) ++ [125] = _
      simp
theorem kind_eq {d e : D} {a b : List Nat} (h : cs d.shown ++ a = cs e.shown ++ b) : kindOf d = kindOf e := by
  obtain ⟨c, r, h1, h2⟩ := head_of d
  obtain ⟨c', r', h1', h2'⟩ := head_of e
  rw [h1, h1'] at h
  rw [← h2, ← h2', (List.cons.inj (show c :: (r ++ a) = c' :: (r' ++ b) from h)).1]
theorem no_head {d : D} {c : Nat} {r a : List Nat} (h : cs d.shown ++ a = c :: r) (hc : kindC c = 7) : False := by
  obtain ⟨c', r', h1, h2⟩ := head_of d
  rw [h1] at h
  have := (List.cons.inj (show c' :: (r' ++ a) = c :: r from h)).1
  rw [this, hc] at h2
  cases d <;> cases h2
mutual
/-- plain texts, numbers, None, True, False, tuples and lists of these -/
def goodD : D → Bool
  | .none | .bool _ | .int _ => true
  | .str x => plainS x
  | .list xs => goodA xs
  | .tuple xs => goodA xs
  | .dict _ => false
def goodA : List D → Bool
  | [] => true
  | d :: r => goodD d && goodA r
end
mutual
/-- the texts are plain where no dict is above them -/
def niceD : D → Bool
  | .str x => plainS x
  | .list xs => niceA xs
  | .tuple xs => niceA xs
  | .none | .bool _ | .int _ | .dict _ => true
def niceA : List D → Bool
  | [] => true
  | d :: r => niceD d && niceA r
end
abbrev shs (xs : List D) : List (List Nat) := (PyData.shownAll xs).map cs
theorem shs_cons (x : D) (r : List D) : shs (x :: r) = cs x.shown :: shs r := by
  show ((PyData.shownAll (x :: r)).map cs) = _
  rw [PyData.shownAll]
  rfl
theorem shs_nil : shs [] = [] := by
  show ((PyData.shownAll []).map cs) = _
  rw [PyData.shownAll]
  rfl
def bodyL : List (List Nat) → List Nat
  | [] => [93]
  | t :: r => t ++ tl [93] r
def bodyT : List (List Nat) → List Nat
  | [] => [41]
  | [t] => t ++ [44, 41]
  | t :: u :: r => t ++ tl [41] (u :: r)
theorem cs_lst (xs : List D) : cs (PyData.shown (.list xs)) = 91 :: bodyL (shs xs) := by
  rw [PyData.shown, cs_list]
  unfold shs bodyL
  cases (PyData.shownAll xs).map cs <;> rfl
theorem cs_tpl (xs : List D) : cs (PyData.shown (.tuple xs)) = 40 :: bodyT (shs xs) := by
  rw [PyData.shown, cs_tup]
  unfold shs bodyT
  rcases (PyData.shownAll xs).map cs with _ | ⟨t, _ | ⟨u, r⟩⟩ <;> rfl
/-- what repr shows tells the data apart -/
def Apart (e : D) : Prop := ∀ (d : D) (a b : List Nat), niceD d = true → cs d.shown ++ a = cs e.shown ++ b → Stop a → Stop b → d = e ∧ a = b
def ApartA (es : List D) : Prop := ∀ (c : Nat) (ds : List D) (a b : List Nat), kindC c = 7 → c ≠ 44 → niceA ds = true → tl (c :: a) (shs ds) = tl (c :: b) (shs es) → Stop (c :: a) → Stop (c :: b) → ds = es ∧ a = b
theorem tl_stop {c : Nat} {a : List Nat} (h : Stop (c :: a)) (l : List (List Nat)) : Stop (tl (c :: a) l) := h.tl l
theorem apart_list {es : List D} (h1 : ∀ e ∈ es, Apart e) (h2 : ∀ e r, es = e :: r → ApartA r) : Apart (.list es) := by
  intro d a b nd h sa sb
  have hk := kind_eq h
  cases d <;> first | (cases hk; done) | skip
  rename_i ds
  rw [cs_lst, cs_lst] at h
  have h := (List.cons.inj (show 91 :: (bodyL (shs ds) ++ a) = 91 :: (bodyL (shs es) ++ b) from h)).2
  rw [niceD] at nd
  cases ds with
  | nil =>
    cases es with
    | nil =>
      rw [shs_nil] at h
      exact ⟨rfl, (List.cons.inj h).2⟩
    | cons e r =>
      exfalso
      rw [shs_nil, shs_cons] at h
      have h : 93 :: a = (cs e.shown ++ tl [93] (shs r)) ++ b := h
      rw [List.append_assoc] at h
      exact no_head h.symm (by decide)
  | cons x t =>
    cases es with
    | nil =>
      exfalso
      rw [shs_nil, shs_cons] at h
      have h : (cs x.shown ++ tl [93] (shs t)) ++ a = 93 :: b := h
      rw [List.append_assoc] at h
      exact no_head h (by decide)
    | cons e r =>
      rw [shs_cons, shs_cons] at h
      have h : (cs x.shown ++ tl [93] (shs t)) ++ a = (cs e.shown ++ tl [93] (shs r)) ++ b := h
      rw [List.append_assoc, List.append_assoc, tl_app, tl_app] at h
      obtain ⟨n1, n2⟩ := band (show (niceD x && niceA t) = true by rw [niceA] at nd; exact nd)
      obtain ⟨e1, e2⟩ := h1 e List.mem_cons_self x _ _ n1 h (tl_stop (stop93 _) _) (tl_stop (stop93 _) _)
      obtain ⟨e3, e4⟩ := h2 e r rfl 93 t a b (by decide) (by decide) n2 e2 (stop93 _) (stop93 _)
      exact ⟨by rw [e1, e3], e4⟩
theorem apart_tup {es : List D} (h1 : ∀ e ∈ es, Apart e) (h2 : ∀ e r, es = e :: r → ApartA r) : Apart (.tuple es) := by
  intro d a b nd h sa sb
  have hk := kind_eq h
  cases d <;> first | (cases hk; done) | skip
  rename_i ds
  rw [cs_tpl, cs_tpl] at h
  have h := (List.cons.inj (show 40 :: (bodyT (shs ds) ++ a) = 40 :: (bodyT (shs es) ++ b) from h)).2
  rw [niceD] at nd
  -- a tuple's body, item by item
  have body : ∀ (x : D) (t : List D) (a : List Nat), ∃ z, bodyT (shs (x :: t)) ++ a = cs x.shown ++ 44 :: z ∧ ((t = [] ∧ z = 41 :: a) ∨ (∃ y u, t = y :: u ∧ 44 :: z = tl (41 :: a) (shs t) ∧ z = 32 :: (cs y.shown ++ tl (41 :: a) (shs u)))) := by
    intro x t a
    rw [shs_cons]
    cases t with
    | nil =>
      rw [shs_nil]
      exact ⟨41 :: a, by show (cs x.shown ++ [44, 41]) ++ a = _; rw [List.append_assoc]; rfl, .inl ⟨rfl, rfl⟩⟩
    | cons y u =>
      rw [shs_cons]
      refine ⟨_, ?_, .inr ⟨y, u, rfl, rfl, rfl⟩⟩
      show (cs x.shown ++ tl [41] (cs y.shown :: shs u)) ++ a = _
      rw [List.append_assoc, tl_app]
      rfl
  cases ds with
  | nil =>
    cases es with
    | nil =>
      rw [shs_nil] at h
      exact ⟨rfl, (List.cons.inj h).2⟩
    | cons e r =>
      exfalso
      obtain ⟨z, hz, _⟩ := body e r b
      rw [hz, shs_nil] at h
      exact no_head (h.symm : _ = 41 :: a) (by decide)
  | cons x t =>
    obtain ⟨z, hz, cz⟩ := body x t a
    cases es with
    | nil =>
      exfalso
      rw [hz, shs_nil] at h
      exact no_head (h : _ = 41 :: b) (by decide)
    | cons e r =>
      obtain ⟨w, hw, cw⟩ := body e r b
      rw [hz, hw] at h
      obtain ⟨n1, n2⟩ := band (show (niceD x && niceA t) = true by rw [niceA] at nd; exact nd)
      obtain ⟨e1, e2⟩ := h1 e List.mem_cons_self x _ _ n1 h (stop44 _) (stop44 _)
      have e2 := (List.cons.inj e2).2
      rcases cz with ⟨rfl, rfl⟩ | ⟨y, u, rfl, gz, fz⟩ <;> rcases cw with ⟨rfl, rfl⟩ | ⟨y', u', rfl, gw, fw⟩
      · exact ⟨by rw [e1], (List.cons.inj e2).2⟩
      · rw [fw] at e2; exact absurd (List.cons.inj e2).1 (by decide)
      · rw [fz] at e2; exact absurd (List.cons.inj e2).1 (by decide)
      · obtain ⟨e3, e4⟩ := h2 e (y' :: u') rfl 41 (y :: u) a b (by decide) (by decide) n2 (by rw [← gz, ← gw, e2]) (stop41 _) (stop41 _)
        exact ⟨by rw [e1, e3], e4⟩
mutual
theorem apart : ∀ e : D, goodD e = true → Apart e
  | .none, _ => fun d a b nd h sa sb => by
    have hk := kind_eq h
    cases d <;> first | (cases hk; done) | skip
    exact ⟨rfl, List.append_cancel_left h⟩
  | .bool k, _ => fun d a b nd h sa sb => by
    have hk := kind_eq h
    cases d <;> first | (cases hk; done) | skip
    rename_i k2
    rw [PyData.shown, PyData.shown] at h
    cases k <;> cases k2
    · exact ⟨rfl, List.append_cancel_left h⟩
    · exact absurd (List.cons.inj (show 84 :: _ = 70 :: _ from h)).1 (by decide)
    · exact absurd (List.cons.inj (show 70 :: _ = 84 :: _ from h)).1 (by decide)
    · exact ⟨rfl, List.append_cancel_left h⟩
  | .int i, _ => fun d a b nd h sa sb => by
    have hk := kind_eq h
    cases d <;> first | (cases hk; done) | skip
    rename_i j
    rw [cs_int, cs_int] at h
    have bad : ∀ (n : Nat) (l : List Nat) (c d : List Nat), 45 :: l ++ c = dg n ++ d → False := fun n l c d h => by
      cases e : dg n with
      | nil => exact dg_ne _ e
      | cons x r =>
        rw [e] at h
        have := dg_isD (n := n) (c := x) (by rw [e]; exact List.mem_cons_self)
        have := (List.cons.inj (show 45 :: (l ++ c) = x :: (r ++ d) from h)).1
        omega
    by_cases hi : 0 ≤ i <;> by_cases hj : 0 ≤ j
    · rw [if_pos hi, if_pos hj] at h
      obtain ⟨e1, e2⟩ := span_dg (fun c hc => dg_isD hc) (fun c hc => dg_isD hc) sa sb h
      have := dg_inj e1
      exact ⟨by congr 1; omega, e2⟩
    · rw [if_pos hi, if_neg hj] at h
      exact (bad _ _ _ _ h).elim
    · rw [if_neg hi, if_pos hj] at h
      exact (bad _ _ _ _ h.symm).elim
    · rw [if_neg hi, if_neg hj] at h
      obtain ⟨e1, e2⟩ := span_dg (fun c hc => dg_isD hc) (fun c hc => dg_isD hc) sa sb (List.cons.inj (show 45 :: (_ ++ a) = 45 :: (_ ++ b) from h)).2
      have := dg_inj e1
      exact ⟨by congr 1; omega, e2⟩
  | .str x, g => fun d a b nd h sa sb => by
    have hk := kind_eq h
    cases d <;> first | (cases hk; done) | skip
    rename_i y
    rw [niceD] at nd
    rw [goodD] at g
    rw [cs_str nd, cs_str g] at h
    have h := (List.cons.inj (show 39 :: ((cs y ++ [39]) ++ a) = 39 :: ((cs x ++ [39]) ++ b) from h)).2
    rw [List.append_assoc, List.append_assoc] at h
    have q : ∀ {z : Str}, plainS z = true → ∀ c ∈ cs z, c ≠ 39 := fun hz c hc => by
      have : 63 ≤ c ∧ c ≤ 122 ∧ c ≠ 92 := of_decide_eq_true (List.all_eq_true.mp hz c hc)
      omega
    obtain ⟨e1, e2⟩ := span_q (q nd) (q g) h
    exact ⟨by rw [cs_inj e1], e2⟩
  | .list es, g => by
    rw [goodD] at g
    exact apart_list (apartAll es g) fun e r z => apartA r (by subst z; rw [goodA] at g; exact (band g).2)
  | .tuple es, g => by
    rw [goodD] at g
    exact apart_tup (apartAll es g) fun e r z => apartA r (by subst z; rw [goodA] at g; exact (band g).2)
  | .dict _, g => by rw [goodD] at g; cases g
theorem apartAll : ∀ es : List D, goodA es = true → ∀ e ∈ es, Apart e
  | [], _, e, h => by cases h
  | x :: r, g, e, h => by
    rw [goodA] at g
    obtain ⟨g1, g2⟩ := band g
    by_cases hx : e = x
    · rw [hx]; exact apart x g1
    · exact apartAll r g2 e ((List.mem_cons.mp h).resolve_left hx)
theorem apartA : ∀ es : List D, goodA es = true → ApartA es
  | [], _ => fun c ds a b hc h44 nd h sa sb => by
    rw [shs_nil] at h
    cases ds with
    | nil => rw [shs_nil] at h; exact ⟨rfl, (List.cons.inj h).2⟩
    | cons y t =>
      rw [shs_cons] at h
      exact absurd (List.cons.inj (show 44 :: _ = c :: b from h)).1.symm h44
  | e :: r, g => fun c ds a b hc h44 nd h sa sb => by
    rw [goodA] at g
    obtain ⟨g1, g2⟩ := band g
    rw [shs_cons] at h
    cases ds with
    | nil =>
      rw [shs_nil] at h
      exact absurd (List.cons.inj (show c :: a = 44 :: _ from h)).1 h44
    | cons y t =>
      rw [shs_cons] at h
      obtain ⟨n1, n2⟩ := band (show (niceD y && niceA t) = true by rw [niceA] at nd; exact nd)
      have h := (List.cons.inj (List.cons.inj (show 44 :: 32 :: (cs y.shown ++ tl (c :: a) (shs t)) = 44 :: 32 :: (cs e.shown ++ tl (c :: b) (shs r)) from h)).2).2
      obtain ⟨e1, e2⟩ := apart e g1 y _ _ n1 h (tl_stop sa _) (tl_stop sb _)
      obtain ⟨e3, e4⟩ := apartA r g2 c t a b hc h44 n2 e2 sa sb
      exact ⟨by rw [e1, e3], e4⟩
end
theorem shown_inj {d e : D} (hd : niceD d = true) (he : goodD e = true) (h : d.shown = e.shown) : d = e :=
  (apart e he d [] [] hd (by rw [h]) (.inl rfl) (.inl rfl)).1
/-! ### what repr can show -/
mutual
/-- small numbers and short texts, whatever holds them -/
def smallD : D → Bool
  | .none | .bool _ => true
  | .int i => decide (i.natAbs < 10 ^ 30)
  | .str x => x.cps.toList.all fun c => decide (c < 128)
  | .list xs | .tuple xs => smallA xs
  | .dict kvs => smallK kvs
def smallA : List D → Bool
  | [] => true
  | d :: r => smallD d && smallA r
def smallK : List (D × D) → Bool
  | [] => true
  | (k, v) :: r => smallD k && smallD v && smallK r
end
theorem int_len {i : Int} (h : i.natAbs < 10 ^ 30) : (PyData.shown (.int i)).length ≤ 40 := by
  have e : (PyData.shown (.int i)).length = (cs (PyData.shown (.int i))).length := by
    show (PyData.shown (.int i)).cps.size = (PyData.shown (.int i)).cps.toList.length
    rw [Array.length_toList]
  rw [e, cs_int]
  have d : ∀ n : Nat, n < 10 ^ 30 → (dg n).length ≤ 30 := fun n hn => by
    unfold dg
    rw [List.length_map]
    exact (Nat.length_toDigits_le_iff (by decide) (by decide)).mpr hn
  split
  · exact Nat.le_trans (d _ (by omega)) (by decide)
  · exact Nat.le_trans (Nat.succ_le_succ (d _ (by omega))) (by decide)
mutual
theorem small_show : ∀ d : D, smallD d = true → d.showable = true ∧ d.leavesShort 40 = true
  | .none, _ => ⟨rfl, rfl⟩
  | .bool _, _ => ⟨rfl, rfl⟩
  | .int i, h => by
    rw [smallD, decide_eq_true_eq] at h
    refine ⟨?_, ?_⟩
    · rw [PyData.showable, decide_eq_true_eq]
      by_cases h0 : i.natAbs = 0
      · rw [h0]; decide
      · refine (Nat.log2_lt h0).mpr (Nat.lt_trans h ?_)
        decide +kernel
    · rw [PyData.leavesShort, decide_eq_true_eq]
      exact int_len h
  | .str x, h => by
    rw [smallD, List.all_eq_true] at h
    refine ⟨by rw [PyData.showable], ?_⟩
    rw [PyData.leavesShort, List.all_eq_true]
    intro c hc
    have := of_decide_eq_true (h c hc)
    exact decide_eq_true (Nat.lt_trans this (by decide))
  | .list xs, h => by
    rw [smallD] at h
    rw [PyData.showable, PyData.leavesShort]
    exact small_showA xs h
  | .tuple xs, h => by
    rw [smallD] at h
    rw [PyData.showable, PyData.leavesShort]
    exact small_showA xs h
  | .dict kvs, h => by
    rw [smallD] at h
    rw [PyData.showable, PyData.leavesShort]
    exact small_showK kvs h
theorem small_showA : ∀ xs : List D, smallA xs = true → PyData.showableAll xs = true ∧ PyData.leavesShortAll 40 xs = true
  | [], _ => ⟨by rw [PyData.showableAll], by rw [PyData.leavesShortAll]⟩
  | d :: r, h => by
    rw [smallA] at h
    obtain ⟨h1, h2⟩ := band h
    obtain ⟨a, b⟩ := small_show d h1
    obtain ⟨c, e⟩ := small_showA r h2
    rw [PyData.showableAll, PyData.leavesShortAll, a, b, c, e]
    exact ⟨rfl, rfl⟩
theorem small_showK : ∀ xs : List (D × D), smallK xs = true → PyData.showableKv xs = true ∧ PyData.leavesShortKv 40 xs = true
  | [], _ => ⟨by rw [PyData.showableKv], by rw [PyData.leavesShortKv]⟩
  | (k, v) :: r, h => by
    rw [smallK] at h
    obtain ⟨h, h3⟩ := band h
    obtain ⟨h1, h2⟩ := band h
    obtain ⟨a, b⟩ := small_show k h1
    obtain ⟨a2, b2⟩ := small_show v h2
    obtain ⟨c, e⟩ := small_showK r h3
    rw [PyData.showableKv, PyData.leavesShortKv, a, b, a2, b2, c, e]
    exact ⟨rfl, rfl⟩
end
theorem repOk_of {d : D} (h : smallD d = true) (hb : d.bulk ≤ 300000) (hd : d.depth ≤ 64) : repOk d = true := by
  obtain ⟨a, b⟩ := small_show d h
  have c := PyData.shown_le_bulk 40 (by decide) d b
  unfold repOk
  have e : d.shown.length ≤ sizeLine := by rw [sizeLine_is]; omega
  rw [a, decide_eq_true e, decide_eq_true hd]
  rfl
theorem small_ints {ns : List Int} (h : ∀ n ∈ ns, n.natAbs < 10 ^ 30) : smallA (ns.map PyData.int) = true := by
  induction ns with
  | nil => rfl
  | cons n r ih =>
    rw [List.map_cons, smallA, smallD, decide_eq_true (h n List.mem_cons_self), ih fun x hx => h x (List.mem_cons_of_mem _ hx)]
    rfl
theorem bulk_flat {ds : List D} (h : ∀ d ∈ ds, d.bulk = 0) : PyData.bulkAll ds = ds.length := by
  induction ds with
  | nil => rw [PyData.bulkAll]; rfl
  | cons d r ih =>
    rw [PyData.bulkAll, h d List.mem_cons_self, ih fun x hx => h x (List.mem_cons_of_mem _ hx), List.length_cons]
    omega
theorem depth_flat {ds : List D} (h : ∀ d ∈ ds, d.depth = 0) : PyData.depthAll ds = 0 := by
  induction ds with
  | nil => rw [PyData.depthAll]
  | cons d r ih =>
    rw [PyData.depthAll, h d List.mem_cons_self, ih fun x hx => h x (List.mem_cons_of_mem _ hx)]
    rfl
/-- a thing that repr can show, and tell from others: its bulk, its depth -/
structure Fit (d : D) (b k : Nat) : Prop where
  s : smallD d = true
  n : niceD d = true
  b : d.bulk ≤ b
  d : d.depth ≤ k
structure FitA (ds : List D) (b k : Nat) : Prop where
  s : smallA ds = true
  n : niceA ds = true
  b : PyData.bulkAll ds ≤ b
  d : PyData.depthAll ds ≤ k
theorem FitA.nil {k : Nat} : FitA [] 0 k := ⟨by rw [smallA], by rw [niceA], by rw [PyData.bulkAll]; exact Nat.le_refl _, by rw [PyData.depthAll]; exact Nat.zero_le _⟩
theorem FitA.cons {d : D} {ds : List D} {b c k : Nat} (h : Fit d b k) (r : FitA ds c k) : FitA (d :: ds) (b + 1 + c) k :=
  ⟨by rw [smallA, h.s, r.s]; rfl, by rw [niceA, h.n, r.n]; rfl, by rw [PyData.bulkAll]; have := h.b; have := r.b; omega, by rw [PyData.depthAll]; exact Nat.max_le.mpr ⟨h.d, r.d⟩⟩
theorem Fit.tup {ds : List D} {b k : Nat} (h : FitA ds b k) : Fit (.tuple ds) b (k + 1) :=
  ⟨by rw [smallD]; exact h.s, by rw [niceD]; exact h.n, by rw [PyData.bulk]; exact h.b, by rw [PyData.depth]; exact Nat.succ_le_succ h.d⟩
theorem Fit.lst {ds : List D} {b k : Nat} (h : FitA ds b k) : Fit (.list ds) b (k + 1) :=
  ⟨by rw [smallD]; exact h.s, by rw [niceD]; exact h.n, by rw [PyData.bulk]; exact h.b, by rw [PyData.depth]; exact Nat.succ_le_succ h.d⟩
theorem Fit.none {k : Nat} : Fit .none 0 k := ⟨rfl, rfl, Nat.le_refl _, Nat.zero_le _⟩
theorem Fit.bool {k : Nat} (x : Bool) : Fit (.bool x) 0 k := ⟨rfl, rfl, Nat.le_refl _, Nat.zero_le _⟩
theorem Fit.int {k : Nat} {i : Int} (h : i.natAbs < 10 ^ 30) : Fit (.int i) 0 k := ⟨by rw [smallD, decide_eq_true h], rfl, Nat.le_refl _, Nat.zero_le _⟩
theorem Fit.str {k b : Nat} {x : Str} (h : plainS x = true) (hb : x.cps.size ≤ b) : Fit (.str x) b k := by
  refine ⟨?_, by rw [niceD]; exact h, by rw [PyData.bulk]; exact hb, Nat.zero_le _⟩
  rw [smallD, List.all_eq_true]
  intro c hc
  have := of_decide_eq_true (List.all_eq_true.mp h c hc)
  exact decide_eq_true (by omega)
theorem Fit.mono {d : D} {b b' k k' : Nat} (h : Fit d b k) (hb : b ≤ b') (hk : k ≤ k') : Fit d b' k' := ⟨h.s, h.n, Nat.le_trans h.b hb, Nat.le_trans h.d hk⟩
theorem FitA.mono {d : List D} {b b' k k' : Nat} (h : FitA d b k) (hb : b ≤ b') (hk : k ≤ k') : FitA d b' k' := ⟨h.s, h.n, Nat.le_trans h.b hb, Nat.le_trans h.d hk⟩
theorem FitA.of {ds : List D} {b k : Nat} (h : ∀ d ∈ ds, Fit d b k) : FitA ds (ds.length * (b + 1)) k := by
  induction ds with
  | nil => exact FitA.nil.mono (Nat.zero_le _) (Nat.le_refl _)
  | cons d r ih =>
    refine (FitA.cons (h d List.mem_cons_self) (ih fun x hx => h x (List.mem_cons_of_mem _ hx))).mono ?_ (Nat.le_refl _)
    rw [List.length_cons, Nat.succ_mul]
    omega
theorem FitA.app {ds es : List D} {b c k : Nat} (h : FitA ds b k) (r : FitA es c k) : FitA (ds ++ es) (b + c) k := by
  induction ds generalizing b with
  | nil => exact r.mono (by omega) (Nat.le_refl _)
  | cons d t ih =>
    obtain ⟨h1, h2, h3, h4⟩ := h
    rw [smallA] at h1
    rw [niceA] at h2
    rw [PyData.bulkAll] at h3
    rw [PyData.depthAll] at h4
    obtain ⟨s1, s2⟩ := band h1
    obtain ⟨n1, n2⟩ := band h2
    exact (FitA.cons (d := d) (b := d.bulk) ⟨s1, n1, Nat.le_refl _, Nat.le_trans (Nat.le_max_left _ _) h4⟩ (ih (b := PyData.bulkAll t) ⟨s2, n2, Nat.le_refl _, Nat.le_trans (Nat.le_max_right _ _) h4⟩)).mono (by omega) (Nat.le_refl _)
theorem Fit.rep {d : D} {b k : Nat} (h : Fit d b k) (hb : b ≤ 300000) (hk : k ≤ 64) : repOk d = true := repOk_of h.s (Nat.le_trans h.b hb) (Nat.le_trans h.d hk)
/-- repr(x) in [repr(one) for one in good] -/
theorem in_shown {x : D} {gs : List D} (hx : niceD x = true) (hg : ∀ g ∈ gs, goodD g = true) : cmpD .inn (.str x.shown) (.list (gs.map fun g => PyData.str g.shown)) = .ok (gs.any fun g => decide (g.shown = x.shown)) ∧ ((gs.any fun g => decide (g.shown = x.shown)) = true ↔ x ∈ gs) := by
  refine ⟨?_, ?_⟩
  · rw [in_flat rfl (by rw [List.all_map, List.all_eq_true]; intro g _; rfl), List.any_map]
    congr 2
  · rw [List.any_eq_true]
    constructor
    · rintro ⟨g, hm, e⟩
      rw [shown_inj hx (hg g hm) (of_decide_eq_true e).symm]
      exact hm
    · exact fun hm => ⟨x, hm, decide_eq_true rfl⟩
end DP

namespace K80
open PySem PySem.Spec PyProof.Rows L2 DP Cbasics Cbeavers L80
/-! ### a bent machine -/
def Row (n b k : Nat) (xs : List D) : Prop := xs.length ≤ n ∧ ∀ x ∈ xs, Fit x b k
theorem cut_sub (xs : List D) (a b : Option Int) : (DP.cutD xs a b).length ≤ xs.length ∧ ∀ x ∈ DP.cutD xs a b, x ∈ xs := by
  unfold DP.cutD
  refine ⟨?_, fun x hx => ?_⟩
  · rw [List.length_take, List.length_drop]; omega
  · exact List.mem_of_mem_drop (List.mem_of_mem_take hx)
theorem Row.cut {n b k : Nat} {xs : List D} (h : Row n b k xs) (i j : Option Int) : Row n b k (DP.cutD xs i j) :=
  ⟨Nat.le_trans (cut_sub xs i j).1 h.1, fun x hx => h.2 x ((cut_sub xs i j).2 x hx)⟩
theorem Row.app {n m b k : Nat} {xs ys : List D} (h : Row n b k xs) (g : Row m b k ys) : Row (n + m) b k (xs ++ ys) :=
  ⟨by rw [List.length_append]; have := h.1; have := g.1; omega, fun x hx => (List.mem_append.mp hx).elim (h.2 x) (g.2 x)⟩
theorem Row.one {b k : Nat} {x : D} (h : Fit x b k) : Row 1 b k [x] := ⟨Nat.le_refl _, fun y hy => by rw [List.mem_singleton.mp hy]; exact h⟩
theorem Row.fitA {n b k : Nat} {xs : List D} (h : Row n b k xs) : FitA xs (n * (b + 1)) k := (FitA.of h.2).mono (Nat.mul_le_mul_right _ h.1) (Nat.le_refl _)
theorem Row.tup {n b k : Nat} {xs : List D} (h : Row n b k xs) : Fit (.tuple xs) (n * (b + 1)) (k + 1) := .tup h.fitA
theorem Row.lst {n b k : Nat} {xs : List D} (h : Row n b k xs) : Fit (.list xs) (n * (b + 1)) (k + 1) := .lst h.fitA
theorem slc_t (xs : List D) (a b : Option Int) : slcD (.tuple xs) a b = .ok (.tuple (DP.cutD xs a b)) := rfl
theorem mul4 (x : D) : op2 .mul (.list [x]) (.int 4) = .ok (.list [x, x, x, x]) := Eq.trans rfl rfl
theorem gd_le {n m : Nat} (h : n ≤ m) (r : R D) : gd (decide (n ≤ m)) r = r := by rw [decide_eq_true h]; rfl
theorem small_nat {q : Nat} (h : q ≤ 3) : ((q : Nat) : Int).natAbs < 10 ^ 30 := by
  rw [Int.natAbs_natCast]
  exact Nat.lt_of_le_of_lt h (by decide)
theorem fit_st {q : Option Nat} (h : ∀ i, q = some i → i < 3) : Fit (stD q) 1 0 := by
  cases q with
  | none => exact (Fit.none (k := 0)).mono (by decide) (by decide)
  | some i => exact (Fit.int (k := 0) (small_nat (Nat.le_of_lt (h i rfl)))).mono (by decide) (by decide)
theorem row_rule {n : Nat} (hn : n ≤ 3) {r : Rule} (h : okR n r) : Row 3 1 0 [.int r.1, .int r.2.1, stD r.2.2] := by
  obtain ⟨h1, h2, h3⟩ := h
  refine ⟨Nat.le_refl _, fun x hx => ?_⟩
  simp only [List.mem_cons, List.mem_nil_iff, or_false, List.not_mem_nil] at hx
  rcases hx with rfl | rfl | rfl
  · exact (Fit.int (k := 0) (by rcases h1 with h | h <;> rw [h] <;> decide)).mono (by decide) (by decide)
  · exact (Fit.int (k := 0) (by rcases h2 with h | h <;> rw [h] <;> decide)).mono (by decide) (by decide)
  · exact fit_st fun i hi => Nat.lt_of_lt_of_le (h3 i hi) hn
theorem row_state {n : Nat} (hn : n ≤ 3) {s : Rule × Rule} (h1 : okR n s.1) (h2 : okR n s.2) : Row 2 18 1 [ruleD s.1, ruleD s.2] := by
  refine ⟨Nat.le_refl _, fun x hx => ?_⟩
  simp only [List.mem_cons, List.mem_nil_iff, or_false, List.not_mem_nil] at hx
  rcases hx with rfl | rfl
  · exact (row_rule hn h1).tup.mono (by decide) (by decide)
  · exact (row_rule hn h2).tup.mono (by decide) (by decide)
theorem val_row {M : Mach} (v : Val M) : Row 3 100 2 (M.map stateD) := by
  obtain ⟨v1, v2, v3⟩ := v
  refine ⟨by rw [List.length_map]; exact v2, fun x hx => ?_⟩
  obtain ⟨s, hs, rfl⟩ := List.mem_map.mp hx
  exact (row_state v2 (v3 s hs).1 (v3 s hs).2).tup.mono (by decide) (by decide)
theorem sp_bent {M : Mach} (v : Val M) {h : List D} (hh : Hd h) : ∃ (x : D) (h' : List D), g__law_bent.sem [.list h, machD M] = .ok (x, h') ∧ Hd h' ∧ Fit x 1000 3 := by
  rw [sem__law_bent]
  have vr := val_row v
  obtain ⟨v1, v2, v3⟩ := v
  obtain ⟨q, h1, e1, q0, q1, hh1⟩ := sp_draw hh (M.length : Int) (by omega) (by omega)
  obtain ⟨g, h2, e2, gg, hh2⟩ := draw2 hh1
  obtain ⟨p, h3, e3, p0, p1, hh3⟩ := sp_draw hh2 3 (by decide) (by decide)
  obtain ⟨x, h4, e4, hx, hh4⟩ := sp_any hh3 [.int 0, .int 1, .int (-1), .int 2, .int (M.length : Int), .bool true, .none, .str "?", .int 3] (Nat.zero_lt_succ _) (by simp only [List.length_cons, List.length_nil]; decide)
  obtain ⟨q, rfl⟩ : ∃ n : Nat, q = (n : Int) := ⟨q.toNat, by omega⟩
  have hq : q < M.length := by omega
  have ha : atI (M.map stateD) (q : Int) = some (stateD M[q]) := by
    rw [atI_n, List.getElem?_map, List.getElem?_eq_getElem hq]; rfl
  simp [b__law_bent, slotsB, e1, e2, e3, e4, machD, ha, slc_t]
  have w3 := v3 _ (List.getElem_mem hq)
  obtain ⟨rs, ers, hrs⟩ : ∃ rs, stateD M[q] = .tuple rs ∧ Row 2 18 1 rs := ⟨_, rfl, row_state v2 w3.1 w3.2⟩
  obtain ⟨r, er, hr⟩ : ∃ r, atI rs g = some (.tuple r) ∧ Row 3 1 0 r := by
    cases ers
    rcases gg with rfl | rfl
    · exact ⟨_, rfl, row_rule v2 w3.1⟩
    · exact ⟨_, rfl, row_rule v2 w3.2⟩
  have vr0 := vr
  generalize hms : M.map stateD = ms at *
  have hml : (M.length : Int) = (ms.length : Int) := by rw [← hms, List.length_map]
  have c1 := vr.cut none (some (q : Int))
  have c2 := vr.cut (some ((q : Int) + 1)) none
  have c3 := vr.cut (some 1) none
  have k1 := c1.1
  have k2 := c2.1
  have k3 := c3.1
  have k4 := vr.1
  have a1 := hr.cut none (some p)
  have a2 := hr.cut (some (p + 1)) none
  have b1 := hrs.cut none (some g)
  have b2 := hrs.cut (some (g + 1)) none
  have b3 := hrs.cut none (some 1)
  have l1 := a1.1
  have l2 := a2.1
  have m1 := b1.1
  have m2 := b2.1
  have m3 := b3.1
  obtain ⟨R1, hR⟩ : ∃ R1, PyData.tuple (DP.cutD r none (some p) ++ x :: DP.cutD r (some (p + 1)) none) = R1 := ⟨_, rfl⟩
  obtain ⟨S1, hS⟩ : ∃ S1, PyData.tuple (DP.cutD rs none (some g) ++ R1 :: DP.cutD rs (some (g + 1)) none) = S1 := ⟨_, rfl⟩
  obtain ⟨X, hX⟩ : ∃ X, PyData.tuple (DP.cutD ms none (some (q : Int)) ++ S1 :: DP.cutD ms (some ((q : Int) + 1)) none) = X := ⟨_, rfl⟩
  obtain ⟨Y, hY⟩ : ∃ Y, PyData.tuple (DP.cutD ms none (some (q : Int)) ++ PyData.tuple (DP.cutD rs none (some 1)) :: DP.cutD ms (some ((q : Int) + 1)) none) = Y := ⟨_, rfl⟩
  have fx : Fit x 1 0 := by
    simp only [List.mem_cons, List.mem_nil_iff, or_false, List.not_mem_nil] at hx
    rcases hx with rfl | rfl | rfl | rfl | rfl | rfl | rfl | rfl | rfl
    · exact (Fit.int (k := 0) (by decide)).mono (by decide) (by decide)
    · exact (Fit.int (k := 0) (by decide)).mono (by decide) (by decide)
    · exact (Fit.int (k := 0) (by decide)).mono (by decide) (by decide)
    · exact (Fit.int (k := 0) (by decide)).mono (by decide) (by decide)
    · exact (Fit.int (k := 0) (small_nat v2)).mono (by decide) (by decide)
    · exact (Fit.bool (k := 0) true).mono (by decide) (by decide)
    · exact (Fit.none (k := 0)).mono (by decide) (by decide)
    · exact Fit.str (by decide) (by decide)
    · exact (Fit.int (k := 0) (by decide)).mono (by decide) (by decide)
  have fR : Fit R1 18 1 := by
    rw [← hR]
    exact (a1.app ((Row.one fx).app a2)).tup.mono (by decide) (by decide)
  have fS : Fit S1 100 2 := by
    rw [← hS]
    exact (b1.app ((Row.one fR).app b2)).tup.mono (by decide) (by decide)
  have fX : Fit X 1000 3 := by
    rw [← hX]
    exact (c1.app ((Row.one fS).app c2)).tup.mono (by decide) (by decide)
  have fY : Fit Y 1000 3 := by
    rw [← hY]
    exact (c1.app ((Row.one (b3.tup.mono (b' := 100) (k' := 2) (by decide) (by decide))).app c2)).tup.mono (by decide) (by decide)
  have f1 : Fit (.tuple (DP.cutD ms (some 1) none)) 1000 3 := c3.tup.mono (by decide) (by decide)
  have f2 : Fit (.tuple (ms ++ ms)) 1000 3 := (vr.app vr).tup.mono (by decide) (by decide)
  have f3 : Fit (.list ms) 1000 3 := vr.lst.mono (by decide) (by decide)
  obtain ⟨z, h5, e5, hz, hh5⟩ := sp_any hh4 [X, X, X, X, .tuple (DP.cutD ms (some 1) none), .tuple (ms ++ ms), .list ms, Y] (Nat.zero_lt_succ _) (by simp only [List.length_cons, List.length_nil]; decide)
  refine ⟨z, h5, ?_, hh5, ?_⟩
  · simp (disch := omega) [ha, ers, er, slc_t, gd_le, mul4, List.getElem?_cons_zero, List.getElem?_cons_succ, hR, hS, hX, hY, e5]
  · simp only [List.mem_cons, List.mem_nil_iff, or_false, List.not_mem_nil] at hz
    rcases hz with rfl | rfl | rfl | rfl | rfl | rfl | rfl | rfl <;> assumption
end K80

namespace K80
open PySem PySem.Spec PyProof.Rows L2 DP Cbasics Cbeavers L80
/-- a comprehension of drawn things: mk h holds the hand h -/
theorem comp_ds {Hd : List D → Prop} {turn : D → Slots → R (Option D × Slots)} (mk : List D → Slots) (Q : D → Prop) : ∀ (ds : List D) (h : List D), Hd h →
    (∀ d ∈ ds, ∀ h, Hd h → ∃ (x : D) (h' : List D), turn d (mk h) = .ok (some x, mk h') ∧ Hd h' ∧ Q x) → ∃ (xs : List D) (h' : List D), compLoop turn ds (mk h) = .ok (xs, mk h') ∧ Hd h' ∧ xs.length = ds.length ∧ ∀ x ∈ xs, Q x
  | [], h, hh, _ => ⟨[], h, rfl, hh, rfl, fun x z => (by cases z)⟩
  | d :: r, h, hh, ht => by
    obtain ⟨x, h1, e1, hh1, q1⟩ := ht d List.mem_cons_self h hh
    obtain ⟨xs, h2, e2, hh2, l2, q2⟩ := comp_ds (turn := turn) mk Q r h1 hh1 fun y hy => ht y (List.mem_cons_of_mem _ hy)
    refine ⟨x :: xs, h2, ?_, hh2, by rw [List.length_cons, List.length_cons, l2], fun y hy => ?_⟩
    · show (turn d (mk h) >>= fun p => compLoop turn r p.2 >>= fun q => R.ok ((match p.1 with | some x => x :: q.1 | none => q.1), q.2)) = _
      rw [e1, bind_ok, e2]
      rfl
    · rcases List.mem_cons.mp hy with rfl | hy
      · exact q1
      · exact q2 y hy
theorem pl_st {k : Nat} (q : Option Nat) : Pl k (stD q) := by cases q <;> exact .flt rfl
theorem pl_ints {k : Nat} (ns : List Int) : ∀ x ∈ ns.map PyData.int, Pl k x := fun x hx => by
  obtain ⟨i, _, rfl⟩ := List.mem_map.mp hx
  exact .flt rfl
theorem pl_stand (s : Stand) : Pl 2 (standD s) := .tup fun x hx => by
  simp only [List.mem_cons, List.mem_nil_iff, or_false, List.not_mem_nil] at hx
  rcases hx with rfl | rfl | rfl
  · exact pl_st _
  · exact .flt rfl
  · exact .tup (pl_ints _)
theorem okd_st {k : Nat} (q : Option Nat) : Okd k (stD q) := by cases q <;> first | exact Okd.none | exact Okd.int _
theorem okd_stand (s : Stand) : Okd 2 (standD s) := .tup (.cons (okd_st _) (.cons (.int _) (.cons (.tup (.ints _)) .nil)))
def toldD (M : Mach) (n : Nat) : D := .list [standD (last M n), .tuple [.int (minI (places M n)), .int (maxI (places M n))], .tuple ((counts M n).map PyData.int)]
theorem is_told (M : Mach) (n : Nat) : g__law_is.sem [toldD M n, toldD M n] = .ok (.bool true, []) := sp_is (.lst fun x hx => by
  simp only [List.mem_cons, List.mem_nil_iff, or_false, List.not_mem_nil] at hx
  rcases hx with rfl | rfl | rfl
  · exact (pl_stand _).mono (by decide)
  · refine .tup fun y hy => ?_
    simp only [List.mem_cons, List.mem_nil_iff, or_false, List.not_mem_nil] at hy
    rcases hy with rfl | rfl <;> exact .flt rfl
  · exact .tup (pl_ints _))
theorem sp_case {h : List D} (hh : Hd h) : ∃ h', g__law_case_right.sem [.list h] = .ok (.bool true, h') ∧ Hd h' := by
  rw [sem__law_case_right]
  obtain ⟨M, h1, e1, v, hh1⟩ := sp_machine hh
  obtain ⟨x, h2, e2, hx, hh2⟩ := sp_any hh1 [.int 6, .int 41] (by decide) (by decide)
  obtain ⟨m, rfl, hm0, hm1⟩ : ∃ m : Int, x = .int m ∧ 0 < m ∧ m ≤ 41 := by
    simp only [List.mem_cons, List.mem_nil_iff, or_false, List.not_mem_nil] at hx
    rcases hx with rfl | rfl
    · exact ⟨6, rfl, by decide, by decide⟩
    · exact ⟨41, rfl, by decide, by decide⟩
  obtain ⟨n, h3, e3, n0, n1, hh3⟩ := sp_draw hh2 m hm0 (by omega)
  obtain ⟨n, rfl⟩ : ∃ k : Nat, n = (k : Int) := ⟨n.toNat, by omega⟩
  have hn : n ≤ 500 := by omega
  have ne : (trj M n).map standD ≠ [] := fun z => trj_ne M n (List.map_eq_nil_iff.mp z)
  have dl : ((trj M n).map standD).dropLast = (taken M n).map standD := by unfold taken; rw [List.map_dropLast]
  have hm : M.length ≤ 1000000 := by have := v.hi; omega
  have al := at_trj M n
  simp [b__law_case_right, slotsB, e1, e2, e3, sp_lstands v n (by omega)]
  rw [compLoop_ints (f := fun s : Stand => PyData.int s.2.1)]
  · simp [cut_last _ ne, dl]
    rw [compLoop_ints (f := fun s : Stand => PyData.int (stateN s))]
    · simp [machD]
      rw [rngC_nat _ _ hm]
      simp
      rw [compLoop_ints (f := fun q : Nat => PyData.int (((taken M n).map stateN).countP (fun z => decide (z = (q : Int))) : Nat))]
      · rw [← show machD M = .tuple (M.map stateD) from rfl]
        simp [sp_after v n hn, sp_bounds v n hn, sp_states v n hn]
        have hmin : biD .min (.list ((trj M n).map fun s : Stand => PyData.int s.2.1)) = .ok (.int (minI (places M n))) := by
          rw [show (trj M n).map (fun s : Stand => PyData.int s.2.1) = (places M n).map PyData.int from by unfold places; rw [List.map_map]; rfl, min_ints _ (places_ne M n)]
        have hmax : biD .max (.list ((trj M n).map fun s : Stand => PyData.int s.2.1)) = .ok (.int (maxI (places M n))) := by
          rw [show (trj M n).map (fun s : Stand => PyData.int s.2.1) = (places M n).map PyData.int from by unfold places; rw [List.map_map]; rfl, max_ints _ (places_ne M n)]
        have hcnt : (List.range (List.length M)).map (fun q : Nat => PyData.int (List.countP ((fun z => decide (z = (q : Int))) ∘ stateN) (taken M n) : Nat)) = (counts M n).map PyData.int := by
          unfold counts
          rw [List.map_map]
          refine List.map_congr_left fun q _ => ?_
          rw [Function.comp_apply, List.countP_map]
        have hsum : (counts M n).sum = ((trj M n).length : Int) - 1 := by
          rw [counts_sum v n, taken_len]
          have : (trj M n).length ≠ 0 := fun z => trj_ne M n (List.length_eq_zero_iff.mp z)
          omega
        have it := is_told M n
        unfold toldD at it
        have ix0 : ∀ s : Stand, ixD (standD s) (.int 0) = .ok (stD s.1) := fun _ => rfl
        have h500 : (last M n).1 = none → g_stand_after.sem [machD M, .int 500] = .ok (standD (last M n), []) := fun z => by
          have := sp_after v 500 (by decide)
          rw [show (500 : Nat) = n + (500 - n) from by omega, (last_stop z (500 - n)).1] at this
          rw [show n + (500 - n) = 500 from by omega] at this
          exact this
        have nes := ne_same (okd_stand (last M n)) (by decide)
        have r6 := fun ρ => rngC_nat 6 ρ (by decide)
        have r6 : ∀ ρ, rngC 0 6 ρ = .ok ((List.range 6).map (fun (i : Nat) => PyData.int (i : Int)), ρ) := r6
        simp only [hmin, hmax, hcnt, al, bind_ok, ixC, it]
        simp [it, hsum, al, ix0, nes, r6]
        have isb : ∀ b : Bool, g__law_is.sem [.bool b, .bool b] = .ok (.bool true, []) := fun b => sp_is (.flt rfl)
        cases hl : (last M n).1
        case' none => simp [stD, isN, h500 hl, nes, al]
        case' some q => simp [stD, isN]
        all_goals
          generalize PyData.list (List.map standD (trj M n)) = A1
          generalize PyData.list (List.map (fun s : Stand => PyData.int s.2.1) (trj M n)) = A2
          generalize PyData.list (List.map (fun s : Stand => PyData.int (stateN s)) (taken M n)) = A3
          generalize PyData.list [standD (last M n), PyData.tuple [PyData.int (minI (places M n)), PyData.int (maxI (places M n))], PyData.tuple (List.map PyData.int (counts M n))] = A5
          generalize PyData.tuple (List.map PyData.int (counts M n)) = A4
          obtain ⟨xs, h4, ec, hh4, lc, qc⟩ := comp_ds (Hd := Hd) (turn := turnC G__law_case_right (.callB 0 0 (.cons (.var 7) .nil)) (.nm 12) (.lit (.bl true))) (fun h => [Cell.own true h, .dat A1, .dat A2, .dat A3, .dat A4, .dat A5, .un, .dat (machD M), .dat (.int (n : Nat)), .un, .un, .un, .un]) (fun x => Fit x 1000 3) (List.map (fun i : Nat => PyData.int (i : Int)) (List.range 6)) h3 hh3 (fun d _ h hh => by
            obtain ⟨x, h', e, hh', fx⟩ := sp_bent v hh
            refine ⟨x, h', ?_, hh', fx⟩
            simp [e])
          rw [ec]
          have lx : 1 + xs.length ≤ 16777216 := by rw [lc]; decide
          have fm : Fit (machD M) 1000 3 := (val_row v).tup.mono (by decide) (by decide)
          simp [lx]
          refine for_bindR (P := fun r => ∃ h', finB r = .ok (.bool true, h') ∧ Hd h') (fun j ρ => ∃ c6 c9, ρ = [Cell.own true h4, .dat A1, .dat A2, .dat A3, .dat A4, .dat A5, c6, .dat (machD M), .dat (.int (n : Nat)), c9, .un, .un, .un] ∧ freeC (some c6) = true ∧ freeC (some c9) = true) ⟨_, _, rfl, rfl, rfl⟩ (fun j d hd ρ hJ r hr => ?_) (fun ρ hJ => ?_)
          · have fd : Fit d 1000 3 := by
              rcases List.mem_cons.mp (List.mem_of_getElem? hd) with rfl | hd
              · exact fm
              · exact qc d hd
            have rp := fd.rep (by decide) (by decide)
            obtain ⟨c6, c9, rfl, f6, f9⟩ := hJ
            simp [f6, f9, rp, sp_is_machine, sp_law_is_machine, isb] at hr
            subst hr
            exact ⟨_, .inl rfl, _, _, rfl, rfl, rfl⟩
          · obtain ⟨c6, c9, rfl, f6, f9⟩ := hJ
            simp
            exact hh4
      · intro q _
        have e := cnt_ints ((taken M n).map stateN) (q : Int)
        rw [List.map_map] at e
        simp
        rw [show (taken M n).map (fun s => PyData.int (stateN s)) = (taken M n).map (PyData.int ∘ stateN) from rfl, e]
        simp
    · intro s hs
      obtain ⟨q, e, _⟩ := taken_ok v n s hs
      simp [standD, stD, e, stateN]
  · intro s hs
    simp [standD]
end K80

namespace K80
open PySem PySem.Spec PyProof.Rows L2 DP Cbasics Cbeavers L80
def stopM : Mach := [((1, 1, none), (0, 1, none))]
def twoM : Mach := [((1, 1, some 1), (1, -1, some 1)), ((1, -1, some 0), (1, 1, none))]
theorem stop_val : Val stopM := ⟨by decide, by decide, fun s hs => by
  rw [List.mem_singleton.mp hs]
  refine ⟨⟨.inr rfl, .inr rfl, fun q z => (by cases z)⟩, ⟨.inl rfl, .inr rfl, fun q z => (by cases z)⟩⟩⟩
theorem two_val : Val twoM := ⟨by decide, by decide, fun s hs => by
  rcases List.mem_cons.mp hs with rfl | hs
  · refine ⟨⟨.inr rfl, .inr rfl, fun q z => ?_⟩, ⟨.inr rfl, .inl rfl, fun q z => ?_⟩⟩ <;> (cases z; decide)
  · rw [List.mem_singleton.mp hs]
    refine ⟨⟨.inr rfl, .inl rfl, fun q z => ?_⟩, ⟨.inr rfl, .inr rfl, fun q z => (by cases z)⟩⟩ <;> (cases z; decide)⟩
abbrev stopD : D := .tuple [.tuple [.tuple [.int 1, .int 1, .none], .tuple [.int 0, .int 1, .none]]]
abbrev twoD : D := .tuple [.tuple [.tuple [.int 1, .int 1, .int 1], .tuple [.int 1, .int (-1), .int 1]], .tuple [.tuple [.int 1, .int (-1), .int 0], .tuple [.int 1, .int 1, .none]]]
theorem last_two : last twoM 6 = (none, 0, [-2, -1, 0, 1]) := by decide +kernel
theorem k1 : g_stand_after.sem [stopD, .int 5] = .ok (.tuple [.none, .int 1, .tuple [.int 0]], []) := by
  have h := sp_after stop_val 5 (by decide)
  rw [show last stopM 5 = (none, 1, [0]) from by decide +kernel] at h
  exact h
theorem k2 : g_stand_after.sem [twoD, .int 2] = .ok (.tuple [.int 0, .int 0, .tuple [.int 0, .int 1]], []) := by
  have h := sp_after two_val 2 (by decide)
  rw [show last twoM 2 = (some 0, 0, [0, 1]) from by decide +kernel] at h
  exact h
theorem k3 : g_stand_after.sem [twoD, .int 500] = .ok (.tuple [.none, .int 0, .tuple [.int (-2), .int (-1), .int 0, .int 1]], []) := by
  have h := sp_after two_val 500 (by decide)
  rw [show (500 : Nat) = 6 + 494 from rfl, (last_stop (M := twoM) (j := 6) (by rw [last_two]) 494).1, last_two] at h
  exact h
theorem k4 : g_bounds_of_way.sem [twoD, .int 6] = .ok (.tuple [.int (-2), .int 1], []) := by
  have h := sp_bounds two_val 6 (by decide)
  rw [show minI (places twoM 6) = -2 from by decide +kernel, show maxI (places twoM 6) = 1 from by decide +kernel] at h
  exact h
theorem k5 : g_states_taken.sem [twoD, .int 6] = .ok (.tuple [.int 3, .int 3], []) := by
  have h := sp_states two_val 6 (by decide)
  rw [show counts twoM 6 = [3, 3] from by decide +kernel] at h
  exact h
abbrev toldK : D := .list [.tuple [.none, .int 1, .tuple [.int 0]], .tuple [.int 0, .int 0, .tuple [.int 0, .int 1]], .tuple [.none, .int 0, .tuple [.int (-2), .int (-1), .int 0, .int 1]], .tuple [.int (-2), .int 1], .tuple [.int 3, .int 3]]
theorem pl_flat {n : Nat} {l : List D} (h : l.all flat = true) : ∀ x ∈ l, Pl n x := fun x hx => .flt (List.all_eq_true.mp h x hx)
theorem k6 : g__law_is.sem [toldK, toldK] = .ok (.bool true, []) := sp_is (.lst fun x hx => by
  simp only [List.mem_cons, List.mem_nil_iff, or_false, List.not_mem_nil] at hx
  have t : ∀ (a b : D) (l : List D), flat a = true → flat b = true → l.all flat = true → Pl 6 (.tuple [a, b, .tuple l]) := fun a b l ha hb hl => .tup fun y hy => by
    simp only [List.mem_cons, List.mem_nil_iff, or_false, List.not_mem_nil] at hy
    rcases hy with rfl | rfl | rfl
    · exact .flt ha
    · exact .flt hb
    · exact .tup (pl_flat hl)
  rcases hx with rfl | rfl | rfl | rfl | rfl
  · exact t _ _ _ rfl rfl rfl
  · exact t _ _ _ rfl rfl rfl
  · exact t _ _ _ rfl rfl rfl
  · exact .tup (pl_flat rfl)
  · exact .tup (pl_flat rfl))
theorem mul4t (x : D) : op2 .mul (.tuple [x]) (.int 4) = .ok (.tuple [x, x, x, x]) := Eq.trans rfl rfl
theorem mul3 (x y : D) : op2 .mul (.list [x, y]) (.int 3) = .ok (.list [x, y, x, y, x, y]) := Eq.trans rfl rfl
abbrev z3 : D := .tuple [.int 0, .int 1, .int 0]
abbrev bads : List D := [.none, .tuple [], .list [.tuple [z3, z3]], .tuple [.tuple [z3]], .tuple [.tuple [z3, .tuple [.int 0, .int 1, .int 1]]], .tuple [.tuple [.tuple [.int 2, .int 1, .int 0], z3]], .str "?", .int 0,
  .tuple [.tuple [.tuple [.int 0, .int 0, .int 0], z3]], .tuple [.tuple [.tuple [.int 0, .int 1, .int (-1)], z3]], .tuple [.tuple [.tuple [.int 0, .int 1, .bool true], z3]], .tuple [.tuple [.tuple [.int 0, .int 1], z3]],
  .tuple [.tuple [z3, .list [.int 0, .int 1, .int 0]]], .tuple [.tuple [z3, z3], .tuple [z3, z3], .tuple [z3, z3], .tuple [z3, z3]], .tuple [z3, z3]]
theorem bads_no : ∀ x ∈ bads, isM x = false := by
  intro x hx
  simp only [bads, List.mem_cons, List.mem_nil_iff, or_false, List.not_mem_nil] at hx
  rcases hx with rfl | rfl | rfl | rfl | rfl | rfl | rfl | rfl | rfl | rfl | rfl | rfl | rfl | rfl | rfl <;> rfl
abbrev wrongs : List D := [.none, .int (-1), .int 501, .bool true, .str "?"]
theorem wrongs_no : ∀ x ∈ wrongs, wi 0 500 x = false := by
  intro x hx
  simp only [wrongs, List.mem_cons, List.mem_nil_iff, or_false, List.not_mem_nil] at hx
  rcases hx with rfl | rfl | rfl | rfl | rfl <;> rfl
theorem word_no : w__law_word.sem (.exc "NoMachine" []) = .ok (.str "!NoMachine") := by rfl
theorem word_num : w__law_word.sem (.exc "NoNumber" []) = .ok (.str "!NoNumber") := by rfl
theorem all_t {xs : List D} (h : ∀ x ∈ xs, x = .bool true) : biD .all (.list xs) = .ok (.bool true) := by
  have e : xs = xs.map fun _ => PyData.bool true := (List.map_id xs).symm.trans (List.map_congr_left fun x hx => h x hx)
  rw [e, all_l (fun _ => true)]
  have e2 : xs.all (fun _ => true) = true := List.all_eq_true.mpr fun _ _ => rfl
  rw [e2]
theorem law_true : ∀ ns : List Int, ns.length ≤ 63 → g_law.sem [.list (ns.map PyData.int)] = .ok (.bool true, []) := by
  intro ns hl
  obtain ⟨h0, e0, hh0⟩ := sp_hand ns hl
  obtain ⟨b, h1, e1, hb, hh1⟩ := sp_any hh0 bads (Nat.zero_lt_succ _) (by simp only [bads, List.length_cons, List.length_nil]; decide)
  obtain ⟨n, h2, e2, hn, hh2⟩ := sp_any hh1 wrongs (Nat.zero_lt_succ _) (by simp only [wrongs, List.length_cons, List.length_nil]; decide)
  have hb := bads_no b hb
  have hn := wrongs_no n hn
  obtain ⟨p1, p2, p3⟩ := sp_wrong (n := n) (sp_checks_no hb n)
  obtain ⟨q1, q2, q3⟩ := sp_wrong (sp_checks_num (isM_ok stop_val) hn)
  have q1 : g_stand_after.sem [stopD, n] = .exc "NoNumber" [] := q1
  have q2 : g_bounds_of_way.sem [stopD, n] = .exc "NoNumber" [] := q2
  have q3 : g_states_taken.sem [stopD, n] = .exc "NoNumber" [] := q3
  have im := sp_is_machine b
  rw [hb] at im
  have nes : cmpD .ne (.list [.str "!NoMachine", .str "!NoNumber", .str "!NoMachine", .str "!NoNumber", .str "!NoMachine", .str "!NoNumber"]) (.list [.str "!NoMachine", .str "!NoNumber", .str "!NoMachine", .str "!NoNumber", .str "!NoMachine", .str "!NoNumber"]) = .ok false := by
    have o1 : Okd 0 (.str "!NoMachine") := ⟨by decide +kernel, Nat.zero_le _⟩
    have o2 : Okd 0 (.str "!NoNumber") := ⟨by decide +kernel, Nat.zero_le _⟩
    exact ne_same (k := 1) (.lst (.cons o1 (.cons o2 (.cons o1 (.cons o2 (.cons o1 (.cons o2 .nil))))))) (by decide)
  have r6 : ∀ ρ, rngC 0 6 ρ = .ok ((List.range 6).map (fun (i : Nat) => PyData.int (i : Int)), ρ) := fun ρ => rngC_nat 6 ρ (by decide)
  rw [sem_law]
  simp [b_law, slots0, e0, k1, k2, k3, k4, k5, k6, mul4t, mul3, e1, e2, p1, p2, p3, q1, q2, q3, word_no, word_num, nes, im, r6]
  generalize PyData.list [PyData.tuple [PyData.none, PyData.int 1, PyData.tuple [PyData.int 0]], PyData.tuple [PyData.int 0, PyData.int 0, PyData.tuple [PyData.int 0, PyData.int 1]], PyData.tuple [PyData.none, PyData.int 0, PyData.tuple [PyData.int (-2), PyData.int (-1), PyData.int 0, PyData.int 1]], PyData.tuple [PyData.int (-2), PyData.int 1], PyData.tuple [PyData.int 3, PyData.int 3]] = A2
  generalize PyData.tuple [PyData.int 0, PyData.int 1, PyData.int 0] = A3
  generalize [PyData.str (Str.ofString "!NoMachine"), PyData.str (Str.ofString "!NoNumber"), PyData.str (Str.ofString "!NoMachine"), PyData.str (Str.ofString "!NoNumber"), PyData.str (Str.ofString "!NoMachine"), PyData.str (Str.ofString "!NoNumber")] = A6
  generalize PyData.tuple [PyData.tuple [PyData.tuple [PyData.int 1, PyData.int 1, PyData.none], PyData.tuple [PyData.int 0, PyData.int 1, PyData.none]]] = A7
  generalize PyData.tuple [PyData.tuple [PyData.tuple [PyData.int 1, PyData.int 1, PyData.int 1], PyData.tuple [PyData.int 1, PyData.int (-1), PyData.int 1]], PyData.tuple [PyData.tuple [PyData.int 1, PyData.int (-1), PyData.int 0], PyData.tuple [PyData.int 1, PyData.int 1, PyData.none]]] = A8
  generalize PyData.list (List.map PyData.int ns) = A0
  obtain ⟨xs, h4, ec, hh4, lc, qc⟩ := comp_ds (Hd := Hd) (turn := turnC G_law (.callB 0 1 .nil) (.nm 9) (.lit (.bl true))) (fun h => [Cell.dat A0, .own false h, .dat A2, .dat A3, .dat b, .dat n, .own false A6, .dat A7, .dat A8, .un]) (fun x => x = .bool true) (List.map (fun i : Nat => PyData.int (i : Int)) (List.range 6)) h2 hh2 (fun d _ h hh => by
    obtain ⟨h', e, hh'⟩ := sp_case hh
    refine ⟨_, h', ?_, hh', rfl⟩
    simp [e])
  rw [ec]
  simp [all_t qc]
end K80

namespace DP
open PySem PySem.Spec PyProof.Rows L2
theorem exn_mk {K : Frag} {mg : Str → Option Value} {c : Str} {C : Addr} {bmB : List Value} {B newId initId : String} (f : ExcBaseFacts B newId initId bmB) (m : mg c = some (.ref C)) (q : PySem.W.excIn K C bmB newId = true) (k : PySem.W.keepIn K (.ref C) = true) (s : PySem.W.subIn K (.ref C) (.type "BaseException") = some true)
    (t : PySem.W.typeIn K (.ref C) = some (.type "type")) : HasExn K mg c := ⟨C, bmB, B, newId, initId, f, q, m, k, s, t⟩
theorem cat_one {K : Frag} {mg : Str → Option Value} {CB : Addr} {c : Str} {C : Addr} (m : mg c = some (.ref C)) (x : PySem.W.exmOne K (.ref C) (.ref CB) = some true) (h : ExcC K C) (v : PySem.W.kitOne K (.ref C) (.type "ValueError") = some true) : CatOne K mg CB (c, C) := ⟨m, x, h, v⟩
theorem kit_one {K : Frag} {c c2 : Str} {C C2 : Addr} (b : Bool) (h : PySem.W.kitOne K (.ref C) (.ref C2) = some b) (e : decide (c2 = c) = b) : PySem.W.kitOne K (.ref (c, C).2) (.ref (c2, C2).2) = some (decide ((c2, C2).1 = (c, C).1)) := by
  rw [show decide ((c2, C2).1 = (c, C).1) = b from e]; exact h
/-- the law's own end, where the law's heap holds the tables (kmHook) -/
theorem law_walkM [Tb] {l : PySem.W.OpenLaw} {k : Nat} {q : Program} {loose : List Str} {XP : (Str → Option Value) → Heap → Prop} {YP : World → Heap → Prop} {d : DefRec} {K : Params → Frag} {p : Str} {g : Sig} (cs : World → List (Addr × Addr))
    (most : l.most = some 63) (nodef : d.params.defaults = []) (room : Room k callerA) (kin : ∀ (w : World) (h : Heap), YP w h → (K w.params).In h)
    (g1 : g.bor = false) (g2 : g.nw = false) (g3 : g.n = 1) (tr : ∀ ns : List Int, ns.length ≤ 63 → g.sem [.list (ns.map PyData.int)] = .ok (.bool true, []))
    (imp : importsNone q = true) (smK : ∀ w : World, (K w.params).lookup sysModules = none)
    (ktab : ∀ (w : World) (h : Heap), YP w h → ∀ t ∈ cs w, h.get? t.2 = some (PySem.W.tabObj #[])) (hcs : ∀ (w : World), ∀ t ∈ cs w, PySem.W.codeHdIn (K w.params) t.1 t.2 = true ∧ (K w.params).lookup t.2 = none) (htb : ∀ (w : World), ∀ p ∈ Tb.l, p.1 ∈ (cs w).map (·.2))
    (F : ∀ (w : World) (mg : Str → Option Value) (f : Addr) (h : Heap), (K w.params).In h → h.Ns mainGlobals mg → mg d.name = some (.ref f) →
      ∃ fd : FuncData, (∀ (s : Shared) (u : Value), BindsTo s fd ⟨[u], []⟩ [(p, u)]) ∧ ∀ base : Heap, (K w.params).In base → (∀ t ∈ cs w, LamX.TabB base mg t.1 t.2) → FnG l.prog w (K w.params) mg base (L2.CX l.prog w) k f fd [p] (spOf (K w.params) mg g)) :
    PySem.W.WalkO q loose XP YP l.row.toRowW d [] (fun f vs => PySem.call f vs) := by
  refine att_call most nodef fun w s0 s1 mg mb f a us ns G Y hmg obj na areI few noG => ?_
  have kx := kin w _ Y
  have mods : ∃ om es ep, s1.heap.get? sysModules = some om ∧ om.data = .dict es ep := by
    obtain ⟨mm, ⟨om, es, ep, hom, hd, _⟩, _⟩ := (G.T.seer imp).mods
    exact ⟨om, es, ep, hom, hd⟩
  obtain ⟨fd, bd, hF⟩ := F w mg f _ kx G.T.g hmg
  have tabs : ∀ t ∈ cs w, PySem.W.CodeHd s1.heap t.1 t.2 ∧ s1.heap.get? t.2 = some { cls := .none, data := .fields #[] } := fun t ht => by
    exact ⟨PySem.W.codeHd_of_K kx (hcs w t ht).1, ktab w _ Y t ht⟩
  exact end_call kx G.T.g G.T.b G.T.builtins G.T.nolimit (fun t ht => (tabs t ht).2) (fun t ht => (hcs w t ht).2) (fun t ht => (tabs t ht).1) G.T.bmain (htb w) noG obj areI (Nat.le_trans few (by decide)) room (smK w) na mods hF bd g1 g2 g3 (tr ns few)
end DP

open PySem PySem.W PyProof.Rows
set_option maxHeartbeats 0 in
theorem PySem.Challenge.cw_beastriddles_k80_whole_beavers_step_by_s_holds : PySem.Challenge.rw_beastriddles_k80_whole_beavers_step_by_s.Holds := by
  w_on; o_law; k_head; (case hw => w_witness2)
  k_fill
  refine DP.law_walkM (l := PySem.Challenge.rw_beastriddles_k80_whole_beavers_step_by_s) (p := "script") (k := 12) (g := K80.g_law) (fun _ => [(191, 189)]) rfl rfl ⟨rfl, by decide, by decide⟩ (fun w h Y => PySem.W.km_in_of Y) rfl rfl rfl K80.law_true ?imp ?smK ?ktab ?hcs ?htb ?F
  case ktab =>
    intro w h Y t ht
    simp only [List.mem_cons, List.mem_nil_iff, or_false, List.not_mem_nil] at ht
    rcases ht with rfl <;> exact PySem.W.km_tabs_of Y _ (by k_mem)
  case imp => exact rfl
  case smK => exact fun w => rfl
  case htb => exact fun w => by decide
  case hcs =>
    intro w t ht
    simp only [List.mem_cons, List.mem_nil_iff, or_false, List.not_mem_nil] at ht
    rcases ht with rfl
    · exact ⟨by kernel_rfl, by kernel_rfl⟩
  case F =>
    intro w mg fa h KX G hmg
    refine K80.law_all ?T hmg
    case T =>
      refine ⟨?blt, ?sm, ?v_MOST_STATES, ?v_MOST_RUN_STEPS, ?x_NoMachine, ?x_NoNumber, ?cat__law_word, ?f__law_word, ?f_is_integer, ?f_is_within, ?f_is_sized, ?f_is_rule, ?f_is_machine, ?f_check_machine, ?f_check_machine_steps, ?f_stepped, ?f_stands_up_to, ?f_stand_after, ?f_bounds_of_way, ?f_states_taken, ?f__law_hand, ?f__law_draw, ?f__law_any, ?f__law_is, ?f__law_machine, ?f__law_stands, ?f__law_is_machine, ?f__law_bent, ?f__law_case_right, ?f_law, ?t_law⟩
      case sm => exact rfl
      case blt =>
        intro x hx
        simp only [DP.bNames, List.mem_cons, List.mem_nil_iff, or_false] at hx
        rcases hx with rfl | rfl | rfl | rfl | rfl | rfl | rfl | rfl | rfl | rfl | rfl | rfl | rfl | rfl | rfl | rfl | rfl | rfl <;> refine PySem.W.mg_none_of KX G ?_ <;> k_is
      case v_MOST_STATES => refine' ⟨_, PySem.W.mg_of KX G ?a, ?b⟩; (case a => k_is); (case b => exact ⟨_, rfl⟩)
      case v_MOST_RUN_STEPS => refine' ⟨_, PySem.W.mg_of KX G ?a, ?b⟩; (case a => k_is); (case b => exact ⟨_, rfl⟩)
      case x_NoMachine => refine' DP.exn_mk PySem.F.excBase_ValueError (PySem.W.mg_of KX G ?xa) ?xq ?xk ?xs ?xt; (case xa => k_is); (case xq => k_exc); (case xk => k_is); (case xs => k_is); (case xt => k_is)
      case x_NoNumber => refine' DP.exn_mk PySem.F.excBase_ValueError (PySem.W.mg_of KX G ?xa) ?xq ?xk ?xs ?xt; (case xa => k_is); (case xq => k_exc); (case xk => k_is); (case xs => k_is); (case xt => k_is)
      case cat__law_word =>
        refine' DP.cat_mk (l := [("NoMachine", ?C0), ("NoNumber", ?C1)]) (PySem.W.mg_of KX G ?b) (List.forall_mem_cons.mpr ⟨DP.cat_one (PySem.W.mg_of KX G ?m0) ?x0 ⟨?c0_1, ?c0_2, ?c0_3, ?c0_4, ?c0_5, ?c0_6, ?c0_7, ?c0_8⟩ ?v0, (List.forall_mem_cons.mpr ⟨DP.cat_one (PySem.W.mg_of KX G ?m1) ?x1 ⟨?c1_1, ?c1_2, ?c1_3, ?c1_4, ?c1_5, ?c1_6, ?c1_7, ?c1_8⟩ ?v1, fun p z => nomatch z⟩)⟩) (List.forall_mem_cons.mpr ⟨(List.forall_mem_cons.mpr ⟨DP.kit_one true ?r0_0 (by decide), (List.forall_mem_cons.mpr ⟨DP.kit_one false ?r0_1 (by decide), fun p z => nomatch z⟩)⟩), (List.forall_mem_cons.mpr ⟨(List.forall_mem_cons.mpr ⟨DP.kit_one false ?r1_0 (by decide), (List.forall_mem_cons.mpr ⟨DP.kit_one true ?r1_1 (by decide), fun p z => nomatch z⟩)⟩), fun p z => nomatch z⟩)⟩) (PySem.W.mg_none_of KX G ?isi) (PySem.W.mg_none_of KX G ?val)
        (case b => k_is)
        (case m0 => k_is); (case x0 => kts_exm); (case c0_1 => k_is); (case c0_2 => k_is); (case c0_3 => k_is); (case c0_4 => k_is); (case c0_5 => k_is); (case c0_6 => k_is); (case c0_7 => k_is); (case c0_8 => k_is); (case v0 => kit_is)
        (case m1 => k_is); (case x1 => kts_exm); (case c1_1 => k_is); (case c1_2 => k_is); (case c1_3 => k_is); (case c1_4 => k_is); (case c1_5 => k_is); (case c1_6 => k_is); (case c1_7 => k_is); (case c1_8 => k_is); (case v1 => kit_is)
        (case r0_0 => kit_is)
        (case r0_1 => kit_is)
        (case r1_0 => kit_is)
        (case r1_1 => kit_is)
        (case isi => k_is); (case val => k_is)
      case f__law_word => refine' ⟨_, _, PySem.W.mg_of KX G ?a, L2.fun_mk ?l ?c ?k⟩; (case a => k_is); (case l => k_is); (case c => k_is); (case k => k_is)
      case f_is_integer => refine' ⟨_, _, PySem.W.mg_of KX G ?a, L2.fun_mk ?l ?c ?k⟩; (case a => k_is); (case l => k_is); (case c => k_is); (case k => k_is)
      case f_is_within => refine' ⟨_, _, PySem.W.mg_of KX G ?a, L2.fun_mk ?l ?c ?k⟩; (case a => k_is); (case l => k_is); (case c => k_is); (case k => k_is)
      case f_is_sized => refine' ⟨_, _, PySem.W.mg_of KX G ?a, L2.fun_mk ?l ?c ?k⟩; (case a => k_is); (case l => k_is); (case c => k_is); (case k => k_is)
      case f_is_rule => refine' ⟨_, _, PySem.W.mg_of KX G ?a, L2.fun_mk ?l ?c ?k⟩; (case a => k_is); (case l => k_is); (case c => k_is); (case k => k_is)
      case f_is_machine => refine' ⟨_, _, PySem.W.mg_of KX G ?a, L2.fun_mk ?l ?c ?k⟩; (case a => k_is); (case l => k_is); (case c => k_is); (case k => k_is)
      case f_check_machine => refine' ⟨_, _, PySem.W.mg_of KX G ?a, L2.fun_mk ?l ?c ?k⟩; (case a => k_is); (case l => k_is); (case c => k_is); (case k => k_is)
      case f_check_machine_steps => refine' ⟨_, _, PySem.W.mg_of KX G ?a, L2.fun_mk ?l ?c ?k⟩; (case a => k_is); (case l => k_is); (case c => k_is); (case k => k_is)
      case f_stepped => refine' ⟨_, _, PySem.W.mg_of KX G ?a, L2.fun_mk ?l ?c ?k⟩; (case a => k_is); (case l => k_is); (case c => k_is); (case k => k_is)
      case f_stands_up_to => refine' ⟨_, _, PySem.W.mg_of KX G ?a, L2.fun_mk ?l ?c ?k⟩; (case a => k_is); (case l => k_is); (case c => k_is); (case k => k_is)
      case f_stand_after => refine' ⟨_, _, PySem.W.mg_of KX G ?a, L2.fun_mk ?l ?c ?k⟩; (case a => k_is); (case l => k_is); (case c => k_is); (case k => k_is)
      case f_bounds_of_way => refine' ⟨_, _, PySem.W.mg_of KX G ?a, L2.fun_mk ?l ?c ?k⟩; (case a => k_is); (case l => k_is); (case c => k_is); (case k => k_is)
      case f_states_taken => refine' ⟨_, _, PySem.W.mg_of KX G ?a, L2.fun_mk ?l ?c ?k⟩; (case a => k_is); (case l => k_is); (case c => k_is); (case k => k_is)
      case f__law_hand => refine' ⟨_, _, PySem.W.mg_of KX G ?a, L2.fun_mk ?l ?c ?k⟩; (case a => k_is); (case l => k_is); (case c => k_is); (case k => k_is)
      case f__law_draw => refine' ⟨_, _, PySem.W.mg_of KX G ?a, L2.fun_mk ?l ?c ?k⟩; (case a => k_is); (case l => k_is); (case c => k_is); (case k => k_is)
      case f__law_any => refine' ⟨_, _, PySem.W.mg_of KX G ?a, L2.fun_mk ?l ?c ?k⟩; (case a => k_is); (case l => k_is); (case c => k_is); (case k => k_is)
      case f__law_is => refine' ⟨_, _, PySem.W.mg_of KX G ?a, L2.fun_mk ?l ?c ?k⟩; (case a => k_is); (case l => k_is); (case c => k_is); (case k => k_is)
      case f__law_machine => refine' ⟨_, _, PySem.W.mg_of KX G ?a, L2.fun_mk ?l ?c ?k⟩; (case a => k_is); (case l => k_is); (case c => k_is); (case k => k_is)
      case f__law_stands => refine' ⟨_, _, PySem.W.mg_of KX G ?a, L2.fun_mk ?l ?c ?k⟩; (case a => k_is); (case l => k_is); (case c => k_is); (case k => k_is)
      case f__law_is_machine => refine' ⟨_, _, PySem.W.mg_of KX G ?a, L2.fun_mk ?l ?c ?k⟩; (case a => k_is); (case l => k_is); (case c => k_is); (case k => k_is)
      case f__law_bent => refine' ⟨_, _, PySem.W.mg_of KX G ?a, L2.fun_mk ?l ?c ?k⟩; (case a => k_is); (case l => k_is); (case c => k_is); (case k => k_is)
      case f__law_case_right => refine' ⟨_, _, PySem.W.mg_of KX G ?a, L2.fun_mk ?l ?c ?k⟩; (case a => k_is); (case l => k_is); (case c => k_is); (case k => k_is)
      case f_law => refine' ⟨_, _, PySem.W.mg_of KX G ?a, L2.fun_mk ?l ?c ?k⟩; (case a => k_is); (case l => k_is); (case c => k_is); (case k => k_is)
      case t_law =>
        refine' DP.code_at (PySem.W.mg_of KX G ?a) ?l; (case a => k_is); (case l => k_is)
