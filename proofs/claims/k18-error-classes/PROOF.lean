import PyProof.Rows.All
import Wide.All
import OpenK.AllK
import Wide.FinOn
import KE.KStateDown
import HandS.ForMost
import HandS.ForExc
import HandS.TupAny
import HandS.TupMul
import HandS.Lambda
import HandS.ExcCtx
import HandS.Nested
import KE.SortData
import HandS.SortInts
import HandS.Wide
import HandS.IsInst
import KE.KTupSum
import HandS.Zip
import HandS.Style
import HandS.ExcOwn
import HandS.SetFor
import HandS.Strs
import HandS.TupSets
import KE.GoesEnum
import KE.GoesZip
import KE.KDictZip
import PyProof.ListNew
import HandS.ExcValue
import HandS.List
import HandS.ExcIs
import KE.KExcStr
import HandS.ExcInit
import HandS.Defaults
import HandS.TryMany
import HandS.HotCalls
import HandS.Head0
import HandS.Head1
import HandS.Head2
import HandS.HeadEnd
import HandS.HeadHook1
import HandS.HeadHook2
import HandS.HeadHook3
import HandS.HeadHook4
import HandS.HeadWalk
import HandS.NestedK
import PySem.Challenge.RW_onlyterms_k18_error_classes
set_option Elab.async false
set_option linter.all false
set_option maxRecDepth 100000
set_option maxHeartbeats 0
/-! Ev1: values, the store, what stands for what. -/
namespace Ev
open PySem PySem.Spec PyProof.Rows L2
open LamX (Tabs)

/-- a value in a slot: data that nobody changes, or a thing of the store -/
inductive VV where
  | d (x : PyData)
  | ref (n : Nat)
  /-- a value of the machine that is only handed on -/
  | raw (u : V)
  /-- the function that the nested def k made -/
  | fn (k : Nat)
/-- a thing of the store -/
inductive OB where
  | lst (ds : List PyData)
  | gone
  /-- a list whose items may be things of the store -/
  | vls (xs : List VV)
/-- what an expression gives: a value, or a new list that nobody else holds -/
inductive TV where
  | v (x : VV)
  | own (ds : List PyData)
abbrev Sto := List OB
abbrev Env' := List (Option VV)
abbrev AS := List (Option Addr)
inductive Res (α : Type) where
  | ok (a : α) (M : Sto)
  | err (x : Nat) (M : Sto)
  | stuck
def Res.bind {α β : Type} (r : Res α) (k : α → Sto → Res β) : Res β := match r with
  | .ok a M => k a M
  | .err x M => .err x M
  | .stuck => .stuck
@[simp] theorem Res.bind_ok {α β : Type} (a : α) (M : Sto) (k : α → Sto → Res β) : (Res.ok a M).bind k = k a M := (rfl)
@[simp] theorem Res.bind_err {α β : Type} (x : Nat) (M : Sto) (k : α → Sto → Res β) : (Res.err x M : Res α).bind k = .err x M := (rfl)
@[simp] theorem Res.bind_stuck {α β : Type} (k : α → Sto → Res β) : (Res.stuck : Res α).bind k = .stuck := (rfl)

/-! ### data -/
/-- isinstance(v, T) is False for the built-in classes T that are asked for -/
def NotBi (K : PySem.W.Frag) (H : Hp) (v : V) : Prop := ∀ (X : Cx) (pins : List (Addr × Obj)) (s : Shared) (σ : L2.St) (u : Value) (T : String) (Q : VK), X.K = K → L2.Inv X pins σ H s → L2.RelV v u →
  (T = "int" ∨ T = "bool" ∨ T = "tuple" ∨ T = "str" ∨ T = "list") → Q (.bl false) H → wpAny (model X.prog X.w) X.A (call (.builtin "isinstance") [u, .type T]) (EP X pins σ Q) X.xe s
/-- what the head fixed, and which objects are values that never change -/
structure KO where
  fr : PySem.W.Frag
  ob : Hp → V → List (PyData × PyData) → Prop
  mono : ∀ {F F' : Hp}, (∀ b o, F b = some o → F' b = some o) → ∀ (v : V) (kvs : List (PyData × PyData)), ob F v kvs → ob F' v kvs
  rf : ∀ {F : Hp} {v : V} {kvs : List (PyData × PyData)}, ob F v kvs → ∃ a, v = .ref a
  isi : ∀ {F H : Hp} {v : V} {kvs : List (PyData × PyData)}, (∀ b o, F b = some o → H b = some o) → ob F v kvs → NotBi fr H v
instance : Coe KO PySem.W.Frag := ⟨KO.fr⟩
mutual
inductive Dp (K : KO) (H : Hp) : V → PyData → Prop
  | non : Dp K H .non .none
  | bl (b : Bool) : Dp K H (.bl b) (.bool b)
  | int (i : Int) : Dp K H (.int i) (.int i)
  | str (x : Str) : Dp K H (.str x) (.str x)
  | lst {a : Addr} {xs : List V} {ds : List PyData} : SqL K.fr H a xs → DpAll K H xs ds → Dp K H (.ref a) (.list ds)
  | tup {a : Addr} {xs : List V} {ds : List PyData} : SqT K.fr H a xs → DpAll K H xs ds → Dp K H (.ref a) (.tuple ds)
  | obj {v : V} {kvs : List (PyData × PyData)} : K.ob H v kvs → Dp K H v (.dict kvs)
inductive DpAll (K : KO) (H : Hp) : List V → List PyData → Prop
  | nil : DpAll K H [] []
  | cons {v : V} {vs : List V} {d : PyData} {ds : List PyData} : Dp K H v d → DpAll K H vs ds → DpAll K H (v :: vs) (d :: ds)
end
mutual
/-- no object within -/
def bareD : PyData → Bool
  | .list ds => bareAll ds
  | .tuple ds => bareAll ds
  | .dict _ => false
  | _ => true
def bareAll : List PyData → Bool
  | [] => true
  | d :: ds => bareD d && bareAll ds
end
mutual
theorem Dp.bare {K : KO} {H : Hp} : ∀ (d : PyData) (v : V), bareD d = true → Dp K H v d → L2.Dp K.fr H v d
  | .none, _, _, .non => .non
  | .bool b, _, _, .bl _ => .bl b
  | .int i, _, _, .int _ => .int i
  | .str x, _, _, .str _ => .str x
  | .list ds, _, h, .lst h1 h2 => .lst h1 (DpAll.bare ds _ (by simpa [bareD] using h) h2)
  | .tuple ds, _, h, .tup h1 h2 => .tup h1 (DpAll.bare ds _ (by simpa [bareD] using h) h2)
  | .dict _, _, h, _ => by simp [bareD] at h
theorem DpAll.bare {K : KO} {H : Hp} : ∀ (ds : List PyData) (vs : List V), bareAll ds = true → DpAll K H vs ds → L2.DpAll K.fr H vs ds
  | [], _, _, .nil => .nil
  | d :: ds, _, h, .cons h1 h2 => by
    simp only [bareAll, Bool.and_eq_true] at h
    exact .cons (Dp.bare d _ h.1 h1) (DpAll.bare ds _ h.2 h2)
end
theorem bareAll_of {ds : List PyData} : (∀ d ∈ ds, bareD d = true) → bareAll ds = true := by
  induction ds with
  | nil => intro _; simp [bareAll]
  | cons d ds ih => intro h; simp only [bareAll, Bool.and_eq_true]; exact ⟨h d List.mem_cons_self, ih fun e he => h e (List.mem_cons_of_mem _ he)⟩
/-! ### what is fixed -/
structure Stat where
  P : Program
  w : World
  K : KO
  mg : Str → Option Value
  base : Heap
  T : List (Addr × Str)
  cx : Nat → Addr
  /-- the functions that the running def makes, by their code objects -/
  nd : Nat → Option (Addr → NdefX.NF) := fun _ => none

section
variable {K : KO}
mutual
theorem dp_mono {F F' : Hp} (k : ∀ b o, F b = some o → F' b = some o) : ∀ (d : PyData) (v : V), Dp K F v d → Dp K F' v d
  | .none, _, .non => .non
  | .bool b, _, .bl _ => .bl b
  | .int i, _, .int _ => .int i
  | .str x, _, .str _ => .str x
  | .list ds, _, .lst h1 h2 => .lst (Same.seq k h1) (dpAll_mono k ds _ h2)
  | .tuple ds, _, .tup h1 h2 => .tup (by
      rcases h1 with (h | ⟨o, h⟩) | h
      · exact .inl (.inl (k _ _ h))
      · exact .inl (.inr ⟨o, k _ _ h⟩)
      · exact .inr h) (dpAll_mono k ds _ h2)
  | .dict kvs, v, .obj h => .obj (K.mono k v kvs h)
theorem dpAll_mono {F F' : Hp} (k : ∀ b o, F b = some o → F' b = some o) : ∀ (ds : List PyData) (vs : List V), DpAll K F vs ds → DpAll K F' vs ds
  | [], _, .nil => .nil
  | d :: ds, _, .cons h1 h2 => .cons (dp_mono k d _ h1) (dpAll_mono k ds _ h2)
end
theorem dpAll_len {F : Hp} : ∀ {ds : List PyData} {vs : List V}, DpAll K F vs ds → vs.length = ds.length
  | _, _, .nil => rfl
  | _, _, .cons _ h => by rw [List.length_cons, List.length_cons, dpAll_len h]
theorem dpAll_get {F : Hp} : ∀ {ds : List PyData} {vs : List V} {i : Nat} {x : PyData}, DpAll K F vs ds → ds[i]? = some x → ∃ v, vs[i]? = some v ∧ Dp K F v x
  | _, _, _, _, .nil, e => by simp at e
  | _, _, 0, _, .cons h _, e => by simp at e; subst e; exact ⟨_, rfl, h⟩
  | _, _, i + 1, _, .cons _ h, e => by
    obtain ⟨v, h1, h2⟩ := dpAll_get (i := i) h (by simpa using e)
    exact ⟨v, by simpa using h1, h2⟩
theorem dpAll_getV {F : Hp} : ∀ {ds : List PyData} {vs : List V} {i : Nat} {v : V}, DpAll K F vs ds → vs[i]? = some v → ∃ x, ds[i]? = some x ∧ Dp K F v x
  | _, _, _, _, .nil, e => by simp at e
  | _, _, 0, _, .cons h _, e => by simp at e; subst e; exact ⟨_, rfl, h⟩
  | _, _, i + 1, _, .cons _ h, e => by
    obtain ⟨v, h1, h2⟩ := dpAll_getV (i := i) h (by simpa using e)
    exact ⟨v, by simpa using h1, h2⟩
theorem dpAll_app {F : Hp} : ∀ {ds es : List PyData} {vs ws : List V}, DpAll K F vs ds → DpAll K F ws es → DpAll K F (vs ++ ws) (ds ++ es)
  | _, _, _, _, .nil, h => h
  | _, _, _, _, .cons h1 h2, h => .cons h1 (dpAll_app h2 h)
theorem dpAll_take {F : Hp} : ∀ {ds : List PyData} {vs : List V} (n : Nat), DpAll K F vs ds → DpAll K F (vs.take n) (ds.take n)
  | _, _, 0, _ => .nil
  | _, _, _ + 1, .nil => .nil
  | _, _, n + 1, .cons h1 h2 => .cons h1 (dpAll_take n h2)
theorem dpAll_drop {F : Hp} : ∀ {ds : List PyData} {vs : List V} (n : Nat), DpAll K F vs ds → DpAll K F (vs.drop n) (ds.drop n)
  | _, _, 0, h => h
  | _, _, _ + 1, .nil => .nil
  | _, _, n + 1, .cons _ h2 => dpAll_drop n h2
theorem dpAll_set {F : Hp} {x : PyData} {v : V} (h : Dp K F v x) : ∀ {ds : List PyData} {vs : List V} (n : Nat), DpAll K F vs ds → DpAll K F (vs.set n v) (ds.set n x)
  | _, _, _, .nil => .nil
  | _, _, 0, .cons _ h2 => .cons h h2
  | _, _, n + 1, .cons h1 h2 => .cons h1 (dpAll_set h n h2)
theorem dpAll_nil {F : Hp} {ds : List PyData} : DpAll K F [] ds → ds = []
  | .nil => rfl
theorem dpAll_rev {F : Hp} : ∀ {ds : List PyData} {vs : List V}, DpAll K F vs ds → DpAll K F vs.reverse ds.reverse
  | _, _, .nil => .nil
  | _, _, .cons h1 h2 => by rw [List.reverse_cons, List.reverse_cons]; exact dpAll_app (dpAll_rev h2) (.cons h1 .nil)
theorem dpAll_ints {F : Hp} : ∀ (ns : List Int), DpAll K F (ns.map V.int) (ns.map PyData.int)
  | [] => .nil
  | n :: ns => .cons (.int n) (dpAll_ints ns)
theorem dpAll_int_of {F : Hp} : ∀ {ns : List Int} {vs : List V}, DpAll K F vs (ns.map PyData.int) → vs = ns.map V.int
  | [], _, .nil => rfl
  | n :: ns, _, .cons h1 h2 => by
    cases h1
    rw [List.map_cons, dpAll_int_of h2]
theorem dpAll_rep {F : Hp} {ds : List PyData} {vs : List V} (h : DpAll K F vs ds) : ∀ k : Nat, DpAll K F (List.replicate k vs).flatten (List.replicate k ds).flatten
  | 0 => .nil
  | k + 1 => by
    rw [List.replicate_succ, List.replicate_succ, List.flatten_cons, List.flatten_cons]
    exact dpAll_app h (dpAll_rep h k)
end

/-! ### from a state to a later one -/
structure Nxt (F H : Hp) (as : AS) (F' H' : Hp) (as' : AS) : Prop where
  len : as.length ≤ as'.length
  old : ∀ (n : Nat) (a : Addr), as'[n]? = some (some a) → n < as.length → as[n]? = some (some a)
  new : ∀ (n : Nat) (a : Addr), as'[n]? = some (some a) → as.length ≤ n → H a = none ∨ some a ∈ as
  keep : ∀ b o, some b ∉ as → (∀ ps, o ≠ .tbl ps) → H b = some o → H' b = some o
  there : ∀ b, H b ≠ none → H' b ≠ none
  grow : ∀ b o, F b = some o → F' b = some o
  fresh : ∀ b, F b = none → (∃ vs, H b = some (.lst vs)) → some b ∉ as → F' b = none
theorem mem_ix {as : AS} {a : Option Addr} : a ∈ as ↔ ∃ n : Nat, as[n]? = some a := by
  constructor
  · intro h
    obtain ⟨n, hn, e⟩ := List.mem_iff_getElem.mp h
    exact ⟨n, by rw [List.getElem?_eq_getElem hn, e]⟩
  · rintro ⟨n, e⟩
    exact List.mem_of_getElem? e
theorem Nxt.mem {F H F' H' : Hp} {as as' : AS} (x : Nxt F H as F' H' as') {b : Addr} (h : some b ∈ as') : some b ∈ as ∨ H b = none := by
  obtain ⟨n, e⟩ := mem_ix.mp h
  by_cases hn : n < as.length
  · exact .inl (mem_ix.mpr ⟨n, x.old n b e hn⟩)
  · exact (x.new n b e (by omega)).symm
theorem Nxt.refl {F H : Hp} {as : AS} : Nxt F H as F H as :=
  ⟨Nat.le_refl _, fun _ _ h _ => h, fun n a h hl => (by rw [List.getElem?_eq_none hl] at h; cases h), fun _ _ _ _ h => h, fun _ h => h, fun _ _ h => h, fun _ h _ _ => h⟩
theorem Nxt.trans {F H F1 H1 F2 H2 : Hp} {as as1 as2 : AS} (x : Nxt F H as F1 H1 as1) (y : Nxt F1 H1 as1 F2 H2 as2) : Nxt F H as F2 H2 as2 where
  len := Nat.le_trans x.len y.len
  old := fun n a e h => x.old n a (y.old n a e (Nat.lt_of_lt_of_le h x.len)) h
  new := fun n a e h => by
    by_cases hn : n < as1.length
    · exact x.new n a (y.old n a e hn) h
    · rcases y.new n a e (by omega) with z | z
      · cases q : H a with
        | none => exact .inl rfl
        | some o => exact absurd z (x.there a (by rw [q]; simp))
      · exact (x.mem z).symm
  keep := fun b o h t e => y.keep b o (fun z => by
    rcases x.mem z with z | z
    · exact h z
    · rw [z] at e; cases e) t (x.keep b o h t e)
  there := fun b h => y.there b (x.there b h)
  grow := fun b o h => y.grow b o (x.grow b o h)
  fresh := fun b h1 h2 h3 => y.fresh b (x.fresh b h1 h2 h3) (h2.imp fun vs e => x.keep b _ h3 (fun ps z => by cases z) e) (fun z => by
    rcases x.mem z with z | z
    · exact h3 z
    · obtain ⟨vs, e⟩ := h2
      rw [z] at e; cases e)

/-! ### what stands for what -/
def Vr (K : KO) (F : Hp) (as : AS) : VV → V → Prop
  | .d x, v => Dp K F v x
  | .ref n, v => n < as.length ∧ ∀ a, as[n]? = some (some a) → v = .ref a
  | .raw u, v => v = u
  | .fn _, _ => False
theorem Vr.mono {K : KO} {F H F' H' : Hp} {as as' : AS} (x : Nxt F H as F' H' as') {y : VV} {v : V} (h : Vr K F as y v) : Vr K F' as' y v := by
  cases y with
  | d y => exact dp_mono x.grow y v h
  | ref n => exact ⟨Nat.lt_of_lt_of_le h.1 x.len, fun a e => h.2 a (x.old n a e h.1)⟩
  | raw u => exact h
  | fn k => exact h
/-- what a thing of the store is -/
def Real : Option HO → Prop
  | some (.lst _) => True
  | some (.ins _ _ _) => True
  | _ => False
theorem Real.ne {o : Option HO} (h : Real o) : o ≠ none := fun e => by rw [e] at h; exact h
theorem Real.some {o : Option HO} (h : Real o) : ∃ u, o = some u ∧ (∀ ps, u ≠ .tbl ps) ∧ ∀ φ, u ≠ .ext φ := by
  cases o with
  | none => exact h.elim
  | some u =>
    refine ⟨u, rfl, fun ps z => ?_, fun φ z => ?_⟩
    · subst z; exact h
    · subst z; exact h
/-- an item of such a list, which stands at n -/
def Vi (K : KO) (F : Hp) (as : AS) (n : Nat) : VV → V → Prop
  | .d x, v => Dp K F v x
  | .ref m, v => m < n ∧ ∀ a, as[m]? = some (some a) → v = .ref a
  | _, _ => False
theorem Vi.up {K : KO} {F F' : Hp} {as as' : AS} {n : Nat} (k : ∀ b o, F b = some o → F' b = some o) (h : ∀ m a, m < n → as'[m]? = some (some a) → as[m]? = some (some a)) : ∀ (x : VV) (v : V), Vi K F as n x v → Vi K F' as' n x v
  | .d x, v, q => dp_mono k x v q
  | .ref m, v, q => ⟨q.1, fun a e => q.2 a (h m a q.1 e)⟩
  | .raw _, _, q => q
  | .fn _, _, q => q
structure Sr (S : Stat) (F H : Hp) (as : AS) (M : Sto) : Prop where
  sub : ∀ b o, F b = some o → H b = some o
  nt : ∀ b ps, F b ≠ some (.tbl ps)
  len : as.length = M.length
  inj : ∀ (n m : Nat) (a : Addr), as[n]? = some (some a) → as[m]? = some (some a) → n = m
  out : ∀ (n : Nat) (a : Addr), as[n]? = some (some a) → F a = none ∧ Real (H a)
  obj : ∀ (n : Nat) (ds : List PyData), M[n]? = some (.lst ds) → ∃ a vs, as[n]? = some (some a) ∧ H a = some (.lst vs) ∧ DpAll S.K F vs ds
  vls : ∀ (n : Nat) (xs : List VV), M[n]? = some (.vls xs) → ∃ a vs, as[n]? = some (some a) ∧ H a = some (.lst vs) ∧ Paired (Vi S.K F as n) xs vs
  tabs : Tabs S.T H
/-- what a slot holds: a value, or a function made here -/
def Sl (S : Stat) (F : Hp) (as : AS) : VV → V → Prop
  | .fn k, v => ∃ mk f c', S.nd k = some mk ∧ v = .ref f ∧ F f = some (NdefX.FnO f (mk c')) ∧ F (mk c').c = some (LamX.CodeO (mk c').c (mk c').qual)
  | x, v => Vr S.K F as x v
def isFn : VV → Bool
  | .fn _ => true
  | _ => false
theorem Sl.of {S : Stat} {F : Hp} {as : AS} {x : VV} {v : V} (h : Vr S.K F as x v) : Sl S F as x v := by
  cases x <;> first | exact h | exact h.elim
theorem Sl.to {S : Stat} {F : Hp} {as : AS} {x : VV} {v : V} (h : Sl S F as x v) (hx : isFn x = false) : Vr S.K F as x v := by
  cases x <;> first | exact h | cases hx
theorem Sl.mono {S : Stat} {F H F' H' : Hp} {as as' : AS} (x : Nxt F H as F' H' as') {y : VV} {v : V} (h : Sl S F as y v) : Sl S F' as' y v := by
  cases y with
  | fn k =>
    obtain ⟨mk, f, c', h1, h2, h3, h4⟩ := h
    exact ⟨mk, f, c', h1, h2, x.grow _ _ h3, x.grow _ _ h4⟩
  | d y => exact Vr.mono (K := S.K) (y := .d y) x h
  | ref n => exact Vr.mono (K := S.K) (y := .ref n) x h
  | raw u => exact h
structure Er (S : Stat) (F : Hp) (as : AS) (ρ : Env') (σ : L2.St) : Prop where
  len : ρ.length = σ.length
  at_ : ∀ (i : Nat) (x : VV), ρ[i]? = some (some x) → ∃ v, σ[i]? = some (some v) ∧ Sl S F as x v
theorem Er.mono {S : Stat} {F H F' H' : Hp} {as as' : AS} {ρ : Env'} {σ : L2.St} (e : Er S F as ρ σ) (x : Nxt F H as F' H' as') : Er S F' as' ρ σ :=
  ⟨e.len, fun i y h => let ⟨v, h1, h2⟩ := e.at_ i y h; ⟨v, h1, h2.mono x⟩⟩
/-- what an expression's answer stands for; H0, as0: the state at its start -/
def Tr (K : KO) (H0 : Hp) (as0 : AS) (F H : Hp) (as : AS) : TV → V → Prop
  | .v x, v => Vr K F as x v
  | .own ds, v => ∃ p vs, v = .ref p ∧ F p = none ∧ some p ∉ as ∧ H p = some (.lst vs) ∧ DpAll K F vs ds ∧ (H0 p = none ∨ some p ∈ as0)
theorem Tr.mono {K : KO} {H0 F H F' H' : Hp} {as0 as as' : AS} (x : Nxt F H as F' H' as') {t : TV} {v : V} (h : Tr K H0 as0 F H as t v) : Tr K H0 as0 F' H' as' t v := by
  cases t with
  | v y => exact Vr.mono (K := K) x (y := y) h
  | own ds =>
    obtain ⟨p, vs, e, h1, h2, h3, h4, h5⟩ := h
    have hp : H p ≠ none := by rw [h3]; simp
    refine ⟨p, vs, e, x.fresh p h1 ⟨vs, h3⟩ h2, fun z => ?_, x.keep p _ h2 (fun ps z => by cases z) h3, dpAll_mono x.grow ds vs h4, h5⟩
    rcases x.mem z with z | z
    · exact h2 z
    · exact hp z
theorem Tr.start {K : KO} {F0 H0 F1 H1 F H : Hp} {as0 as1 as : AS} (x : Nxt F0 H0 as0 F1 H1 as1) {t : TV} {v : V} (h : Tr K H1 as1 F H as t v) : Tr K H0 as0 F H as t v := by
  cases t with
  | v y => exact h
  | own ds =>
    obtain ⟨p, vs, e, h1, h2, h3, h4, h5⟩ := h
    refine ⟨p, vs, e, h1, h2, h3, h4, ?_⟩
    rcases h5 with h5 | h5
    · left
      cases q : H0 p with
      | none => rfl
      | some o => exact absurd h5 (x.there p (by rw [q]; simp))
    · exact (x.mem h5).symm

/-! ### what an evaluation promises -/
/-- how a kind of answer stands in the heap; H0, as0: the state at the start -/
structure Rel (S : Stat) (α β : Type) where
  r : Hp → AS → Hp → Hp → AS → α → β → Prop
  start : ∀ {F0 H0 F1 H1 F H : Hp} {as0 as1 as : AS} {a : α} {b : β}, Nxt F0 H0 as0 F1 H1 as1 → r H1 as1 F H as a b → r H0 as0 F H as a b
  mono : ∀ {H0 F H F' H' : Hp} {as0 as as' : AS} {a : α} {b : β}, Nxt F H as F' H' as' → r H0 as0 F H as a b → r H0 as0 F' H' as' a b
def RT (S : Stat) : Rel S TV V := ⟨fun H0 as0 F H as t v => Tr S.K H0 as0 F H as t v, fun x h => Tr.start x h, fun x h => Tr.mono x h⟩
def RB (S : Stat) : Rel S Bool Bool := ⟨fun _ _ _ _ _ a b => a = b, fun _ h => h, fun _ h => h⟩
theorem paired_mono {α β : Type} {R R' : α → β → Prop} (h : ∀ a b, R a b → R' a b) : ∀ {l : List α} {m : List β}, Paired R l m → Paired R' l m
  | _, _, .nil => .nil
  | _, _, .cons a t => .cons (h _ _ a) (paired_mono h t)
def RV (S : Stat) : Rel S (List VV) (List V) := ⟨fun _ _ F _ as xs vs => Paired (Vr S.K F as) xs vs, fun _ h => h, fun x h => paired_mono (fun _ _ => Vr.mono x) h⟩
def RTs (S : Stat) : Rel S (List TV) (List V) := ⟨fun _ _ F H as ts vs => Paired (fun t v => ∃ H0 as0, Tr S.K H0 as0 F H as t v) ts vs, fun _ h => h, fun x h => paired_mono (fun _ _ ⟨H0, as0, q⟩ => ⟨H0, as0, Tr.mono x q⟩) h⟩
def ROp (S : Stat) : Rel S (Option Int) (Option Int) := ⟨fun _ _ _ _ _ a b => a = b, fun _ h => h, fun _ h => h⟩
def WpG {α β : Type} (S : Stat) (R : Rel S α β) (W : XK) (F H : Hp) (as : AS) (r : Res α) (Q : β → Hp → Prop) : Prop := match r with
  | .ok t M' => ∀ v F' H' as', Nxt F H as F' H' as' → Sr S F' H' as' M' → R.r H as F' H' as' t v → Q v H'
  | .err x M' => ∀ F' H' as', Nxt F H as F' H' as' → Sr S F' H' as' M' → W (.ref (S.cx x)) none H'
  | .stuck => False
abbrev Wp (S : Stat) (W : XK) (F H : Hp) (as : AS) (r : Res TV) (Q : VK) : Prop := WpG S (RT S) W F H as r Q
section
variable {S : Stat} {W : XK} {F H : Hp} {as : AS}
theorem WpG.later {α β : Type} {R : Rel S α β} {F1 H1 : Hp} {as1 : AS} {r : Res α} {Q : β → Hp → Prop} (x : Nxt F H as F1 H1 as1) (h : WpG S R W F H as r Q) : WpG S R W F1 H1 as1 r Q := by
  cases r with
  | ok t M' => exact fun v F' H' as' nx s tr => h v F' H' as' (x.trans nx) s (R.start x tr)
  | err y M' => exact fun F' H' as' nx s => h F' H' as' (x.trans nx) s
  | stuck => exact h
theorem WpG.bind {α β α' β' : Type} {R : Rel S α β} {R' : Rel S α' β'} {r : Res α} {k : α → Sto → Res α'} {Q : β' → Hp → Prop} {Q2 : β → Hp → Prop} (h : WpG S R' W F H as (r.bind k) Q)
    (hq : ∀ t M1 v F1 H1 as1, r = .ok t M1 → Nxt F H as F1 H1 as1 → Sr S F1 H1 as1 M1 → R.r H as F1 H1 as1 t v → WpG S R' W F1 H1 as1 (k t M1) Q → Q2 v H1) : WpG S R W F H as r Q2 := by
  cases r with
  | ok t M' => exact fun v F' H' as' nx s tr => hq t M' v F' H' as' rfl nx s tr (WpG.later nx h)
  | err y M' => exact h
  | stuck => exact h
theorem WpG.post {α β : Type} {R : Rel S α β} {r : Res α} {Q Q2 : β → Hp → Prop} (h : WpG S R W F H as r Q) (hq : ∀ v H', Q v H' → Q2 v H') : WpG S R W F H as r Q2 := by
  cases r with
  | ok t M' => exact fun v F' H' as' nx s tr => hq v H' (h v F' H' as' nx s tr)
  | err y M' => exact h
  | stuck => exact h
/-- the value is kept by others from now on: a new list is frozen -/
def TV.fz : TV → TV
  | .own ds => .v (.d (.list ds))
  | t => t
def Res.fz (r : Res TV) : Res TV := r.bind fun t M => .ok t.fz M
theorem Nxt.freeze {F' H' : Hp} {as' : AS} {p : Addr} {o : HO} (x : Nxt F H as F' H' as') (h : H p = none ∨ some p ∈ as) (hF : F' p = none) : Nxt F H as (upd F' p o) H' as' where
  len := x.len
  old := x.old
  new := x.new
  keep := x.keep
  there := x.there
  grow := fun b u e => by
    have q := x.grow b u e
    by_cases hb : b = p
    · rw [hb, hF] at q; cases q
    · rw [upd_ne hb]; exact q
  fresh := fun b h1 h2 h3 => by
    by_cases hb : b = p
    · rcases h with h | h
      · obtain ⟨vs, h2⟩ := h2
        rw [hb, h] at h2; cases h2
      · rw [hb] at h3; exact absurd h h3
    · rw [upd_ne hb]; exact x.fresh b h1 h2 h3
theorem upd_sub {F : Hp} {p : Addr} {o : HO} (h : F p = none) : ∀ b u, F b = some u → upd F p o b = some u := fun b u e => by
  rw [upd_ne (ne_of_none e h)]; exact e
theorem Sr.freeze {M : Sto} {p : Addr} {o : HO} (s : Sr S F H as M) (h : H p = some o) (ht : ∀ ps, o ≠ .tbl ps) (hF : F p = none) (hp : some p ∉ as) : Sr S (upd F p o) H as M where
  sub := fun b u e => by
    by_cases hb : b = p
    · rw [hb, upd_same] at e; rw [hb, h]; exact e
    · rw [upd_ne hb] at e; exact s.sub b u e
  nt := fun b ps e => by
    by_cases hb : b = p
    · rw [hb, upd_same] at e; exact ht ps (Option.some.inj e)
    · rw [upd_ne hb] at e; exact s.nt b ps e
  len := s.len
  inj := s.inj
  out := fun n a e => by
    have hb : a ≠ p := fun z => hp (by rw [← z]; exact mem_ix.mpr ⟨n, e⟩)
    rw [upd_ne hb]; exact s.out n a e
  obj := fun n ds e => by
    obtain ⟨a, vs, h1, h2, h3⟩ := s.obj n ds e
    exact ⟨a, vs, h1, h2, dpAll_mono (upd_sub hF) ds vs h3⟩
  vls := fun n xs e => by
    obtain ⟨a, vs, h1, h2, h3⟩ := s.vls n xs e
    exact ⟨a, vs, h1, h2, paired_mono (Vi.up (upd_sub hF) fun _ _ _ h => h) h3⟩
  tabs := s.tabs
theorem Wp.fz {r : Res TV} {Q : VK} (h : Wp S W F H as r.fz Q) : Wp S W F H as r Q := by
  cases r with
  | ok t M' =>
    intro v F' H' as' nx s tr
    cases t with
    | v x => exact h v F' H' as' nx s tr
    | own ds =>
      obtain ⟨p, vs, e, h1, h2, h3, h4, h5⟩ := tr
      have nt : ∀ ps, HO.lst vs ≠ .tbl ps := fun ps z => by cases z
      exact h v (upd F' p (.lst vs)) H' as' (nx.freeze h5 h1) (s.freeze h3 nt h1 h2) (by
        rw [e]
        exact Dp.lst (SqL.of upd_same) (dpAll_mono (upd_sub h1) ds vs h4))
  | err y M' => exact h
  | stuck => exact h
end

/-! ### readings -/
def tG {α β : Type} (S : Stat) (R : Rel S α β) (f : Env' → Sto → Res α) (W : WX) : L2.St → Hp → (β → Hp → Prop) → Prop := fun σ H Q =>
  ∃ F as ρ M, Sr S F H as M ∧ Er S F as ρ σ ∧ WpG S R (fun c d H' => W c d σ H') F H as (f ρ M) Q
abbrev tE (S : Stat) (f : Env' → Sto → Res TV) (W : WX) : TE := tG S (RT S) f W
/-- a step: what comes first is read, with the rest behind it -/
theorem tG.bind {α β α' β' : Type} {S : Stat} {R : Rel S α β} {R' : Rel S α' β'} {W : WX} {f : Env' → Sto → Res α} {k : Env' → α → Sto → Res α'} {σ : L2.St} {H : Hp} {Q : β' → Hp → Prop} {Q2 : β → Hp → Prop}
    (h : tG S R' (fun ρ M => (f ρ M).bind (k ρ)) W σ H Q)
    (hq : ∀ F1 H1 as1 ρ M1 H0 as0 t v, Sr S F1 H1 as1 M1 → Er S F1 as1 ρ σ → R.r H0 as0 F1 H1 as1 t v → WpG S R' (fun c d H' => W c d σ H') F1 H1 as1 (k ρ t M1) Q → Q2 v H1) : tG S R f W σ H Q2 := by
  obtain ⟨F, as, ρ, M, s, e, w⟩ := h
  exact ⟨F, as, ρ, M, s, e, w.bind fun t M1 v F1 H1 as1 _ nx s1 t1 w1 => hq F1 H1 as1 ρ M1 H as t v s1 (e.mono nx) t1 w1⟩
theorem PE.imp {X : Cx} {e : Expr} {t t' : TE} (h : PE X e t) (hi : ∀ σ H Q, t' σ H Q → t σ H Q) : PE X e t' := ⟨fun pins s σ H Q I q => h.run pins s σ H Q I (hi σ H Q q)⟩
theorem PE.fz {S : Stat} {X : Cx} {e : Expr} {W : WX} {f : Env' → Sto → Res TV} (h : PE X e (tE S f W)) : PE X e (tE S (fun ρ M => (f ρ M).fz) W) :=
  PE.imp h fun σ H Q ⟨F, as, ρ, M, s, er, w⟩ => ⟨F, as, ρ, M, s, er, Wp.fz (r := f ρ M) w⟩

/-! ### a value looked at -/
def peek (M : Sto) : TV → Option PyData
  | .v (.d x) => some x
  | .own ds => some (.list ds)
  | .v (.ref n) => match M[n]? with
    | some (.lst ds) => some (.list ds)
    | _ => none
  | .v (.raw _) => none
  | .v (.fn _) => none
def Pk (K : KO) (F H : Hp) (v : V) (x : PyData) : Prop := Dp K F v x ∨ ∃ a vs ds, x = .list ds ∧ v = .ref a ∧ H a = some (.lst vs) ∧ DpAll K F vs ds
theorem peek_ok {S : Stat} {H0 F H : Hp} {as0 as : AS} {M : Sto} {t : TV} {v : V} {x : PyData} (s : Sr S F H as M) (h : Tr S.K H0 as0 F H as t v) (e : peek M t = some x) : Pk S.K F H v x := by
  cases t with
  | v y =>
    cases y with
    | d y => cases e; exact .inl h
    | ref n =>
      have e2 : (match M[n]? with | some (.lst ds) => some (PyData.list ds) | _ => none) = some x := e
      split at e2
      · rename_i ds hds
        cases e2
        obtain ⟨a, vs, h1, h2, h3⟩ := s.obj n ds hds
        exact .inr ⟨a, vs, ds, rfl, h.2 a h1, h2, h3⟩
      · cases e2
    | raw u => cases e
    | fn k => cases e
  | own ds =>
    cases e
    obtain ⟨p, vs, e, h1, h2, h3, h4, h5⟩ := h
    exact .inr ⟨p, vs, ds, rfl, e, h3, h4⟩
section
variable {K : KO} {F H : Hp} {v : V}
theorem Pk.none (h : Pk K F H v .none) : v = .non := by
  rcases h with h | ⟨_, _, _, e, _⟩
  · cases h; rfl
  · cases e
theorem Pk.bool {b : Bool} (h : Pk K F H v (.bool b)) : v = .bl b := by
  rcases h with h | ⟨_, _, _, e, _⟩
  · cases h; rfl
  · cases e
theorem Pk.int {i : Int} (h : Pk K F H v (.int i)) : v = .int i := by
  rcases h with h | ⟨_, _, _, e, _⟩
  · cases h; rfl
  · cases e
theorem Pk.str {x : Str} (h : Pk K F H v (.str x)) : v = .str x := by
  rcases h with h | ⟨_, _, _, e, _⟩
  · cases h; rfl
  · cases e
theorem Pk.list {ds : List PyData} (sub : ∀ b o, F b = some o → H b = some o) (h : Pk K F H v (.list ds)) : ∃ a vs, v = .ref a ∧ SqL K H a vs ∧ DpAll K F vs ds := by
  rcases h with h | ⟨a, vs, ds', e, h1, h2, h3⟩
  · cases h with
    | lst h1 h2 => exact ⟨_, _, rfl, Same.seq sub h1, h2⟩
  · cases e
    exact ⟨a, vs, h1, SqL.of h2, h3⟩
theorem sqT_mono {a : Addr} {xs : List V} (sub : ∀ b o, F b = some o → H b = some o) (h1 : SqT K F a xs) : SqT K H a xs := by
  rcases h1 with (h | ⟨o, h⟩) | h
  · exact .inl (.inl (sub _ _ h))
  · exact .inl (.inr ⟨o, sub _ _ h⟩)
  · exact .inr h
theorem Pk.tuple {ds : List PyData} (sub : ∀ b o, F b = some o → H b = some o) (h : Pk K F H v (.tuple ds)) : ∃ a vs, v = .ref a ∧ SqT K H a vs ∧ DpAll K F vs ds := by
  rcases h with h | ⟨_, _, _, e, _⟩
  · cases h with
    | tup h1 h2 => exact ⟨_, _, rfl, sqT_mono sub h1, h2⟩
  · cases e
/-- over the whole heap -/
theorem Pk.dp {x : PyData} (sub : ∀ b o, F b = some o → H b = some o) (h : Pk K F H v x) : Dp K H v x := by
  rcases h with h | ⟨a, vs, ds, e, h1, h2, h3⟩
  · exact dp_mono sub x v h
  · rw [e, h1]
    exact Dp.lst (SqL.of h2) (dpAll_mono sub ds vs h3)
end
end Ev

/-! Od1: sorted, and <, of nested data; strictly rising lists. -/
namespace Ev
open PySem PySem.Spec PyProof.Rows L2
open PySem.W (alike alikeAll dataLt dataLe AllAlike Sortable EachIs)
/-- what sorted gives -/
def sortD (ds : List PyData) : List PyData := ds.mergeSort (dataLe false id)
def tupleNE : PyData → Bool
  | .tuple (_ :: _) => true
  | _ => false
def plainD : PyData → Bool
  | .tuple _ => false
  | .none => false
  | _ => true
def sortOk (ds : List PyData) : Bool := ds.all (fun x => ds.all fun y => alike x y) && (ds.all tupleNE || ds.all plainD) && ds.all fun x => decide (x.depth ≤ 8)
theorem sortOk_ok {ds : List PyData} (h : sortOk ds = true) : AllAlike ds ∧ Sortable ds ∧ ∀ d ∈ ds, d.depth ≤ 8 := by
  unfold sortOk at h
  simp only [Bool.and_eq_true, Bool.or_eq_true, List.all_eq_true, decide_eq_true_eq] at h
  obtain ⟨⟨h1, h2⟩, h3⟩ := h
  refine ⟨fun d hd e he => h1 d hd e he, ?_, h3⟩
  rcases h2 with h2 | h2
  · refine .inl fun d hd => ?_
    have := h2 d hd
    unfold tupleNE at this
    split at this
    · exact ⟨_, _, rfl⟩
    · cases this
  · refine .inr fun d hd => ?_
    have := h2 d hd
    unfold plainD at this
    split at this
    · cases this
    · cases this
    · rename_i h4 h5
      exact ⟨h5, h4⟩
mutual
theorem alike_bare : ∀ d : PyData, alike d d = true → bareD d = true
  | .none, _ => by simp only [bareD]
  | .bool _, _ => by simp only [bareD]
  | .int _, _ => by simp only [bareD]
  | .str _, _ => by simp only [bareD]
  | .list xs, h => by rw [alike] at h; simp only [bareD]; exact alikeAll_bare xs h
  | .tuple xs, h => by rw [alike] at h; simp only [bareD]; exact alikeAll_bare xs h
  | .dict _, h => by simp [alike] at h
theorem alikeAll_bare : ∀ ds : List PyData, alikeAll ds ds = true → bareAll ds = true
  | [], _ => by simp only [bareAll]
  | d :: ds, h => by
    rw [alikeAll, Bool.and_eq_true] at h
    simp only [bareAll, Bool.and_eq_true]
    exact ⟨alike_bare d h.1, alikeAll_bare ds h.2⟩
end
theorem sortOk_bare {ds : List PyData} (h : sortOk ds = true) : ∀ d ∈ ds, bareD d = true := fun d hd => alike_bare d ((sortOk_ok h).1 d hd d hd)
theorem dpAll_of_mem {K : KO} {F : Hp} : ∀ {ps : List (V × PyData)}, (∀ p ∈ ps, Dp K F p.1 p.2) → DpAll K F (ps.map (·.1)) (ps.map (·.2))
  | [], _ => .nil
  | p :: ps, h => .cons (h p List.mem_cons_self) (dpAll_of_mem fun q hq => h q (List.mem_cons_of_mem _ hq))
theorem dpAll_zip {K : KO} {F : Hp} : ∀ {vs : List V} {ds : List PyData}, DpAll K F vs ds → (∀ p ∈ vs.zip ds, Dp K F p.1 p.2) ∧ (vs.zip ds).map (·.1) = vs ∧ (vs.zip ds).map (·.2) = ds
  | _, _, .nil => ⟨by simp, rfl, rfl⟩
  | _, _, .cons h1 h2 => by
    obtain ⟨q1, q2, q3⟩ := dpAll_zip h2
    refine ⟨fun p hp => ?_, by simp [q2], by simp [q3]⟩
    rw [List.zip_cons_cons] at hp
    rcases List.mem_cons.mp hp with rfl | hp
    · exact h1
    · exact q1 p hp
theorem sort_snd {ps : List (V × PyData)} : (ps.mergeSort (dataLe false (fun b : V × PyData => b.2))).map (·.2) = sortD (ps.map (·.2)) :=
  PySem.W.sort_maps (fun b : V × PyData => b.2) fun a _ b _ => rfl
section
variable {X : Cx}
/-- sorted(xs): a new list -/
def rSortD (K : PySem.W.Frag) : List V → Hp → VK → Prop := fun vs H Q => ∃ (a : Addr) (ps : List (V × PyData)), vs = [V.ref a] ∧ SqL K H a (ps.map (·.1)) ∧ (∀ p ∈ ps, L2.Dp K H p.1 p.2) ∧ sortOk (ps.map (·.2)) = true ∧
  ∀ p, H p = none → Q (.ref p) (upd H p (.lst ((ps.mergeSort (dataLe false fun b : V × PyData => b.2)).map (·.1))))
theorem each_vals {ps : List (V × PyData)} {us : List Value} (h : EachIs (fun u (b : V × PyData) => RelV b.1 u) us ps) : Vals (ps.map (·.1)) us := by
  induction h with
  | nil => exact .nil
  | cons a _ ih => exact .cons a ih
theorem vals_each {ps : List (V × PyData)} : ∀ {us : List Value}, Vals (ps.map (·.1)) us → EachIs (fun u (b : V × PyData) => RelV b.1 u) us ps := by
  induction ps with
  | nil =>
    intro us h
    cases h
    exact .nil
  | cons p ps ih =>
    intro us h
    rw [List.map_cons] at h
    cases h with
    | cons a t => exact .cons a (ih t)
theorem each_both {α β : Type} {R R' : α → β → Prop} : ∀ {as : List α} {bs : List β}, EachIs R as bs → (∀ a b, b ∈ bs → R a b → R' a b) → EachIs R' as bs
  | _, _, .nil, _ => .nil
  | _, _, .cons a t, h => .cons (h _ _ List.mem_cons_self a) (each_both t fun a b hb => h a b (List.mem_cons_of_mem _ hb))
theorem cr_sortD (hu : X.A.units + 64 < cLine) : CallR X (.builtin "sorted") (rSortD X.K) := by
  intro pins s σ H vs us Q I r h
  obtain ⟨a, ps, rfl, hs, hd, ok, q⟩ := h
  obtain ⟨its, rv, hl, hz⟩ := I.list hs
  rw [Vals.ref1 r]
  obtain ⟨o1, o2, o3⟩ := sortOk_ok ok
  have ev := vals_each rv
  have er : EachIs (fun v (b : V × PyData) => ∃ as, Reads s.heap v b.2 as) its ps := each_both ev fun u b hb rb => Dp.reads I b.2 b.1 u (hd b hb) rb
  refine PySem.W.sorted_data (R := fun u (b : V × PyData) => RelV b.1 u) (enc := fun b : V × PyData => b.2) hl.isList ev er o1 o2 (by rw [List.length_map] at hz; exact hz) (fun b hb => ?_) fun out ho e => ?_
  · have := o3 b.2 (List.mem_map.mpr ⟨b, hb, rfl⟩)
    omega
  · obtain ⟨ep, he'⟩ := PyProof.Rows.sortedAll_at s.heap its out.toArray
    have hlen : ((ps.mergeSort (dataLe false fun b : V × PyData => b.2)).map (·.1)).length ≤ sizeLine := by
      rw [List.length_map, List.length_mergeSort]
      rw [List.length_map] at hz
      exact hz
    exact ⟨.ref _, upd H (s.heap.objs.size + 1) (.lst ((ps.mergeSort (dataLe false fun b : V × PyData => b.2)).map (·.1))), I.laid (t' := s.toks) (fun _ _ => PyProof.Rows.sortedAll_old) (Nat.le_succ _) ⟨hlen, out, ep, each_vals e, he'⟩, rfl, q _ (I.hok.fresh (Nat.le_succ _))⟩
end
section
variable {X : Cx}
def rLtD (K : PySem.W.Frag) : R2 := fun x y H Q => ∃ d e, L2.Dp K H x d ∧ L2.Dp K H y e ∧ alike d e = true ∧ d ≠ .none ∧ d.depth ≤ 8 ∧ Q (.bl (dataLt d e)) H
theorem op_ltD (hu : X.A.units + 64 < cLine) : OpR X (compareOp .Lt) (rLtD X.K) := by
  intro pins s σ H x y v u Q I rx ry h
  obtain ⟨d, e, hd, he, al, nn, dp, q⟩ := h
  obtain ⟨as, r1⟩ := Dp.reads I d x v hd rx
  obtain ⟨bs, r2⟩ := Dp.reads I e y u he ry
  exact PySem.W.rcLt_alike d e _ _ _ _ _ _ r1 r2 al nn (by have := Nat.min_le_left d.depth e.depth; omega) _ _ _ _ ⟨.bl _, H, I, rfl, q⟩
end
/-! ### strictly rising lists -/
def insU (x : Int) : List Int → List Int
  | [] => [x]
  | y :: r => if x < y then x :: y :: r else if x = y then y :: r else y :: insU x r
/-- the members, once each, rising -/
def sdI (ns : List Int) : List Int := ns.foldr insU []
theorem insU_mem (x z : Int) : ∀ l : List Int, z ∈ insU x l ↔ z = x ∨ z ∈ l
  | [] => by simp [insU]
  | y :: r => by
    unfold insU
    split
    · simp
    · split
      · rename_i h; subst h; simp
      · simp only [List.mem_cons, insU_mem x z r]
        constructor
        · rintro (h | h | h) <;> simp [h]
        · rintro (h | h | h) <;> simp [h]
theorem insU_up (x : Int) : ∀ l : List Int, l.Pairwise (· < ·) → (insU x l).Pairwise (· < ·)
  | [], _ => by simp [insU]
  | y :: r, h => by
    unfold insU
    split
    · rename_i hx
      refine List.pairwise_cons.mpr ⟨fun z hz => ?_, h⟩
      rcases List.mem_cons.mp hz with e | hz
      · omega
      · have := (List.pairwise_cons.mp h).1 z hz; omega
    · split
      · exact h
      · refine List.pairwise_cons.mpr ⟨fun z hz => ?_, insU_up x r (List.pairwise_cons.mp h).2⟩
        rcases (insU_mem x z r).mp hz with e | hz
        · omega
        · exact (List.pairwise_cons.mp h).1 z hz
theorem sdI_mem (z : Int) : ∀ ns : List Int, z ∈ sdI ns ↔ z ∈ ns
  | [] => by simp [sdI]
  | n :: ns => by
    show z ∈ insU n (sdI ns) ↔ _
    rw [insU_mem, sdI_mem z ns, List.mem_cons]
theorem sdI_up : ∀ ns : List Int, (sdI ns).Pairwise (· < ·)
  | [] => List.Pairwise.nil
  | n :: ns => insU_up n _ (sdI_up ns)
theorem up_unique : ∀ {l m : List Int}, l.Pairwise (· < ·) → m.Pairwise (· < ·) → (∀ z, z ∈ l ↔ z ∈ m) → l = m
  | [], [], _, _, _ => rfl
  | [], y :: m, _, _, h => by have := (h y).mpr List.mem_cons_self; cases this
  | x :: l, [], _, _, h => by have := (h x).mp List.mem_cons_self; cases this
  | x :: l, y :: m, hl, hm, h => by
    obtain ⟨l1, l2⟩ := List.pairwise_cons.mp hl
    obtain ⟨m1, m2⟩ := List.pairwise_cons.mp hm
    have e : x = y := by
      rcases List.mem_cons.mp ((h x).mp List.mem_cons_self) with e | hx
      · exact e
      · rcases List.mem_cons.mp ((h y).mpr List.mem_cons_self) with e | hy
        · exact e.symm
        · have := m1 x hx; have := l1 y hy; omega
    subst e
    congr 1
    refine up_unique l2 m2 fun z => ⟨fun hz => ?_, fun hz => ?_⟩
    · rcases List.mem_cons.mp ((h z).mp (List.mem_cons_of_mem _ hz)) with e | h'
      · have := l1 z hz; omega
      · exact h'
    · rcases List.mem_cons.mp ((h z).mpr (List.mem_cons_of_mem _ hz)) with e | h'
      · have := m1 z hz; omega
      · exact h'
theorem nodup_len : ∀ {l m : List Int}, l.Nodup → (∀ z ∈ l, z ∈ m) → l.length ≤ m.length
  | [], _, _, _ => Nat.zero_le _
  | x :: l, m, hn, h => by
    obtain ⟨h1, h2⟩ := List.nodup_cons.mp hn
    have hx := h x List.mem_cons_self
    have := nodup_len (m := m.erase x) h2 fun z hz => by
      have hne : z ≠ x := fun e => h1 (e ▸ hz)
      exact (List.mem_erase_of_ne hne).mpr (h z (List.mem_cons_of_mem _ hz))
    rw [List.length_erase_of_mem hx] at this
    have h0 : 0 < m.length := List.length_pos_of_mem hx
    rw [List.length_cons]
    omega
end Ev

/-! Ev2: the small language and its evaluator. -/
namespace Ev
open PySem PySem.Spec PyProof.Rows L2

inductive BOp where
  | add | sub | mul | fdiv | mod | pow
  deriving DecidableEq
inductive COp where
  | eq | ne | lt | le | gt | ge | in_ | nin
  deriving DecidableEq
inductive BI where
  | len | abs | int | str | sum | min2 | max2 | tuple | list | bool
  deriving DecidableEq
inductive Ty where
  | int | bool | tuple | str | list
  deriving DecidableEq
/-- what a loop walks: a value, a range, numbered, two at once -/
inductive IK where
  | val | rng1 | rng2 | enum | zip
  deriving DecidableEq
/-- operations on one part: sorted(set(a)), sorted(a) -/
inductive U1 where
  | sset | srt | split (b : Str) | repl (k : Int) (y z : Str)
  /-- max(a) of a list of ints, a[::-1] -/
  | mxl | rev
  /-- C(e), isinstance(e, C), str(e), e.limit, TooMany(e): errors as values; the class by its number -/
  | exc (k : Nat) | isx (j : Nat) | strx | lim | tm
  deriving DecidableEq
/-- operations on two parts -/
inductive U2 where
  | lzip
  deriving DecidableEq
/-- targets: a name, or several -/
inductive Tg where
  | nm (i : Nat) | tp (l : Tg) | nil | cons (a b : Tg)
inductive E where
  | k (d : PyData)
  | v (i : Nat)
  | g (x : Str) (z : Int)
  | bin (o : BOp) (a b : E)
  | neg (a : E)
  /-- a new list so many times -/
  | rep (a b : E)
  | cmp (o : COp) (a b : E)
  | chn (o p : COp) (a b c : E)
  | isN (a : E)
  | nsN (a : E)
  | and_ (a b : E)
  | or_ (a b : E)
  | not_ (a : E)
  | ite (c a b : E)
  | tup (es : E)
  | lst (es : E)
  | nil
  | cons (a b : E)
  | ix (a b : E)
  | sl (a lo hi : E)
  | u1 (u : U1) (a : E)
  | call (f : Nat) (es : E)
  | bi (b : BI) (es : E)
  | u2 (u : U2) (a b : E)
  | isi (a : E) (t : Ty)
  /-- a list comprehension: the slots of its own names, its clauses -/
  | lc (own : List Nat) (b : E)
  /-- for t in it if c: b (c is nil where there is no test) -/
  | cf (t : Tg) (it c b : E)
  | cy (e : E)
  | it (i : IK) (es : E)
  /-- a new list, put into the store -/
  | alc (a : E)
  /-- o.append(e) -/
  | app (o es : E)
  /-- a.join(b) -/
  | join (a b : E)
  /-- _law_word(lambda: f(..)): what the errors are called -/
  | word (ws : List Str) (f : Nat) (es : E)
  /-- n(..), n the slot of a function made here: the nested def k, which reads the slots js -/
  | calln (i k : Nat) (js : List Nat) (es : E)
  /-- a new list of things of the store, put into the store -/
  | lrefs (es : E)
  /-- [b for t in it], a new list of things of the store, put into the store -/
  | lcr (own : List Nat) (t : Tg) (it b : E)
  /-- any text: it is never come to -/
  | bad

/-! ### operations on data -/
def okD : Nat → PyData → Bool
  | _, .none => true
  | _, .bool _ => true
  | _, .int _ => true
  | _, .str x => PyData.strOk x
  | n + 1, .list xs => xs.all (okD n)
  | n + 1, .tuple xs => xs.all (okD n)
  | _, _ => false
def scalD : PyData → PyData → Bool
  | .none, .none => true | .none, .int _ => true | .int _, .none => true | .none, .bool _ => true | .bool _, .none => true | .none, .str _ => true | .str _, .none => true
  | .int _, .int _ => true | .bool _, .bool _ => true | .str _, .str _ => true
  | .int _, .str _ => true | .str _, .int _ => true | .bool _, .str _ => true | .str _, .bool _ => true
  | _, _ => false
def eqC (x y : PyData) : Option Bool := if scalD x y || (okD 8 x && okD 8 y) then some (PyData.eqv x y) else none
def mulOk (i j : Int) : Bool := decide (i.natAbs < 2 ^ 64) || decide (j.natAbs < 2 ^ 64) || decide (i.natAbs.log2 + j.natAbs.log2 < 1000000)
def divOk (j : Int) : Bool := decide (j ≠ 0) && (decide (j.natAbs < 1073741824) || decide (j.natAbs.log2 < 9000))
def lenOk (n : Nat) : Bool := decide (n ≤ sizeLine)
/-- a text so many times -/
def repS (x : Str) (k : Nat) : Str := ⟨(List.replicate k x.cps).foldl (· ++ ·) #[]⟩
/-- the signs of a text -/
def signsD (z : Str) : List PyData := z.cps.toList.map fun c => .str ⟨#[c]⟩
def strsOf : List PyData → Option (List Str)
  | [] => some []
  | .str i :: r => (strsOf r).map (i :: ·)
  | _ :: _ => none
def binD : BOp → PyData → PyData → Option TV
  | .add, .int i, .int j => some (.v (.d (.int (i + j))))
  | .add, .str x, .str y => if lenOk (x.length + y.length) then some (.v (.d (.str (x ++ y)))) else none
  | .add, .list x, .list y => if lenOk (x.length + y.length) then some (.own (x ++ y)) else none
  | .add, .tuple x, .tuple y => if lenOk (x.length + y.length) then some (.v (.d (.tuple (x ++ y)))) else none
  | .sub, .int i, .int j => some (.v (.d (.int (i - j))))
  | .mul, .int i, .int j => if mulOk i j then some (.v (.d (.int (i * j)))) else none
  | .mul, .str x, .int k => if decide (1 ≤ x.length) && decide (x.length ≤ 1000) && decide (2 ≤ k) && decide (k ≤ 1000) then some (.v (.d (.str (repS x k.toNat)))) else none
  | .mul, .tuple x, .int k => if !x.isEmpty && decide (2 ≤ k) && decide (k ≤ 1000) && decide (x.length ≤ 1000) then some (.v (.d (.tuple (List.replicate k.toNat x).flatten))) else none
  | .fdiv, .int i, .int j => if divOk j then some (.v (.d (.int (i.fdiv j)))) else none
  | .mod, .int i, .int j => if decide (j ≠ 0) then some (.v (.d (.int (i.fmod j)))) else none
  | .pow, .int i, .int j => if decide (0 ≤ j) && decide (j ≤ 1000000) && decide (i.natAbs < 2 ^ 64) then some (.v (.d (.int (i ^ j.toNat)))) else none
  | _, _, _ => none
def cmpD : COp → PyData → PyData → Option Bool
  | .eq, x, y => eqC x y
  | .ne, x, y => (eqC x y).map (!·)
  | .lt, .int i, .int j => some (decide (i < j))
  | .lt, .tuple xs, .tuple ys => if PySem.W.alikeAll xs ys && decide ((PyData.tuple xs).depth ≤ 8) && (bareAll xs && bareAll ys) then some (PySem.W.dataLt (.tuple xs) (.tuple ys)) else none
  | .le, .int i, .int j => some (decide (i ≤ j))
  | .gt, .int i, .int j => some (decide (j < i))
  | .ge, .int i, .int j => some (decide (j ≤ i))
  | .in_, .str i, .str j => some (!(Builtin.Str.occurrences j i 0 j.length 1).isEmpty)
  | .in_, .str i, .tuple ys => (strsOf ys).map fun zs => zs.any fun z => z == i
  | .nin, .str i, .tuple ys => (strsOf ys).map fun zs => !zs.any fun z => z == i
  | .nin, .str i, .str j => some (!(!(Builtin.Str.occurrences j i 0 j.length 1).isEmpty))
  | _, _, _ => none
def ixD : PyData → PyData → Option PyData
  | .list xs, .int i => atI xs i
  | .tuple xs, .int i => atI xs i
  | .str z, .int i => if lenOk z.length then (atI z.cps.toList i).map fun c => .str ⟨#[c]⟩ else none
  | _, _ => none
def cutD (xs : List PyData) (lo hi : Option Int) : List PyData := (xs.drop (HT.sIx xs.length 0 lo)).take (HT.sIx xs.length xs.length hi - HT.sIx xs.length 0 lo)
def slD : PyData → Option Int → Option Int → Option TV
  | .list xs, lo, hi => some (.own (cutD xs lo hi))
  | .tuple xs, lo, hi => some (.v (.d (.tuple (cutD xs lo hi))))
  | .str z, lo, hi => if lenOk z.length then some (.v (.d (.str (cutS z lo hi)))) else none
  | _, _, _ => none
def asInt : PyData → Option Int
  | .int i => some i
  | _ => none
def intsOf : List PyData → Option (List Int)
  | [] => some []
  | .int i :: r => (intsOf r).map (i :: ·)
  | _ :: _ => none
def biD : BI → List PyData → Option TV
  | .len, [.list xs] => some (.v (.d (.int xs.length)))
  | .len, [.tuple xs] => some (.v (.d (.int xs.length)))
  | .len, [.str z] => if lenOk z.length then some (.v (.d (.int z.length))) else none
  | .abs, [.int i] => some (.v (.d (.int (if i < 0 then -i else i))))
  | .int, [.int i] => some (.v (.d (.int i)))
  | .int, [.str a] => (PySem.intText? a).bind fun n => if decide (a.length ≤ 640) then some (.v (.d (.int n))) else none
  | .int, [.bool b] => some (.v (.d (.int (if b then 1 else 0))))
  | .str, [.int i] => if decide (i.natAbs.log2 < 1920) then some (.v (.d (.str (toString i)))) else none
  | .sum, [.list xs] => (intsOf xs).map fun ns => .v (.d (.int ns.sum))
  | .sum, [.tuple xs] => (intsOf xs).map fun ns => .v (.d (.int ns.sum))
  | .min2, [.int i, .int j] => some (.v (.d (.int (if j < i then j else i))))
  | .max2, [.int i, .int j] => some (.v (.d (.int (if j > i then j else i))))
  | .tuple, [.list xs] => some (.v (.d (.tuple xs)))
  | .tuple, [.tuple xs] => some (.v (.d (.tuple xs)))
  | .list, [.list xs] => some (.own xs)
  | .list, [.tuple xs] => some (.own xs)
  | .bool, [.bool b] => some (.v (.d (.bool b)))
  | _, _ => none
def isiD : Ty → PyData → Bool
  | .int, .int _ => true
  | .int, .bool _ => true
  | .bool, .bool _ => true
  | .tuple, .tuple _ => true
  | .str, .str _ => true
  | .list, .list _ => true
  | _, _ => false
def isNone : PyData → Bool
  | .none => true
  | _ => false
def lift {α : Type} (o : Option α) (M : Sto) : Res α := match o with
  | some a => .ok a M
  | none => .stuck
@[simp] theorem lift_some {α : Type} (a : α) (M : Sto) : lift (some a) M = .ok a M := (rfl)
@[simp] theorem lift_none {α : Type} (M : Sto) : lift (none : Option α) M = .stuck := (rfl)

/-! ### targets, iterators -/
def rngD (lo : Int) (n : Nat) : List PyData := (List.range n).map fun (i : Nat) => .int (lo + i)
def enumD (xs : List PyData) : List PyData := (rngD 0 xs.length).zipWith (fun i x => .tuple [i, x]) xs
def zipD (xs ys : List PyData) : List PyData := xs.zipWith (fun x y => .tuple [x, y]) ys
def within62 (i : Int) : Bool := decide (-(2 ^ 62) ≤ i) && decide (i < 2 ^ 62)
/-- several targets take a list of as many -/
def tgL : Tg → List PyData → Env' → Option Env'
  | .nil, [], ρ => some ρ
  | .cons (.nm i) r, x :: xs, ρ => tgL r xs (ρ.set i (some (.d x)))
  | .cons (.tp l) r, .tuple ys :: xs, ρ => (tgL l ys ρ).bind fun ρ' => tgL r xs ρ'
  | _, _, _ => none
def tgD : Tg → PyData → Env' → Option Env'
  | .nm i, x, ρ => some (ρ.set i (some (.d x)))
  | .tp l, .tuple ys, ρ => tgL l ys ρ
  | _, _, _ => none
def wipeE (ρ : Env') : List Nat → Env'
  | [] => ρ
  | v :: vs => (wipeE ρ vs).set v none
/-- the items one by one, what each step makes put together; an error within has no reading -/
def loopC {α : Type} (step : PyData → Sto → Res (List α)) : List PyData → Sto → Res (List α)
  | [], M => .ok [] M
  | x :: xs, M => match step x M with
    | .ok ys M1 => (loopC step xs M1).bind fun zs M2 => .ok (ys ++ zs) M2
    | _ => .stuck
def asB (t : TV) (M : Sto) : Res Bool := match t with
  | .v (.d (.bool b)) => .ok b M
  | _ => .stuck
def optI (t : TV) : Option Int := match t with
  | .v (.d (.int i)) => some i
  | _ => none
def isNil : E → Bool
  | .nil => true
  | _ => false
def datL : List VV → Option (List PyData)
  | [] => some []
  | .d x :: r => (datL r).map (x :: ·)
  | .ref _ :: _ => none
  | .raw _ :: _ => none
  | .fn _ :: _ => none
def peeks (M : Sto) : List TV → Option (List PyData)
  | [] => some []
  | t :: r => (peek M t).bind fun x => (peeks M r).map (x :: ·)
def freezes : TV → VV
  | .v x => x
  | .own ds => .d (.list ds)

/-! ### the steps behind the parts -/
def varK (i : Nat) (ρ : Env') (M : Sto) : Res TV := match ρ[i]? with
  | some (some (.fn _)) => .stuck
  | some (some x) => .ok (.v x) M
  | _ => .stuck
def binK (o : BOp) (ta tb : TV) (M : Sto) : Res TV := match peek M ta, peek M tb with
  | some x, some y => lift (binD o x y) M
  | _, _ => .stuck
def repK (ta tb : TV) (M : Sto) : Res TV := match ta, tb with
  | .own x, .v (.d (.int k)) => if decide (0 ≤ k) && decide (k ≤ 1000) && decide (x.length ≤ 1000) then .ok (.own (List.replicate k.toNat x).flatten) M else .stuck
  | _, _ => .stuck
def negK (ta : TV) (M : Sto) : Res TV := match ta with
  | .v (.d (.int i)) => .ok (.v (.d (.int (-i)))) M
  | _ => .stuck
def cmpB (o : COp) (ta tb : TV) (M : Sto) : Option Bool := match peek M ta, peek M tb with
  | some x, some y => cmpD o x y
  | _, _ => none
def cmpK (o : COp) (ta tb : TV) (M : Sto) : Res TV := lift ((cmpB o ta tb M).map fun b => .v (.d (.bool b))) M
def isNK (n : Bool) (ta : TV) (M : Sto) : Res TV := lift ((peek M ta).map fun x => .v (.d (.bool (isNone x == n)))) M
def tupK (xs : List VV) (M : Sto) : Res TV := lift ((datL xs).bind fun ds => if lenOk ds.length then some (.v (.d (.tuple ds))) else none) M
def lstK (xs : List VV) (M : Sto) : Res TV := lift ((datL xs).bind fun ds => if lenOk ds.length then some (.own ds) else none) M
/-- the items of a list of things of the store -/
def vlsOf (M : Sto) : TV → Option (List VV)
  | .v (.ref n) => match M[n]? with
    | some (.vls xs) => some xs
    | _ => none
  | _ => none
def ixV (xs : List VV) (tb : TV) (M : Sto) : Res TV := match tb with
  | .v (.d (.int i)) => lift ((atI xs i).map fun x => .v x) M
  | _ => .stuck
def ixK (ta tb : TV) (M : Sto) : Res TV := match vlsOf M ta with
  | some xs => ixV xs tb M
  | none => match peek M ta, peek M tb with
    | some x, some y => lift ((ixD x y).map fun z => .v (.d z)) M
    | _, _ => .stuck
/-- items that such a list may have -/
def itemsOk (n : Nat) : List VV → Bool
  | [] => true
  | .d _ :: r => itemsOk n r
  | .ref m :: r => decide (m < n) && itemsOk n r
  | _ :: _ => false
def lrefsK (xs : List VV) (M : Sto) : Res TV := if itemsOk M.length xs = true ∧ xs.length ≤ sizeLine then .ok (.v (.ref M.length)) (M ++ [.vls xs]) else .stuck
def partK (t : TV) (M : Sto) : Res (Option Int) := match t with
  | .v (.d (.int i)) => .ok (some i) M
  | _ => .stuck
def slK (ta : TV) (l h : Option Int) (M : Sto) : Res TV := match peek M ta with
  | some x => lift (slD x l h) M
  | none => .stuck
def biK (b : BI) (ts : List TV) (M : Sto) : Res TV := match peeks M ts with
  | some xs => lift (biD b xs) M
  | none => .stuck
def isiK (t : Ty) (ta : TV) (M : Sto) : Res TV := lift ((peek M ta).map fun x => .v (.d (.bool (isiD t x)))) M
def srtK (ta : TV) (M : Sto) : Res TV := match peek M ta with
  | some (.list xs) => if sortOk xs then .ok (.own (sortD xs)) M else .stuck
  | some (.tuple xs) => if sortOk xs then .ok (.own (sortD xs)) M else .stuck
  | _ => .stuck
/-- sorted(set(xs)), xs a list of ints -/
def ssetK (ta : TV) (M : Sto) : Res TV := match peek M ta with
  | some (.list xs) => match intsOf xs with
    | some ns => if decide (ns.length ≤ 4000) && decide ((sdI ns).length < 64) then .ok (.own ((sdI ns).map .int)) M else .stuck
    | none => .stuck
  | _ => .stuck
/-- a.split(b) -/
def splitK (b : Str) (ta : TV) (M : Sto) : Res TV := match peek M ta with
  | some (.str a) => if !(b.length == 0) && decide (a.length + 2 ≤ sizeLine) then .ok (.own ((PySem.Txt.split a b).map .str)) M else .stuck
  | _ => .stuck
/-- a[k].replace(y, z), y and z written -/
def replK (k : Int) (y z : Str) (ta : TV) (M : Sto) : Res TV := match peek M ta with
  | some x => match ixD x (.int k) with
    | some (.str a) => if decide (a.length + (a.length + 1) * z.length ≤ 16777216) && !(y == z) then .ok (.v (.d (.str (PySem.Txt.replace a y z)))) M else .stuck
    | _ => .stuck
  | none => .stuck
/-- max(xs), xs a list of ints -/
def mxlK (ta : TV) (M : Sto) : Res TV := match peek M ta with
  | some (.list xs) => match intsOf xs with
    | some (n :: ns) => .ok (.v (.d (.int (ns.foldl (fun a b => if a < b then b else a) n)))) M
    | _ => .stuck
  | _ => .stuck
/-- xs[::-1] of a tuple -/
def revK (ta : TV) (M : Sto) : Res TV := match peek M ta with
  | some (.tuple xs) => .ok (.v (.d (.tuple xs.reverse))) M
  | _ => .stuck
/-- an error of the class k as data -/
def exk (k : Nat) (x : PyData) : List (PyData × PyData) := [(.int k, x)]
def objOf : PyData → Option (Nat × PyData)
  | .dict [(.int (.ofNat k), x)] => some (k, x)
  | _ => none
@[simp] theorem objOf_exk (k : Nat) (x : PyData) : objOf (.dict (exk k x)) = some (k, x) := (rfl)
/-- is an error of the class k one of the class j; 17: the base of all, 18: ValueError -/
def exSub (k j : Nat) : Bool := k == j || j == 17 || j == 18
def excK (k : Nat) (ta : TV) (M : Sto) : Res TV := match peek M ta with
  | some (.str m) => .ok (.v (.d (.dict (exk k (.str m))))) M
  | _ => .stuck
def isxK (j : Nat) (ta : TV) (M : Sto) : Res TV := match (peek M ta).bind objOf with
  | some (k, _) => .ok (.v (.d (.bool (exSub k j)))) M
  | none => .stuck
def strxK (ta : TV) (M : Sto) : Res TV := match (peek M ta).bind objOf with
  | some (_, .str m) => .ok (.v (.d (.str m))) M
  | _ => .stuck
def limK (ta : TV) (M : Sto) : Res TV := match (peek M ta).bind objOf with
  | some (_, .int n) => .ok (.v (.d (.int n))) M
  | _ => .stuck
def tmK (ta : TV) (M : Sto) : Res TV := match peek M ta with
  | some (.int n) => if decide (0 ≤ n) && decide (n < 128) then .ok (.v (.d (.dict (exk 16 (.int n))))) M else .stuck
  | _ => .stuck
def u1K : U1 → TV → Sto → Res TV
  | .exc k => excK k
  | .isx j => isxK j
  | .strx => strxK
  | .lim => limK
  | .tm => tmK
  | .mxl => mxlK
  | .rev => revK
  | .sset => ssetK
  | .srt => srtK
  | .split b => splitK b
  | .repl k y z => replK k y z
def lcK (r : Res (List PyData)) : Res TV := match r with
  | .ok ds M => if lenOk ds.length then .ok (.own ds) M else .stuck
  | _ => .stuck
def cyK (t : TV) (M : Sto) : Res (List PyData) := match freezes t with
  | .d x => .ok [x] M
  | _ => .stuck
/-- .. an item that may be a thing of the store -/
def cyV (t : TV) (M : Sto) : Res (List VV) := match t with
  | .v (.d x) => .ok [.d x] M
  | .v (.ref n) => .ok [.ref n] M
  | _ => .stuck
/-- a comprehension whose items are such: the new list is put into the store -/
def lcrK (r : Res (List VV)) : Res TV := match r with
  | .ok ds M => lrefsK ds M
  | _ => .stuck
def seqK (t : TV) (M : Sto) : Res (List PyData) := match freezes t with
  | .d (.list xs) => .ok xs M
  | .d (.tuple xs) => .ok xs M
  | .d (.str z) => .ok (signsD z) M
  | _ => .stuck
def rng1K (ts : List TV) (M : Sto) : Res (List PyData) := match ts with
  | [.v (.d (.int j))] => if within62 j then .ok (rngD 0 j.toNat) M else .stuck
  | _ => .stuck
def rng2K (ts : List TV) (M : Sto) : Res (List PyData) := match ts with
  | [.v (.d (.int i)), .v (.d (.int j))] => if within62 i && within62 j then .ok (rngD i (j - i).toNat) M else .stuck
  | _ => .stuck
def seqOf : VV → Option (List PyData)
  | .d (.list xs) => some xs
  | .d (.tuple xs) => some xs
  | _ => none
/-- what can be numbered: a text, too -/
def seqOfE : VV → Option (List PyData)
  | .d (.list xs) => some xs
  | .d (.tuple xs) => some xs
  | .d (.str z) => some (signsD z)
  | _ => none
def enumK (ts : List VV) (M : Sto) : Res (List PyData) := match ts with
  | [t] => lift ((seqOfE t).map enumD) M
  | _ => .stuck
def zipK (ts : List VV) (M : Sto) : Res (List PyData) := match ts with
  | [t, u] => lift ((seqOf t).bind fun xs => (seqOf u).bind fun ys => some (zipD xs ys)) M
  | _ => .stuck
/-- list(zip(t, u)) -/
def lzipK (ts : List VV) (M : Sto) : Res TV := match ts with
  | [t, u] => match seqOf t, seqOf u with
    | some xs, some ys => if decide ((zipD xs ys).length ≤ 16777216) then .ok (.own (zipD xs ys)) M else .stuck
    | _, _ => .stuck
  | _ => .stuck
def u2K : U2 → TV → TV → Sto → Res TV
  | .lzip => fun ta tb M => lzipK [freezes ta, freezes tb] M
def alcK (t : TV) (M : Sto) : Res TV := match t with
  | .own ds => .ok (.v (.ref M.length)) (M ++ [.lst ds])
  | _ => .stuck
def isRef (ta : TV) (M : Sto) : Bool := match ta with
  | .v (.ref n) => match M[n]? with
    | some (.lst _) => true
    | _ => false
  | _ => false
def appK (ta : TV) (xs : List VV) (M : Sto) : Res TV := match ta, xs with
  | .v (.ref n), [.d x] => match M[n]? with
    | some (.lst ds) => if lenOk (ds.length + 1) then .ok (.v (.d .none)) (M.set n (.lst (ds ++ [x]))) else .stuck
    | _ => .stuck
  | _, _ => .stuck
def joinD : PyData → PyData → Option TV
  | .str z, .list xs => (strsOf xs).bind fun ys => if decide ((ys.map (·.length)).sum + ys.length * z.length ≤ 16777216) then some (.v (.d (.str (PySem.Txt.join z ys)))) else none
  | .str z, .tuple xs => (strsOf xs).bind fun ys => if decide ((ys.map (·.length)).sum + ys.length * z.length ≤ 16777216) then some (.v (.d (.str (PySem.Txt.join z ys)))) else none
  | _, _ => none
def isStr (ta : TV) : Bool := match ta with
  | .v (.d (.str _)) => true
  | _ => false
def joinK (ta tb : TV) (M : Sto) : Res TV := match peek M ta, peek M tb with
  | some x, some y => lift (joinD x y) M
  | _, _ => .stuck
def wordK (ws : List Str) (r : Res TV) : Res TV := match r with
  | .ok _ M => .ok (.v (.d (.str (Str.ofString "")))) M
  | .err k M => match ws[k]? with
    | some z => .ok (.v (.d (.str z))) M
    | none => .stuck
  | .stuck => .stuck
/-- one item of a clause: the target, the test, the rest -/
def itemK {α : Type} (t : Tg) (ρ : Env') (test : Env' → Sto → Res Bool) (rest : Env' → Sto → Res (List α)) (x : PyData) (M : Sto) : Res (List α) := match tgD t x ρ with
  | some ρ' => (test ρ' M).bind fun k M1 => if k = true then rest ρ' M1 else .ok [] M1
  | none => .stuck

/-- what slots hold -/
def capt (ρ : Env') : List Nat → Option (List VV)
  | [] => some []
  | j :: js => match ρ[j]? with
    | some (some x) => if isFn x = true then none else (capt ρ js).map (x :: ·)
    | _ => none
/-- is the function of the nested def k in the slot i -/
def fnAt (ρ : Env') (i k : Nat) : Bool := match ρ[i]? with
  | some (some (.fn k')) => k' == k
  | _ => false
def callnK (f : List VV → Sto → Res TV) (c : Option (List VV)) (us : List VV) (M : Sto) : Res TV := match c with
  | some ws => f (us ++ ws) M
  | none => .stuck
section
variable (cf : Nat → List VV → Sto → Res TV)
mutual
def evalE : E → Env' → Sto → Res TV
  | .k d, _, M => .ok (.v (.d d)) M
  | .v i, ρ, M => varK i ρ M
  | .g _ z, _, M => .ok (.v (.d (.int z))) M
  | .bin o a b, ρ, M => (evalE a ρ M).bind fun ta M1 => (evalE b ρ M1).bind (binK o ta)
  | .neg a, ρ, M => (evalE a ρ M).bind negK
  | .rep a b, ρ, M => (evalE a ρ M).bind fun ta M1 => (evalE b ρ M1).bind (repK ta)
  | .cmp o a b, ρ, M => (evalE a ρ M).bind fun ta M1 => (evalE b ρ M1).bind (cmpK o ta)
  | .chn o p a b c, ρ, M => (evalE a ρ M).bind fun ta M1 => (evalE b ρ M1).bind fun tb M2 => match cmpB o ta tb M2 with
    | some true => (evalE c ρ M2).bind (cmpK p tb)
    | some false => .ok (.v (.d (.bool false))) M2
    | none => .stuck
  | .isN a, ρ, M => (evalE a ρ M).bind (isNK true)
  | .nsN a, ρ, M => (evalE a ρ M).bind (isNK false)
  | .and_ a b, ρ, M => (evalE a ρ M).bind fun ta M1 => (asB ta M1).bind fun c M1 => if c = true then evalE b ρ M1 else .ok (.v (.d (.bool false))) M1
  | .or_ a b, ρ, M => (evalE a ρ M).bind fun ta M1 => (asB ta M1).bind fun c M1 => if c = true then .ok (.v (.d (.bool true))) M1 else evalE b ρ M1
  | .not_ a, ρ, M => (evalE a ρ M).bind fun ta M1 => (asB ta M1).bind fun c M1 => .ok (.v (.d (.bool (!c)))) M1
  | .ite c a b, ρ, M => (evalE c ρ M).bind fun tc M1 => (asB tc M1).bind fun c M1 => if c = true then evalE a ρ M1 else evalE b ρ M1
  | .tup es, ρ, M => (evalL es ρ M).bind tupK
  | .lst es, ρ, M => (evalL es ρ M).bind lstK
  | .ix a b, ρ, M => (evalE a ρ M).bind fun ta M1 => (evalE b ρ M1).bind (ixK ta)
  | .sl a lo hi, ρ, M => (evalE a ρ M).bind fun ta M1 => (if isNil lo then .ok none M1 else (evalE lo ρ M1).bind partK).bind fun l M2 => (if isNil hi then .ok none M2 else (evalE hi ρ M2).bind partK).bind (slK ta l)
  | .call f es, ρ, M => (evalL es ρ M).bind (cf f)
  | .bi b es, ρ, M => (evalT es ρ M).bind (biK b)
  | .u1 u a, ρ, M => (evalE a ρ M).bind (u1K u)
  | .u2 u a b, ρ, M => (evalE a ρ M).bind fun ta M1 => (evalE b ρ M1).bind (u2K u ta)
  | .isi a t, ρ, M => (evalE a ρ M).bind (isiK t)
  | .lc own b, ρ, M => lcK (evalC b (wipeE ρ own) M)
  | .lcr own t i b, ρ, M => lcrK ((evalI i (wipeE ρ own) M).bind fun xs M1 => loopC (itemK t (wipeE ρ own) (fun _ M => .ok true M) (fun ρ M => (evalE b ρ M).bind cyV)) xs M1)
  | .alc a, ρ, M => (evalE a ρ M).bind alcK
  | .app o es, ρ, M => (evalE o ρ M).bind fun ta M1 => if isRef ta M1 = true then (evalL es ρ M1).bind (appK ta) else .stuck
  | .join a b, ρ, M => (evalE a ρ M).bind fun ta M1 => if isStr ta = true then (evalE b ρ M1).bind (joinK ta) else .stuck
  | .word ws f es, ρ, M => wordK ws ((evalL es ρ M).bind (cf f))
  | .lrefs es, ρ, M => (evalL es ρ M).bind lrefsK
  | .calln i k js es, ρ, M => if fnAt ρ i k = true then (evalL es ρ M).bind (callnK (cf k) (capt ρ js)) else .stuck
  | _, _, _ => .stuck
/-- arguments, elements: kept from now on -/
def evalL : E → Env' → Sto → Res (List VV)
  | .nil, _, M => .ok [] M
  | .cons a b, ρ, M => (evalE a ρ M).bind fun t M1 => (evalL b ρ M1).bind fun xs M2 => .ok (freezes t :: xs) M2
  | _, _, _ => .stuck
/-- arguments, looked at -/
def evalT : E → Env' → Sto → Res (List TV)
  | .nil, _, M => .ok [] M
  | .cons a b, ρ, M => (evalE a ρ M).bind fun t M1 => (evalT b ρ M1).bind fun xs M2 => .ok (t :: xs) M2
  | _, _, _ => .stuck
/-- the clauses of a comprehension: what is listed -/
def evalC : E → Env' → Sto → Res (List PyData)
  | .cy e, ρ, M => (evalE e ρ M).bind cyK
  | .cf t i c b, ρ, M => (evalI i ρ M).bind fun xs M1 => loopC (itemK t ρ (fun ρ M => if isNil c then .ok true M else (evalE c ρ M).bind asB) (fun ρ M => evalC b ρ M)) xs M1
  | _, _, _ => .stuck
/-- what is walked -/
def evalI : E → Env' → Sto → Res (List PyData)
  | .it .val (.cons e .nil), ρ, M => (evalE e ρ M).bind seqK
  | .it .rng1 es, ρ, M => (evalT es ρ M).bind rng1K
  | .it .rng2 es, ρ, M => (evalT es ρ M).bind rng2K
  | .it .enum es, ρ, M => (evalL es ρ M).bind enumK
  | .it .zip es, ρ, M => (evalL es ρ M).bind zipK
  | _, _, _ => .stuck
end
end
end Ev

/-! Ev3: the operations are what the model does. -/
namespace Ev
open PySem PySem.Spec PyProof.Rows L2
open LamX (Tabs)

theorem op_fdivL {X : Cx} : OpR X (binaryOp .FloorDiv) (rI (fun _ j => j ≠ 0 ∧ j.natAbs.log2 < 9000) fun i j => .int (i.fdiv j)) := opI fun _ _ _ _ _ _ _ hc q => floordiv_int hc.1 q (.inl (PyProof.noPylong_of_log2 hc.2))
section
variable {S : Stat} {W : XK} {F H : Hp} {as : AS} {M : Sto} {p : Addr}
/-! ### a new object -/
theorem nxt_upd {o : HO} (h : H p = none) : Nxt F H as F (upd H p o) as where
  len := Nat.le_refl _
  old := fun _ _ e _ => e
  new := fun n a e hl => by rw [List.getElem?_eq_none hl] at e; cases e
  keep := fun b u _ _ e => by rw [upd_ne (ne_of_none e h)]; exact e
  there := fun b e => by
    by_cases hb : b = p
    · rw [hb, upd_same]; simp
    · rw [upd_ne hb]; exact e
  grow := fun _ _ e => e
  fresh := fun _ e _ _ => e
theorem Sr.none_of (s : Sr S F H as M) (h : H p = none) : F p = none := by
  cases q : F p with
  | none => rfl
  | some o => rw [s.sub _ _ q] at h; cases h
theorem Sr.not_as (s : Sr S F H as M) (h : H p = none) : some p ∉ as := fun z => by
  obtain ⟨n, e⟩ := mem_ix.mp z
  exact (s.out n p e).2.ne h
theorem Sr.upd {o : HO} (s : Sr S F H as M) (h : H p = none) : Sr S F (upd H p o) as M where
  sub := fun b u e => by rw [upd_ne (ne_of_none (s.sub b u e) h)]; exact s.sub b u e
  nt := s.nt
  len := s.len
  inj := s.inj
  out := fun n a e => by
    have q := s.out n a e
    refine ⟨q.1, ?_⟩
    by_cases hb : a = p
    · rw [hb] at q; exact absurd h q.2.ne
    · rw [upd_ne hb]; exact q.2
  obj := fun n ds e => by
    obtain ⟨a, vs, h1, h2, h3⟩ := s.obj n ds e
    exact ⟨a, vs, h1, by rw [upd_ne (ne_of_none h2 h)]; exact h2, h3⟩
  vls := fun n xs e => by
    obtain ⟨a, vs, h1, h2, h3⟩ := s.vls n xs e
    exact ⟨a, vs, h1, by rw [upd_ne (ne_of_none h2 h)]; exact h2, h3⟩
  tabs := s.tabs.ext fun b u e => by rw [upd_ne (ne_of_none e h)]; exact e
theorem nt_lst (vs : List V) : ∀ ps, HO.lst vs ≠ .tbl ps := fun ps z => by cases z
theorem nt_tup (vs : List V) : ∀ ps, HO.tup vs ≠ .tbl ps := fun ps z => by cases z
/-- a new list, nobody's -/
theorem wp_own {ds : List PyData} {vs : List V} {Q : VK} (s : Sr S F H as M) (w : Wp S W F H as (.ok (.own ds) M) Q) (d : DpAll S.K F vs ds) (h : H p = none) : Q (.ref p) (upd H p (.lst vs)) :=
  w (.ref p) F (upd H p (.lst vs)) as (nxt_upd h) (s.upd h) ⟨p, vs, rfl, s.none_of h, s.not_as h, upd_same, d, .inl h⟩
/-- a new tuple: kept by others from the start -/
theorem wp_tup {ds : List PyData} {vs : List V} {Q : VK} (s : Sr S F H as M) (w : Wp S W F H as (.ok (.v (.d (.tuple ds))) M) Q) (d : DpAll S.K F vs ds) (h : H p = none) : Q (.ref p) (upd H p (.tup vs)) := by
  have nF := s.none_of h
  exact w (.ref p) (upd F p (.tup vs)) (upd H p (.tup vs)) as ((nxt_upd h).freeze (.inl h) nF) ((s.upd h).freeze upd_same (nt_tup vs) nF (s.not_as h))
    (Dp.tup (SqT.of upd_same) (dpAll_mono (upd_sub nF) ds vs d))
/-- a value that is there -/
theorem wp_d {x : PyData} {v : V} {Q : VK} (s : Sr S F H as M) (w : Wp S W F H as (.ok (.v (.d x)) M) Q) (d : Dp S.K F v x) : Q v H := w v F H as .refl s d
end

/-! ### two-place operations -/
def opOf : BOp → Operator
  | .add => .Add | .sub => .Sub | .mul => .Mult | .fdiv => .FloorDiv | .mod => .Mod | .pow => .Pow
def rBin (S : Stat) (o : BOp) : R2 := fun v u H Q => ∃ (W : XK) (F : Hp) (as : AS) (M : Sto) (x y : PyData), Sr S F H as M ∧ Pk S.K F H v x ∧ Pk S.K F H u y ∧ Wp S W F H as (lift (binD o x y) M) Q
section
variable {X : Cx} {S : Stat} {W : XK}
theorem op_catS : OpR X (binaryOp .Add) (fun x y H Q => ∃ l b xs zs, x = .ref l ∧ y = .ref b ∧ SqL X.K H l xs ∧ SqL X.K H b zs ∧ xs.length + zs.length ≤ sizeLine ∧ ∀ p, H p = none → Q (.ref p) (upd H p (.lst (xs ++ zs)))) := by
  intro pins s σ H x y v u Q I rx ry h
  obtain ⟨l, b, xs, zs, rfl, rfl, hH, hB, hz, q⟩ := h
  cases rx
  cases ry
  obtain ⟨its, r, ⟨⟨cls, dd, data, sl⟩, n, ho, hc, hdd, hd⟩, hl⟩ := I.list hH
  obtain ⟨its2, r2, ⟨⟨cls2, dd2, data2, sl2⟩, n2, ho2, hc2, hdd2, hd2⟩, hl2⟩ := I.list hB
  simp only at hc hdd hd hc2 hdd2 hd2
  subst hc hdd hd hc2 hdd2 hd2
  have e1 := r.length
  have e2 := r2.length
  have ea : its.toArray ++ its2.toArray = (its ++ its2).toArray := by simp
  refine concat_meets ⟨_, ho, rfl⟩ ⟨_, ho2, rfl⟩ noFill_list_add seq_list_add PySem.F.slot_list_add PySem.F.entry_list_add (PySem.F.args_list_add_2 _ _) (list_addW l b its.toArray its2.toArray n n2 none none sl sl2 (by simp only [List.size_toArray]; omega)) ⟨ho, ho2, ?_⟩
  rw [ea]
  exact ⟨.ref _, _, I.lnew (t' := s.toks) (r.append r2) (by rw [List.length_append]; omega), rfl, q _ I.fresh⟩
theorem lenOk_le {n : Nat} (h : lenOk n = true) : n ≤ sizeLine := of_decide_eq_true h
theorem le_63 {n : Nat} (h : n ≤ 1000) : (n : Int) < 2 ^ 63 := by omega
theorem op_mulS : OpR X (binaryOp .Mult) (fun x y H Q => ∃ z k, x = .str z ∧ y = .int k ∧ 1 ≤ z.length ∧ z.length ≤ 1000 ∧ 2 ≤ k ∧ k ≤ 1000 ∧ Q (.str (repS z k.toNat)) H) := by
  intro pins s σ H x y v u Q I rx ry h
  obtain ⟨z, k, rfl, rfl, h1, h2, h3, h4, q⟩ := h
  obtain ⟨t, rfl⟩ := rx
  obtain ⟨t2, rfl⟩ := ry
  have c1 : ¬ k < 1 := by omega
  have c2 : (k == 1 || z.length == 0) = false := by
    rw [Bool.or_eq_false_iff]
    exact ⟨beq_eq_false_iff_ne.mpr (by omega), beq_eq_false_iff_ne.mpr (by omega)⟩
  have hm : z.length * k.toNat ≤ 1000 * 1000 := Nat.mul_le_mul h2 (by omega)
  have len : ∀ (n : Nat) (acc : Array Nat), ((List.replicate n z.cps).foldl (· ++ ·) acc).size = acc.size + n * z.length := by
    intro n
    induction n with
    | zero => intro acc; simp
    | succ n ih =>
      intro acc
      rw [List.replicate_succ, List.foldl_cons, ih, Array.size_append, Nat.succ_mul]
      have : z.cps.size = z.length := rfl
      omega
  refine PySem.P.mul_str (by rw [decide_eq_false (by omega : ¬ k < -(2 ^ 63 : Int)), decide_eq_false (by omega : ¬ k ≥ 2 ^ 63)]; rfl) (fun _ _ => ?_) (fun _ _ => ?_) ?_
  · have : (1000 : Int) ≤ (2 ^ 63 - 1) / k := Int.le_ediv_of_mul_le (by omega) (by omega)
    omega
  · unfold Builtin.Str.tooLong sizeLine
    exact decide_eq_false (by omega)
  · rw [if_neg c1, c2]
    refine ⟨?_, .str (repS z k.toNat), H, I.tok _, ⟨_, rfl⟩, q⟩
    have := len k.toNat #[]
    simp only [List.size_toArray, List.length_nil, Nat.zero_add] at this
    show (repS z k.toNat).cps.size ≤ sizeLine
    unfold repS
    rw [this, Nat.mul_comm]
    exact Nat.le_trans hm (by decide)
theorem op_bin (hK : X.K = S.K) (o : BOp) : OpR X (binaryOp (opOf o)) (rBin S o) := by
  intro pins s σ H v u v' u' Q I rx ry h
  obtain ⟨W, F, as, M, x, y, sr, px, py, w⟩ := h
  have bad : ∀ {P : Prop}, Wp S W F H as (lift (none : Option TV) M) Q → P := fun z => z.elim
  cases o with
  | add =>
    cases x with
    | int i =>
      cases y with
      | int j =>
        have ex := px.int
        have ey := py.int
        subst ex ey
        exact op_add pins s σ H _ _ v' u' Q I rx ry ⟨i, j, rfl, rfl, wp_d sr w (.int _)⟩
      | _ => exact bad w
    | str i =>
      cases y with
      | str j =>
        have ex := px.str
        have ey := py.str
        subst ex ey
        have w' : Wp S W F H as (lift (if lenOk (i.length + j.length) then some (.v (.d (.str (i ++ j)))) else none) M) Q := w
        cases hz : lenOk (i.length + j.length) with
        | true =>
          rw [hz] at w'
          exact op_add_str pins s σ H _ _ v' u' Q I rx ry ⟨i, j, rfl, rfl, lenOk_le hz, wp_d sr w' (.str _)⟩
        | false => rw [hz] at w'; exact bad w'
      | _ => exact bad w
    | list xs =>
      cases y with
      | list ys =>
        have w' : Wp S W F H as (lift (if lenOk (xs.length + ys.length) then some (.own (xs ++ ys)) else none) M) Q := w
        cases hz : lenOk (xs.length + ys.length) with
        | true =>
          rw [hz] at w'
          obtain ⟨a, vs, e1, q1, d1⟩ := px.list sr.sub
          obtain ⟨b, ws, e2, q2, d2⟩ := py.list sr.sub
          subst e1 e2
          exact op_catS pins s σ H _ _ v' u' Q I rx ry ⟨a, b, vs, ws, rfl, rfl, by rw [hK]; exact q1, by rw [hK]; exact q2, by rw [dpAll_len d1, dpAll_len d2]; exact lenOk_le hz, fun p hp => wp_own sr w' (dpAll_app d1 d2) hp⟩
        | false => rw [hz] at w'; exact bad w'
      | _ => exact bad w
    | tuple xs =>
      cases y with
      | tuple ys =>
        have w' : Wp S W F H as (lift (if lenOk (xs.length + ys.length) then some (.v (.d (.tuple (xs ++ ys)))) else none) M) Q := w
        cases hz : lenOk (xs.length + ys.length) with
        | true =>
          rw [hz] at w'
          have px0 := px
          have py0 := py
          obtain ⟨a, vs, e1, q1, d1⟩ := px.tuple sr.sub
          obtain ⟨b, ws, e2, q2, d2⟩ := py.tuple sr.sub
          have dx : Dp S.K F v (.tuple xs) := by
            rcases px0 with z | ⟨_, _, _, z, _⟩
            · exact z
            · cases z
          have dy : Dp S.K F u (.tuple ys) := by
            rcases py0 with z | ⟨_, _, _, z, _⟩
            · exact z
            · cases z
          subst e1 e2
          refine op_catA pins s σ H _ _ v' u' Q I rx ry ⟨a, b, vs, ws, rfl, rfl, by rw [hK]; exact q1, by rw [hK]; exact q2, by rw [dpAll_len d1, dpAll_len d2]; exact lenOk_le hz, fun e => ?_, fun _ e => ?_, fun _ _ p hp => wp_tup sr w' (dpAll_app d1 d2) hp⟩
          · subst e
            have e3 := dpAll_nil d1
            subst e3
            exact wp_d sr w' dy
          · subst e
            have e3 := dpAll_nil d2
            subst e3
            rw [List.append_nil] at w'
            exact wp_d sr w' dx
        | false => rw [hz] at w'; exact bad w'
      | _ => exact bad w
    | _ => exact bad w
  | sub =>
    cases x with
    | int i =>
      cases y with
      | int j =>
        have ex := px.int
        have ey := py.int
        subst ex ey
        exact op_sub pins s σ H _ _ v' u' Q I rx ry ⟨i, j, rfl, rfl, wp_d sr w (.int _)⟩
      | _ => exact bad w
    | _ => exact bad w
  | mul =>
    cases x with
    | int i =>
      cases y with
      | int j =>
        have ex := px.int
        have ey := py.int
        subst ex ey
        have w' : Wp S W F H as (lift (if mulOk i j then some (.v (.d (.int (i * j)))) else none) M) Q := w
        cases hz : mulOk i j with
        | true =>
          rw [hz] at w'
          have q := wp_d sr w' (.int (i * j))
          unfold mulOk at hz
          simp only [Bool.or_eq_true, decide_eq_true_eq] at hz
          rcases hz with (hz | hz) | hz
          · exact op_mul pins s σ H _ _ v' u' Q I rx ry ⟨i, j, rfl, rfl, .inl (by omega), q⟩
          · exact op_mul pins s σ H _ _ v' u' Q I rx ry ⟨i, j, rfl, rfl, .inr (by omega), q⟩
          · exact op_mulW pins s σ H _ _ v' u' Q I rx ry ⟨i, j, rfl, rfl, hz, q⟩
        | false => rw [hz] at w'; exact bad w'
      | _ => exact bad w
    | str z =>
      cases y with
      | int k =>
        have ex := px.str
        have ey := py.int
        subst ex ey
        have w' : Wp S W F H as (lift (if decide (1 ≤ z.length) && decide (z.length ≤ 1000) && decide (2 ≤ k) && decide (k ≤ 1000) then some (.v (.d (.str (repS z k.toNat)))) else none) M) Q := w
        cases hz : (decide (1 ≤ z.length) && decide (z.length ≤ 1000) && decide (2 ≤ k) && decide (k ≤ 1000)) with
        | true =>
          rw [hz] at w'
          simp only [Bool.and_eq_true, decide_eq_true_eq] at hz
          exact op_mulS pins s σ H _ _ v' u' Q I rx ry ⟨z, k, rfl, rfl, hz.1.1.1, hz.1.1.2, hz.1.2, hz.2, wp_d sr w' (.str _)⟩
        | false => rw [hz] at w'; exact bad w'
      | _ => exact bad w
    | tuple xs =>
      cases y with
      | int k =>
        have w' : Wp S W F H as (lift (if !xs.isEmpty && decide (2 ≤ k) && decide (k ≤ 1000) && decide (xs.length ≤ 1000) then some (.v (.d (.tuple (List.replicate k.toNat xs).flatten))) else none) M) Q := w
        cases hz : (!xs.isEmpty && decide (2 ≤ k) && decide (k ≤ 1000) && decide (xs.length ≤ 1000)) with
        | true =>
          rw [hz] at w'
          simp only [Bool.and_eq_true, decide_eq_true_eq, Bool.not_eq_true'] at hz
          obtain ⟨⟨⟨z1, z2⟩, z3⟩, z4⟩ := hz
          obtain ⟨a, vs, e1, q1, d1⟩ := px.tuple sr.sub
          have ey := py.int
          subst e1 ey
          have hl := dpAll_len d1
          refine op_repT pins s σ H _ _ v' u' Q I rx ry ⟨a, k, vs, rfl, rfl, by rw [hK]; exact q1, fun e => ?_, z2, z3, by omega, fun p hp => wp_tup sr w' (dpAll_rep d1 _) hp⟩
          subst e
          rw [dpAll_nil d1] at z1
          cases z1
        | false => rw [hz] at w'; exact bad w'
      | _ => exact bad w
    | _ => exact bad w
  | fdiv =>
    cases x with
    | int i =>
      cases y with
      | int j =>
        have ex := px.int
        have ey := py.int
        subst ex ey
        have w' : Wp S W F H as (lift (if divOk j then some (.v (.d (.int (i.fdiv j)))) else none) M) Q := w
        cases hz : divOk j with
        | true =>
          rw [hz] at w'
          have q := wp_d sr w' (.int (i.fdiv j))
          unfold divOk at hz
          simp only [Bool.and_eq_true, Bool.or_eq_true, decide_eq_true_eq] at hz
          obtain ⟨z0, z1 | z2⟩ := hz
          · exact op_fdivN pins s σ H _ _ v' u' Q I rx ry ⟨i, j, rfl, rfl, ⟨z0, z1⟩, q⟩
          · exact op_fdivL pins s σ H _ _ v' u' Q I rx ry ⟨i, j, rfl, rfl, ⟨z0, z2⟩, q⟩
        | false => rw [hz] at w'; exact bad w'
      | _ => exact bad w
    | _ => exact bad w
  | mod =>
    cases x with
    | int i =>
      cases y with
      | int j =>
        have ex := px.int
        have ey := py.int
        subst ex ey
        have w' : Wp S W F H as (lift (if decide (j ≠ 0) then some (.v (.d (.int (i.fmod j)))) else none) M) Q := w
        cases hz : decide (j ≠ 0) with
        | true =>
          rw [hz] at w'
          exact op_modN pins s σ H _ _ v' u' Q I rx ry ⟨i, j, rfl, rfl, of_decide_eq_true hz, wp_d sr w' (.int _)⟩
        | false => rw [hz] at w'; exact bad w'
      | _ => exact bad w
    | _ => exact bad w
  | pow =>
    cases x with
    | int i =>
      cases y with
      | int j =>
        have ex := px.int
        have ey := py.int
        subst ex ey
        have w' : Wp S W F H as (lift (if decide (0 ≤ j) && decide (j ≤ 1000000) && decide (i.natAbs < 2 ^ 64) then some (.v (.d (.int (i ^ j.toNat)))) else none) M) Q := w
        cases hz : (decide (0 ≤ j) && decide (j ≤ 1000000) && decide (i.natAbs < 2 ^ 64)) with
        | true =>
          rw [hz] at w'
          simp only [Bool.and_eq_true, decide_eq_true_eq] at hz
          exact op_pow pins s σ H _ _ v' u' Q I rx ry ⟨i, j, rfl, rfl, ⟨hz.1.1, hz.1.2, hz.2⟩, wp_d sr w' (.int _)⟩
        | false => rw [hz] at w'; exact bad w'
      | _ => exact bad w
    | _ => exact bad w
end
end Ev

/-! Ev4: comparisons, items, slices, built-in functions. -/
namespace Ev
open PySem PySem.Spec PyProof.Rows L2
open LamX (Tabs)

theorem okD_list (n : Nat) (xs : List PyData) : okD (n + 1) (.list xs) = xs.all (okD n) := rfl
theorem okD_tuple (n : Nat) (xs : List PyData) : okD (n + 1) (.tuple xs) = xs.all (okD n) := rfl
theorem canAll {n : Nat} (ih : ∀ d, okD n d = true → d.canLay0 = true ∧ d.depth ≤ n) : ∀ xs : List PyData, xs.all (okD n) = true → PyData.canLayAll0 xs = true ∧ PyData.depthAll xs ≤ n
  | [], _ => ⟨by simp only [PyData.canLayAll0], by simp only [PyData.depthAll]; omega⟩
  | x :: xs, h => by
    rw [List.all_cons, Bool.and_eq_true] at h
    obtain ⟨a, b⟩ := ih x h.1
    obtain ⟨c, d⟩ := canAll ih xs h.2
    exact ⟨by simp only [PyData.canLayAll0, a, c, Bool.and_self], by simp only [PyData.depthAll]; omega⟩
theorem okD_ok : ∀ (n : Nat) (d : PyData), okD n d = true → d.canLay0 = true ∧ d.depth ≤ n
  | _, .none, _ => ⟨by simp only [PyData.canLay0], by simp only [PyData.depth]; omega⟩
  | _, .bool _, _ => ⟨by simp only [PyData.canLay0], by simp only [PyData.depth]; omega⟩
  | _, .int _, _ => ⟨by simp only [PyData.canLay0], by simp only [PyData.depth]; omega⟩
  | n, .str x, h => ⟨by
      have h' : PyData.strOk x = true := by cases n <;> exact h
      simp only [PyData.canLay0]; exact h', by simp only [PyData.depth]; omega⟩
  | 0, .list _, h => by cases h
  | n + 1, .list xs, h => by
    obtain ⟨a, b⟩ := canAll (okD_ok n) xs h
    exact ⟨by simp only [PyData.canLay0]; exact a, by simp only [PyData.depth]; omega⟩
  | 0, .tuple _, h => by cases h
  | n + 1, .tuple xs, h => by
    obtain ⟨a, b⟩ := canAll (okD_ok n) xs h
    exact ⟨by simp only [PyData.canLay0]; exact a, by simp only [PyData.depth]; omega⟩
  | 0, .dict _, h => by cases h
  | n + 1, .dict _, h => by cases h
theorem okD_bareL {n : Nat} (ih : ∀ d, okD n d = true → bareD d = true) : ∀ xs : List PyData, xs.all (okD n) = true → bareAll xs = true
  | [], _ => by simp only [bareAll]
  | x :: xs, h => by
    rw [List.all_cons, Bool.and_eq_true] at h
    simp only [bareAll, Bool.and_eq_true]
    exact ⟨ih x h.1, okD_bareL ih xs h.2⟩
theorem okD_bare : ∀ (n : Nat) (d : PyData), okD n d = true → bareD d = true
  | _, .none, _ => by simp only [bareD]
  | _, .bool _, _ => by simp only [bareD]
  | _, .int _, _ => by simp only [bareD]
  | _, .str x, _ => by simp only [bareD]
  | 0, .list _, h => by cases h
  | n + 1, .list xs, h => by simp only [bareD]; exact okD_bareL (okD_bare n) xs h
  | 0, .tuple _, h => by cases h
  | n + 1, .tuple xs, h => by simp only [bareD]; exact okD_bareL (okD_bare n) xs h
  | 0, .dict _, h => by cases h
  | n + 1, .dict _, h => by cases h
theorem shaped_ok {d : PyData} (h : okD 8 d = true) : SeqAt.shaped d = true := by
  obtain ⟨a, b⟩ := okD_ok 8 d h
  unfold SeqAt.shaped
  rw [a, decide_eq_true (by omega)]
  rfl

def copOf : COp → CmpOp
  | .eq => .Eq | .ne => .NotEq | .lt => .Lt | .le => .LtE | .gt => .Gt | .ge => .GtE | .in_ => .In | .nin => .NotIn
def bD (b : Bool) : TV := .v (.d (.bool b))
/-- a comparison's reading: the answer is told (the chain asks it) -/
def rCmp (S : Stat) (o : COp) : V → V → Hp → (Bool → Prop) → Prop := fun v u H q => ∃ F as M x y b, Sr S F H as M ∧ Pk S.K F H v x ∧ Pk S.K F H u y ∧ cmpD o x y = some b ∧ q b
def rCmpQ (S : Stat) (o : COp) : R2 := fun v u H Q => rCmp S o v u H fun b => Q (.bl b) H
section
variable {X : Cx} {S : Stat}
theorem eq_scal {K : KO} {F H : Hp} {v u : V} {x y : PyData} (h : scalD x y = true) (px : Pk K F H v x) (py : Pk K F H u y) : scal v u = true ∧ decide (v = u) = PyData.eqv x y := by
  cases x <;> cases y <;> first
    | (exact absurd (show false = true from h) Bool.false_ne_true)
    | skip
  · rw [px.none, py.none]; exact ⟨rfl, by simp [PyData.eqv]⟩
  · rw [px.none, py.bool]; exact ⟨rfl, by simp [PyData.eqv]⟩
  · rw [px.none, py.int]; exact ⟨rfl, by simp [PyData.eqv]⟩
  · rw [px.none, py.str]; exact ⟨rfl, by simp [PyData.eqv]⟩
  · rw [px.bool, py.none]; exact ⟨rfl, by simp [PyData.eqv]⟩
  · rw [px.bool, py.bool]; exact ⟨rfl, by rw [PyData.eqv]; exact dec_bl⟩
  · rw [px.bool, py.str]; exact ⟨rfl, by simp [PyData.eqv]⟩
  · rw [px.int, py.none]; exact ⟨rfl, by simp [PyData.eqv]⟩
  · rw [px.int, py.int]; exact ⟨rfl, by rw [PyData.eqv]; exact dec_int⟩
  · rw [px.int, py.str]; exact ⟨rfl, by simp [PyData.eqv]⟩
  · rw [px.str, py.none]; exact ⟨rfl, by simp [PyData.eqv]⟩
  · rw [px.str, py.bool]; exact ⟨rfl, by simp [PyData.eqv]⟩
  · rw [px.str, py.int]; exact ⟨rfl, by simp [PyData.eqv]⟩
  · rw [px.str, py.str]; exact ⟨rfl, by rw [PyData.eqv]; exact dec_str⟩
theorem eqC_some {x y : PyData} {b : Bool} (h : eqC x y = some b) : (scalD x y = true ∨ (okD 8 x = true ∧ okD 8 y = true)) ∧ b = PyData.eqv x y := by
  unfold eqC at h
  split at h
  · rename_i h1
    rw [Bool.or_eq_true, Bool.and_eq_true] at h1
    exact ⟨h1, (Option.some.inj h).symm⟩
  · cases h
theorem strsOf_vs {K : KO} {F : Hp} : ∀ {xs : List PyData} {vs : List V} {ys : List Str}, DpAll K F vs xs → strsOf xs = some ys → vs = ys.map V.str
  | [], _, _, .nil, e => by cases e; rfl
  | .str i :: xs, _, _, .cons h1 h2, e => by
    have e' : (strsOf xs).map (i :: ·) = some _ := e
    cases hz : strsOf xs with
    | none => rw [hz] at e'; cases e'
    | some zs =>
      rw [hz] at e'
      cases e'
      cases h1
      rw [strsOf_vs h2 hz]
      rfl
  | .none :: _, _, _, _, e => by cases e
  | .bool _ :: _, _, _, _, e => by cases e
  | .int _ :: _, _, _, _, e => by cases e
  | .list _ :: _, _, _, _, e => by cases e
  | .tuple _ :: _, _, _, _, e => by cases e
  | .dict _ :: _, _, _, _, e => by cases e
theorem flat_strs (zs : List Str) : (zs.map V.str).all flatV = true := by
  rw [List.all_eq_true]
  intro v hv
  obtain ⟨z, -, rfl⟩ := List.mem_map.mp hv
  rfl
theorem inV_strs (i : Str) (zs : List Str) : inV (.str i) (zs.map V.str) = zs.any fun z => z == i := by
  unfold inV
  rw [List.any_map]
  congr 1
theorem op_cmp (hK : X.K = S.K) (hu : X.A.units + 64 < cLine) (o : COp) : OpR X (compareOp (copOf o)) (rCmpQ S o) := by
  intro pins s σ H v u v' u' Q I rx ry h
  obtain ⟨F, as, M, x, y, b, sr, px, py, e, q⟩ := h
  have bad : ∀ {P : Prop}, (none : Option Bool) = some b → P := fun z => by cases z
  cases o with
  | eq =>
    obtain ⟨e1, e2⟩ := eqC_some (show eqC x y = some b from e)
    subst e2
    rcases e1 with e1 | ⟨e1, e3⟩
    · obtain ⟨a1, a2⟩ := eq_scal e1 px py
      exact op_eq pins s σ H _ _ v' u' Q I rx ry ⟨a1, by rw [a2]; exact q⟩
    · refine op_eqD hu pins s σ H _ _ v' u' Q I rx ry ⟨x, y, ?_, ?_, shaped_ok e1, shaped_ok e3, q⟩
      · rw [hK]; exact (px.dp sr.sub).bare _ _ (okD_bare _ _ e1)
      · rw [hK]; exact (py.dp sr.sub).bare _ _ (okD_bare _ _ e3)
  | ne =>
    have e0 : (eqC x y).map (!·) = some b := e
    cases e4 : eqC x y with
    | none => rw [e4] at e0; cases e0
    | some c =>
      rw [e4] at e0
      obtain rfl : (!c) = b := Option.some.inj e0
      obtain ⟨e1, e2⟩ := eqC_some e4
      subst e2
      rcases e1 with e1 | ⟨e1, e3⟩
      · obtain ⟨a1, a2⟩ := eq_scal e1 px py
        exact op_ne pins s σ H _ _ v' u' Q I rx ry ⟨a1, by rw [a2]; exact q⟩
      · refine op_neD hu pins s σ H _ _ v' u' Q I rx ry ⟨x, y, ?_, ?_, shaped_ok e1, shaped_ok e3, q⟩
        · rw [hK]; exact (px.dp sr.sub).bare _ _ (okD_bare _ _ e1)
        · rw [hK]; exact (py.dp sr.sub).bare _ _ (okD_bare _ _ e3)
  | lt =>
    cases x with
    | int i =>
      cases y with
      | int j =>
        have ex := px.int
        have ey := py.int
        subst ex ey
        obtain rfl := Option.some.inj (show some (decide (i < j)) = some b from e)
        exact op_lt pins s σ H _ _ v' u' Q I rx ry ⟨i, j, rfl, rfl, q⟩
      | _ => exact bad e
    | tuple xs =>
      cases y with
      | tuple ys =>
        have e0 : (if PySem.W.alikeAll xs ys && decide ((PyData.tuple xs).depth ≤ 8) && (bareAll xs && bareAll ys) then some (PySem.W.dataLt (.tuple xs) (.tuple ys)) else none) = some b := e
        cases hz : (PySem.W.alikeAll xs ys && decide ((PyData.tuple xs).depth ≤ 8) && (bareAll xs && bareAll ys)) with
        | true =>
          rw [hz] at e0
          obtain rfl := Option.some.inj e0
          rw [Bool.and_eq_true, Bool.and_eq_true, Bool.and_eq_true, decide_eq_true_eq] at hz
          obtain ⟨⟨hz1, hz2⟩, hz3, hz4⟩ := hz
          refine op_ltD hu pins s σ H _ _ v' u' Q I rx ry ⟨.tuple xs, .tuple ys, ?_, ?_, by rw [PySem.W.alike]; exact hz1, (fun z => by cases z), hz2, q⟩
          · rw [hK]; exact (px.dp sr.sub).bare _ _ (by simp only [bareD]; exact hz3)
          · rw [hK]; exact (py.dp sr.sub).bare _ _ (by simp only [bareD]; exact hz4)
        | false => rw [hz] at e0; exact bad e0
      | _ => exact bad e
    | _ => exact bad e
  | le =>
    cases x with
    | int i =>
      cases y with
      | int j =>
        have ex := px.int
        have ey := py.int
        subst ex ey
        obtain rfl := Option.some.inj (show some (decide (i ≤ j)) = some b from e)
        exact op_le pins s σ H _ _ v' u' Q I rx ry ⟨i, j, rfl, rfl, q⟩
      | _ => exact bad e
    | _ => exact bad e
  | gt =>
    cases x with
    | int i =>
      cases y with
      | int j =>
        have ex := px.int
        have ey := py.int
        subst ex ey
        obtain rfl := Option.some.inj (show some (decide (j < i)) = some b from e)
        exact op_gt pins s σ H _ _ v' u' Q I rx ry ⟨i, j, rfl, rfl, q⟩
      | _ => exact bad e
    | _ => exact bad e
  | ge =>
    cases x with
    | int i =>
      cases y with
      | int j =>
        have ex := px.int
        have ey := py.int
        subst ex ey
        obtain rfl := Option.some.inj (show some (decide (j ≤ i)) = some b from e)
        exact op_ge pins s σ H _ _ v' u' Q I rx ry ⟨i, j, rfl, rfl, q⟩
      | _ => exact bad e
    | _ => exact bad e
  | in_ =>
    cases x with
    | str i =>
      cases y with
      | str j =>
        have ex := px.str
        have ey := py.str
        subst ex ey
        obtain rfl := Option.some.inj (show some (!(Builtin.Str.occurrences j i 0 j.length 1).isEmpty) = some b from e)
        exact op_in_str pins s σ H _ _ v' u' Q I rx ry ⟨i, j, rfl, rfl, q⟩
      | tuple ys =>
        have ex := px.str
        subst ex
        obtain ⟨a, vs, e1, q1, d1⟩ := py.tuple sr.sub
        subst e1
        have e' : ((strsOf ys).map fun zs => zs.any fun z => z == i) = some b := e
        cases hz : strsOf ys with
        | none => rw [hz] at e'; cases e'
        | some zs =>
          rw [hz] at e'
          obtain rfl := Option.some.inj e'
          obtain rfl := strsOf_vs d1 hz
          exact op_in_seq pins s σ H _ _ v' u' Q I rx ry ⟨a, _, rfl, .inr (by rw [hK]; exact q1), rfl, flat_strs zs, by rw [inV_strs]; exact q⟩
      | _ => exact bad e
    | _ => exact bad e
  | nin =>
    cases x with
    | str i =>
      cases y with
      | str j =>
        have ex := px.str
        have ey := py.str
        subst ex ey
        obtain rfl := Option.some.inj (show some (!(!(Builtin.Str.occurrences j i 0 j.length 1).isEmpty)) = some b from e)
        exact op_notin_str pins s σ H _ _ v' u' Q I rx ry ⟨i, j, rfl, rfl, q⟩
      | tuple ys =>
        have ex := px.str
        subst ex
        obtain ⟨a, vs, e1, q1, d1⟩ := py.tuple sr.sub
        subst e1
        have e' : ((strsOf ys).map fun zs => !zs.any fun z => z == i) = some b := e
        cases hz : strsOf ys with
        | none => rw [hz] at e'; cases e'
        | some zs =>
          rw [hz] at e'
          obtain rfl := Option.some.inj e'
          obtain rfl := strsOf_vs d1 hz
          exact op_notIn_seq pins s σ H _ _ v' u' Q I rx ry ⟨a, _, rfl, .inr (by rw [hK]; exact q1), rfl, flat_strs zs, by rw [inV_strs]; exact q⟩
      | _ => exact bad e
    | _ => exact bad e
/-! ### items -/
def rIxD (S : Stat) : R2 := fun v u H Q => ∃ F as M x y z, Sr S F H as M ∧ Pk S.K F H v x ∧ Pk S.K F H u y ∧ ixD x y = some z ∧ ∀ w', Dp S.K F w' z → Q w' H
theorem atI_map {xs : List PyData} {vs : List V} {K : KO} {F : Hp} {i : Int} {z : PyData} (d : DpAll K F vs xs) (e : atI xs i = some z) : ∃ v, atI vs i = some v ∧ Dp K F v z := by
  unfold atI at e ⊢
  rw [dpAll_len d]
  cases q : ixN xs.length i with
  | none => rw [q] at e; cases e
  | some j =>
    rw [q] at e
    exact dpAll_get d e
theorem ix_D (hK : X.K = S.K) : IxR X (rIxD S) := by
  intro value slice pins s σ H v u v' u' Q I rx ry h hs
  obtain ⟨F, as, M, x, y, z, sr, px, py, e, q⟩ := h
  have bad : ∀ {P : Prop}, (none : Option PyData) = some z → P := fun z => by cases z
  cases y with
  | int i =>
    have ey := py.int
    subst ey
    cases x with
    | list xs =>
      obtain ⟨a, vs, e1, q1, d1⟩ := px.list sr.sub
      subst e1
      obtain ⟨w', h1, h2⟩ := atI_map d1 (show atI xs i = some z from e)
      exact ix_list value slice pins s σ H _ _ v' u' Q I rx ry ⟨a, vs, i, w', rfl, rfl, by rw [hK]; exact q1, h1, q w' h2⟩ hs
    | tuple xs =>
      obtain ⟨a, vs, e1, q1, d1⟩ := px.tuple sr.sub
      subst e1
      obtain ⟨w', h1, h2⟩ := atI_map d1 (show atI xs i = some z from e)
      exact ix_tup value slice pins s σ H _ _ v' u' Q I rx ry ⟨a, vs, i, w', rfl, rfl, by rw [hK]; exact q1, h1, q w' h2⟩ hs
    | str t =>
      have ex := px.str
      subst ex
      have e' : (if lenOk t.length then (atI t.cps.toList i).map fun c => PyData.str ⟨#[c]⟩ else none) = some z := e
      cases hz : lenOk t.length with
      | true =>
        rw [hz] at e'
        cases hc : atI t.cps.toList i with
        | none => rw [hc] at e'; cases e'
        | some c =>
          rw [hc] at e'
          obtain rfl : PyData.str ⟨#[c]⟩ = z := Option.some.inj e'
          exact ix_str value slice pins s σ H _ _ v' u' Q I rx ry ⟨t, i, c, rfl, rfl, lenOk_le hz, hc, q _ (.str _)⟩ hs
      | false => rw [hz] at e'; exact bad e'
    | _ => exact bad e
  | _ => cases x <;> exact bad e
/-! ### slices -/
def rSlD (S : Stat) : V → Option Int → Option Int → Hp → VK → Prop := fun v lo hi H Q => ∃ (W : XK) (F : Hp) (as : AS) (M : Sto) (x : PyData), Sr S F H as M ∧ Pk S.K F H v x ∧ Wp S W F H as (lift (slD x lo hi) M) Q
theorem cut_dp {K : KO} {F : Hp} {xs : List PyData} {vs : List V} (d : DpAll K F vs xs) (lo hi : Option Int) : DpAll K F (cutV vs lo hi) (cutD xs lo hi) := by
  unfold cutV cutD
  rw [dpAll_len d]
  exact dpAll_take _ (dpAll_drop _ d)
theorem sl_D (hK : X.K = S.K) : SlR X (rSlD S) := by
  intro pins s σ H v v' vl vu lo hi sl Q I rx hs pl pu h
  obtain ⟨W, F, as, M, x, sr, px, w⟩ := h
  have bad : ∀ {P : Prop}, Wp S W F H as (lift (none : Option TV) M) Q → P := fun z => z.elim
  cases x with
  | list xs =>
    obtain ⟨a, vs, e1, q1, d1⟩ := px.list sr.sub
    subst e1
    exact sl_list pins s σ H _ v' vl vu lo hi sl Q I rx hs pl pu ⟨a, vs, rfl, by rw [hK]; exact q1, fun p hp => wp_own sr w (cut_dp d1 lo hi) hp⟩
  | tuple xs =>
    have px0 := px
    obtain ⟨a, vs, e1, q1, d1⟩ := px.tuple sr.sub
    have dx : Dp S.K F v (.tuple xs) := by
      rcases px0 with z | ⟨_, _, _, z, _⟩
      · exact z
      · cases z
    subst e1
    refine sl_tupA pins s σ H _ v' vl vu lo hi sl Q I rx hs pl pu ⟨a, vs, rfl, by rw [hK]; exact q1, fun hw => ?_, fun _ p hp => wp_tup sr w (cut_dp d1 lo hi) hp⟩
    have w' : Wp S W F H as (.ok (.v (.d (.tuple (cutD xs lo hi)))) M) Q := w
    have ec : cutD xs lo hi = xs := by
      rw [dpAll_len d1] at hw
      unfold cutD
      rw [hw.1, hw.2, List.drop_zero, Nat.sub_zero, List.take_length]
    rw [ec] at w'
    exact wp_d sr w' dx
  | str z =>
    have ex := px.str
    subst ex
    have w' : Wp S W F H as (lift (if lenOk z.length then some (.v (.d (.str (cutS z lo hi)))) else none) M) Q := w
    cases hz : lenOk z.length with
    | true =>
      rw [hz] at w'
      exact sl_str pins s σ H _ v' vl vu lo hi sl Q I rx hs pl pu ⟨z, rfl, lenOk_le hz, wp_d sr w' (.str _)⟩
    | false => rw [hz] at w'; exact bad w'
  | _ => exact bad w
end

/-! ### built-in functions -/
def PkL (K : KO) (F H : Hp) : List V → List PyData → Prop
  | [], [] => True
  | v :: vs, x :: xs => Pk K F H v x ∧ PkL K F H vs xs
  | _, _ => False
def rBi (S : Stat) (b : BI) : List V → Hp → VK → Prop := fun vs H Q => ∃ (W : XK) (F : Hp) (as : AS) (M : Sto) (xs : List PyData), Sr S F H as M ∧ PkL S.K F H vs xs ∧ Wp S W F H as (lift (biD b xs) M) Q
def biF : BI → Value
  | .len => .builtin "len" | .abs => .builtin "abs" | .int => .type "int" | .str => .type "str" | .sum => .builtin "sum" | .min2 => .builtin "min" | .max2 => .builtin "max"
  | .tuple => .type "tuple" | .list => .type "list" | .bool => .type "bool"
theorem intsOf_map : ∀ {xs : List PyData} {ns : List Int}, intsOf xs = some ns → xs = ns.map PyData.int
  | [], ns, h => by cases h; rfl
  | x :: r, ns, h => by
    cases x with
    | int i =>
      have h' : (intsOf r).map (i :: ·) = some ns := h
      cases e : intsOf r with
      | none => rw [e] at h'; cases h'
      | some ms =>
        rw [e] at h'
        obtain rfl : i :: ms = ns := Option.some.inj h'
        rw [List.map_cons, ← intsOf_map e]
    | _ => cases h
theorem intsOf_ints : ∀ ns : List Int, intsOf (ns.map PyData.int) = some ns
  | [] => rfl
  | n :: r => by
    show (intsOf (r.map PyData.int)).map (n :: ·) = _
    rw [intsOf_ints r]; rfl
section
variable {X : Cx} {S : Stat} {W : XK}
theorem pkL_1 {K : KO} {F H : Hp} {vs : List V} {x : PyData} (h : PkL K F H vs [x]) : ∃ v, vs = [v] ∧ Pk K F H v x := by
  cases vs with
  | nil => exact h.elim
  | cons v r =>
    cases r with
    | nil => exact ⟨v, rfl, h.1⟩
    | cons _ _ => exact h.2.elim
theorem pkL_2 {K : KO} {F H : Hp} {vs : List V} {x y : PyData} (h : PkL K F H vs [x, y]) : ∃ v u, vs = [v, u] ∧ Pk K F H v x ∧ Pk K F H u y := by
  cases vs with
  | nil => exact h.elim
  | cons v r =>
    obtain ⟨u, e, h2⟩ := pkL_1 h.2
    subst e
    exact ⟨v, u, rfl, h.1, h2⟩
theorem call_sumT (hc : X.calm = true) : CallR X (.builtin "sum") (fun vs H Q => ∃ (a : Addr) (ns : List Int), vs = [V.ref a] ∧ SqT X.K H a (ns.map V.int) ∧ Q (.int ns.sum) H) := by
  intro pins s σ H vs us Q I r h
  obtain ⟨a, ns, rfl, hs, q⟩ := h
  obtain ⟨its, rv, hl, _⟩ := I.tuple hs
  obtain ⟨u, rfl, ru⟩ := vals1 r
  cases ru
  have hi : IntsAre its ns := rv.ints
  obtain ⟨xs, e⟩ := hi.allInts.items
  have hn : numsOf (intItems xs).toList = ns := by rw [← e]; exact hi.numsOf
  rw [nums_intItems] at hn
  have hl' : s.heap.IsTuple a its.toArray := hl
  rw [e] at hl'
  refine PySem.W.ktm_sumG (I.ok.hd hc) hl' fun h' tk t' hk => ?_
  rw [preSum_eq, List.take_of_length_le (by simp), hn]
  exact ⟨.int _, H, I.kept hk, ⟨_, rfl⟩, q⟩
theorem call_bi (hK : X.K = S.K) (hc : X.calm = true) (b : BI) : CallR X (biF b) (rBi S b) := by
  intro pins s σ H vs us Q I r h
  obtain ⟨W, F, as, M, xs, sr, px, w⟩ := h
  have bad : ∀ {P : Prop}, Wp S W F H as (lift (none : Option TV) M) Q → P := fun z => z.elim
  cases b with
  | len =>
    match xs, px, w with
    | [.list ys], px, w =>
      obtain ⟨v, e, p1⟩ := pkL_1 px
      subst e
      obtain ⟨a, vs, e1, q1, d1⟩ := p1.list sr.sub
      subst e1
      exact call_len pins s σ H _ us Q I r ⟨.ref a, vs.length, rfl, .inl ⟨vs, by rw [hK]; exact q1, rfl⟩, by rw [dpAll_len d1]; exact wp_d sr w (.int _)⟩
    | [.tuple ys], px, w =>
      obtain ⟨v, e, p1⟩ := pkL_1 px
      subst e
      obtain ⟨a, vs, e1, q1, d1⟩ := p1.tuple sr.sub
      subst e1
      exact call_len pins s σ H _ us Q I r ⟨.ref a, vs.length, rfl, .inr ⟨vs, by rw [hK]; exact q1, rfl⟩, by rw [dpAll_len d1]; exact wp_d sr w (.int _)⟩
    | [.str z], px, w =>
      obtain ⟨v, e, p1⟩ := pkL_1 px
      subst e
      have ex := p1.str
      subst ex
      have w' : Wp S W F H as (lift (if lenOk z.length then some (.v (.d (.int z.length))) else none) M) Q := w
      cases hz : lenOk z.length with
      | true =>
        rw [hz] at w'
        exact call_len pins s σ H _ us Q I r ⟨.str z, z.length, rfl, ⟨lenOk_le hz, rfl⟩, wp_d sr w' (.int _)⟩
      | false => rw [hz] at w'; exact bad w'
    | [], _, w => exact bad w
    | [.none], _, w => exact bad w
    | [.bool _], _, w => exact bad w
    | [.int _], _, w => exact bad w
    | [.dict _], _, w => exact bad w
    | x :: y :: z, _, w => exact (by cases x <;> exact bad w)
  | abs =>
    match xs, px, w with
    | [.int i], px, w =>
      obtain ⟨v, e, p1⟩ := pkL_1 px
      subst e
      have ex := p1.int
      subst ex
      exact call_abs pins s σ H _ us Q I r ⟨i, rfl, wp_d sr w (.int _)⟩
    | [], _, w => exact bad w
    | [.none], _, w => exact bad w
    | [.bool _], _, w => exact bad w
    | [.str _], _, w => exact bad w
    | [.list _], _, w => exact bad w
    | [.tuple _], _, w => exact bad w
    | [.dict _], _, w => exact bad w
    | x :: y :: z, _, w => exact (by cases x <;> exact bad w)
  | int =>
    match xs, px, w with
    | [.int i], px, w =>
      obtain ⟨v, e, p1⟩ := pkL_1 px
      subst e
      have ex := p1.int
      subst ex
      exact call_int1 pins s σ H _ us Q I r (.inl ⟨i, rfl, wp_d sr w (.int _)⟩)
    | [.bool k], px, w =>
      obtain ⟨v, e, p1⟩ := pkL_1 px
      subst e
      have ex := p1.bool
      subst ex
      exact call_int1 pins s σ H _ us Q I r (.inr ⟨k, rfl, wp_d sr w (.int _)⟩)
    | [.str z], px, w =>
      obtain ⟨v, e, p1⟩ := pkL_1 px
      subst e
      have ex := p1.str
      subst ex
      have w' : Wp S W F H as (lift ((PySem.intText? z).bind fun n => if decide (z.length ≤ 640) then some (.v (.d (.int n))) else none) M) Q := w
      cases hi : PySem.intText? z with
      | none => rw [hi] at w'; exact bad w'
      | some n =>
        rw [hi] at w'
        have w' : Wp S W F H as (lift (if decide (z.length ≤ 640) then some (.v (.d (.int n))) else none) M) Q := w'
        cases hz : decide (z.length ≤ 640) with
        | true =>
          rw [hz] at w'
          exact call_int_str pins s σ H _ us Q I r ⟨z, n, rfl, hi, of_decide_eq_true hz, wp_d sr w' (.int _)⟩
        | false => rw [hz] at w'; exact bad w'
    | [], _, w => exact bad w
    | [.none], _, w => exact bad w
    | [.list _], _, w => exact bad w
    | [.tuple _], _, w => exact bad w
    | [.dict _], _, w => exact bad w
    | x :: y :: z, _, w => exact (by cases x <;> exact bad w)
  | str =>
    match xs, px, w with
    | [.int i], px, w =>
      obtain ⟨v, e, p1⟩ := pkL_1 px
      subst e
      have ex := p1.int
      subst ex
      have w' : Wp S W F H as (lift (if decide (i.natAbs.log2 < 1920) then some (.v (.d (.str (toString i)))) else none) M) Q := w
      cases hz : decide (i.natAbs.log2 < 1920) with
      | true =>
        rw [hz] at w'
        exact call_str_int pins s σ H _ us Q I r ⟨i, rfl, of_decide_eq_true hz, wp_d sr w' (.str _)⟩
      | false => rw [hz] at w'; exact bad w'
    | [], _, w => exact bad w
    | [.none], _, w => exact bad w
    | [.bool _], _, w => exact bad w
    | [.str _], _, w => exact bad w
    | [.list _], _, w => exact bad w
    | [.tuple _], _, w => exact bad w
    | [.dict _], _, w => exact bad w
    | x :: y :: z, _, w => exact (by cases x <;> exact bad w)
  | sum =>
    match xs, px, w with
    | [.list ys], px, w =>
      obtain ⟨v, e, p1⟩ := pkL_1 px
      subst e
      obtain ⟨a, vs, e1, q1, d1⟩ := p1.list sr.sub
      subst e1
      have w' : Wp S W F H as (lift ((intsOf ys).map fun ns => .v (.d (.int ns.sum))) M) Q := w
      cases hz : intsOf ys with
      | some ns =>
        rw [hz] at w'
        rw [intsOf_map hz] at d1
        have ev := dpAll_int_of d1
        subst ev
        exact cr_sum hc pins s σ H _ us Q I r ⟨a, ns, rfl, by rw [hK]; exact q1, wp_d sr w' (.int _)⟩
      | none => rw [hz] at w'; exact bad w'
    | [.tuple ys], px, w =>
      obtain ⟨v, e, p1⟩ := pkL_1 px
      subst e
      obtain ⟨a, vs, e1, q1, d1⟩ := p1.tuple sr.sub
      subst e1
      have w' : Wp S W F H as (lift ((intsOf ys).map fun ns => .v (.d (.int ns.sum))) M) Q := w
      cases hz : intsOf ys with
      | some ns =>
        rw [hz] at w'
        rw [intsOf_map hz] at d1
        have ev := dpAll_int_of d1
        subst ev
        exact call_sumT hc pins s σ H _ us Q I r ⟨a, ns, rfl, by rw [hK]; exact q1, wp_d sr w' (.int _)⟩
      | none => rw [hz] at w'; exact bad w'
    | [], _, w => exact bad w
    | [.none], _, w => exact bad w
    | [.bool _], _, w => exact bad w
    | [.int _], _, w => exact bad w
    | [.str _], _, w => exact bad w
    | [.dict _], _, w => exact bad w
    | x :: y :: z, _, w => exact (by cases x <;> exact bad w)
  | min2 =>
    match xs, px, w with
    | [.int i, .int j], px, w =>
      obtain ⟨v, u, e, p1, p2⟩ := pkL_2 px
      subst e
      have ex := p1.int
      have ey := p2.int
      subst ex ey
      exact call_min2 hc pins s σ H _ us Q I r ⟨i, j, rfl, wp_d sr w (.int _)⟩
    | [], _, w => exact bad w
    | [_], _, w => exact (by rename_i z _; cases z <;> exact bad w)
    | [x, y], _, w => exact (by cases x <;> cases y <;> first | exact bad w | (rename_i px; rename_i i j; exact (by
        obtain ⟨v, u, e, p1, p2⟩ := pkL_2 px
        subst e
        have ex := p1.int
        have ey := p2.int
        subst ex ey
        exact call_min2 hc pins s σ H _ us Q I r ⟨_, _, rfl, wp_d sr w (.int _)⟩)))
    | x :: y :: z :: t, _, w => exact (by cases x <;> cases y <;> exact bad w)
  | max2 =>
    match xs, px, w with
    | [], _, w => exact bad w
    | [x], _, w => exact (by cases x <;> exact bad w)
    | [x, y], px, w =>
      cases x <;> cases y <;> first
        | exact bad w
        | (obtain ⟨v, u, e, p1, p2⟩ := pkL_2 px
           subst e
           have ex := p1.int
           have ey := p2.int
           subst ex ey
           exact call_max2 hc pins s σ H _ us Q I r ⟨_, _, rfl, wp_d sr w (.int _)⟩)
    | x :: y :: z :: t, _, w => exact (by cases x <;> cases y <;> exact bad w)
  | tuple =>
    match xs, px, w with
    | [.list ys], px, w =>
      obtain ⟨v, e, p1⟩ := pkL_1 px
      subst e
      obtain ⟨a, vs, e1, q1, d1⟩ := p1.list sr.sub
      subst e1
      exact call_tuple_of pins s σ H _ us Q I r ⟨a, vs, rfl, .inl ⟨by rw [hK]; exact q1, fun p hp => wp_tup sr w d1 hp⟩⟩
    | [.tuple ys], px, w =>
      obtain ⟨v, e, p1⟩ := pkL_1 px
      subst e
      have dx : Dp S.K F v (.tuple ys) := by
        rcases p1 with z | ⟨_, _, _, z, _⟩
        · exact z
        · cases z
      obtain ⟨a, vs, e1, q1, d1⟩ := p1.tuple sr.sub
      subst e1
      exact call_tuple_of pins s σ H _ us Q I r ⟨a, vs, rfl, .inr ⟨by rw [hK]; exact q1, wp_d sr w dx⟩⟩
    | [], _, w => exact bad w
    | [.none], _, w => exact bad w
    | [.bool _], _, w => exact bad w
    | [.int _], _, w => exact bad w
    | [.str _], _, w => exact bad w
    | [.dict _], _, w => exact bad w
    | x :: y :: z, _, w => exact (by cases x <;> exact bad w)
  | list =>
    match xs, px, w with
    | [.list ys], px, w =>
      obtain ⟨v, e, p1⟩ := pkL_1 px
      subst e
      obtain ⟨a, vs, e1, q1, d1⟩ := p1.list sr.sub
      subst e1
      exact call_list_of pins s σ H _ us Q I r ⟨a, vs, rfl, .inl (by rw [hK]; exact q1), fun p hp => wp_own sr w d1 hp⟩
    | [.tuple ys], px, w =>
      obtain ⟨v, e, p1⟩ := pkL_1 px
      subst e
      obtain ⟨a, vs, e1, q1, d1⟩ := p1.tuple sr.sub
      subst e1
      exact call_list_of pins s σ H _ us Q I r ⟨a, vs, rfl, .inr (by rw [hK]; exact q1), fun p hp => wp_own sr w d1 hp⟩
    | [], _, w => exact bad w
    | [.none], _, w => exact bad w
    | [.bool _], _, w => exact bad w
    | [.int _], _, w => exact bad w
    | [.str _], _, w => exact bad w
    | [.dict _], _, w => exact bad w
    | x :: y :: z, _, w => exact (by cases x <;> exact bad w)
  | bool =>
    match xs, px, w with
    | [.bool k], px, w =>
      obtain ⟨v, e, p1⟩ := pkL_1 px
      subst e
      have ex := p1.bool
      subst ex
      exact call_bool1 pins s σ H _ us Q I r (.inr ⟨k, rfl, wp_d sr w (.bl _)⟩)
    | [], _, w => exact bad w
    | [.none], _, w => exact bad w
    | [.int _], _, w => exact bad w
    | [.str _], _, w => exact bad w
    | [.list _], _, w => exact bad w
    | [.tuple _], _, w => exact bad w
    | [.dict _], _, w => exact bad w
    | x :: y :: z, _, w => exact (by cases x <;> exact bad w)
/-! ### isinstance -/
def tyN : Ty → String
  | .int => "int" | .bool => "bool" | .tuple => "tuple" | .str => "str" | .list => "list"
theorem call_isi (hK : X.K = S.K) (t : Ty) : CallR X (.builtin "isinstance") (fun vs H Q => ∃ F as M x v, vs = [v, .ty (tyN t)] ∧ Sr S F H as M ∧ Pk S.K F H v x ∧ Q (.bl (isiD t x)) H) := by
  intro pins s σ H vs us Q I r h
  obtain ⟨F, as, M, x, v, rfl, sr, px, q⟩ := h
  obtain ⟨u, u2, rfl, ru, r2⟩ := vals2 r
  have e2 : u2 = Value.type (tyN t) := r2
  subst e2
  have fin : ∀ (b : Bool), b = isiD t x → ∀ tk, EP X pins σ Q (.bool b) { s with toks := tk } := fun b e tk => ⟨.bl b, H, I.kept (t' := tk) fun _ _ z => z, rfl, by rw [e]; exact q⟩
  cases x with
  | none =>
    have ex := px.none
    subst ex
    obtain rfl : u = Value.none := ru
    exact PySem.W.kia_one (b := isiD t .none) PySem.W.kitx_none I.kIn True.intro (by cases t <;> rfl) (fun z => nomatch z) (fin _ rfl)
  | bool y =>
    have ex := px.bool
    subst ex
    obtain rfl : u = Value.bool y := ru
    exact PySem.W.kia_one (b := isiD t (.bool y)) PySem.W.kitx_bool I.kIn True.intro (by cases t <;> rfl) (fun z => nomatch z) (fin _ rfl)
  | int y =>
    have ex := px.int
    subst ex
    obtain ⟨t', rfl⟩ := ru
    exact PySem.W.kia_one (b := isiD t (.int y)) PySem.W.kitx_int I.kIn True.intro (by cases t <;> rfl) (fun z => nomatch z) (fin _ rfl)
  | str y =>
    have ex := px.str
    subst ex
    obtain ⟨t', rfl⟩ := ru
    exact PySem.W.kia_one (b := isiD t (.str y)) PySem.W.kitx_str I.kIn True.intro (by cases t <;> rfl) (fun z => nomatch z) (fin _ rfl)
  | list ys =>
    obtain ⟨a, vs, e1, q1, d1⟩ := px.list sr.sub
    subst e1
    obtain rfl : u = Value.ref a := ru
    rw [← hK] at q1
    obtain ⟨its, rv, ⟨o, n, e, hc, _⟩, _⟩ := I.list q1
    exact PySem.W.kia_one (b := isiD t (.list ys)) PySem.W.kitx_list I.kIn ⟨o, e, hc⟩ (by cases t <;> rfl) (fun z => nomatch z) (fin _ rfl)
  | tuple ys =>
    obtain ⟨a, vs, e1, q1, d1⟩ := px.tuple sr.sub
    subst e1
    obtain rfl : u = Value.ref a := ru
    rw [← hK] at q1
    obtain ⟨its, rv, ⟨o, e, hc, _⟩, _⟩ := I.tuple q1
    exact PySem.W.kia_one (b := isiD t (.tuple ys)) PySem.W.kitx_tuple I.kIn ⟨o, e, hc⟩ (by cases t <;> rfl) (fun z => nomatch z) (fin _ rfl)
  | dict kvs =>
    rcases px with z | ⟨_, _, _, z, _⟩
    · cases z with
      | obj z =>
        have e0 : isiD t (.dict kvs) = false := by cases t <;> rfl
        rw [e0] at q
        exact S.K.isi sr.sub z X pins s σ u (tyN t) Q hK I ru (by cases t <;> simp [tyN]) q
    · cases z
end
end Ev

/-! Ev5: expressions, one construct after the other. -/
namespace Ev
open PySem PySem.Spec PyProof.Rows L2
open LamX (Tabs)

theorem Res.fz_bind {β : Type} (r : Res TV) (k : TV → Sto → Res β) : r.fz.bind k = r.bind fun t M => k t.fz M := by cases r <;> rfl
theorem freezes_fz (t : TV) : freezes t.fz = freezes t := by cases t <;> rfl
section
variable {X : Cx} {S : Stat} {W : WX} {a b c : Expr} {fa fb fc : Env' → Sto → Res TV} {pos : Pos}

theorem pe_kE {d : PyData} {x : Const} {j : Nat} (h : (x = .none ∧ d = .none) ∨ (∃ b, x = .bool b ∧ d = .bool b) ∨ (∃ i, x = .int i ∧ d = .int i) ∨ (∃ z, x = .str z ∧ d = .str z)) :
    PE X (.Constant x j pos) (tE S (fun _ M => .ok (.v (.d d)) M) W) := by
  rcases h with ⟨rfl, rfl⟩ | ⟨b, rfl, rfl⟩ | ⟨i, rfl, rfl⟩ | ⟨z, rfl, rfl⟩
  · exact PE.imp pe_non fun σ H Q ⟨F, as, ρ, M, s, e, w⟩ => wp_d s w .non
  · exact PE.imp pe_bl fun σ H Q ⟨F, as, ρ, M, s, e, w⟩ => wp_d s w (.bl b)
  · exact PE.imp pe_int fun σ H Q ⟨F, as, ρ, M, s, e, w⟩ => wp_d s w (.int i)
  · exact PE.imp pe_str fun σ H Q ⟨F, as, ρ, M, s, e, w⟩ => wp_d s w (.str z)
theorem pe_vE {i : Nat} {x : Str} (hN : X.N[i]? = some x) (hv : Vis X.env.scope x) (hd : (x == ("__debug__" : Str)) = false) (hcd : (x == ("__classdict__" : Str)) = false) :
    PE X (.Name x pos) (tE S (varK i) W) := PE.imp (pe_var hN hv hd hcd) fun σ H Q ⟨F, as, ρ, M, s, e, w⟩ => by
  unfold varK at w
  split at w
  · exact w.elim
  · rename_i x hn hx
    obtain ⟨v, h1, h2⟩ := e.at_ i x hx
    refine ⟨v, h1, w v F H as .refl s (h2.to ?_)⟩
    cases x <;> first | rfl | exact (hn _ rfl).elim
  · exact w.elim
theorem pe_gE {x : Str} {z : Int} {t : Tok} (hg : Gl X x) (hm : X.mg x = some (.int z t)) (hd : (x == ("__debug__" : Str)) = false) :
    PE X (.Name x pos) (tE S (fun _ M => .ok (.v (.d (.int z))) M) W) := PE.imp (pe_glob (v := .int z) hg hm ⟨t, rfl⟩ hd) fun σ H Q ⟨F, as, ρ, M, s, e, w⟩ => wp_d s w (.int z)
/-- two parts, one step behind them -/
theorem two {α' β' : Type} {R' : Rel S α' β'} {k : TV → TV → Sto → Res α'} {σ : L2.St} {H : Hp} {Q : β' → Hp → Prop} {R : V → V → Hp → Prop}
    (h : tG S R' (fun ρ M => (fa ρ M).bind fun ta M1 => (fb ρ M1).bind (k ta)) W σ H Q)
    (hq : ∀ F H as M ta tb v u H0 as0 H1 as1, Sr S F H as M → Tr S.K H0 as0 F H as ta v → Tr S.K H1 as1 F H as tb u → WpG S R' (fun c d H' => W c d σ H') F H as (k ta tb M) Q → R v u H) :
    tE S fa W σ H fun v H1 => tE S fb W σ H1 fun u H2 => R v u H2 :=
  tG.bind (k := fun ρ ta M1 => (fb ρ M1).bind (k ta)) h fun F1 H1 as1 ρ M1 H0 as0 ta v s1 e1 t1 w1 => ⟨F1, as1, ρ, M1, s1, e1, WpG.bind (k := k ta) w1 fun tb M2 u F2 H2 as2 _ nx s2 t2 w2 =>
    hq F2 H2 as2 M2 ta tb v u H0 as0 H1 as1 s2 (Tr.mono nx t1) t2 w2⟩
theorem one {α' β' : Type} {R' : Rel S α' β'} {k : TV → Sto → Res α'} {σ : L2.St} {H : Hp} {Q : β' → Hp → Prop} {R : V → Hp → Prop}
    (h : tG S R' (fun ρ M => (fa ρ M).bind k) W σ H Q)
    (hq : ∀ F H as M ta v H0 as0, Sr S F H as M → Tr S.K H0 as0 F H as ta v → WpG S R' (fun c d H' => W c d σ H') F H as (k ta M) Q → R v H) :
    tE S fa W σ H fun v H1 => R v H1 :=
  tG.bind (k := fun _ ta M1 => k ta M1) h fun F1 H1 as1 ρ M1 H0 as0 ta v s1 e1 t1 w1 => hq F1 H1 as1 M1 ta v H0 as0 s1 t1 w1
theorem pe_binE (hK : X.K = S.K) (o : BOp) (ha : PE X a (tE S fa W)) (hb : PE X b (tE S fb W)) :
    PE X (.BinOp a (opOf o) b pos) (tE S (fun ρ M => (fa ρ M).bind fun ta M1 => (fb ρ M1).bind (binK o ta)) W) :=
  PE.imp (pe_op (op_bin hK o) ha hb) fun σ H Q h => two h fun F2 H2 as2 M2 ta tb v u _ _ _ _ s2 t1 t2 w2 => by
    unfold binK at w2
    split at w2
    · rename_i x y hx hy
      exact ⟨_, F2, as2, M2, x, y, s2, peek_ok s2 t1 hx, peek_ok s2 t2 hy, w2⟩
    · exact w2.elim
theorem pe_repE (ha : PE X a (tE S fa W)) (hb : PE X b (tE S fb W)) :
    PE X (.BinOp a .Mult b pos) (tE S (fun ρ M => (fa ρ M).bind fun ta M1 => (fb ρ M1).bind (repK ta)) W) :=
  PE.imp (pe_op op_rep ha hb) fun σ H Q h => two h fun F2 H2 as2 M2 ta tb v u _ _ _ _ s2 t1 t2 w2 => by
    unfold repK at w2
    split at w2
    · rename_i xs k
      cases hz : (decide (0 ≤ k) && decide (k ≤ 1000) && decide (xs.length ≤ 1000)) with
      | true =>
        rw [hz] at w2
        simp only [Bool.and_eq_true, decide_eq_true_eq] at hz
        obtain ⟨⟨z1, z2⟩, z3⟩ := hz
        obtain ⟨p, vs, e, h1, h2, h3, h4, _⟩ := t1
        have t2' : Dp S.K F2 u (.int k) := t2
        cases t2'
        subst e
        have hl := dpAll_len h4
        exact ⟨p, k, vs, rfl, rfl, h3, by omega, by omega, (by
          rw [sizeLine_eq]
          have a1 : vs.length * k.toNat ≤ 1000 * 1000 := Nat.mul_le_mul (by omega) (by omega)
          omega), fun q hq => wp_own s2 w2 (dpAll_rep h4 _) hq⟩
      | false => rw [hz] at w2; exact w2.elim
    · exact w2.elim
theorem pe_negE (ha : PE X a (tE S fa W)) : PE X (.UnaryOp .USub a pos) (tE S (fun ρ M => (fa ρ M).bind negK) W) :=
  PE.imp (pe_un un_neg ha) fun σ H Q h => one h fun F1 H1 as1 M1 ta v _ _ s1 t1 w1 => by
    unfold negK at w1
    split at w1
    · rename_i i
      have t1' : Dp S.K F1 v (.int i) := t1
      cases t1'
      exact ⟨i, rfl, wp_d s1 w1 (.int (-i))⟩
    · exact w1.elim
theorem cmpB_ok {H0 H1 F H : Hp} {as0 as1 as : AS} {M : Sto} {o : COp} {ta tb : TV} {v u : V} {b : Bool} {q : Bool → Prop} (s : Sr S F H as M) (t1 : Tr S.K H0 as0 F H as ta v) (t2 : Tr S.K H1 as1 F H as tb u)
    (e : cmpB o ta tb M = some b) (hq : q b) : rCmp S o v u H q := by
  unfold cmpB at e
  split at e
  · rename_i x y hx hy
    exact ⟨F, as, M, x, y, b, s, peek_ok s t1 hx, peek_ok s t2 hy, e, hq⟩
  · cases e
theorem pe_cmpE (hK : X.K = S.K) (hu : X.A.units + 64 < cLine) (o : COp) (ha : PE X a (tE S fa W)) (hb : PE X b (tE S fb W)) (hm : behindInMarks (copOf o) b = false) :
    PE X (.Compare a [copOf o] [b] pos) (tE S (fun ρ M => (fa ρ M).bind fun ta M1 => (fb ρ M1).bind (cmpK o ta)) W) :=
  PE.imp (pe_cmpR (op_cmp hK hu o) ha hb hm) fun σ H Q h => two h fun F2 H2 as2 M2 ta tb v u _ _ _ _ s2 t1 t2 w2 => by
    unfold cmpK at w2
    cases hz : cmpB o ta tb M2 with
    | some d =>
      rw [hz] at w2
      exact cmpB_ok s2 t1 t2 hz (wp_d s2 w2 (.bl d))
    | none => rw [hz] at w2; exact w2.elim
theorem pe_chnE (hK : X.K = S.K) (hu : X.A.units + 64 < cLine) (o p : COp) (ha : PE X a (tE S fa W)) (hb : PE X b (tE S fb W)) (hc : PE X c (tE S fc W)) (hm : lastMarks [copOf o, copOf p] [b, c] = false) :
    PE X (.Compare a [copOf o, copOf p] [b, c] pos) (tE S (fun ρ M => (fa ρ M).bind fun ta M1 => (fb ρ M1).bind fun tb M2 => match cmpB o ta tb M2 with
    | some true => (fc ρ M2).bind (cmpK p tb)
    | some false => .ok (.v (.d (.bool false))) M2
    | none => .stuck) W) :=
  PE.imp (pe_chain (op_cmp hK hu o) (op_cmp hK hu p) ha hb hc hm) fun σ H Q h => by
    obtain ⟨F, as, ρ, M, s, e, w⟩ := h
    refine ⟨F, as, ρ, M, s, e, WpG.bind w fun ta M1 v F1 H1 as1 _ nx s1 t1 w1 => ⟨F1, as1, ρ, M1, s1, e.mono nx, WpG.bind w1 fun tb M2 u F2 H2 as2 _ nx2 s2 t2 w2 => ?_⟩⟩
    have t1' := Tr.mono nx2 t1
    cases hz : cmpB o ta tb M2 with
    | some d =>
      rw [hz] at w2
      refine cmpB_ok s2 t1' t2 hz ⟨d, rfl, ?_⟩
      cases d with
      | false => exact iteF (wp_d s2 w2 (.bl false))
      | true =>
        refine iteT ⟨F2, as2, ρ, M2, s2, (e.mono nx).mono nx2, WpG.bind (k := cmpK p tb) w2 fun tc M3 w' F3 H3 as3 _ nx3 s3 t3 w3 => ?_⟩
        unfold cmpK at w3
        cases hz : cmpB p tb tc M3 with
        | some d =>
          rw [hz] at w3
          exact cmpB_ok s3 (Tr.mono nx3 t2) t3 hz (wp_d s3 w3 (.bl d))
        | none => rw [hz] at w3; exact w3.elim
    | none => rw [hz] at w2; exact w2.elim
theorem pk_isNone {K : KO} {F H : Hp} {v : V} {x : PyData} (h : Pk K F H v x) : decide (v = .non) = isNone x := by
  rcases h with h | ⟨a, vs, ds, e, h1, _⟩
  · cases h with
    | obj z =>
      obtain ⟨a, rfl⟩ := K.rf z
      rfl
    | _ => rfl
  · rw [e, h1]; rfl
theorem pe_isNE {j : Nat} {p' : Pos} (ha : PE X a (tE S fa W)) : PE X (.Compare a [.Is] [.Constant .none j p'] pos) (tE S (fun ρ M => (fa ρ M).bind (isNK true)) W) :=
  PE.imp (pe_cmp (pc_isN ha) rfl) fun σ H Q h => one h fun F1 H1 as1 M1 ta v _ _ s1 t1 w1 => by
    unfold isNK at w1
    cases hx : peek M1 ta with
    | some x =>
      rw [hx] at w1
      rw [pk_isNone (peek_ok s1 t1 hx)]
      have e : (isNone x == true) = isNone x := by cases isNone x <;> rfl
      rw [← e]
      exact wp_d s1 w1 (.bl _)
    | none => rw [hx] at w1; exact w1.elim
theorem pe_nsNE {j : Nat} {p' : Pos} (ha : PE X a (tE S fa W)) : PE X (.Compare a [.IsNot] [.Constant .none j p'] pos) (tE S (fun ρ M => (fa ρ M).bind (isNK false)) W) :=
  PE.imp (pe_cmp (pc_notN ha) rfl) fun σ H Q h => one h fun F1 H1 as1 M1 ta v _ _ s1 t1 w1 => by
    unfold isNK at w1
    cases hx : peek M1 ta with
    | some x =>
      rw [hx] at w1
      rw [pk_isNone (peek_ok s1 t1 hx)]
      have e : (isNone x == false) = !isNone x := by cases isNone x <;> rfl
      rw [← e]
      exact wp_d s1 w1 (.bl _)
    | none => rw [hx] at w1; exact w1.elim
theorem asB_tr {H0 F H : Hp} {as0 as : AS} {M : Sto} {t : TV} {v : V} {W' : XK} {β β' : Type} {R : Rel S β β'} {k : Bool → Sto → Res β} {Q : β' → Hp → Prop} (h : Tr S.K H0 as0 F H as t v) (w : WpG S R W' F H as ((asB t M).bind k) Q) : ∃ c, v = .bl c ∧ WpG S R W' F H as (k c M) Q := by
  unfold asB at w
  split at w
  · rename_i b
    have h' : Dp S.K F v (.bool b) := h
    cases h'
    exact ⟨b, rfl, w⟩
  · exact w.elim
theorem pe_andE {rest : List Expr} (ha : PE X a (tE S fa W)) (hb : PE X (.BoolOp .And (b :: rest) pos) (tE S fb W)) :
    PE X (.BoolOp .And (a :: b :: rest) pos) (tE S (fun ρ M => (fa ρ M).bind fun ta M1 => (asB ta M1).bind fun c M1 => if c = true then fb ρ M1 else .ok (.v (.d (.bool false))) M1) W) :=
  PE.imp (pe_and ha hb) fun σ H Q h => tG.bind (k := fun ρ ta M1 => (asB ta M1).bind fun c M1 => if c = true then fb ρ M1 else .ok (.v (.d (.bool false))) M1) h fun F1 H1 as1 ρ M1 H0 as0 ta v s1 e1 t1 w1 => by
    obtain ⟨c, ev, w2⟩ := asB_tr t1 w1
    refine ⟨c, ev, ?_⟩
    cases c with
    | true => exact iteT ⟨F1, as1, ρ, M1, s1, e1, w2⟩
    | false => exact iteF (wp_d s1 w2 (.bl false))
theorem pe_orE {rest : List Expr} (ha : PE X a (tE S fa W)) (hb : PE X (.BoolOp .Or (b :: rest) pos) (tE S fb W)) :
    PE X (.BoolOp .Or (a :: b :: rest) pos) (tE S (fun ρ M => (fa ρ M).bind fun ta M1 => (asB ta M1).bind fun c M1 => if c = true then .ok (.v (.d (.bool true))) M1 else fb ρ M1) W) :=
  PE.imp (pe_or ha hb) fun σ H Q h => tG.bind (k := fun ρ ta M1 => (asB ta M1).bind fun c M1 => if c = true then .ok (.v (.d (.bool true))) M1 else fb ρ M1) h fun F1 H1 as1 ρ M1 H0 as0 ta v s1 e1 t1 w1 => by
    obtain ⟨c, ev, w2⟩ := asB_tr t1 w1
    refine ⟨c, ev, ?_⟩
    cases c with
    | true => exact iteT (wp_d s1 w2 (.bl true))
    | false => exact iteF ⟨F1, as1, ρ, M1, s1, e1, w2⟩
theorem pe_notE (ha : PE X a (tE S fa W)) : PE X (.UnaryOp .Not a pos) (tE S (fun ρ M => (fa ρ M).bind fun ta M1 => (asB ta M1).bind fun c M1 => .ok (.v (.d (.bool (!c)))) M1) W) :=
  PE.imp (pe_not ha) fun σ H Q h => tG.bind (k := fun ρ ta M1 => (asB ta M1).bind fun c M1 => Res.ok (TV.v (.d (.bool (!c)))) M1) h fun F1 H1 as1 ρ M1 H0 as0 ta v s1 e1 t1 w1 => by
    obtain ⟨c, ev, w2⟩ := asB_tr t1 w1
    exact ⟨c, ev, wp_d s1 w2 (.bl (!c))⟩
/-- a test: the answer's truth -/
abbrev tT (S : Stat) (f : Env' → Sto → Res TV) (W : WX) : TT := tG S (RB S) (fun ρ M => (f ρ M).bind asB) W
theorem PT.imp {X : Cx} {e : Expr} {t t' : TT} (h : PT X e t) (hi : ∀ σ H Q, t' σ H Q → t σ H Q) : PT X e t' := ⟨fun pins s σ H Q I q => h.run pins s σ H Q I (hi σ H Q q)⟩
theorem bind_assoc {α β γ : Type} (r : Res α) (f : α → Sto → Res β) (g : β → Sto → Res γ) : (r.bind f).bind g = r.bind fun a M => (f a M).bind g := by cases r <;> rfl
theorem pe_iteE (hc : PT X c (tT S fc W)) (ha : PE X a (tE S fa W)) (hb : PE X b (tE S fb W)) :
    PE X (.IfExp c a b pos) (tE S (fun ρ M => (fc ρ M).bind fun tc M1 => (asB tc M1).bind fun c M1 => if c = true then fa ρ M1 else fb ρ M1) W) :=
  PE.imp (pe_ifExp hc ha hb) fun σ H Q h => by
    obtain ⟨F, as, ρ, M, s, e, w⟩ := h
    refine ⟨F, as, ρ, M, s, e, ?_⟩
    have w' : Wp S (fun c d H' => W c d σ H') F H as (((fc ρ M).bind asB).bind fun c M1 => if c = true then fa ρ M1 else fb ρ M1) Q := by
      rw [bind_assoc]; exact w
    refine WpG.bind w' fun k M1 k' F1 H1 as1 _ nx s1 t1 w1 => ?_
    obtain rfl : k = k' := t1
    cases k with
    | true => exact iteT ⟨F1, as1, ρ, M1, s1, e.mono nx, w1⟩
    | false => exact iteF ⟨F1, as1, ρ, M1, s1, e.mono nx, w1⟩
/-! ### arguments -/
def notStar : Expr → Bool
  | .Starred _ _ => false
  | _ => true
theorem star_of {e : Expr} {es : List Expr} {env : Env} (h : notStar e = true) : starEach (e :: es) env = (false, eval e env) :: starEach es env := by
  cases e <;> first
    | (exact absurd (show false = true from h) Bool.false_ne_true)
    | rfl
theorem backTo_cons (pos : Pos) (p q : Bool × Sem Value) (r : List (Bool × Sem Value)) : ((backTo pos (q :: r)).any (·.1) = false) → p.1 = false → (backTo pos (p :: q :: r)).any (·.1) = false := fun h hp => by
  show (p.1 || (backTo pos (q :: r)).any (·.1)) = false
  rw [hp, h]; rfl
theorem noStars {pos : Pos} {env : Env} : ∀ {es : List Expr}, es.all notStar = true → (backTo pos (starEach es env)).any (·.1) = false
  | [], _ => rfl
  | [e], h => by
    rw [List.all_cons, Bool.and_eq_true] at h
    rw [star_of h.1]
    rfl
  | e :: e2 :: es, h => by
    rw [List.all_cons, Bool.and_eq_true] at h
    have ih := noStars (pos := pos) (env := env) (es := e2 :: es) h.2
    have h2 := h.2
    rw [List.all_cons, Bool.and_eq_true] at h2
    rw [star_of h.1]
    rw [star_of h2.1] at ih ⊢
    exact backTo_cons pos _ _ _ ih rfl
theorem fz_v {r : Res TV} {t : TV} {M : Sto} (h : r.fz = .ok t M) : ∃ x, t = .v x := by
  cases r with
  | ok t' M' =>
    have h' : Res.ok t'.fz M' = .ok t M := h
    injection h' with h1 h2
    subst h1
    cases t' with
    | v x => exact ⟨x, rfl⟩
    | own ds => exact ⟨_, rfl⟩
  | err x M' => cases h
  | stuck => cases h
abbrev tV (S : Stat) (f : Env' → Sto → Res (List VV)) (W : WX) : TA := tG S (RV S) f W
abbrev tTs (S : Stat) (f : Env' → Sto → Res (List TV)) (W : WX) : TA := tG S (RTs S) f W
theorem PA.imp {X : Cx} {es : List Expr} {t t' : TA} (h : PA X es t) (hi : ∀ σ H Q, t' σ H Q → t σ H Q) : PA X es t' := ⟨fun pos pins s σ H Q I q => h.run pos pins s σ H Q I (hi σ H Q q)⟩
theorem pa_nilV : PA X [] (tV S (fun _ M => .ok [] M) W) := PA.imp pa_nil fun σ H Q ⟨F, as, ρ, M, s, e, w⟩ => w [] F H as .refl s .nil
theorem pa_nilT : PA X [] (tTs S (fun _ M => .ok [] M) W) := PA.imp pa_nil fun σ H Q ⟨F, as, ρ, M, s, e, w⟩ => w [] F H as .refl s .nil
theorem pa_consT {es : List Expr} {fs : Env' → Sto → Res (List TV)} (hs : notStar a = true) (ha : PE X a (tE S fa W)) (hr : PA X es (tTs S fs W)) :
    PA X (a :: es) (tTs S (fun ρ M => (fa ρ M).bind fun t M1 => (fs ρ M1).bind fun xs M2 => .ok (t :: xs) M2) W) :=
  PA.imp (pa_cons ha hr (star_of hs)) fun σ H Q h => tG.bind (k := fun ρ t M1 => (fs ρ M1).bind fun xs M2 => .ok (t :: xs) M2) h fun F1 H1 as1 ρ M1 H0 as0 ta v s1 e1 t1 w1 => ⟨F1, as1, ρ, M1, s1, e1, by
    refine WpG.bind (k := fun xs M2 => .ok (ta :: xs) M2) w1 fun xs M2 vs F2 H2 as2 _ nx s2 t2 w2 => ?_
    exact w2 (v :: vs) F2 H2 as2 .refl s2 (.cons ⟨H0, as0, Tr.mono nx t1⟩ t2)⟩
theorem pa_consV {es : List Expr} {fs : Env' → Sto → Res (List VV)} (hs : notStar a = true) (ha : PE X a (tE S fa W)) (hr : PA X es (tV S fs W)) :
    PA X (a :: es) (tV S (fun ρ M => (fa ρ M).bind fun t M1 => (fs ρ M1).bind fun xs M2 => .ok (freezes t :: xs) M2) W) :=
  PA.imp (pa_cons (PE.fz ha) hr (star_of hs)) fun σ H Q h => by
    have h' : tV S (fun ρ M => (fa ρ M).fz.bind fun t M1 => (fs ρ M1).bind fun xs M2 => .ok (freezes t :: xs) M2) W σ H Q := by
      have e : (fun (ρ : Env') (M : Sto) => (fa ρ M).fz.bind fun t M1 => (fs ρ M1).bind fun xs M2 => Res.ok (freezes t :: xs) M2) = fun ρ M => (fa ρ M).bind fun t M1 => (fs ρ M1).bind fun xs M2 => .ok (freezes t :: xs) M2 := by
        funext ρ M
        rw [Res.fz_bind]
        congr 1
        funext t M1
        rw [freezes_fz]
      rw [e]; exact h
    obtain ⟨F, as, ρ, M, s, e, w⟩ := h'
    refine ⟨F, as, ρ, M, s, e, WpG.bind (R := RT S) (r := (fa ρ M).fz) (k := fun t M1 => (fs ρ M1).bind fun xs M2 => .ok (freezes t :: xs) M2) w fun ta M1 v F1 H1 as1 heq nx s1 t1 w1 => ⟨F1, as1, ρ, M1, s1, e.mono nx, ?_⟩⟩
    refine WpG.bind (k := fun xs M2 => .ok (freezes ta :: xs) M2) w1 fun xs M2 vs F2 H2 as2 _ nx s2 t2 w2 => ?_
    refine w2 (v :: vs) F2 H2 as2 .refl s2 (.cons ?_ t2)
    obtain ⟨x, ex⟩ := fz_v heq
    subst ex
    exact Vr.mono nx t1
end
end Ev

/-! Ev6: displays, items, slices, calls, tests. -/
namespace Ev
open PySem PySem.Spec PyProof.Rows L2
open LamX (Tabs)

section
variable {X : Cx} {S : Stat} {W : WX} {a b c : Expr} {fa fb fc : Env' → Sto → Res TV} {pos : Pos}
theorem datL_ok {K : KO} {F : Hp} {as : AS} : ∀ {xs : List VV} {vs : List V} {ds : List PyData}, Paired (Vr K F as) xs vs → datL xs = some ds → DpAll K F vs ds
  | [], _, _, .nil, e => by cases e; exact .nil
  | .d x :: xs, _, ds, .cons h1 h2, e => by
    have e' : (datL xs).map (x :: ·) = some ds := e
    cases q : datL xs with
    | none => rw [q] at e'; cases e'
    | some es =>
      rw [q] at e'
      obtain rfl : x :: es = ds := Option.some.inj e'
      exact .cons h1 (datL_ok h2 q)
  | .ref _ :: _, _, _, .cons _ _, e => by cases e
  | .raw _ :: _, _, _, .cons _ _, e => by cases e
  | .fn _ :: _, _, _, .cons _ _, e => by cases e
theorem peeks_ok {F H : Hp} {as : AS} {M : Sto} (s : Sr S F H as M) : ∀ {ts : List TV} {vs : List V} {xs : List PyData}, Paired (fun t v => ∃ H0 as0, Tr S.K H0 as0 F H as t v) ts vs → peeks M ts = some xs → PkL S.K F H vs xs
  | [], _, _, .nil, e => by cases e; trivial
  | t :: ts, _, xs, .cons ⟨H0, as0, h1⟩ h2, e => by
    have e' : ((peek M t).bind fun x => (peeks M ts).map (x :: ·)) = some xs := e
    cases q : peek M t with
    | none => rw [q] at e'; cases e'
    | some x =>
      rw [q] at e'
      have e2 : (peeks M ts).map (x :: ·) = some xs := e'
      cases q2 : peeks M ts with
      | none => rw [q2] at e2; cases e2
      | some ys =>
        rw [q2] at e2
        obtain rfl : x :: ys = xs := Option.some.inj e2
        exact ⟨peek_ok s h1 q, peeks_ok s h2 q2⟩
theorem pe_tupE {es : List Expr} {j : Nat} {fs : Env' → Sto → Res (List VV)} (h : PA X es (tV S fs W)) : PE X (.Tuple es j pos) (tE S (fun ρ M => (fs ρ M).bind tupK) W) :=
  PE.imp (pe_tup h) fun σ H Q h => tG.bind (k := fun _ xs M => tupK xs M) h fun F1 H1 as1 ρ M1 _ _ xs vs s1 e1 t1 w1 => by
    unfold tupK at w1
    cases q : datL xs with
    | none => rw [q] at w1; exact w1.elim
    | some ds =>
      rw [q] at w1
      have w2 : Wp S (fun c d H' => W c d σ H') F1 H1 as1 (lift (if lenOk ds.length then some (.v (.d (.tuple ds))) else none) M1) Q := w1
      cases hz : lenOk ds.length with
      | true =>
        rw [hz] at w2
        have d := datL_ok t1 q
        exact ⟨by rw [dpAll_len d]; exact lenOk_le hz, fun p hp => wp_tup s1 w2 d hp⟩
      | false => rw [hz] at w2; exact w2.elim
theorem pe_lstE {es : List Expr} {fs : Env' → Sto → Res (List VV)} (h : PA X es (tV S fs W)) : PE X (.List es pos) (tE S (fun ρ M => (fs ρ M).bind lstK) W) :=
  PE.imp (pe_lst h) fun σ H Q h => tG.bind (k := fun _ xs M => lstK xs M) h fun F1 H1 as1 ρ M1 _ _ xs vs s1 e1 t1 w1 => by
    unfold lstK at w1
    cases q : datL xs with
    | none => rw [q] at w1; exact w1.elim
    | some ds =>
      rw [q] at w1
      have w2 : Wp S (fun c d H' => W c d σ H') F1 H1 as1 (lift (if lenOk ds.length then some (.own ds) else none) M1) Q := w1
      cases hz : lenOk ds.length with
      | true =>
        rw [hz] at w2
        have d := datL_ok t1 q
        exact ⟨by rw [dpAll_len d]; exact lenOk_le hz, fun p hp => wp_own s1 w2 d hp⟩
      | false => rw [hz] at w2; exact w2.elim
/-! ### items, slices -/
theorem Vi.vr {K : KO} {F : Hp} {as : AS} {n : Nat} (hn : n < as.length) : ∀ {x : VV} {v : V}, Vi K F as n x v → Vr K F as x v
  | .d _, _, h => h
  | .ref _, _, h => ⟨Nat.lt_trans h.1 hn, h.2⟩
  | .raw _, _, h => h.elim
  | .fn _, _, h => h.elim
theorem paired_at {α β : Type} {R : α → β → Prop} : ∀ {l : List α} {m : List β} {i : Nat} {x : α}, Paired R l m → l[i]? = some x → ∃ y, m[i]? = some y ∧ R x y
  | _, _, _, _, .nil, e => by simp at e
  | _, _, 0, _, .cons h _, e => by simp at e; subst e; exact ⟨_, rfl, h⟩
  | _, _, i + 1, _, .cons _ h, e => by
    obtain ⟨y, h1, h2⟩ := paired_at (i := i) h (by simpa using e)
    exact ⟨y, by simpa using h1, h2⟩
theorem vi_at {K : KO} {F : Hp} {as : AS} {n : Nat} {xs : List VV} {vs : List V} {i : Int} {x : VV} (h : Paired (Vi K F as n) xs vs) (e : atI xs i = some x) : ∃ v, atI vs i = some v ∧ Vi K F as n x v := by
  unfold atI at e ⊢
  rw [← Paired.length h]
  cases q : ixN xs.length i with
  | none => rw [q] at e; cases e
  | some j =>
    rw [q] at e
    exact paired_at h e
def notSlice : Expr → Bool
  | .Slice _ _ _ _ => false
  | _ => true
theorem plain_of {e : Expr} (h : notSlice e = true) : PlainIx e := by
  intro o i
  cases e <;> first
    | (exact absurd (show false = true from h) Bool.false_ne_true)
    | rfl
theorem pe_ixE (hK : X.K = S.K) (hs : notSlice b = true) (ha : PE X a (tE S fa W)) (hb : PE X b (tE S fb W)) :
    PE X (.Subscript a b pos) (tE S (fun ρ M => (fa ρ M).bind fun ta M1 => (fb ρ M1).bind (ixK ta)) W) :=
  PE.imp (pe_ix ((ix_D hK).or ix_list) ha hb (plain_of hs)) fun σ H Q h => two h fun F2 H2 as2 M2 ta tb v u _ _ _ _ s2 t1 t2 w2 => by
    unfold ixK at w2
    split at w2
    · rename_i xs hv
      right
      unfold ixV at w2
      split at w2
      · rename_i i
        have t2' : Dp S.K F2 u (.int i) := t2
        cases t2'
        unfold vlsOf at hv
        split at hv
        · rename_i n
          split at hv
          · rename_i ys hn
            cases hv
            obtain ⟨a, vs, h1, h2, h3⟩ := s2.vls n xs hn
            have t1' : Vr S.K F2 as2 (.ref n) v := t1
            have ev := t1'.2 a h1
            cases hz : atI xs i with
            | none => rw [hz] at w2; exact w2.elim
            | some x =>
              rw [hz] at w2
              obtain ⟨w', g1, g2⟩ := vi_at h3 hz
              exact ⟨a, vs, i, w', ev, rfl, SqL.of h2, g1, w2 w' F2 H2 as2 .refl s2 (Vi.vr t1'.1 g2)⟩
          · cases hv
        · cases hv
      · exact w2.elim
    · left
      split at w2
      · rename_i x y hx hy
        cases hz : ixD x y with
        | some z =>
          rw [hz] at w2
          exact ⟨F2, as2, M2, x, y, z, s2, peek_ok s2 t1 hx, peek_ok s2 t2 hy, hz, fun w' d => wp_d s2 w2 d⟩
        | none => rw [hz] at w2; exact w2.elim
      · exact w2.elim
abbrev tPt (S : Stat) (f : Env' → Sto → Res (Option Int)) (W : WX) : TO := tG S (ROp S) f W
theorem PO.imp {X : Cx} {e : Option Expr} {t t' : TO} (h : PO X e t) (hi : ∀ σ H Q, t' σ H Q → t σ H Q) : PO X e t' := ⟨fun pins s σ H Q I q => h.run pins s σ H Q I (hi σ H Q q)⟩
theorem po_noneE : PO X none (tPt S (fun _ M => .ok none M) W) := PO.imp po_none fun σ H Q ⟨F, as, ρ, M, s, e, w⟩ => w none F H as .refl s rfl
theorem po_someE (ha : PE X a (tE S fa W)) : PO X (some a) (tPt S (fun ρ M => (fa ρ M).bind partK) W) :=
  PO.imp (po_some ha) fun σ H Q h => one h fun F1 H1 as1 M1 ta v _ _ s1 t1 w1 => by
    unfold partK at w1
    split at w1
    · rename_i i
      have t1' : Dp S.K F1 v (.int i) := t1
      cases t1'
      exact ⟨i, rfl, w1 (some i) F1 H1 as1 .refl s1 rfl⟩
    · exact w1.elim
theorem pe_slE {lo hi : Option Expr} {fl fh : Env' → Sto → Res (Option Int)} {p2 : Pos} (hK : X.K = S.K) (ha : PE X a (tE S fa W)) (hl : PO X lo (tPt S fl W)) (hh : PO X hi (tPt S fh W)) :
    PE X (.Subscript a (.Slice lo hi none p2) pos) (tE S (fun ρ M => (fa ρ M).bind fun ta M1 => (fl ρ M1).bind fun l M2 => (fh ρ M2).bind (slK ta l)) W) :=
  PE.imp (pe_slice (sl_D hK) ha hl hh) fun σ H Q h => by
    obtain ⟨F, as, ρ, M, s, e, w⟩ := h
    refine ⟨F, as, ρ, M, s, e, WpG.bind w fun ta M1 v F1 H1 as1 _ nx s1 t1 w1 => ⟨F1, as1, ρ, M1, s1, e.mono nx, WpG.bind w1 fun l M2 l' F2 H2 as2 _ nx2 s2 t2 w2 => ⟨F2, as2, ρ, M2, s2, (e.mono nx).mono nx2, WpG.bind (k := slK ta l) w2 fun h M3 h' F3 H3 as3 _ nx3 s3 t3 w3 => ?_⟩⟩⟩
    obtain rfl : l = l' := t2
    obtain rfl : h = h' := t3
    unfold slK at w3
    split at w3
    · rename_i x hx
      exact ⟨_, F3, as3, M3, x, s3, peek_ok s3 (Tr.mono nx3 (Tr.mono nx2 t1)) hx, w3⟩
    · exact w3.elim
/-! ### calls -/
/-- what a def promises: what the evaluator says -/
def spF (S : Stat) (n : Nat) (f : List VV → Sto → Res TV) : Sp := fun vs H Q E => vs.length = n ∧ ∃ F as M xs, Sr S F H as M ∧ Paired (Vr S.K F as) xs vs ∧ Wp S E F H as (f xs M) Q
/-- the def of the name x stands at its place and keeps its promise -/
structure FnT (S : Stat) (k : Nat) (x : Str) (f : List VV → Sto → Res TV) : Prop where
  ex : ∃ (a : Addr) (fd : FuncData) (ps : List Str), S.mg x = some (.ref a) ∧ PySem.W.keepIn S.K (.ref a) = true ∧ L2.Binds S.K fd ps [] ∧ FnOk S.P S.w S.K S.mg S.base (L2N.CX S.P S.w) k a fd ps (spF S ps.length f) ∧ ∀ xs M, xs.length ≠ ps.length → f xs M = .stuck
theorem pe_callE {x : Str} {e : Expr} {es : List Expr} {p : Pos} {k : Nat} {f : List VV → Sto → Res TV} {fs : Env' → Sto → Res (List VV)} (T : FnT S k x f) (hP : X.prog = S.P) (hw : X.w = S.w) (hK : X.K = S.K) (hmg : X.mg = S.mg) (hbase : X.base = S.base)
    (hr : Room k X.A) (tk : L2N.Takes X W) (hg : Gl X x) (hdb : (x == ("__debug__" : Str)) = false) (hst : (e :: es).all notStar = true) (ha : PA X (e :: es) (tV S fs W)) :
    PE X (.Call (.Name x p) (e :: es) [] pos) (tE S (fun ρ M => (fs ρ M).bind f) W) := by
  obtain ⟨a, fd, ps, h1, h2, h3, h4, h5⟩ := T.ex
  have hst' := hst
  rw [List.all_cons, Bool.and_eq_true] at hst'
  rw [← hP, ← hw, ← hK, ← hmg, ← hbase] at h4
  refine PE.imp (pe_callS h4 hr hg (by rw [hmg]; exact h1) (by rw [hK]; exact h2) (by rw [hK]; exact h3) (fun σ => L2N.passAt tk σ) ha hdb (star_of hst'.1) (noStars hst'.2)) fun σ H Q h => ?_
  refine tG.bind (k := fun _ xs M => f xs M) h fun F1 H1 as1 ρ M1 _ _ xs vs s1 e1 t1 w1 => ?_
  have hl : vs.length = xs.length := (Paired.length t1).symm
  refine ⟨?_, F1, as1, M1, xs, s1, t1, w1⟩
  by_cases hn : xs.length = ps.length
  · rw [hl, hn]
  · rw [h5 xs M1 hn] at w1
    exact w1.elim
def biN : BI → Str
  | .len => "len" | .abs => "abs" | .int => "int" | .str => "str" | .sum => "sum" | .min2 => "min" | .max2 => "max" | .tuple => "tuple" | .list => "list" | .bool => "bool"
theorem biN_ok (b : BI) : bootBuiltins (biN b) = some (biF b) ∧ biN b ≠ "__name__" ∧ ((biN b) == ("__debug__" : Str)) = false := by
  cases b <;> exact ⟨by decide +kernel, by decide +kernel, by decide +kernel⟩
theorem pe_biE {e : Expr} {es : List Expr} {p : Pos} {fs : Env' → Sto → Res (List TV)} (hK : X.K = S.K) (hc : X.calm = true) (b : BI) (hg : Gl X (biN b)) (hm : X.mg (biN b) = none) (hst : (e :: es).all notStar = true) (ha : PA X (e :: es) (tTs S fs W)) :
    PE X (.Call (.Name (biN b) p) (e :: es) [] pos) (tE S (fun ρ M => (fs ρ M).bind (biK b)) W) := by
  have hst' := hst
  rw [List.all_cons, Bool.and_eq_true] at hst'
  obtain ⟨o1, o2, o3⟩ := biN_ok b
  have q := call_bi (X := X) (S := S) hK hc b
  have r : PE X (.Call (.Name (biN b) p) (e :: es) [] pos) (tCB (rBi S b) (tTs S fs W)) := by
    cases b <;> first
      | exact pe_callB q hg hm o1 ha o2 o3 (star_of hst'.1) (noStars hst'.2)
      | exact pe_callTy q hg hm o1 ha o2 o3 (star_of hst'.1) (noStars hst'.2)
  refine PE.imp r fun σ H Q h => tG.bind (k := fun _ ts M => biK b ts M) h fun F1 H1 as1 ρ M1 _ _ ts vs s1 e1 t1 w1 => ?_
  unfold biK at w1
  split at w1
  · rename_i xs hx
    exact ⟨_, F1, as1, M1, xs, s1, peeks_ok s1 t1 hx, w1⟩
  · exact w1.elim
def tyS : Ty → Str
  | .int => "int" | .bool => "bool" | .tuple => "tuple" | .str => "str" | .list => "list"
theorem tyS_ok (t : Ty) : bootBuiltins (tyS t) = some (.type (tyN t)) ∧ tyS t ≠ "__name__" ∧ ((tyS t) == ("__debug__" : Str)) = false := by
  cases t <;> exact ⟨by decide +kernel, by decide +kernel, by decide +kernel⟩
theorem isi_ok : bootBuiltins "isinstance" = some (.builtin "isinstance") := by decide +kernel
theorem pe_isiE {p p2 : Pos} (hK : X.K = S.K) (t : Ty) (hg : Gl X "isinstance") (hm : X.mg "isinstance" = none) (hg2 : Gl X (tyS t)) (hm2 : X.mg (tyS t) = none) (hst : notStar a = true) (ha : PE X a (tE S fa W)) :
    PE X (.Call (.Name "isinstance" p) [a, .Name (tyS t) p2] [] pos) (tE S (fun ρ M => (fa ρ M).bind (isiK t)) W) := by
  obtain ⟨o1, o2, o3⟩ := tyS_ok t
  have r := pe_callB (pos := pos) (p := p) (call_isi (X := X) (S := S) hK t) hg hm isi_ok (pa_cons ha (pa_cons (pe_bltn (v := .ty (tyN t)) (pos := p2) hg2 hm2 o1 rfl o2 o3) pa_nil rfl) (star_of hst)) (by decide +kernel) (by decide +kernel) (star_of hst) (by rfl)
  refine PE.imp r fun σ H Q h => one h fun F1 H1 as1 M1 ta v _ _ s1 t1 w1 => ?_
  unfold isiK at w1
  cases hx : peek M1 ta with
  | some x =>
    rw [hx] at w1
    exact ⟨F1, as1, M1, x, v, rfl, s1, peek_ok s1 t1 hx, wp_d s1 w1 (.bl _)⟩
  | none => rw [hx] at w1; exact w1.elim
theorem strsOf_ok {K : KO} {F : Hp} : ∀ {xs : List PyData} {vs : List V} {ys : List Str}, DpAll K F vs xs → strsOf xs = some ys → vs = ys.map V.str
  | [], _, ys, .nil, e => by simp only [strsOf] at e; cases e; rfl
  | .str z :: xs, _, ys, .cons h1 h2, e => by
    simp only [strsOf] at e
    cases hz : strsOf xs with
    | none => rw [hz] at e; cases e
    | some zs =>
      rw [hz] at e
      cases e
      cases h1
      rw [strsOf_ok h2 hz]
      rfl
  | .none :: _, _, _, .cons _ _, e => by simp [strsOf] at e
  | .bool _ :: _, _, _, .cons _ _, e => by simp [strsOf] at e
  | .int _ :: _, _, _, .cons _ _, e => by simp [strsOf] at e
  | .list _ :: _, _, _, .cons _ _, e => by simp [strsOf] at e
  | .tuple _ :: _, _, _, .cons _ _, e => by simp [strsOf] at e
def joinF (fa fb : Env' → Sto → Res TV) : Env' → Sto → Res TV := fun ρ M => (fa ρ M).bind fun ta M1 => if isStr ta = true then (fb ρ M1).bind (joinK ta) else .stuck
theorem pe_joinE {apos cpos : Pos} (hK : X.K = S.K) (ha : PE X a (tE S fa W)) (hb : PE X b (tE S fb W)) (hst : notStar b = true) (hbase : attributeBase a "join" X.env (eval a X.env) = eval a X.env) (hline : (apos.endLine == cpos.line) = true) :
    PE X (.Call (.Attribute a "join" apos) [b] [] cpos) (tE S (joinF fa fb) W) := by
  refine PE.imp (pe_join ha hb (star_of hst) hbase hline) fun σ H Q h => ?_
  obtain ⟨F, as, ρ, M, s, e, w⟩ := h
  refine ⟨F, as, ρ, M, s, e, WpG.bind w fun ta M1 v F1 H1 as1 _ nx s1 t1 w1 => ?_⟩
  cases hr : isStr ta with
  | false => rw [if_neg (by rw [hr]; exact Bool.false_ne_true)] at w1; exact w1.elim
  | true =>
    rw [if_pos hr] at w1
    unfold isStr at hr
    split at hr
    · rename_i z het
      have t1' : Dp S.K F1 v (.str z) := t1
      cases t1'
      refine ⟨⟨z, rfl⟩, F1, as1, ρ, M1, s1, e.mono nx, WpG.bind (k := joinK (.v (.d (.str z)))) w1 fun tb M2 u F2 H2 as2 _ nx2 s2 t2 w2 => ?_⟩
      unfold joinK at w2
      have ez : peek M2 (.v (.d (.str z))) = some (.str z) := rfl
      rw [ez] at w2
      split at w2
      · rename_i x y hx hy
        cases hx
        have py := peek_ok s2 t2 hy
        cases y with
        | list xs =>
          have w2 : Wp S (fun c d H' => W c d σ H') F2 H2 as2 (lift ((strsOf xs).bind fun ys => if decide ((ys.map (·.length)).sum + ys.length * z.length ≤ 16777216) then some (.v (.d (.str (PySem.Txt.join z ys)))) else none) M2) Q := w2
          cases hs : strsOf xs with
          | none => rw [hs] at w2; exact w2.elim
          | some ys =>
            rw [hs] at w2
            have w2 : Wp S (fun c d H' => W c d σ H') F2 H2 as2 (lift (if decide ((ys.map (·.length)).sum + ys.length * z.length ≤ 16777216) then some (.v (.d (.str (PySem.Txt.join z ys)))) else none) M2) Q := w2
            cases hd : decide ((ys.map (·.length)).sum + ys.length * z.length ≤ 16777216) with
            | true =>
              rw [hd] at w2
              obtain ⟨p, vs, e1, q1, d1⟩ := py.list s2.sub
              rw [strsOf_ok d1 hs] at q1
              exact ⟨z, p, ys, rfl, by rw [e1], .inl (by rw [hK]; exact q1), of_decide_eq_true hd, wp_d s2 w2 (.str _)⟩
            | false => rw [hd] at w2; exact w2.elim
        | tuple xs =>
          have w2 : Wp S (fun c d H' => W c d σ H') F2 H2 as2 (lift ((strsOf xs).bind fun ys => if decide ((ys.map (·.length)).sum + ys.length * z.length ≤ 16777216) then some (.v (.d (.str (PySem.Txt.join z ys)))) else none) M2) Q := w2
          cases hs : strsOf xs with
          | none => rw [hs] at w2; exact w2.elim
          | some ys =>
            rw [hs] at w2
            have w2 : Wp S (fun c d H' => W c d σ H') F2 H2 as2 (lift (if decide ((ys.map (·.length)).sum + ys.length * z.length ≤ 16777216) then some (.v (.d (.str (PySem.Txt.join z ys)))) else none) M2) Q := w2
            cases hd : decide ((ys.map (·.length)).sum + ys.length * z.length ≤ 16777216) with
            | true =>
              rw [hd] at w2
              obtain ⟨p, vs, e1, q1, d1⟩ := py.tuple s2.sub
              rw [strsOf_ok d1 hs] at q1
              exact ⟨z, p, ys, rfl, by rw [e1], .inr (by rw [hK]; exact q1), of_decide_eq_true hd, wp_d s2 w2 (.str _)⟩
            | false => rw [hd] at w2; exact w2.elim
        | _ => exact w2.elim
      · exact w2.elim
    · cases hr
/-! ### tests -/
theorem pt_cmpE (hK : X.K = S.K) (hu : X.A.units + 64 < cLine) (o : COp) (ha : PE X a (tE S fa W)) (hb : PE X b (tE S fb W)) (hm : behindInMarks (copOf o) b = false) :
    PT X (.Compare a [copOf o] [b] pos) (tT S (fun ρ M => (fa ρ M).bind fun ta M1 => (fb ρ M1).bind (cmpK o ta)) W) :=
  PT.imp (pt_cmpR (op_cmp hK hu o) ha hb hm) fun σ H Q h => by
    have h' : tG S (RB S) (fun ρ M => (fa ρ M).bind fun ta M1 => (fb ρ M1).bind fun tb M2 => (cmpK o ta tb M2).bind asB) W σ H Q := by
      obtain ⟨F, as, ρ, M, s, e, w⟩ := h
      refine ⟨F, as, ρ, M, s, e, ?_⟩
      dsimp only at w
      rw [bind_assoc] at w
      have e0 : (fun (ta : TV) (M1 : Sto) => ((fb ρ M1).bind (cmpK o ta)).bind asB) = fun ta M1 => (fb ρ M1).bind fun tb M2 => (cmpK o ta tb M2).bind asB := by
        funext ta M1; rw [bind_assoc]
      rw [e0] at w
      exact w
    refine two (k := fun ta tb M2 => (cmpK o ta tb M2).bind asB) h' fun F2 H2 as2 M2 ta tb v u _ _ _ _ s2 t1 t2 w2 => ?_
    unfold cmpK at w2
    cases hz : cmpB o ta tb M2 with
    | some d =>
      rw [hz] at w2
      exact cmpB_ok s2 t1 t2 hz ⟨d, rfl, w2 d F2 H2 as2 .refl s2 rfl⟩
    | none => rw [hz] at w2; exact w2.elim
theorem pt_chnE (hK : X.K = S.K) (hu : X.A.units + 64 < cLine) (o p : COp) (ha : PE X a (tE S fa W)) (hb : PE X b (tE S fb W)) (hc : PE X c (tE S fc W)) (hm : lastMarks [copOf o, copOf p] [b, c] = false) :
    PT X (.Compare a [copOf o, copOf p] [b, c] pos) (tT S (fun ρ M => (fa ρ M).bind fun ta M1 => (fb ρ M1).bind fun tb M2 => match cmpB o ta tb M2 with
    | some true => (fc ρ M2).bind (cmpK p tb)
    | some false => .ok (.v (.d (.bool false))) M2
    | none => .stuck) W) :=
  PT.imp (pt_chain (op_cmp hK hu o) (op_cmp hK hu p) ha hb hc hm) fun σ H Q h => by
    obtain ⟨F, as, ρ, M, s, e, w⟩ := h
    dsimp only at w
    rw [bind_assoc] at w
    refine ⟨F, as, ρ, M, s, e, WpG.bind w fun ta M1 v F1 H1 as1 _ nx s1 t1 w1 => ⟨F1, as1, ρ, M1, s1, e.mono nx, ?_⟩⟩
    rw [bind_assoc] at w1
    refine WpG.bind w1 fun tb M2 u F2 H2 as2 _ nx2 s2 t2 w2 => ?_
    have t1' := Tr.mono nx2 t1
    cases hz : cmpB o ta tb M2 with
    | some d =>
      rw [hz] at w2
      refine cmpB_ok s2 t1' t2 hz ⟨d, rfl, ?_⟩
      cases d with
      | false => exact iteF ⟨false, rfl, w2 false F2 H2 as2 .refl s2 rfl⟩
      | true =>
        have w2' : WpG S (RB S) (fun c d H' => W c d σ H') F2 H2 as2 (((fc ρ M2).bind (cmpK p tb)).bind asB) Q := w2
        rw [bind_assoc] at w2'
        refine iteT ⟨F2, as2, ρ, M2, s2, (e.mono nx).mono nx2, WpG.bind (k := fun tc M3 => (cmpK p tb tc M3).bind asB) w2' fun tc M3 w' F3 H3 as3 _ nx3 s3 t3 w3 => ?_⟩
        unfold cmpK at w3
        cases hz : cmpB p tb tc M3 with
        | some d =>
          rw [hz] at w3
          exact cmpB_ok s3 (Tr.mono nx3 t2) t3 hz ⟨d, rfl, w3 d F3 H3 as3 .refl s3 rfl⟩
        | none => rw [hz] at w3; exact w3.elim
    | none => rw [hz] at w2; exact w2.elim
/-- an expression whose test is its value's truth, the value a truth value -/
theorem pt_valE (ha : PE X a (tE S fa W)) (he : ∀ whole, isTrue a X.env whole = (do let v ← whole; standAt a.pos; holding [v] (truthy v))) : PT X a (tT S fa W) :=
  PT.imp (pt_val ha he) fun σ H Q h => one (k := asB) h fun F1 H1 as1 M1 ta v _ _ s1 t1 w1 => by
    have w' : WpG S (RB S) (fun c d H' => W c d σ H') F1 H1 as1 ((asB ta M1).bind fun c M => .ok c M) Q := by
      have e : ∀ r : Res Bool, (r.bind fun c M => .ok c M) = r := fun r => by cases r <;> rfl
      rw [e]; exact w1
    obtain ⟨c, e, w2⟩ := asB_tr t1 w'
    exact ⟨c, e, w2 c F1 H1 as1 .refl s1 rfl⟩
theorem pt_notE (ha : PT X a (tT S fa W)) : PT X (.UnaryOp .Not a pos) (tT S (fun ρ M => (fa ρ M).bind fun ta M1 => (asB ta M1).bind fun c M1 => .ok (.v (.d (.bool (!c)))) M1) W) :=
  PT.imp (pt_not ha) fun σ H Q h => by
    obtain ⟨F, as, ρ, M, s, e, w⟩ := h
    refine ⟨F, as, ρ, M, s, e, ?_⟩
    have e0 : ((fa ρ M).bind fun ta M1 => (asB ta M1).bind fun c M1 => Res.ok (TV.v (.d (.bool (!c)))) M1).bind asB = ((fa ρ M).bind asB).bind fun c M1 => .ok (!c) M1 := by
      rw [bind_assoc, bind_assoc]
      congr 1
      funext ta M1
      rw [bind_assoc]
      rfl
    have w' : WpG S (RB S) (fun c d H' => W c d σ H') F H as (((fa ρ M).bind asB).bind fun c M1 => .ok (!c) M1) Q := by rw [← e0]; exact w
    refine WpG.bind w' fun k M1 k' F1 H1 as1 _ nx s1 t1 w1 => ?_
    obtain rfl : k = k' := t1
    exact w1 (!k) F1 H1 as1 .refl s1 rfl
theorem and_asB {σ : L2.St} {H : Hp} {Q : Bool → Hp → Prop} (d : Bool) (h : tT S (fun ρ M => (fa ρ M).bind fun ta M1 => (asB ta M1).bind fun c M1 => if c = d then fb ρ M1 else .ok (.v (.d (.bool (!d)))) M1) W σ H Q) :
    tT S fa W σ H fun c H1 => if c = d then tT S fb W σ H1 Q else Q (!d) H1 := by
  obtain ⟨F, as, ρ, M, s, e, w⟩ := h
  refine ⟨F, as, ρ, M, s, e, ?_⟩
  have e0 : ((fa ρ M).bind fun ta M1 => (asB ta M1).bind fun c M1 => if c = d then fb ρ M1 else Res.ok (TV.v (.d (.bool (!d)))) M1).bind asB = ((fa ρ M).bind asB).bind fun c M1 => if c = d then (fb ρ M1).bind asB else .ok (!d) M1 := by
    rw [bind_assoc, bind_assoc]
    congr 1
    funext ta M1
    rw [bind_assoc]
    congr 1
    funext c M1
    by_cases h : c = d
    · rw [if_pos h, if_pos h]
    · rw [if_neg h, if_neg h]; rfl
  have w' : WpG S (RB S) (fun c d H' => W c d σ H') F H as (((fa ρ M).bind asB).bind fun c M1 => if c = d then (fb ρ M1).bind asB else .ok (!d) M1) Q := by rw [← e0]; exact w
  refine WpG.bind w' fun k M1 k' F1 H1 as1 _ nx s1 t1 w1 => ?_
  obtain rfl : k = k' := t1
  by_cases hd : k = d
  · rw [if_pos hd] at w1 ⊢
    exact ⟨F1, as1, ρ, M1, s1, e.mono nx, w1⟩
  · rw [if_neg hd] at w1 ⊢
    exact w1 (!d) F1 H1 as1 .refl s1 rfl
structure PWE (X : Cx) (S : Stat) (W : WX) (e : Expr) (f : Env' → Sto → Res TV) : Prop where
  pw : PW X e (tT S f W)
theorem pw_andE {rest : List Expr} (ha : PT X a (tT S fa W)) (hb : PW X (.BoolOp .And (b :: rest) pos) (tT S fb W)) :
    PW X (.BoolOp .And (a :: b :: rest) pos) (tT S (fun ρ M => (fa ρ M).bind fun ta M1 => (asB ta M1).bind fun c M1 => if c = true then fb ρ M1 else .ok (.v (.d (.bool false))) M1) W) := by
  have q := pw_and ha hb
  exact ⟨fun wh pins s σ H Q I h => q.run wh pins s σ H Q I (and_asB true h)⟩
theorem pw_orE {rest : List Expr} (ha : PT X a (tT S fa W)) (hb : PW X (.BoolOp .Or (b :: rest) pos) (tT S fb W)) :
    PW X (.BoolOp .Or (a :: b :: rest) pos) (tT S (fun ρ M => (fa ρ M).bind fun ta M1 => (asB ta M1).bind fun c M1 => if c = true then .ok (.v (.d (.bool true))) M1 else fb ρ M1) W) := by
  have q := pw_or ha hb
  refine ⟨fun wh pins s σ H Q I h => q.run wh pins s σ H Q I ?_⟩
  have e : (fun (ρ : Env') (M : Sto) => (fa ρ M).bind fun ta M1 => (asB ta M1).bind fun c M1 => if c = true then Res.ok (TV.v (.d (.bool true))) M1 else fb ρ M1) = fun ρ M => (fa ρ M).bind fun ta M1 => (asB ta M1).bind fun c M1 => if c = false then fb ρ M1 else .ok (.v (.d (.bool (!false)))) M1 := by
    funext ρ M
    congr 1
    funext ta M1
    congr 1
    funext c M1
    cases c <;> rfl
  rw [e] at h
  have r := and_asB false h
  obtain ⟨F, as, ρ, M, s1, e1, w⟩ := r
  refine ⟨F, as, ρ, M, s1, e1, WpG.post w fun c H1 q => ?_⟩
  cases c with
  | true => exact iteT (show Q true H1 from q)
  | false => exact iteF (show tT S fb W σ H1 Q from q)
end
end Ev

/-! Ev7: targets, iterators, comprehensions of any number of clauses. -/
namespace Ev
open PySem PySem.Spec PyProof.Rows L2
open LamX (Tabs)

/-! ### growth alone -/
structure Gw (F : Hp) (as : AS) (F' : Hp) (as' : AS) : Prop where
  len : as.length ≤ as'.length
  old : ∀ (n : Nat) (a : Addr), as'[n]? = some (some a) → n < as.length → as[n]? = some (some a)
  grow : ∀ b o, F b = some o → F' b = some o
theorem Nxt.gw {F H F' H' : Hp} {as as' : AS} (x : Nxt F H as F' H' as') : Gw F as F' as' := ⟨x.len, x.old, x.grow⟩
theorem Gw.refl {F : Hp} {as : AS} : Gw F as F as := ⟨Nat.le_refl _, fun _ _ h _ => h, fun _ _ h => h⟩
theorem Gw.trans {F F1 F2 : Hp} {as as1 as2 : AS} (x : Gw F as F1 as1) (y : Gw F1 as1 F2 as2) : Gw F as F2 as2 :=
  ⟨Nat.le_trans x.len y.len, fun n a e h => x.old n a (y.old n a e (Nat.lt_of_lt_of_le h x.len)) h, fun b o h => y.grow b o (x.grow b o h)⟩
theorem Vr.gw {K : KO} {F F' : Hp} {as as' : AS} (x : Gw F as F' as') {y : VV} {v : V} (h : Vr K F as y v) : Vr K F' as' y v := by
  cases y with
  | d y => exact dp_mono x.grow y v h
  | ref n => exact ⟨Nat.lt_of_lt_of_le h.1 x.len, fun a e => h.2 a (x.old n a e h.1)⟩
  | raw u => exact h
  | fn k => exact h
theorem Sl.gw {S : Stat} {F F' : Hp} {as as' : AS} (x : Gw F as F' as') {y : VV} {v : V} (h : Sl S F as y v) : Sl S F' as' y v := by
  cases y with
  | fn k =>
    obtain ⟨mk, f, c', h1, h2, h3, h4⟩ := h
    exact ⟨mk, f, c', h1, h2, x.grow _ _ h3, x.grow _ _ h4⟩
  | d y => exact Vr.gw (K := S.K) (y := .d y) x h
  | ref n => exact Vr.gw (K := S.K) (y := .ref n) x h
  | raw u => exact h
theorem Er.gw {S : Stat} {F F' : Hp} {as as' : AS} {ρ : Env'} {σ : L2.St} (e : Er S F as ρ σ) (x : Gw F as F' as') : Er S F' as' ρ σ :=
  ⟨e.len, fun i y h => let ⟨v, h1, h2⟩ := e.at_ i y h; ⟨v, h1, h2.gw x⟩⟩
theorem Er.set {S : Stat} {F : Hp} {as : AS} {ρ : Env'} {σ : L2.St} {x : VV} {v : V} (e : Er S F as ρ σ) (i : Nat) (h0 : Vr S.K F as x v) : Er S F as (ρ.set i (some x)) (σ.set i (some v)) :=
  have h : Sl S F as x v := .of h0
  ⟨by rw [List.length_set, List.length_set, e.len], fun j y hy => by
    by_cases hj : i = j
    · subst hj
      by_cases hl : i < ρ.length
      · rw [List.getElem?_set_self hl] at hy
        cases hy
        exact ⟨v, by rw [List.getElem?_set_self (by rw [← e.len]; exact hl)], h⟩
      · rw [List.getElem?_eq_none (by rw [List.length_set]; omega)] at hy; cases hy
    · rw [List.getElem?_set_ne hj] at hy
      obtain ⟨w, h1, h2⟩ := e.at_ j y hy
      exact ⟨w, by rw [List.getElem?_set_ne hj]; exact h1, h2⟩⟩
/-- slots outside sl are as before -/
def Out (sl : List Nat) (σ σ' : L2.St) : Prop := σ'.length = σ.length ∧ ∀ j, j ∉ sl → σ'[j]? = σ[j]?
theorem Out.refl {sl : List Nat} {σ : L2.St} : Out sl σ σ := ⟨rfl, fun _ _ => rfl⟩
theorem Out.trans {sl : List Nat} {σ σ1 σ2 : L2.St} (h : Out sl σ σ1) (g : Out sl σ1 σ2) : Out sl σ σ2 := ⟨g.1.trans h.1, fun j hj => (g.2 j hj).trans (h.2 j hj)⟩
theorem Out.mono {sl sl' : List Nat} {σ σ' : L2.St} (h : Out sl σ σ') (hs : ∀ j ∈ sl, j ∈ sl') : Out sl' σ σ' := ⟨h.1, fun j hj => h.2 j fun z => hj (hs j z)⟩
def NoneAt (sl : List Nat) (ρ : Env') : Prop := ∀ j ∈ sl, ∀ x, ρ[j]? ≠ some (some x)
theorem Er.out {S : Stat} {F : Hp} {as : AS} {ρ : Env'} {σ σ' : L2.St} {sl : List Nat} (e : Er S F as ρ σ) (n : NoneAt sl ρ) (o : Out sl σ σ') : Er S F as ρ σ' :=
  ⟨by rw [o.1]; exact e.len, fun i y h => by
    obtain ⟨v, h1, h2⟩ := e.at_ i y h
    exact ⟨v, by rw [o.2 i fun z => n i z y h]; exact h1, h2⟩⟩
theorem wipeE_some {ρ : Env'} {i : Nat} {x : VV} : ∀ {vs : List Nat}, (wipeE ρ vs)[i]? = some (some x) → ρ[i]? = some (some x) ∧ i ∉ vs
  | [], h => ⟨h, by simp⟩
  | v :: vs, h => by
    unfold wipeE at h
    by_cases hi : v = i
    · subst hi
      by_cases hv : v < (wipeE ρ vs).length
      · rw [List.getElem?_set_self hv] at h; cases h
      · rw [List.getElem?_eq_none (by simpa using hv)] at h; cases h
    · rw [List.getElem?_set_ne hi] at h
      obtain ⟨h1, h2⟩ := wipeE_some h
      exact ⟨h1, by simp only [List.mem_cons, not_or]; exact ⟨fun e => hi e.symm, h2⟩⟩
theorem wipeE_length (ρ : Env') : ∀ vs : List Nat, (wipeE ρ vs).length = ρ.length
  | [] => rfl
  | v :: vs => by unfold wipeE; rw [List.length_set, wipeE_length ρ vs]
theorem wipe_out' {σ : L2.St} {i : Nat} : ∀ {vs : List Nat}, i ∉ vs → (wipe σ vs)[i]? = σ[i]?
  | [], _ => rfl
  | v :: vs, h => by
    have h1 : v ≠ i := fun e => h (by rw [e]; exact List.mem_cons_self)
    have h2 : i ∉ vs := fun m => h (List.mem_cons_of_mem _ m)
    unfold wipe
    rw [List.getElem?_set_ne h1]
    exact wipe_out' h2
theorem Er.wipe {S : Stat} {F : Hp} {as : AS} {ρ : Env'} {σ : L2.St} (e : Er S F as ρ σ) (sl : List Nat) : Er S F as (wipeE ρ sl) (wipe σ sl) :=
  ⟨by rw [wipeE_length, wipe_length, e.len], fun i y h => by
    obtain ⟨h1, h2⟩ := wipeE_some h
    obtain ⟨v, h3, h4⟩ := e.at_ i y h1
    exact ⟨v, by rw [wipe_out' h2]; exact h3, h4⟩⟩
theorem wipeE_noneAt (ρ : Env') (sl : List Nat) : NoneAt sl (wipeE ρ sl) := fun j hj x h => (wipeE_some h).2 hj

/-! ### targets -/
def tgS : Tg → List Nat
  | .nm i => [i]
  | .tp l => tgS l
  | .nil => []
  | .cons a b => tgS a ++ tgS b
mutual
theorem tgL_out : ∀ (t : Tg) (xs : List PyData) (ρ ρ' : Env'), tgL t xs ρ = some ρ' → ∀ j, j ∉ tgS t → ρ'[j]? = ρ[j]?
  | .nil, [], ρ, ρ', h, j, _ => by unfold tgL at h; cases h; rfl
  | .nil, _ :: _, _, _, h, _, _ => by simp [tgL] at h
  | .cons (.nm i) r, x :: xs, ρ, ρ', h, j, hj => by
    rw [tgL] at h
    simp only [tgS, List.mem_append, List.mem_cons, not_or, List.not_mem_nil] at hj
    rw [tgL_out r xs _ _ h j hj.2, List.getElem?_set_ne (fun e => hj.1.1 e.symm)]
  | .cons (.tp l) r, .tuple ys :: xs, ρ, ρ', h, j, hj => by
    rw [tgL] at h
    simp only [tgS, List.mem_append, not_or] at hj
    cases hz : tgL l ys ρ with
    | none => rw [hz] at h; cases h
    | some ρ1 =>
      rw [hz] at h
      rw [tgL_out r xs _ _ h j hj.2, tgL_out l ys _ _ hz j hj.1]
  | .cons (.nm i) r, [], _, _, h, _, _ => by simp [tgL] at h
  | .cons (.tp l) r, [], _, _, h, _, _ => by simp [tgL] at h
  | .cons (.tp l) r, .none :: _, _, _, h, _, _ => by simp [tgL] at h
  | .cons (.tp l) r, .bool _ :: _, _, _, h, _, _ => by simp [tgL] at h
  | .cons (.tp l) r, .int _ :: _, _, _, h, _, _ => by simp [tgL] at h
  | .cons (.tp l) r, .str _ :: _, _, _, h, _, _ => by simp [tgL] at h
  | .cons (.tp l) r, .list _ :: _, _, _, h, _, _ => by simp [tgL] at h
  | .cons .nil _, _, _, _, h, _, _ => by simp [tgL] at h
  | .cons (.cons _ _) _, _, _, _, h, _, _ => by simp [tgL] at h
  | .nm _, _, _, _, h, _, _ => by simp [tgL] at h
  | .tp _, _, _, _, h, _, _ => by simp [tgL] at h
end
theorem tgD_out {t : Tg} {x : PyData} {ρ ρ' : Env'} (h : tgD t x ρ = some ρ') : ∀ j, j ∉ tgS t → ρ'[j]? = ρ[j]? := by
  intro j hj
  cases t with
  | nm i =>
    simp only [tgD] at h
    cases h
    simp only [tgS, List.mem_cons, List.not_mem_nil, or_false] at hj
    rw [List.getElem?_set_ne (fun e => hj e.symm)]
  | tp l =>
    cases x with
    | tuple ys => exact tgL_out l ys _ _ h j hj
    | _ => simp [tgD] at h
  | _ => simp [tgD] at h
def gTg (S : Stat) (t : Tg) : TG := fun v σ H Q => ∃ F as M x ρ ρ', Sr S F H as M ∧ Er S F as ρ σ ∧ Dp S.K F v x ∧ tgD t x ρ = some ρ' ∧ ∀ σ', Er S F as ρ' σ' → Out (tgS t) σ σ' → Q σ' H
def gTgL (S : Stat) (t : Tg) : TGs := fun vs σ H Q => ∃ F as M xs ρ ρ', Sr S F H as M ∧ Er S F as ρ σ ∧ DpAll S.K F vs xs ∧ tgL t xs ρ = some ρ' ∧ ∀ σ', Er S F as ρ' σ' → Out (tgS t) σ σ' → Q σ' H
section
variable {X : Cx} {S : Stat} {pos : Pos}
theorem PG.imp {e : Expr} {t t' : TG} (h : PG X e t) (hi : ∀ v σ H Q, t' v σ H Q → t v σ H Q) : PG X e t' := ⟨fun pins s σ H v u Q I r q => h.run pins s σ H v u Q I r (hi v σ H Q q)⟩
theorem PGs.imp {e : List Expr} {t t' : TGs} (h : PGs X e t) (hi : ∀ v σ H Q, t' v σ H Q → t v σ H Q) : PGs X e t' := ⟨fun pins s σ H v u Q I r q => h.run pins s σ H v u Q I r (hi v σ H Q q)⟩
theorem out_set {σ : L2.St} {i : Nat} {x : Option V} : Out [i] σ (σ.set i x) := ⟨List.length_set, fun j hj => by
  simp only [List.mem_cons, List.not_mem_nil, or_false] at hj
  rw [List.getElem?_set_ne (fun e => hj e.symm)]⟩
theorem pg_nmE {i : Nat} {x : Str} (hN : X.N.Nodup) (hi : X.N[i]? = some x) (hx : Loc X.env.scope x) (hf : X.fn x = true ∨ X.env.scope.names.lookup x = some .local) : PG X (.Name x pos) (gTg S (.nm i)) :=
  PG.imp (pg_name hN hi hx hf) fun v σ H Q ⟨F, as, M, y, ρ, ρ', s, e, d, h, q⟩ => by
    simp only [tgD] at h
    cases h
    exact q _ (e.set i d) out_set
theorem pgs_nilE : PGs X [] (gTgL S .nil) := PGs.imp pgs_nil fun vs σ H Q ⟨F, as, M, xs, ρ, ρ', s, e, d, h, q⟩ => by
  cases xs with
  | nil =>
    simp only [tgL] at h
    cases h
    cases d
    exact ⟨rfl, q σ e .refl⟩
  | cons _ _ => simp [tgL] at h
theorem pgs_consE {e : Expr} {es : List Expr} {a b : Tg} (h1 : PG X e (gTg S a)) (h2 : PGs X es (gTgL S b)) (hs : (assignEach (e :: es) X.env).map (·.2) = assign e X.env :: (assignEach es X.env).map (·.2)) : PGs X (e :: es) (gTgL S (.cons a b)) :=
  PGs.imp (pgs_cons h1 h2 hs) fun vs σ H Q ⟨F, as, M, xs, ρ, ρ', s, er, d, h, q⟩ => by
    have key : ∃ x r ρ1, xs = x :: r ∧ tgD a x ρ = some ρ1 ∧ tgL b r ρ1 = some ρ' := by
      cases xs with
      | nil => cases a <;> simp [tgL] at h
      | cons x r =>
        cases a with
        | nm i => exact ⟨x, r, _, rfl, rfl, by simpa only [tgL] using h⟩
        | tp l =>
          cases x with
          | tuple ys =>
            rw [tgL] at h
            cases hz : tgL l ys ρ with
            | none => rw [hz] at h; cases h
            | some ρ1 => rw [hz] at h; exact ⟨_, r, ρ1, rfl, hz, h⟩
          | _ => simp [tgL] at h
        | _ => simp [tgL] at h
    obtain ⟨x, r, ρ1, ex, e1, e2⟩ := key
    subst ex
    cases d with
    | cons dx dr =>
      exact ⟨_, _, rfl, F, as, M, x, ρ, ρ1, s, er, dx, e1, fun σ1 er1 o1 => ⟨F, as, M, r, ρ1, ρ', s, er1, dr, e2, fun σ2 er2 o2 =>
        q σ2 er2 ((o1.mono fun j hj => List.mem_append_left _ hj).trans (o2.mono fun j hj => List.mem_append_right _ hj))⟩⟩
def tgN : Tg → Nat
  | .cons _ b => tgN b + 1
  | _ => 0
theorem tgL_len : ∀ (t : Tg) (xs : List PyData) (ρ ρ' : Env'), tgL t xs ρ = some ρ' → xs.length = tgN t
  | .nil, [], ρ, ρ', h => rfl
  | .nil, _ :: _, _, _, h => by simp [tgL] at h
  | .cons (.nm i) r, x :: xs, ρ, ρ', h => by rw [tgL] at h; rw [List.length_cons, tgL_len r xs _ _ h]; rfl
  | .cons (.tp l) r, x :: xs, ρ, ρ', h => by
    cases x with
    | tuple ys =>
      rw [tgL] at h
      cases hz : tgL l ys ρ with
      | none => rw [hz] at h; cases h
      | some ρ1 => rw [hz] at h; rw [List.length_cons, tgL_len r xs _ _ h]; rfl
    | _ => simp [tgL] at h
  | .cons (.nm i) r, [], _, _, h => by simp [tgL] at h
  | .cons (.tp l) r, [], _, _, h => by simp [tgL] at h
  | .cons .nil _, _, _, _, h => by simp [tgL] at h
  | .cons (.cons _ _) _, _, _, _, h => by simp [tgL] at h
  | .nm _, _, _, _, h => by simp [tgL] at h
  | .tp _, _, _, _, h => by simp [tgL] at h
theorem pg_tpE {es : List Expr} {k : Nat} {l : Tg} (hK : X.K = S.K) (hc : X.calm = true) (h : PGs X es (gTgL S l)) (hn : (assignEach es X.env).length = tgN l) (hst : (assignEach es X.env).findIdx? (·.1) = none) : PG X (.Tuple es k pos) (gTg S (.tp l)) :=
  PG.imp (pg_tup hc h hn hst) fun v σ H Q ⟨F, as, M, x, ρ, ρ', s, e, d, h, q⟩ => by
    cases x with
    | tuple ys =>
      have h' : tgL l ys ρ = some ρ' := h
      cases d with
      | tup h1 h2 => exact ⟨_, _, rfl, by rw [hK]; exact sqT_mono s.sub h1, by rw [dpAll_len h2, tgL_len l ys _ _ h'], F, as, M, ys, ρ, ρ', s, e, h2, h', q⟩
    | _ => simp [tgD] at h
end

/-! ### iterators -/
structure Wk (S : Stat) (F0 : Hp) (as0 : AS) (xs : List PyData) (J : It) : Prop where
  go : ∀ F H as M (i : Nat) y, Gw F0 as0 F as → Sr S F H as M → xs[i]? = some y → J.go i H ∧ ∀ x H', J.yld i H x H' → ∃ F', Nxt F H as F' H' as ∧ Sr S F' H' as M ∧ Dp S.K F' x y
  stop : ∀ F H as M (i : Nat), Gw F0 as0 F as → Sr S F H as M → xs.length = i → J.stop i H
def RI (S : Stat) : Rel S (List PyData) It := ⟨fun _ _ F _ as xs J => Wk S F as xs J, fun _ h => h, fun x h => ⟨fun F H as M i y g => h.go F H as M i y (x.gw.trans g), fun F H as M i g => h.stop F H as M i (x.gw.trans g)⟩⟩
abbrev tI (S : Stat) (f : Env' → Sto → Res (List PyData)) (W : WX) : TI := tG S (RI S) f W
section
variable {X : Cx} {S : Stat} {W : WX} {tg e : Expr} {fa : Env' → Sto → Res TV} {pos p : Pos}
theorem PI.imp {wi wi' : TI} (h : PI X tg e wi) (hi : ∀ σ H R, wi' σ H R → wi σ H R) : PI X tg e wi' := ⟨fun pins s σ H R I q => h.run pins s σ H R I (hi σ H R q)⟩
def iSeq (K : PySem.W.Frag) (tl : TE) : TI := fun σ H R => tl σ H fun x H1 => (∃ a, x = .ref a ∧ (((∃ xs, SqL K H1 a xs) ∧ R (Itl K a) H1) ∨ ((∃ xs, SqT K H1 a xs) ∧ R (Itt K a) H1))) ∨ ∃ z, x = .str z ∧ R (Its z) H1
theorem pi_seq {tl : TE} (hl : PE X e tl) : PI X tg e (iSeq X.K tl) := by
  refine ⟨fun pins s σ H R I h => ?_⟩
  refine thn (hl.run pins s σ H _ I h) fun v s1 ⟨x, H1, I1, r1, q1⟩ => ?_
  rcases q1 with ⟨a, e, q1⟩ | ⟨z, e, q⟩
  rotate_left
  · subst e
    obtain ⟨t, rfl⟩ := r1
    cases ha : z.cps.all (· < 128)
    · exact wpAny_pyIter_wide ha (pi_one (tk := s1.toks) I1 _ (turn_str _ z t "str_iterator" (.inr rfl)) ⟨_, Heap.get?_push_size _ rfl, rfl, rfl⟩ q)
    · exact wpAny_pyIter_ascii ha (pi_one (tk := s1.toks) I1 _ (turn_str _ z t "str_ascii_iterator" (.inl rfl)) ⟨_, Heap.get?_push_size _ rfl, rfl, rfl⟩ q)
  subst e
  cases r1
  rcases q1 with ⟨⟨xs, hq⟩, q⟩ | ⟨⟨xs, hq⟩, q⟩
  · obtain ⟨its, rv, p, hz⟩ := I1.list hq
    refine wpAny_pyIter_list p.isList ?_
    refine ⟨s1.heap.objs.size, [s1.heap.objs.size], _, _, H1, rfl, I1.kept (t' := s1.toks) fun b o e => Heap.get?_push_of_some _ e, turn_list a _, ⟨_, Heap.get?_push_size _ rfl, rfl, rfl⟩, fun b hb => ?_, q⟩
    have e : b = s1.heap.objs.size := by simpa using hb
    subst e
    exact I1.fpOk (Nat.le_refl _) (I1.hok.fresh (Nat.le_refl _))
  · obtain ⟨its, rv, p, hz⟩ := I1.tuple hq
    refine wpAny_pyIter_tuple (show s1.heap.IsTuple a its.toArray from p) ?_
    refine ⟨s1.heap.objs.size, [s1.heap.objs.size], _, _, H1, rfl, I1.kept (t' := s1.toks) fun b o e => Heap.get?_push_of_some _ e, turn_tuple a _, ⟨_, Heap.get?_push_size _ rfl, rfl, rfl⟩, fun b hb => ?_, q⟩
    have e : b = s1.heap.objs.size := by simpa using hb
    subst e
    exact I1.fpOk (Nat.le_refl _) (I1.hok.fresh (Nat.le_refl _))
theorem sqL_mono {K : PySem.W.Frag} {F H : Hp} {a : Addr} {xs : List V} (sub : ∀ b o, F b = some o → H b = some o) (h1 : SqL K F a xs) : SqL K H a xs := Same.seq sub h1
theorem wk_list {F : Hp} {as : AS} {xs : List PyData} {vs : List V} {a : Addr} (h1 : SqL S.K F a vs) (h2 : DpAll S.K F vs xs) : Wk S F as xs (Itl S.K a) where
  go := fun F' H' as' M i y g s hy => by
    obtain ⟨v, hv, dv⟩ := dpAll_get h2 hy
    have q : SqL S.K H' a vs := sqL_mono s.sub (sqL_mono g.grow h1)
    exact ⟨⟨vs, v, q, hv⟩, fun x H2 ⟨e, hx⟩ => by
      subst e
      have hx := hx vs q
      rw [hv] at hx
      cases hx
      exact ⟨F', .refl, s, dp_mono g.grow y v dv⟩⟩
  stop := fun F' H' as' M i g s hi => ⟨vs, sqL_mono s.sub (sqL_mono g.grow h1), by rw [dpAll_len h2]; exact Nat.le_of_eq hi⟩
theorem wk_tup {F : Hp} {as : AS} {xs : List PyData} {vs : List V} {a : Addr} (h1 : SqT S.K F a vs) (h2 : DpAll S.K F vs xs) : Wk S F as xs (Itt S.K a) where
  go := fun F' H' as' M i y g s hy => by
    obtain ⟨v, hv, dv⟩ := dpAll_get h2 hy
    have q : SqT S.K H' a vs := sqT_mono s.sub (sqT_mono g.grow h1)
    exact ⟨⟨vs, v, q, hv⟩, fun x H2 ⟨e, hx⟩ => by
      subst e
      have hx := hx vs q
      rw [hv] at hx
      cases hx
      exact ⟨F', .refl, s, dp_mono g.grow y v dv⟩⟩
  stop := fun F' H' as' M i g s hi => ⟨vs, sqT_mono s.sub (sqT_mono g.grow h1), by rw [dpAll_len h2]; exact Nat.le_of_eq hi⟩
theorem signs_get {z : Str} {i : Nat} {y : PyData} (h : (signsD z)[i]? = some y) : ∃ c, z.cps[i]? = some c ∧ y = .str ⟨#[c]⟩ := by
  unfold signsD at h
  rw [List.getElem?_map, Array.getElem?_toList] at h
  cases e : z.cps[i]? with
  | none => rw [e] at h; cases h
  | some c => rw [e] at h; exact ⟨c, rfl, (Option.some.inj h).symm⟩
theorem signs_len (z : Str) : (signsD z).length = z.length := by
  unfold signsD
  rw [List.length_map, Array.length_toList]
  rfl
theorem wk_str {F : Hp} {as : AS} {z : Str} : Wk S F as (signsD z) (Its z) where
  go := fun F' H' as' M i y g s hy => by
    obtain ⟨c, hc, rfl⟩ := signs_get hy
    refine ⟨(Array.getElem?_eq_some_iff.mp hc).1, fun x H2 ⟨e, c', hx, ex⟩ => ?_⟩
    subst e ex
    rw [hc] at hx
    cases hx
    exact ⟨F', .refl, s, .str _⟩
  stop := fun F' H' as' M i g s hi => by
    rw [signs_len] at hi
    show z.cps.size ≤ i
    exact Nat.le_of_eq hi
theorem freezes_v {t : TV} {x : PyData} (h : freezes t.fz = .d x) : t.fz = .v (.d x) := by
  cases t with
  | v y => exact congrArg TV.v (show y = .d x from h)
  | own ds => exact congrArg TV.v (show VV.d (.list ds) = .d x from h)
theorem pi_seqE (hK : X.K = S.K) (ha : PE X e (tE S fa W)) : PI X tg e (tI S (fun ρ M => (fa ρ M).bind seqK) W) :=
  PI.imp (pi_seq (PE.fz ha)) fun σ H R h => by
    obtain ⟨F, as, ρ, M, s, e, w⟩ := h
    refine ⟨F, as, ρ, M, s, e, ?_⟩
    have w' : WpG S (RI S) (fun c d H' => W c d σ H') F H as ((fa ρ M).fz.bind seqK) R := by
      rw [Res.fz_bind]
      have e0 : (fun t M => seqK t.fz M) = seqK := by funext t M; unfold seqK; rw [freezes_fz]
      rw [e0]; exact w
    have he : ∀ t M1, (fa ρ M).fz = .ok t M1 → t.fz = t := fun t M1 h => by
      cases hz : fa ρ M with
      | ok u M2 => rw [hz] at h; cases h; cases u <;> rfl
      | err _ _ => rw [hz] at h; cases h
      | stuck => rw [hz] at h; cases h
    refine WpG.bind (k := seqK) w' fun t M1 v F1 H1 as1 et nx s1 t1 w1 => ?_
    unfold seqK at w1
    have ft := he t M1 et
    split at w1
    · rename_i xs hx
      rw [← ft] at hx t1
      rw [freezes_v hx] at t1
      have d : Dp S.K F1 v (.list xs) := t1
      cases d with
      | lst h1 h2 => exact .inl ⟨_, rfl, .inl ⟨⟨_, by rw [hK]; exact sqL_mono s1.sub h1⟩, by rw [hK]; exact w1 _ F1 H1 as1 .refl s1 (wk_list h1 h2)⟩⟩
    · rename_i xs hx
      rw [← ft] at hx t1
      rw [freezes_v hx] at t1
      have d : Dp S.K F1 v (.tuple xs) := t1
      cases d with
      | tup h1 h2 => exact .inl ⟨_, rfl, .inr ⟨⟨_, by rw [hK]; exact sqT_mono s1.sub h1⟩, by rw [hK]; exact w1 _ F1 H1 as1 .refl s1 (wk_tup h1 h2)⟩⟩
    · rename_i z hx
      rw [← ft] at hx t1
      rw [freezes_v hx] at t1
      have d : Dp S.K F1 v (.str z) := t1
      cases d with
      | str => exact .inr ⟨z, rfl, w1 _ F1 H1 as1 .refl s1 wk_str⟩
    · exact w1.elim
theorem rngD_get {lo : Int} {n i : Nat} {y : PyData} (h : (rngD lo n)[i]? = some y) : i < n ∧ y = .int (lo + i) := by
  unfold rngD at h
  by_cases hi : i < n
  · simp [hi] at h
    exact ⟨hi, h.symm⟩
  · rw [List.getElem?_eq_none (by simp; omega)] at h; cases h
theorem rngD_len {lo : Int} {n : Nat} : (rngD lo n).length = n := by simp [rngD]
theorem wk_rng {F : Hp} {as : AS} {lo : Int} {n : Nat} : Wk S F as (rngD lo n) (Itr lo n) where
  go := fun F' H' as' M i y g s hy => by
    obtain ⟨h1, h2⟩ := rngD_get hy
    subst h2
    exact ⟨h1, fun x H2 ⟨e, hx⟩ => by subst e hx; exact ⟨F', .refl, s, .int _⟩⟩
  stop := fun F' H' as' M i g s hi => by rw [rngD_len] at hi; exact Nat.le_of_eq hi
theorem within_ok {j : Int} (h : within62 j = true) : -(2 ^ 62) ≤ j ∧ j < 2 ^ 62 := by
  unfold within62 at h
  simpa only [Bool.and_eq_true, decide_eq_true_eq] using h
theorem pi_rng1E {fs : Env' → Sto → Res (List TV)} {a : Expr} (hg : Gl X "range") (hm : X.mg "range" = none) (ha : PA X [a] (tTs S fs W)) (hs : starEach [a] X.env = [(false, eval a X.env)]) : PI X tg (.Call (.Name "range" p) [a] [] pos) (tI S (fun ρ M => (fs ρ M).bind rng1K) W) :=
  PI.imp (pi_range1 hg hm ha hs) fun σ H R h => tG.bind (k := fun _ ts M => rng1K ts M) h fun F1 H1 as1 ρ M1 _ _ ts vs s1 e1 t1 w1 => by
    unfold rng1K at w1
    split at w1
    · rename_i j
      have t1' : Paired (fun t v => ∃ H0 as0, Tr S.K H0 as0 F1 H1 as1 t v) [TV.v (.d (.int j))] vs := t1
      cases t1' with
      | cons h hr =>
        cases hr
        obtain ⟨_, _, h⟩ := h
        have h : Dp S.K F1 _ (.int j) := h
        cases h
        cases hz : within62 j with
        | true =>
          rw [hz] at w1
          obtain ⟨z1, z2⟩ := within_ok hz
          exact ⟨j, rfl, z1, z2, w1 _ F1 H1 as1 .refl s1 wk_rng⟩
        | false => rw [hz] at w1; exact w1.elim
    · exact w1.elim
theorem pi_rng2E {fs : Env' → Sto → Res (List TV)} {a b : Expr} (hg : Gl X "range") (hm : X.mg "range" = none) (ha : PA X [a, b] (tTs S fs W)) (hs : starEach [a, b] X.env = [(false, eval a X.env), (false, eval b X.env)]) (hs2 : starEach [b] X.env = [(false, eval b X.env)]) :
    PI X tg (.Call (.Name "range" p) [a, b] [] pos) (tI S (fun ρ M => (fs ρ M).bind rng2K) W) :=
  PI.imp (pi_range2 hg hm ha hs hs2) fun σ H R h => tG.bind (k := fun _ ts M => rng2K ts M) h fun F1 H1 as1 ρ M1 _ _ ts vs s1 e1 t1 w1 => by
    unfold rng2K at w1
    split at w1
    · rename_i i j
      have t1' : Paired (fun t v => ∃ H0 as0, Tr S.K H0 as0 F1 H1 as1 t v) [TV.v (.d (.int i)), TV.v (.d (.int j))] vs := t1
      cases t1' with
      | cons h hr =>
        cases hr with
        | cons h' hr =>
          cases hr
          obtain ⟨_, _, h⟩ := h
          obtain ⟨_, _, h'⟩ := h'
          have h : Dp S.K F1 _ (.int i) := h
          have h' : Dp S.K F1 _ (.int j) := h'
          cases h
          cases h'
          cases hz : (within62 i && within62 j) with
          | true =>
            rw [hz] at w1
            simp only [Bool.and_eq_true] at hz
            obtain ⟨z1, z2⟩ := within_ok hz.1
            obtain ⟨z3, z4⟩ := within_ok hz.2
            exact ⟨i, j, rfl, ⟨z1, z2, z3, z4⟩, w1 _ F1 H1 as1 .refl s1 wk_rng⟩
          | false => rw [hz] at w1; exact w1.elim
    · exact w1.elim
/-- a pair just made, kept by others -/
theorem pair_new {F H : Hp} {as : AS} {M : Sto} {T : Addr} {u v : V} {x y : PyData} (s : Sr S F H as M) (hT : H T = none) (du : Dp S.K F u x) (dv : Dp S.K F v y) :
    ∃ F', Nxt F H as F' (upd H T (.tup [u, v])) as ∧ Sr S F' (upd H T (.tup [u, v])) as M ∧ Dp S.K F' (.ref T) (.tuple [x, y]) := by
  have nF := s.none_of hT
  exact ⟨upd F T (.tup [u, v]), (nxt_upd hT).freeze (.inl hT) nF, (s.upd hT).freeze upd_same (nt_tup _) nF (s.not_as hT), Dp.tup (SqT.of upd_same) (.cons (dp_mono (upd_sub nF) x u du) (.cons (dp_mono (upd_sub nF) y v dv) .nil))⟩
theorem zip_get {α β γ : Type} {f : α → β → γ} : ∀ {xs : List α} {ys : List β} {i : Nat} {z : γ}, (xs.zipWith f ys)[i]? = some z → ∃ x y, xs[i]? = some x ∧ ys[i]? = some y ∧ z = f x y
  | x :: xs, y :: ys, 0, z, h => by simp at h; exact ⟨x, y, rfl, rfl, h.symm⟩
  | x :: xs, y :: ys, i + 1, z, h => by
    simp only [List.zipWith_cons_cons, List.getElem?_cons_succ] at h
    simpa using zip_get h
  | [], _, _, _, h => by simp at h
  | _ :: _, [], _, _, h => by simp at h
theorem wk_zip {F : Hp} {as : AS} {xs ys : List PyData} {vs us : List V} {a b : Addr} (h1 : SqL S.K F a vs) (h2 : DpAll S.K F vs xs) (g1 : SqL S.K F b us) (g2 : DpAll S.K F us ys) : Wk S F as (zipD xs ys) (Itz S.K a b) where
  go := fun F' H' as' M i y g s hy => by
    obtain ⟨x1, y1, e1, e2, ez⟩ := zip_get hy
    subst ez
    obtain ⟨v, hv, dv⟩ := dpAll_get h2 e1
    obtain ⟨u, hu, du⟩ := dpAll_get g2 e2
    have q1 : SqL S.K H' a vs := sqL_mono s.sub (sqL_mono g.grow h1)
    have q2 : SqL S.K H' b us := sqL_mono s.sub (sqL_mono g.grow g1)
    exact ⟨⟨vs, us, v, u, q1, q2, hv, hu⟩, fun x H2 ⟨T, v', u', e, hT, eH, hx, hy⟩ => by
      subst e eH
      have hx := hx vs q1
      have hy := hy us q2
      rw [hv] at hx
      rw [hu] at hy
      cases hx
      cases hy
      exact pair_new s hT (dp_mono g.grow _ _ dv) (dp_mono g.grow _ _ du)⟩
  stop := fun F' H' as' M i g s hi => ⟨vs, us, sqL_mono s.sub (sqL_mono g.grow h1), sqL_mono s.sub (sqL_mono g.grow g1), by
    unfold zipD at hi
    rw [List.length_zipWith] at hi
    rw [dpAll_len h2, dpAll_len g2]
    omega⟩
theorem wk_zipT {F : Hp} {as : AS} {xs ys : List PyData} {vs us : List V} {a b : Addr} (h1 : SqT S.K F a vs) (h2 : DpAll S.K F vs xs) (g1 : SqT S.K F b us) (g2 : DpAll S.K F us ys) : Wk S F as (zipD xs ys) (RZ.ItzT S.K a b) where
  go := fun F' H' as' M i y g s hy => by
    obtain ⟨x1, y1, e1, e2, ez⟩ := zip_get hy
    subst ez
    obtain ⟨v, hv, dv⟩ := dpAll_get h2 e1
    obtain ⟨u, hu, du⟩ := dpAll_get g2 e2
    have q1 : SqT S.K H' a vs := sqT_mono s.sub (sqT_mono g.grow h1)
    have q2 : SqT S.K H' b us := sqT_mono s.sub (sqT_mono g.grow g1)
    exact ⟨⟨vs, us, v, u, q1, q2, hv, hu⟩, fun x H2 ⟨T, v', u', e, hT, eH, hx, hy⟩ => by
      subst e eH
      have hx := hx vs q1
      have hy := hy us q2
      rw [hv] at hx
      rw [hu] at hy
      cases hx
      cases hy
      exact pair_new s hT (dp_mono g.grow _ _ dv) (dp_mono g.grow _ _ du)⟩
  stop := fun F' H' as' M i g s hi => ⟨vs, us, sqT_mono s.sub (sqT_mono g.grow h1), sqT_mono s.sub (sqT_mono g.grow g1), by
    unfold zipD at hi
    rw [List.length_zipWith] at hi
    rw [dpAll_len h2, dpAll_len g2]
    omega⟩
theorem wk_enum {F : Hp} {as : AS} {xs : List PyData} {vs : List V} {a : Addr} (h1 : SqL S.K F a vs) (h2 : DpAll S.K F vs xs) : Wk S F as (enumD xs) (Ite S.K a) where
  go := fun F' H' as' M i y g s hy => by
    obtain ⟨x1, y1, e1, e2, ez⟩ := zip_get hy
    subst ez
    obtain ⟨k1, k2⟩ := rngD_get e1
    subst k2
    obtain ⟨v, hv, dv⟩ := dpAll_get h2 e2
    have q1 : SqL S.K H' a vs := sqL_mono s.sub (sqL_mono g.grow h1)
    exact ⟨⟨vs, v, q1, hv⟩, fun x H2 ⟨T, v', e, hT, eH, hx⟩ => by
      subst e eH
      have hx := hx vs q1
      rw [hv] at hx
      cases hx
      have e0 : (0 : Int) + (i : Int) = (i : Int) := by omega
      rw [e0]
      exact pair_new s hT (.int _) (dp_mono g.grow _ _ dv)⟩
  stop := fun F' H' as' M i g s hi => ⟨vs, sqL_mono s.sub (sqL_mono g.grow h1), by
    unfold enumD at hi
    rw [List.length_zipWith, rngD_len] at hi
    rw [dpAll_len h2]
    omega⟩
theorem seqOf_ok {F H : Hp} {as : AS} {M : Sto} {x : VV} {v : V} {xs : List PyData} (s : Sr S F H as M) (h : Vr S.K F as x v) (e : seqOf x = some xs) : ∃ a vs, v = .ref a ∧ DpAll S.K F vs xs ∧ ((SqL S.K F a vs ∧ x = .d (.list xs)) ∨ (SqT S.K F a vs ∧ x = .d (.tuple xs))) := by
  unfold seqOf at e
  split at e
  · cases e
    have h' : Dp S.K F v (.list _) := h
    cases h' with
    | lst h1 h2 => exact ⟨_, _, rfl, h2, .inl ⟨h1, rfl⟩⟩
  · cases e
    have h' : Dp S.K F v (.tuple _) := h
    cases h' with
    | tup h1 h2 => exact ⟨_, _, rfl, h2, .inr ⟨h1, rfl⟩⟩
  · cases e
end
end Ev

/-! Ev8: list comprehensions of any number of clauses. -/
namespace Ev
open PySem PySem.Spec PyProof.Rows L2
open LamX (Tabs)

theorem Res.bind_inv {α β : Type} {r : Res α} {k : α → Sto → Res β} {b : β} {M : Sto} (h : r.bind k = .ok b M) : ∃ a M1, r = .ok a M1 ∧ k a M1 = .ok b M := by
  cases r with
  | ok a M1 => exact ⟨a, M1, rfl, h⟩
  | err _ _ => cases h
  | stuck => cases h
section
variable {prog : Program} {w : World} {A : Around} {s : Shared} {elt : Expr} {gens : List Comprehension} {scope : Scope} {pos : Pos} {it acc : Value} {env : Env} {i : Nat}
theorem compTurn_mid {t0 i0 t1 i1 : Expr} {ifs0 ifs1 : List Expr} (hg : gens[i]? = some ⟨t0, i0, ifs0, 0⟩) (hg' : gens[i + 1]? = some ⟨t1, i1, ifs1, 0⟩) :
    compTurn (.ListComp elt gens scope pos) i it acc env = (do
      standAt i0.pos
      match ← pyNext it with
      | none => pure (.done .next)
      | some v =>
        letOwnedTupleGo t0 it v
        assign t0 env v
        let mut ok := true
        for c in ifs0 do
          if ok then ok ← isTrue c env (eval c env)
        if ok then
          let x ← eval i1 env
          standAt i1.pos
          let x ← foldedSetIterable i1 env x
          let _ ← runOwn (.compStart (.ListComp elt gens scope pos) (i + 1) (← holding [x] (pyIter x)) acc env) env
        again (.compLoop (.ListComp elt gens scope pos) i it acc env)) := by
  unfold compTurn
  dsimp only
  rw [hg, hg']
  rfl
theorem compTurn_last {t0 i0 : Expr} {ifs0 : List Expr} (hg : gens[i]? = some ⟨t0, i0, ifs0, 0⟩) (hg' : gens[i + 1]? = none) :
    compTurn (.ListComp elt gens scope pos) i it acc env = (do
      standAt i0.pos
      match ← pyNext it with
      | none => pure (.done .next)
      | some v =>
        letOwnedTupleGo t0 it v
        assign t0 env v
        let mut ok := true
        for c in ifs0 do
          if ok then ok ← isTrue c env (eval c env)
        if ok then
          (do let _ ← call (.builtin "list.append") [acc, ← eval elt env])
        again (.compLoop (.ListComp elt gens scope pos) i it acc env)) := by
  unfold compTurn
  dsimp only
  rw [hg, hg']
  rfl
abbrev NoE : Value → Shared → Prop := fun _ _ => False
/-- what comes when an item of the clause before i has passed its tests -/
def AftOK (prog : Program) (w : World) (A : Around) (elt : Expr) (gens : List Comprehension) (scope : Scope) (pos : Pos) (i : Nat) (acc : Value) (env : Env) (Q : Shared → Prop) (s : Shared) : Prop := match gens[i]? with
  | some g => wpAny (model prog w) A (eval g.iter env) (fun x s4 => wpAny (model prog w) A (pyIter x) (fun it1 s5 => codeAny (model prog w) A (.compStart (.ListComp elt gens scope pos) i it1 acc env) (fun r s' => match r with | .ok _ => Q s' | .error _ => False) s5) NoE s4) NoE s
  | none => wpAny (model prog w) A (eval elt env) (fun x s4 => wpAny (model prog w) A (call (.builtin "list.append") [acc, x]) (fun _ s5 => Q s5) NoE s4) NoE s
/-- the form of a clause -/
def ClOk (env : Env) (g : Comprehension) : Prop := g.is_async = 0 ∧ ∀ x, foldedSetIterable g.iter env x = pure x
theorem noE_to {α : Type} {t : Sem α} {Q : α → Shared → Prop} {E : Value → Shared → Prop} {s : Shared} (h : wpAny (model prog w) A t Q NoE s) : wpAny (model prog w) A t Q E s := thnF h fun _ _ q => q
theorem compLoop_gen {t0 i0 : Expr} {ifs0 : List Expr} {R : Result → Shared → Prop} (hg : gens[i]? = some ⟨t0, i0, ifs0, 0⟩) (hc : ∀ g, gens[i + 1]? = some g → ClOk env g) (I : Nat → Shared → Prop)
    (turn : ∀ n s, I n s → wpAny (model prog w) A (pyNext it) (fun r s₁ => match r with
      | none => R (.ok .next) s₁
      | some v => wpAny (model prog w) A (letOwnedTupleGo t0 it v) (fun _ s₁' => wpAny (model prog w) A (assign t0 env v) (fun _ s₂ =>
          wpAny (model prog w) A (forIn ifs0 true fun c r => if r = true then do let ok ← isTrue c env (eval c env); pure (ForInStep.yield ok) else pure (ForInStep.yield r)) (fun ok s₃ =>
            if ok = true then AftOK prog w A elt gens scope pos (i + 1) acc env (fun s' => ∃ m, m < n ∧ I m s') s₃
            else ∃ m, m < n ∧ I m s₃) NoE s₂) NoE s₁') NoE s₁) NoE s)
    (n : Nat) (h : I n s) : codeAny (model prog w) A (.compLoop (.ListComp elt gens scope pos) i it acc env) R s := by
  refine codeAny_loop rfl I (fun n s hI => ?_) n h
  show wpAny _ A ((compTurn (.ListComp elt gens scope pos) i it acc env).onRaise (fun x => do noteFrame x env; theTreesLotGoes x)) _ _ s
  refine wpAny_noted ?_
  cases hg' : gens[i + 1]? with
  | some g1 =>
    obtain ⟨t1, i1, ifs1, as1⟩ := g1
    obtain ⟨h1, h2⟩ := hc _ hg'
    have h1 : as1 = 0 := h1
    subst h1
    rw [compTurn_mid hg hg']
    refine wpAny_bind (wpAny_standAt (wpAny_bind (thnF (turn n s hI) fun r s₁ h₁ => ?_)))
    cases r with
    | none => exact wpAny_pure h₁
    | some v =>
      refine wpAny_bind (thnF h₁ fun _ s₁' h₁' => ?_)
      refine wpAny_bind (thnF h₁' fun _ s₂ h₂ => wpAny_bind (thnF h₂ fun ok s₃ h₃ => ?_))
      cases ok with
      | false => exact wpAny_pure ⟨rfl, h₃⟩
      | true =>
        have h₃ : AftOK prog w A elt gens scope pos (i + 1) acc env (fun s' => ∃ m, m < n ∧ I m s') s₃ := h₃
        unfold AftOK at h₃
        rw [hg'] at h₃
        refine wpAny_bind (thnF h₃ fun x s₄ h₄ => ?_)
        refine wpAny_bind (wpAny_standAt (wpAny_bind (wpAny_of_eq (h2 x) (wpAny_bind (wpAny_holding (thnF h₄ fun it1 s₅ h₅ => ?_))))))
        refine wpAny_bind (wpAny_runOwn ?_)
        rw [Around.mark_none]
        refine codeAny_mono h₅ fun r s' hr => ?_
        cases r with
        | ok f =>
          first
            | exact wpAny_pure ⟨rfl, hr⟩
            | exact wpAny_bind (wpAny_pure (wpAny_pure ⟨rfl, hr⟩))
        | error e => exact hr.elim
  | none =>
    rw [compTurn_last hg hg']
    refine wpAny_bind (wpAny_standAt (wpAny_bind (thnF (turn n s hI) fun r s₁ h₁ => ?_)))
    cases r with
    | none => exact wpAny_pure h₁
    | some v =>
      refine wpAny_bind (thnF h₁ fun _ s₁' h₁' => ?_)
      refine wpAny_bind (thnF h₁' fun _ s₂ h₂ => wpAny_bind (thnF h₂ fun ok s₃ h₃ => ?_))
      cases ok with
      | false => exact wpAny_pure ⟨rfl, h₃⟩
      | true =>
        have h₃ : AftOK prog w A elt gens scope pos (i + 1) acc env (fun s' => ∃ m, m < n ∧ I m s') s₃ := h₃
        unfold AftOK at h₃
        rw [hg'] at h₃
        exact wpAny_bind (wpAny_bind (thnF h₃ fun x s₄ h₄ => wpAny_bind (thnF h₄ fun _ s₅ h₅ => wpAny_pure (wpAny_pure ⟨rfl, h₅⟩))))
theorem compStart_gen {R : Result → Shared → Prop} {g : Comprehension} (hg : gens[i]? = some g) (hc : ClOk env g) (h0 : codeAny (model prog w) A (.compLoop (.ListComp elt gens scope pos) i it acc env) R s)
    (h : wpAny (model prog w) A (pyIter it) (fun it' s' => codeAny (model prog w) A (.compLoop (.ListComp elt gens scope pos) i it' acc env) R s')
      (notedBy (model prog w) A env fun x s' => R (.error x) s') s) :
    codeAny (model prog w) A (.compStart (.ListComp elt gens scope pos) i it acc env) R s := by
  obtain ⟨t1, i1, ifs1, as1⟩ := g
  have h1 : as1 = 0 := hc.1
  subst h1
  refine codeAny_of_tree ?_
  show wpAny _ _ ((compStart (.ListComp elt gens scope pos) i it acc env).onRaise (fun x => do noteFrame x env; standAt theWindowsPlace)) _ _ s
  refine wpAny_notedAt ?_
  have e : clausesOf (.ListComp elt gens scope pos) = gens := rfl
  unfold compStart
  rw [e, hg]
  show wpAny _ _ (ask >>= _) _ _ s
  refine wpAny_bind (wpAny_askSetting (wpAny_ite ?_))
  split
  · first
      | exact wpAny_bind (wpAny_pure (wpAny_pure (And.intro rfl h0)))
      | exact wpAny_pure (And.intro rfl h0)
  · first
      | exact wpAny_bind (wpAny_rule (wpAny_bind (wpAny_standAt (wpAny_bind (wpAny_mono h (fun it' s' h' => wpAny_pure (And.intro rfl h')) fun _ _ x => x)))))
      | (refine wpAny_bind (wpAny_rule ?_); show wpAny _ _ (standAt i1.pos >>= _) _ _ s; exact wpAny_bind (wpAny_standAt (wpAny_bind (wpAny_mono h (fun it' s' h' => wpAny_pure (And.intro rfl h')) fun _ _ x => x))))
end

/-! ### the list that grows -/
structure DOk (S : Stat) (H0 F H : Hp) (as : AS) (D : Addr) (vs : List V) (acc : List VV) : Prop where
  new : H0 D = none
  nF : F D = none
  na : some D ∉ as
  at_ : H D = some (.lst vs)
  dp : Paired (Vr S.K F as) acc vs
theorem paired_app {α β : Type} {R : α → β → Prop} : ∀ {l l' : List α} {m m' : List β}, Paired R l m → Paired R l' m' → Paired R (l ++ l') (m ++ m')
  | _, _, _, _, .nil, h => h
  | _, _, _, _, .cons a t, h => .cons a (paired_app t h)
theorem dpAll_pair {K : KO} {F : Hp} {as : AS} : ∀ {ds : List PyData} {vs : List V}, Paired (Vr K F as) (ds.map VV.d) vs → DpAll K F vs ds
  | [], _, .nil => .nil
  | _ :: _, _, .cons a t => .cons a (dpAll_pair t)
section
variable {S : Stat} {H0 F H F' H' : Hp} {as as' : AS} {D : Addr} {vs : List V} {acc : List VV} {M : Sto}
theorem DOk.mono (d : DOk S H0 F H as D vs acc) (x : Nxt F H as F' H' as') : DOk S H0 F' H' as' D vs acc := by
  have hD : H D ≠ none := by rw [d.at_]; simp
  refine ⟨d.new, x.fresh D d.nF ⟨vs, d.at_⟩ d.na, fun z => ?_, x.keep D _ d.na (fun ps z => by cases z) d.at_, paired_mono (fun _ _ => Vr.mono x) d.dp⟩
  rcases x.mem z with z | z
  · exact d.na z
  · exact hD z
theorem DOk.push {v : V} {y : VV} (d : DOk S H0 F H as D vs acc) (h : Vr S.K F as y v) : DOk S H0 F (upd H D (.lst (vs ++ [v]))) as D (vs ++ [v]) (acc ++ [y]) :=
  ⟨d.new, d.nF, d.na, upd_same, paired_app d.dp (.cons h .nil)⟩
theorem Nxt.over {F0 : Hp} {as0 : AS} {o : HO} (x : Nxt F0 H0 as0 F H as) (h : H0 D = none) : Nxt F0 H0 as0 F (upd H D o) as where
  len := x.len
  old := x.old
  new := x.new
  keep := fun b u h1 h2 e => by rw [upd_ne (ne_of_none e h)]; exact x.keep b u h1 h2 e
  there := fun b e => by
    by_cases hb : b = D
    · rw [hb, upd_same]; simp
    · rw [upd_ne hb]; exact x.there b e
  grow := x.grow
  fresh := fun b h1 h2 h3 => x.fresh b h1 h2 h3
theorem tabs_over {T : List (Addr × Str)} {H : Hp} {D : Addr} {o : HO} {vs : List V} (h : Tabs T H) (hD : H D = some (.lst vs)) : Tabs T (upd H D o) := fun p hp => by
  obtain ⟨ps, h1, h2, h3⟩ := h p hp
  have ne1 : p.1 ≠ D := fun z => by rw [z, hD] at h1; cases h1
  refine ⟨ps, by rw [upd_ne ne1]; exact h1, h2, fun pos cv hc => ?_⟩
  obtain ⟨c, e1, e2⟩ := h3 pos cv hc
  have ne2 : c ≠ D := fun z => by rw [z, hD] at e2; unfold LamX.CodeO at e2; cases e2
  exact ⟨c, e1, by rw [upd_ne ne2]; exact e2⟩
theorem Sr.over {o : HO} {vs : List V} (s : Sr S F H as M) (nF : F D = none) (na : some D ∉ as) (hD : H D = some (.lst vs)) : Sr S F (L2.upd H D o) as M where
  sub := fun b u e => by rw [upd_ne (ne_of_none e nF)]; exact s.sub b u e
  nt := s.nt
  len := s.len
  inj := s.inj
  out := fun n a e => by
    have q := s.out n a e
    refine ⟨q.1, ?_⟩
    by_cases hb : a = D
    · exact absurd (mem_ix.mpr ⟨n, by rw [e, hb]⟩) na
    · rw [upd_ne hb]; exact q.2
  obj := fun n ds e => by
    obtain ⟨a, vs, h1, h2, h3⟩ := s.obj n ds e
    have hb : a ≠ D := fun z => na (by rw [← z]; exact mem_ix.mpr ⟨n, h1⟩)
    exact ⟨a, vs, h1, by rw [upd_ne hb]; exact h2, h3⟩
  vls := fun n xs e => by
    obtain ⟨a, vs, h1, h2, h3⟩ := s.vls n xs e
    have hb : a ≠ D := fun z => na (by rw [← z]; exact mem_ix.mpr ⟨n, h1⟩)
    exact ⟨a, vs, h1, by rw [upd_ne hb]; exact h2, h3⟩
  tabs := tabs_over s.tabs hD
end
end Ev

/-! Ev9: the comprehension's clauses, the comprehension as a value and as a name's value. -/
namespace Ev
open PySem PySem.Spec PyProof.Rows L2
open LamX (Tabs)

theorem AftOK.mono {prog : Program} {w : World} {A : Around} {s : Shared} {elt : Expr} {gens : List Comprehension} {scope : Scope} {pos : Pos} {acc : Value} {env : Env} {i : Nat} {Q Q' : Shared → Prop}
    (h : AftOK prog w A elt gens scope pos i acc env Q s) (hq : ∀ s, Q s → Q' s) : AftOK prog w A elt gens scope pos i acc env Q' s := by
  unfold AftOK at h ⊢
  split at h
  · rename_i g hg
    refine wpAny_mono h (fun x s4 h4 => wpAny_mono h4 (fun it s5 h5 => codeAny_mono h5 fun r s' hr => ?_) fun _ _ z => z) fun _ _ z => z
    cases r with
    | ok f => exact hq s' hr
    | error e => exact hr
  · exact wpAny_mono h (fun x s4 h4 => wpAny_mono h4 (fun _ s5 h5 => hq s5 h5) fun _ _ z => z) fun _ _ z => z
def Post (S : Stat) (X : Cx) (pins : List (Addr × Obj)) (sl : List Nat) (σ : L2.St) (F : Hp) (as : AS) (F0 H0 : Hp) (as0 : AS) (D : Addr) (all : List VV) (M' : Sto) (s' : Shared) : Prop :=
  ∃ (σ' : L2.St) (F' H' : Hp) (as' : AS) (vs' : List V), Inv X pins σ' H' s' ∧ Out sl σ σ' ∧ Gw F as F' as' ∧ Nxt F0 H0 as0 F' H' as' ∧ Sr S F' H' as' M' ∧ DOk S H0 F' H' as' D vs' all
structure PCl {α : Type} (em : α → VV) (X : Cx) (S : Stat) (elt : Expr) (gens : List Comprehension) (scope : Scope) (pos : Pos) (i : Nat) (sl : List Nat) (f : Env' → Sto → Res (List α)) : Prop where
  run : ∀ (pins : List (Addr × Obj)) (s : Shared) (σ : L2.St) (F0 H0 : Hp) (as0 : AS) (F H : Hp) (as : AS) (ρ : Env') (M : Sto) (D : Addr) (vs : List V) (acc : List VV) (ys : List α) (M' : Sto),
    Inv X pins σ H s → Nxt F0 H0 as0 F H as → Sr S F H as M → Er S F as ρ σ → NoneAt sl ρ → DOk S H0 F H as D vs acc → f ρ M = .ok ys M' → acc.length + ys.length ≤ sizeLine →
    AftOK X.prog X.w X.A elt gens scope pos i (.ref D) X.env (Post S X pins sl σ F as F0 H0 as0 D (acc ++ ys.map em) M') s
section
variable {X : Cx} {S : Stat} {W : WX} {elt : Expr} {gens : List Comprehension} {scope : Scope} {pos : Pos} {i : Nat} {sl : List Nat}
theorem Inv.notTbl {pins : List (Addr × Obj)} {σ : L2.St} {H : Hp} {s : Shared} : True := trivial
theorem pcl_nil {fe : Env' → Sto → Res TV} (hx : X.xe = NoE) (hg : gens[i]? = none) (he : PE X elt (tE S fe W)) : PCl VV.d X S elt gens scope pos i [] (fun ρ M => (fe ρ M).bind cyK) where
  run := by
    intro pins s σ F0 H0 as0 F H as ρ M D vs acc ys M' I nx sr er na d hf hl
    unfold AftOK
    rw [hg]
    obtain ⟨t, M1, e1, e2⟩ := Res.bind_inv hf
    unfold cyK at e2
    split at e2
    · rename_i x hx'
      injection e2 with ea eb
      subst ea eb
      have he' := PE.fz he
      have w : WpG S (RT S) (fun c d H' => W c d σ H') F H as ((fe ρ M).fz) (fun v H' => ∃ F' as', Nxt F H as F' H' as' ∧ Sr S F' H' as' M1 ∧ Dp S.K F' v x) := by
        rw [e1]
        show WpG S (RT S) _ F H as (.ok t.fz M1) _
        rw [freezes_v (by rw [freezes_fz]; exact hx')]
        exact fun v F' H' as' nx' sr' tr => ⟨F', as', nx', sr', tr⟩
      have q := he'.run pins s σ H _ I ⟨F, as, ρ, M, sr, er, w⟩
      rw [hx] at q
      refine thnF q fun v s4 ⟨y, H4, I4, r4, F4, as4, nx4, sr4, d4⟩ => ?_
      have dk := d.mono nx4
      have hl' : vs.length < sizeLine ∨ True := .inr trivial
      refine app_ok (X := X) I4 dk.at_ (by rw [← Paired.length d.dp]; simp only [List.length_cons, List.length_nil] at hl; omega) r4 fun s5 I5 => ?_
      exact ⟨σ, F4, _, as4, _, I5, .refl, nx4.gw, (nx.trans nx4).over d.new, sr4.over dk.nF dk.na dk.at_, dk.push (y := .d x) d4⟩
    · cases e2
/-- .. a thing of the store -/
theorem pcl_nilV {fe : Env' → Sto → Res TV} (hx : X.xe = NoE) (hg : gens[i]? = none) (he : PE X elt (tE S fe W)) : PCl id X S elt gens scope pos i [] (fun ρ M => (fe ρ M).bind cyV) where
  run := by
    intro pins s σ F0 H0 as0 F H as ρ M D vs acc ys M' I nx sr er na d hf hl
    unfold AftOK
    rw [hg]
    obtain ⟨t, M1, e1, e2⟩ := Res.bind_inv hf
    obtain ⟨x, et, ey, eM⟩ : ∃ x, t = .v x ∧ ys = [x] ∧ M1 = M' := by
      unfold cyV at e2
      split at e2
      · rename_i x; cases e2; exact ⟨_, rfl, rfl, rfl⟩
      · rename_i n; cases e2; exact ⟨_, rfl, rfl, rfl⟩
      · cases e2
    subst et ey eM
    have w : WpG S (RT S) (fun c d H' => W c d σ H') F H as (fe ρ M) (fun v H' => ∃ F' as', Nxt F H as F' H' as' ∧ Sr S F' H' as' M1 ∧ Vr S.K F' as' x v) := by
      rw [e1]
      exact fun v F' H' as' nx' sr' tr => ⟨F', as', nx', sr', tr⟩
    have q := he.run pins s σ H _ I ⟨F, as, ρ, M, sr, er, w⟩
    rw [hx] at q
    refine thnF q fun v s4 ⟨y, H4, I4, r4, F4, as4, nx4, sr4, d4⟩ => ?_
    have dk := d.mono nx4
    refine app_ok (X := X) I4 dk.at_ (by rw [← Paired.length d.dp]; simp only [List.length_cons, List.length_nil] at hl; omega) r4 fun s5 I5 => ?_
    exact ⟨σ, F4, _, as4, _, I5, .refl, nx4.gw, (nx.trans nx4).over d.new, sr4.over dk.nF dk.na dk.at_, dk.push (y := x) d4⟩
theorem loopC_nil {α : Type} {step : PyData → Sto → Res (List α)} {M M' : Sto} {ys : List α} (h : loopC step [] M = .ok ys M') : ys = [] ∧ M' = M := by
  simp only [loopC] at h
  cases h
  exact ⟨rfl, rfl⟩
theorem loopC_cons {α : Type} {step : PyData → Sto → Res (List α)} {x : PyData} {xs : List PyData} {M M' : Sto} {ys : List α} (h : loopC step (x :: xs) M = .ok ys M') :
    ∃ y1 M1 y2, step x M = .ok y1 M1 ∧ loopC step xs M1 = .ok y2 M' ∧ ys = y1 ++ y2 := by
  rw [loopC] at h
  split at h
  · rename_i y1 M1 e
    obtain ⟨y2, M2, e2, e3⟩ := Res.bind_inv h
    cases e3
    exact ⟨y1, M1, y2, e, e2, rfl⟩
  · cases h
theorem itemK_inv {α : Type} {t : Tg} {ρ : Env'} {ft : Env' → Sto → Res Bool} {fb : Env' → Sto → Res (List α)} {x : PyData} {M M' : Sto} {ys : List α} (h : itemK t ρ ft fb x M = .ok ys M') :
    ∃ ρ1 b M1, tgD t x ρ = some ρ1 ∧ ft ρ1 M = .ok b M1 ∧ ((b = true ∧ fb ρ1 M1 = .ok ys M') ∨ (b = false ∧ ys = [] ∧ M' = M1)) := by
  unfold itemK at h
  split at h
  · rename_i ρ1 e
    obtain ⟨b, M1, e1, e2⟩ := Res.bind_inv h
    cases b with
    | true => exact ⟨ρ1, true, M1, e, e1, .inl ⟨rfl, by simpa using e2⟩⟩
    | false =>
      simp only [Bool.false_eq_true, if_false] at e2
      injection e2 with ea eb
      subst ea eb
      exact ⟨ρ1, false, M1, e, e1, .inr ⟨rfl, rfl, rfl⟩⟩
  · cases h
/-- an iterator in one context -/
structure TurnX (X : Cx) (tg : Expr) (J : It) (fp : List Addr) (it : Addr) (tn : Nat → Heap → Prop) : Prop where
  obj : ∀ i h, tn i h → ∀ b ∈ fp, ∃ o, h.get? b = some o ∧ ∀ v, o.data ≠ .cell v
  keep : ∀ i h h', tn i h → (∀ b ∈ fp, ∀ o, h.get? b = some o → h'.get? b = some o) → tn i h'
  item : ∀ (i : Nat) (pins : List (Addr × Obj)) (s : Shared) (σ : L2.St) (H : Hp) (E : Value → Shared → Prop), Inv X pins σ H s → (∀ b ∈ fp, FpOk X pins H b) → tn i s.heap → J.go i H →
    wpAny (model X.prog X.w) X.A (pyNext (.ref it)) (fun r s1 => ∃ u, r = some u ∧
      wpAny (model X.prog X.w) X.A (letOwnedTupleGo tg (.ref it) u) (fun _ s2 => ∃ x H', Inv X pins σ H' s2 ∧ RelV x u ∧ J.yld i H x H' ∧ tn (i + 1) s2.heap ∧ ∀ b ∈ fp, H' b = none) E s1) E s
  done : ∀ (i : Nat) (pins : List (Addr × Obj)) (s : Shared) (σ : L2.St) (H : Hp) (E : Value → Shared → Prop), Inv X pins σ H s → (∀ b ∈ fp, FpOk X pins H b) → tn i s.heap → J.stop i H →
    wpAny (model X.prog X.w) X.A (pyNext (.ref it)) (fun r s1 => r = none ∧ Inv X pins σ H s1) E s
theorem TurnX.of {X : Cx} {P : Program} {w : World} {K : PySem.W.Frag} {tg : Expr} {J : It} {fp : List Addr} {it : Addr} {tn : Nat → Heap → Prop} (T : Turn P w K tg J fp it tn) (hP : X.prog = P) (hw : X.w = w) (hK : X.K = K) (hc : X.calm = true) : TurnX X tg J fp it tn := by
  subst hP hw hK
  exact ⟨T.obj, T.keep, T.item X rfl rfl rfl hc, T.done X rfl rfl rfl hc⟩
theorem loop_run {α : Type} {em : α → VV} {tg itE : Expr} {ifs : List Expr} {t : Tg} {ft : Env' → Sto → Res Bool} {fb : Env' → Sto → Res (List α)} {J : It} {fp : List Addr} {it : Addr} {tn : Nat → Heap → Prop}
    (hx : X.xe = NoE) (hg : gens[i]? = some ⟨tg, itE, ifs, 0⟩) (hcl : ∀ g, gens[i + 1]? = some g → ClOk X.env g) (pg : PG X tg (gTg S t)) (pt : PTs X ifs (tG S (RB S) ft W))
    (pc : PCl em X S elt gens scope pos (i + 1) sl fb) (dis : ∀ j ∈ tgS t, j ∉ sl) (T : TurnX X tg J fp it tn)
    (pins : List (Addr × Obj)) (s : Shared) (σ : L2.St) (F0 H0 : Hp) (as0 : AS) (F H : Hp) (as : AS) (ρ : Env') (M : Sto) (D : Addr) (vs : List V) (acc : List VV) (xs : List PyData) (ys : List α) (M' : Sto)
    (I : Inv X pins σ H s) (hfp : ∀ b ∈ fp, FpOk X pins H b) (st0 : tn 0 s.heap) (wk : Wk S F as xs J) (nx : Nxt F0 H0 as0 F H as) (sr : Sr S F H as M) (er : Er S F as ρ σ) (na : NoneAt (tgS t ++ sl) ρ) (dk : DOk S H0 F H as D vs acc)
    (hl : loopC (itemK t ρ ft fb) xs M = .ok ys M') (hz : acc.length + ys.length ≤ sizeLine) :
    codeAny (model X.prog X.w) X.A (.compLoop (.ListComp elt gens scope pos) i (.ref it) (.ref D) X.env) (fun r s' => r = .ok .next ∧ Post S X pins (tgS t ++ sl) σ F as F0 H0 as0 D (acc ++ ys.map em) M' s') s := by
  refine compLoop_gen hg hcl (fun n s' => ∃ (k : Nat) (σ' : L2.St) (F' H' : Hp) (as' : AS) (vs' : List V) (acc' : List VV) (Mk : Sto) (ys' : List α), n = xs.length - k ∧ k ≤ xs.length ∧ Inv X pins σ' H' s' ∧ tn k s'.heap ∧ (∀ b ∈ fp, H' b = none) ∧
    Out (tgS t ++ sl) σ σ' ∧ Gw F as F' as' ∧ Nxt F0 H0 as0 F' H' as' ∧ Sr S F' H' as' Mk ∧ DOk S H0 F' H' as' D vs' acc' ∧ loopC (itemK t ρ ft fb) (xs.drop k) Mk = .ok ys' M' ∧ acc' ++ ys'.map em = acc ++ ys.map em) ?_ xs.length
    ⟨0, σ, F, H, as, vs, acc, M, ys, rfl, Nat.zero_le _, I, st0, fun b hb => (hfp b hb).1, .refl, .refl, nx, sr, dk, hl, rfl⟩
  rintro n s3 ⟨k, σ3, F3, H3, as3, vs3, acc3, M3, ys3, rfl, hk, I3, st3, fr3, o3, g3, nx3, sr3, dk3, hl3, eq3⟩
  have stat : ∀ {H' : Hp}, (∀ b ∈ fp, H' b = none) → ∀ b ∈ fp, FpOk X pins H' b := fun hn b hb => ⟨hn b hb, (hfp b hb).2⟩
  by_cases hlt : k < xs.length
  · have hy : xs[k]? = some xs[k] := List.getElem?_eq_getElem hlt
    have hdrop : xs.drop k = xs[k] :: xs.drop (k + 1) := List.drop_eq_getElem_cons hlt
    rw [hdrop] at hl3
    obtain ⟨y1, M4, y2, e1, e2, e3⟩ := loopC_cons hl3
    obtain ⟨ρ1, b, M5, e4, e5, e6⟩ := itemK_inv e1
    obtain ⟨go, yl⟩ := wk.go F3 H3 as3 M3 k _ g3 sr3 hy
    refine thnF (T.item k pins s3 σ3 H3 NoE I3 (stat fr3) st3 go) fun r s4 ⟨u, hr, h4⟩ => ?_
    subst hr
    refine thnF h4 fun _ s5 ⟨x, H5, I5, r5, yd5, st5, fr5⟩ => ?_
    obtain ⟨F5, nx5, sr5, d5⟩ := yl x H5 yd5
    have I5' := I5.pinned (stat fr5) (T.obj _ _ st5)
    have er5 : Er S F5 as3 ρ σ3 := ((er.out na o3).gw g3).gw nx5.gw
    have q1 := pg.run _ s5 σ3 H5 x u (fun σ6 H6 => H6 = H5 ∧ Er S F5 as3 ρ1 σ6 ∧ Out (tgS t) σ3 σ6) I5' r5 ⟨F5, as3, M3, _, ρ, ρ1, sr5, er5, d5, e4, fun σ' e' o' => ⟨rfl, e', o'⟩⟩
    rw [hx] at q1
    refine thnF q1 fun _ s6 ⟨σ6, H6, I6, eH6, er6, o6⟩ => ?_
    subst eH6
    have w7 : WpG S (RB S) (fun c d H' => W c d σ6 H') F5 H6 as3 (ft ρ1 M3) (fun c H' => c = b ∧ ∃ F' as', Nxt F5 H6 as3 F' H' as' ∧ Sr S F' H' as' M5) := by
      rw [e5]
      exact fun c F' H' as' nx' sr' eb => ⟨eb.symm, F', as', nx', sr'⟩
    have q2 := pt.run _ s6 σ6 H6 _ I6 ⟨F5, as3, ρ1, M3, sr5, er6, w7⟩
    rw [hx] at q2
    refine thnF q2 fun c s7 ⟨H7, I7, ec, F7, as7, nx7, sr7⟩ => ?_
    subst ec
    have dk7 := (dk3.mono nx5).mono nx7
    have nx07 := (nx3.trans nx5).trans nx7
    have fin : ∀ {σ8 : L2.St} {F8 H8 : Hp} {as8 : AS} {vs8 : List V} {M8 : Sto} {s8 : Shared}, Inv X (pins ++ pinsAt fp s5.heap) σ8 H8 s8 → Out (tgS t ++ sl) σ3 σ8 → Gw F7 as7 F8 as8 → Nxt F0 H0 as0 F8 H8 as8 → Sr S F8 H8 as8 M8 → DOk S H0 F8 H8 as8 D vs8 (acc3 ++ y1.map em) → M8 = M4 →
        ∃ m, m < xs.length - k ∧ ∃ (k : Nat) (σ' : L2.St) (F' H' : Hp) (as' : AS) (vs' : List V) (acc' : List VV) (Mk : Sto) (ys' : List α), m = xs.length - k ∧ k ≤ xs.length ∧ Inv X pins σ' H' s8 ∧ tn k s8.heap ∧ (∀ b ∈ fp, H' b = none) ∧
          Out (tgS t ++ sl) σ σ' ∧ Gw F as F' as' ∧ Nxt F0 H0 as0 F' H' as' ∧ Sr S F' H' as' Mk ∧ DOk S H0 F' H' as' D vs' acc' ∧ loopC (itemK t ρ ft fb) (xs.drop k) Mk = .ok ys' M' ∧ acc' ++ ys'.map em = acc ++ ys.map em := by
      intro σ8 F8 H8 as8 vs8 M8 s8 I8 o8 g8 nx8 sr8 dk8 eM
      subst eM
      have pin' : ∀ b ∈ fp, ∀ o, s5.heap.get? b = some o → s8.heap.get? b = some o ∧ H8 b = none := fun b hb o e =>
        let z := I8.pin (b, o) (List.mem_append_right _ (List.mem_append_right _ (mem_pinsAt hb e)))
        ⟨z.1, z.2.1⟩
      refine ⟨xs.length - (k + 1), by omega, k + 1, σ8, F8, H8, as8, vs8, acc3 ++ y1.map em, M8, y2, rfl, hlt, I8.unpinned, T.keep _ _ _ st5 fun b hb o e => (pin' b hb o e).1, fun b hb => ?_, o3.trans o8, ((g3.trans nx5.gw).trans nx7.gw).trans g8, nx8, sr8, dk8, e2, ?_⟩
      · obtain ⟨o, e, _⟩ := T.obj _ _ st5 b hb
        exact (pin' b hb o e).2
      · rw [List.append_assoc, ← List.map_append, ← e3]; exact eq3
    have o6' : Out (tgS t ++ sl) σ3 σ6 := o6.mono fun j hj => List.mem_append_left _ hj
    rcases e6 with ⟨eb, e7⟩ | ⟨eb, e7, e8⟩
    · rw [if_pos eb]
      have na1 : NoneAt sl ρ1 := fun j hj y hy => by
        rw [tgD_out e4 j fun z => dis j z hj] at hy
        exact na j (List.mem_append_right _ hj) y hy
      have hlen : acc3.length + y1.length ≤ sizeLine := by
        have z := congrArg List.length eq3
        rw [e3] at z
        simp only [List.length_append, List.length_map] at z
        omega
      refine AftOK.mono (pc.run _ s7 σ6 F0 H0 as0 F7 H7 as7 ρ1 M5 D vs3 acc3 y1 M4 I7 nx07 sr7 (er6.mono nx7) na1 dk7 e7 hlen) fun s8 ⟨σ8, F8, H8, as8, vs8, I8, o8, g8, nx8, sr8, dk8⟩ => ?_
      exact fin I8 (o6'.trans (o8.mono fun j hj => List.mem_append_right _ hj)) g8 nx8 sr8 dk8 rfl
    · rw [if_neg (by rw [eb]; exact Bool.false_ne_true)]
      subst e7
      exact fin I7 o6' .refl nx07 sr7 (by rw [List.map_nil, List.append_nil]; exact dk7) e8.symm
  · have hk' : k = xs.length := by omega
    subst hk'
    rw [List.drop_length] at hl3
    obtain ⟨e1, e2⟩ := loopC_nil hl3
    subst e1 e2
    have hstop := wk.stop F3 H3 as3 _ xs.length g3 sr3 rfl
    refine thnF (T.done _ pins s3 σ3 H3 NoE I3 (stat fr3) st3 hstop) fun r s4 ⟨hr, I4⟩ => ?_
    subst hr
    refine ⟨rfl, σ3, F3, H3, as3, vs3, I4, o3, g3, nx3, sr3, ?_⟩
    rw [List.map_nil, List.append_nil] at eq3
    rw [← eq3]
    exact dk3
theorem pcl_cons {α : Type} {em : α → VV} {tg itE : Expr} {ifs : List Expr} {t : Tg} {fi : Env' → Sto → Res (List PyData)} {ft : Env' → Sto → Res Bool} {fb : Env' → Sto → Res (List α)}
    (hx : X.xe = NoE) (hc : X.calm = true) (hg : gens[i]? = some ⟨tg, itE, ifs, 0⟩) (hcl0 : ClOk X.env ⟨tg, itE, ifs, 0⟩) (hcl : ∀ g, gens[i + 1]? = some g → ClOk X.env g) (pi : PI X tg itE (tI S fi W)) (pg : PG X tg (gTg S t)) (pt : PTs X ifs (tG S (RB S) ft W))
    (pc : PCl em X S elt gens scope pos (i + 1) sl fb) (dis : ∀ j ∈ tgS t, j ∉ sl) : PCl em X S elt gens scope pos i (tgS t ++ sl) (fun ρ M => (fi ρ M).bind fun xs M1 => loopC (itemK t ρ ft fb) xs M1) where
  run := by
    intro pins s σ F0 H0 as0 F H as ρ M D vs acc ys M' I nx sr er na dk hf hz
    unfold AftOK
    rw [hg]
    obtain ⟨xs, M1, e1, e2⟩ := Res.bind_inv hf
    have w : WpG S (RI S) (fun c d H' => W c d σ H') F H as (fi ρ M) (fun J H' => ∃ F' as', Nxt F H as F' H' as' ∧ Sr S F' H' as' M1 ∧ Wk S F' as' xs J) := by
      rw [e1]
      exact fun J F' H' as' nx' sr' wk => ⟨F', as', nx', sr', wk⟩
    have q := pi.run pins s σ H _ I ⟨F, as, ρ, M, sr, er, w⟩
    rw [hx] at q
    refine thnF q fun v s1 h1 => thnF h1 fun itv s2 h2 => ?_
    obtain ⟨it, fp, tn, J, H2, e, I2, T, st2, f2, F2, as2, nx2, sr2, wk2⟩ := h2
    subst e
    have loop := loop_run hx hg hcl pg pt pc dis (TurnX.of T rfl rfl rfl hc) pins s2 σ F0 H0 as0 F2 H2 as2 ρ M1 D vs acc xs ys M' I2 f2 st2 wk2 (nx.trans nx2) sr2 (er.mono nx2) na (dk.mono nx2) e2 hz
    have loop' : codeAny (model X.prog X.w) X.A (.compLoop (.ListComp elt gens scope pos) i (.ref it) (.ref D) X.env) (fun r s' => match r with | .ok _ => Post S X pins (tgS t ++ sl) σ F as F0 H0 as0 D (acc ++ ys.map em) M' s' | .error _ => False) s2 :=
      codeAny_mono loop fun r s' ⟨hr, σ', F', H', as', vs', i', o', g', r'⟩ => by
        subst hr
        exact ⟨σ', F', H', as', vs', i', o', nx2.gw.trans g', r'⟩
    exact compStart_gen hg hcl0 loop' (T.self X.A 0 _ _ _ st2 loop')
/-- how the new list ends -/
structure FinOk {α : Type} (S : Stat) (em : α → VV) (fin : List α → Sto → Res TV) : Prop where
  len : ∀ (ys : List α) (M : Sto) (W : XK) (F H : Hp) (as : AS) (Q : VK), Wp S W F H as (fin ys M) Q → ys.length ≤ sizeLine
  done : ∀ (ys : List α) (M : Sto) (W : XK) (F H F' H' : Hp) (as as' : AS) (D : Addr) (vs : List V) (Q : VK), Nxt F H as F' H' as' → Sr S F' H' as' M → DOk S H F' H' as' D vs (ys.map em) → Wp S W F H as (fin ys M) Q → Q (.ref D) H'
def lcG {α : Type} (fin : List α → Sto → Res TV) (r : Res (List α)) : Res TV := match r with
  | .ok ds M => fin ds M
  | _ => .stuck
def finD (ds : List PyData) (M : Sto) : Res TV := if lenOk ds.length then .ok (.own ds) M else .stuck
theorem lcK_eq (r : Res (List PyData)) : lcK r = lcG finD r := by cases r <;> rfl
theorem lcrK_eq (r : Res (List VV)) : lcrK r = lcG lrefsK r := by cases r <;> rfl
theorem finD_ok {S : Stat} : FinOk S VV.d finD where
  len := fun ys M W F H as Q w => by
    unfold finD at w
    split at w
    · rename_i h; exact lenOk_le h
    · exact w.elim
  done := fun ys M W F H F' H' as as' D vs Q nx sr dk w => by
    unfold finD at w
    split at w
    · exact w (.ref D) F' H' as' nx sr ⟨D, vs, rfl, dk.nF, dk.na, dk.at_, dpAll_pair dk.dp, .inl dk.new⟩
    · exact w.elim
/-- the whole comprehension -/
theorem lcE_core {α : Type} {em : α → VV} {fin : List α → Sto → Res TV} (hfin : FinOk S em fin) {pins : List (Addr × Obj)} {s : Shared} {σ : L2.St} {H : Hp} {Q : VK} {tg itE : Expr} {ifs : List Expr} {rest : List Comprehension} {own : List (Str × Nat)} {pos' : Pos} {t : Tg} {W' : WX} {fi : Env' → Sto → Res (List PyData)} {ft : Env' → Sto → Res Bool} {fb : Env' → Sto → Res (List α)} {use : Option (Value → Sem Unit)} {Qf : Value → Shared → Prop}
    (hc : X.calm = true) (hN : X.N.Nodup) (I : Inv X pins σ H s) (hi : PI X tg itE (tI S (fun ρ M => fi (wipeE ρ (own.map (·.2))) M) W)) (ok : BlkOk X.N X.env.scope scope own)
    (hcl0 : ∀ x, foldedSetIterable itE X.env x = pure x) (hcl : ∀ cl C g, rest[0]? = some g → ClOk (compEnvC scope cl C X.env) g)
    (hg : ∀ (s : Shared) (H : Hp) (C : Addr) (cl : List (Str × Addr)) (fp : List Addr), PG (X.blk s H scope (compEnvC scope cl C X.env) fp) tg (gTg S t)) (ht : ∀ (s : Shared) (H : Hp) (C : Addr) (cl : List (Str × Addr)) (fp : List Addr), PTs (X.blk s H scope (compEnvC scope cl C X.env) fp) ifs (tG S (RB S) ft W'))
    (hp : ∀ (s : Shared) (H : Hp) (C : Addr) (cl : List (Str × Addr)) (fp : List Addr), PCl em (X.blk s H scope (compEnvC scope cl C X.env) fp) S elt (⟨tg, itE, ifs, 0⟩ :: rest) scope pos 1 sl fb)
    (dis : ∀ j ∈ tgS t, j ∉ sl) (hsl : ∀ j ∈ tgS t ++ sl, j ∈ own.map (·.2))
    (h : tE S (fun ρ M => lcG fin ((fi (wipeE ρ (own.map (·.2))) M).bind fun xs M1 => loopC (itemK t (wipeE ρ (own.map (·.2))) ft fb) xs M1)) W σ H Q)
    (hRR : ∀ D C s' m H', Inv X pins σ H' s' → Q (.ref D) H' → s'.heap.Ns C m → FpOk X pins H' C → compPost (model X.prog X.w) X.A X.xe use Qf (.ref D) C (.ok .next) s') :
    wpAny (model X.prog X.w) X.A (comprehension (.ListComp elt (⟨tg, itE, ifs, 0⟩ :: rest) scope pos) scope X.env pos' (newList []) false (eval itE X.env) use) Qf X.xe s := by
  have hfree : ∀ y ∈ scope.names, y.2 = .free → ∃ c, X.env.cells.lookup y.1 = some c := fun y hy e => by
    rcases ok.free y hy e with k | k
    · exact I.ok.has _ (.inl k)
    · exact I.ok.has _ (.inr k)
  obtain ⟨F, as, ρ, M, sr, er, w⟩ := h
  -- what the evaluator says
  have inv : ∃ xs M1 ys M', fi (wipeE ρ (own.map (·.2))) M = .ok xs M1 ∧ loopC (itemK t (wipeE ρ (own.map (·.2))) ft fb) xs M1 = .ok ys M' ∧ Wp S (fun c d H' => W c d σ H') F H as (fin ys M') Q := by
    have w' : Wp S (fun c d H' => W c d σ H') F H as (lcG fin ((fi (wipeE ρ (own.map (·.2))) M).bind fun xs M1 => loopC (itemK t (wipeE ρ (own.map (·.2))) ft fb) xs M1)) Q := w
    cases e0 : (fi (wipeE ρ (own.map (·.2))) M).bind fun xs M1 => loopC (itemK t (wipeE ρ (own.map (·.2))) ft fb) xs M1 with
    | ok ys M' =>
      rw [e0] at w'
      obtain ⟨xs, M1, e1, e2⟩ := Res.bind_inv e0
      exact ⟨xs, M1, ys, M', e1, e2, w'⟩
    | err x M' => rw [e0] at w'; exact w'.elim
    | stuck => rw [e0] at w'; exact w'.elim
  obtain ⟨xs, M1, ys, M', e1, e2, w2⟩ := inv
  have hz := hfin.len ys M' _ F H as Q w2
  have wI : WpG S (RI S) (fun c d H' => W c d σ H') F H as (fi (wipeE ρ (own.map (·.2))) M) (fun J H' => ∃ F' as', Nxt F H as F' H' as' ∧ Sr S F' H' as' M1 ∧ Wk S F' as' xs J) := by
    rw [e1]
    exact fun J F' H' as' nx' sr' wk => ⟨F', as', nx', sr', wk⟩
  refine wpAny_comprehension_free (use := use) rfl hcl0 (closure_ok hfree) ok.kind (fun y hy e => by rw [ok.uniq y hy, e])
    (thn (hi.run pins s σ H _ I ⟨F, as, ρ, M, sr, er, wI⟩) fun xv s1 hx => thn hx fun itv s2 h2 => ?_)
  obtain ⟨it, fp, tn, J, H2, e, I2, T, st2, f2, F2, as2, nx2, sr2, wk2⟩ := h2
  subst e
  refine wpAny_newObj_type (newEnv_comp ?_) (by show 0 ≤ sizeLine; decide)
  generalize hD : s2.heap.objs.size = D
  have hDn : H2 D = none := I2.hok.fresh (Nat.le_of_eq hD)
  have hDn0 : H D = none := by
    cases q : H D with
    | none => rfl
    | some o => exact absurd hDn (nx2.there D (by rw [q]; simp))
  generalize hs3 : ({ s2 with heap := s2.heap.push { cls := .type "list", data := .seq ([] : List Value).toArray } } : Shared) = s3
  have I3 : Inv X pins σ (upd H2 D (.lst [])) s3 := by
    rw [← hs3]
    refine I2.laid (t' := s2.toks) (fun b o e => Heap.get?_push_of_some _ e) (Nat.le_of_eq hD) ⟨Nat.zero_le _, [], 0, .nil, ?_⟩
    rw [← hD]
    exact Heap.get?_push_size _ rfl
  have h3 : s3.heap = s2.heap.push { cls := .type "list", data := .seq ([] : List Value).toArray } := by rw [← hs3]
  have sz : ∀ b ∈ fp, b < s2.heap.objs.size := fun b hb => by
    obtain ⟨o, e, _⟩ := T.obj _ _ st2 b hb
    exact Heap.lt_size e
  have f3 : ∀ b ∈ fp, FpOk X pins (upd H2 D (.lst [])) b ∧ b < s3.heap.objs.size := fun b hb => by
    have hlt := sz b hb
    refine ⟨⟨?_, (f2 b hb).2⟩, by rw [h3, Heap.size_push]; exact Nat.lt_succ_of_lt hlt⟩
    rw [upd_ne (by rw [← hD]; exact Nat.ne_of_lt hlt)]
    exact (f2 b hb).1
  have st3 : tn 0 s3.heap := T.keep _ _ _ st2 fun b _ o e => by rw [h3]; exact Heap.get?_push_of_some _ e
  have I4 := block_start I3 ok hN f3
  have sr3 : Sr S F2 (upd H2 D (.lst [])) as2 M1 := sr2.upd hDn
  have nx3 : Nxt F H as F2 (upd H2 D (.lst [])) as2 := nx2.over hDn0
  have dk3 : DOk S H F2 (upd H2 D (.lst [])) as2 D [] [] := ⟨hDn0, sr2.none_of hDn, sr2.not_as hDn, upd_same, .nil⟩
  have er3 : Er S F2 as2 (wipeE ρ (own.map (·.2))) (wipe σ (own.map (·.2))) := (er.mono nx2).wipe _
  have na3 : NoneAt (tgS t ++ sl) (wipeE ρ (own.map (·.2))) := fun j hj => wipeE_noneAt ρ _ j (hsl j hj)
  have pg := hg s3 (upd H2 D (.lst [])) s3.heap.objs.size (cellsFrom (s3.heap.objs.size + 1) scope.names (cloFrom X.env.cells scope.names [])) fp
  have pt := ht s3 (upd H2 D (.lst [])) s3.heap.objs.size (cellsFrom (s3.heap.objs.size + 1) scope.names (cloFrom X.env.cells scope.names [])) fp
  have pp := hp s3 (upd H2 D (.lst [])) s3.heap.objs.size (cellsFrom (s3.heap.objs.size + 1) scope.names (cloFrom X.env.cells scope.names [])) fp
  have hcl1 := hcl (cellsFrom (s3.heap.objs.size + 1) scope.names (cloFrom X.env.cells scope.names [])) s3.heap.objs.size
  show codeAny _ _ (.compStart (.ListComp elt (⟨tg, itE, ifs, 0⟩ :: rest) scope pos) 0 (.ref it) (.ref D) (compEnvC scope (cellsFrom (s3.heap.objs.size + 1) scope.names (cloFrom X.env.cells scope.names [])) s3.heap.objs.size X.env)) (compPost (model X.prog X.w) X.A X.xe use Qf (.ref D) s3.heap.objs.size) { s3 with heap := pushCells (s3.heap.push { cls := .type "dict", data := .dict #[] }) scope.names }
  have nfp : ∀ b ∈ fp, (upd H2 D (.lst [])) b = none := fun b hb => (f3 b hb).1.1
  generalize hce : compEnvC scope (cellsFrom (s3.heap.objs.size + 1) scope.names (cloFrom X.env.cells scope.names [])) s3.heap.objs.size X.env = ce at I4 pg pt pp hcl1 ⊢
  have cL : ce.locals = s3.heap.objs.size := by subst hce; rfl
  generalize hH3 : upd H2 D (.lst []) = H3 at I3 I4 pg pt pp nfp f3 sr3 nx3 dk3
  generalize hs4 : ({ s3 with heap := pushCells (s3.heap.push { cls := .type "dict", data := .dict #[] }) scope.names } : Shared) = s4 at I4 ⊢
  have st4 : tn 0 s4.heap := T.keep _ _ _ st3 fun b _ o e => by rw [← hs4]; exact pushCells_keeps _ _ _ _ (Heap.get?_push_of_some _ e)
  have stat : ∀ b ∈ fp, FpOk (X.blk s3 H3 scope ce fp) [] H3 b := fun b hb =>
    ⟨nfp b hb, (I4.ok.exf b hb).1, I4.ok.exfs b hb, .inl hb, fun x c e => (I4.ok.exf b hb).2 x c e, fun p hp => absurd (show p ∈ ([] : List (Addr × Obj)) ++ [] from hp) (by simp)⟩
  have loop := loop_run (X := X.blk s3 H3 scope ce fp) (itE := itE) (i := 0) rfl (gens := ⟨tg, itE, ifs, 0⟩ :: rest) rfl (fun g e => hcl1 g e) pg pt pp dis (TurnX.of T rfl rfl rfl hc) [] s4 _ F H as F2 H3 as2 _ M1 D [] [] xs ys M' I4 stat st4 wk2 nx3 sr3 er3 na3 dk3 e2 (by simpa using hz)
  have loop' : codeAny (model X.prog X.w) X.A (.compLoop (.ListComp elt (⟨tg, itE, ifs, 0⟩ :: rest) scope pos) 0 (.ref it) (.ref D) ce) (compPost (model X.prog X.w) X.A X.xe use Qf (.ref D) s3.heap.objs.size) s4 := by
    refine codeAny_mono loop fun r s6 ⟨hr, σ6, F6, H6, as6, vs6, I6, o6, g6, nx6, sr6, dk6⟩ => ?_
    subst hr
    have I7 : Inv X pins σ H6 s6 := I3.call' (ch := fp) I6.os I6.base I6.hok I6.bare fun b hb => ⟨(f3 b hb).1.2.2.2.1, (f3 b hb).1.2.1, (f3 b hb).1.2.2.2.2.1, (f3 b hb).1.2.2.2.2.2⟩
    have nC : H6 s3.heap.objs.size = none := by
      have z : H6 ce.locals = none := I6.free
      rw [cL] at z
      exact z
    obtain ⟨m, hn, _⟩ := I6.loc
    have hn : s6.heap.Ns ce.locals m := hn
    rw [cL] at hn
    have dk6' : DOk S H F6 H6 as6 D vs6 (ys.map em) := dk6
    exact hRR D s3.heap.objs.size s6 m H6 I7 (hfin.done ys M' _ F H F6 H6 as as6 D vs6 Q nx6 sr6 dk6' w2) hn (I3.fpOk (Nat.le_refl _) nC)
  exact codeAny_compStart_list loop' (T.self X.A 0 _ _ _ st4 loop')
end
end Ev

/-! Ev10: statements, one construct after the other. -/
namespace Ev
open PySem PySem.Spec PyProof.Rows L2
open LamX (Tabs)

section
variable {X : Cx} {S : Stat} {W : WX} {F H : Hp} {as : AS} {M : Sto} {p : Addr}
/-! ### comprehensions as values -/
theorem wipeE_er {F : Hp} {as : AS} {ρ : Env'} {σ : L2.St} (e : Er S F as ρ σ) (sl : List Nat) : Er S F as (wipeE ρ sl) σ :=
  ⟨by rw [wipeE_length]; exact e.len, fun i y h => e.at_ i y (wipeE_some h).1⟩
section
variable {elt tg itE : Expr} {ifs : List Expr} {rest : List Comprehension} {scope : Scope} {own : List (Str × Nat)} {pos : Pos} {t : Tg} {sl : List Nat} {W' : WX} {α : Type} {em : α → VV} {fin : List α → Sto → Res TV} {fi : Env' → Sto → Res (List PyData)} {ft : Env' → Sto → Res Bool} {fb : Env' → Sto → Res (List α)}
def lcF {α : Type} (fi : Env' → Sto → Res (List PyData)) (t : Tg) (ft : Env' → Sto → Res Bool) (fb : Env' → Sto → Res (List α)) : Env' → Sto → Res (List α) := fun ρ M => (fi ρ M).bind fun xs M1 => loopC (itemK t ρ ft fb) xs M1
/-- what a comprehension's parts are -/
structure LcP {α : Type} (em : α → VV) (X : Cx) (S : Stat) (W : WX) (elt tg itE : Expr) (ifs : List Expr) (rest : List Comprehension) (scope : Scope) (own : List (Str × Nat)) (pos : Pos) (t : Tg) (sl : List Nat) (W' : WX)
    (fi : Env' → Sto → Res (List PyData)) (ft : Env' → Sto → Res Bool) (fb : Env' → Sto → Res (List α)) : Prop where
  hc : X.calm = true
  hN : X.N.Nodup
  hi : PI X tg itE (tI S fi W)
  ok : BlkOk X.N X.env.scope scope own
  hcl0 : ∀ x, foldedSetIterable itE X.env x = pure x
  hcl : ∀ cl C g, rest[0]? = some g → ClOk (compEnvC scope cl C X.env) g
  hg : ∀ (s : Shared) (H : Hp) (C : Addr) (cl : List (Str × Addr)) (fp : List Addr), PG (X.blk s H scope (compEnvC scope cl C X.env) fp) tg (gTg S t)
  ht : ∀ (s : Shared) (H : Hp) (C : Addr) (cl : List (Str × Addr)) (fp : List Addr), PTs (X.blk s H scope (compEnvC scope cl C X.env) fp) ifs (tG S (RB S) ft W')
  hp : ∀ (s : Shared) (H : Hp) (C : Addr) (cl : List (Str × Addr)) (fp : List Addr), PCl em (X.blk s H scope (compEnvC scope cl C X.env) fp) S elt (⟨tg, itE, ifs, 0⟩ :: rest) scope pos 1 sl fb
  dis : ∀ j ∈ tgS t, j ∉ sl
  hsl : ∀ j ∈ tgS t ++ sl, j ∈ own.map (·.2)
theorem LcP.hi' (P : LcP em X S W elt tg itE ifs rest scope own pos t sl W' fi ft fb) : PI X tg itE (tI S (fun ρ M => fi (wipeE ρ (own.map (·.2))) M) W) :=
  PI.imp P.hi fun σ H R ⟨F, as, ρ, M, s, e, w⟩ => ⟨F, as, _, M, s, wipeE_er e _, w⟩
theorem pe_lcG (hfin : FinOk S em fin) (P : LcP em X S W elt tg itE ifs rest scope own pos t sl W' fi ft fb) : PE X (.ListComp elt (⟨tg, itE, ifs, 0⟩ :: rest) scope pos) (tE S (fun ρ M => lcG fin (lcF fi t ft fb (wipeE ρ (own.map (·.2))) M)) W) := by
  refine ⟨fun pins s σ H Q I h => ?_⟩
  rw [eval_ListComp]
  refine lcE_core hfin P.hc P.hN I P.hi' P.ok P.hcl0 P.hcl P.hg P.ht P.hp P.dis P.hsl h fun D C s' m H' I' q hn f => ⟨m, hn, fun h'' sb => ?_⟩
  obtain ⟨f0, f1, f2, f3, f4, f5⟩ := f
  exact ⟨.ref D, H', I'.turned (t' := s'.toks) (fun b o hb e => (sb.2 b hb).trans e) f0 f1 f3 f4 f5, rfl, q⟩
theorem ps_lcG {i : Nat} {y : Str} {py spos : Pos} (hfin : FinOk S em fin) (P : LcP em X S W elt tg itE ifs rest scope own pos t sl W' fi ft fb) (hy : X.N[i]? = some y) (hyl : X.env.scope.names.lookup y = some .local)
    (hsw : swapsWith (.ListComp elt (⟨tg, itE, ifs, 0⟩ :: rest) scope pos) (some (.Name y py)) spos.line X.env = pure true) :
    PS X (.Assign [.Name y py] (.ListComp elt (⟨tg, itE, ifs, 0⟩ :: rest) scope pos) spos) (tAsg (tE S (fun ρ M => lcG fin (lcF fi t ft fb (wipeE ρ (own.map (·.2))) M)) W) (gName i)) := by
  refine ⟨fun pins s σ H D I h => ?_⟩
  rw [exec_Assign_Name_used _ _ _ _ hsw]
  refine wpAny_bind (wpAny_standAt (wpAny_bind ?_))
  show wpAny _ X.A (do let _ ← comprehension (.ListComp elt (⟨tg, itE, ifs, 0⟩ :: rest) scope pos) scope X.env (firstIterPos (⟨tg, itE, ifs, 0⟩ :: rest) pos) (newList []) false (eval itE X.env) (some (assign (.Name y py) X.env))) _ _ s
  have h : tE S (fun ρ M => lcG fin (lcF fi t ft fb (wipeE ρ (own.map (·.2))) M)) W σ H (fun x H1 => gName i x σ H1 D.nx) := h
  refine wpAny_bind (thn (lcE_core hfin (Qf := fun _ s' => SP X pins D .next s') P.hc P.hN I P.hi' P.ok P.hcl0 P.hcl P.hg P.ht P.hp P.dis P.hsl h fun L C s' m H' I' q hn f => ?_) fun _ s' hq => wpAny_pure (wpAny_pure hq))
  show wpAny _ _ (assign (.Name y py) X.env (.ref L)) _ _ _
  refine wpAny_assign_Name (store_ok2 (v := V.ref L) I' P.hN hy (.inl hyl) rfl (fun s2 I2 ⟨a, sb, ha⟩ => ?_) (.inr hyl))
  obtain ⟨f0, f1, f2, f3, f4, f5⟩ := f
  have haC : C ≠ a := by
    rcases ha with z | z
    · rw [z]; exact f1
    · exact fun e => f4 y a z e.symm
  refine ⟨m, hn.sameBut sb haC, fun h3 sb3 => ?_⟩
  exact ⟨_, H', I2.turned (t' := s2.toks) (fun b o hb e => (sb3.2 b hb).trans e) f0 f1 f3 f4 f5, q⟩
end

theorem pe_lcE {elt tg itE : Expr} {ifs : List Expr} {rest : List Comprehension} {scope : Scope} {own : List (Str × Nat)} {pos : Pos} {t : Tg} {sl : List Nat} {W' : WX} {fi : Env' → Sto → Res (List PyData)} {ft : Env' → Sto → Res Bool} {fb : Env' → Sto → Res (List PyData)}
    (P : LcP VV.d X S W elt tg itE ifs rest scope own pos t sl W' fi ft fb) : PE X (.ListComp elt (⟨tg, itE, ifs, 0⟩ :: rest) scope pos) (tE S (fun ρ M => lcK (lcF fi t ft fb (wipeE ρ (own.map (·.2))) M)) W) := by
  have e0 : (fun (ρ : Env') (M : Sto) => lcK (lcF fi t ft fb (wipeE ρ (own.map (·.2))) M)) = fun ρ M => lcG finD (lcF fi t ft fb (wipeE ρ (own.map (·.2))) M) := by funext ρ M; rw [lcK_eq]
  rw [e0]
  exact pe_lcG finD_ok P
/-! ### the store: a new list put in, an item appended, an item stored -/
theorem getElem?_snoc {α : Type} {l : List α} {x y : α} {n : Nat} (h : (l ++ [x])[n]? = some y) : (n < l.length ∧ l[n]? = some y) ∨ (n = l.length ∧ x = y) := by
  by_cases hn : n < l.length
  · rw [List.getElem?_append_left hn] at h; exact .inl ⟨hn, h⟩
  · rw [List.getElem?_append_right (by omega)] at h
    cases hk : n - l.length with
    | zero => rw [hk] at h; exact .inr ⟨by omega, by simpa using h⟩
    | succ k => rw [hk] at h; simp at h
theorem Nxt.put (x : Nxt F H as F H as) {p : Addr} (h : H p = none ∨ some p ∈ as) : Nxt F H as F H (as ++ [some p]) where
  len := by rw [List.length_append]; omega
  old := fun n a e hn => by rcases getElem?_snoc e with ⟨_, z⟩ | ⟨z, _⟩; exact z; omega
  new := fun n a e hn => by
    rcases getElem?_snoc e with ⟨z, _⟩ | ⟨_, z⟩
    · omega
    · cases z; exact h
  keep := fun b o h1 _ e => e
  there := fun _ e => e
  grow := fun _ _ e => e
  fresh := fun b h1 _ _ => h1
theorem Nxt.put' {F0 H0 : Hp} {as0 : AS} (x : Nxt F0 H0 as0 F H as) {p : Addr} (h : H0 p = none ∨ some p ∈ as0) : Nxt F0 H0 as0 F H (as ++ [some p]) where
  len := by rw [List.length_append]; have := x.len; omega
  old := fun n a e hn => by
    rcases getElem?_snoc e with ⟨_, z⟩ | ⟨z, _⟩
    · exact x.old n a z hn
    · have := x.len; omega
  new := fun n a e hn => by
    rcases getElem?_snoc e with ⟨z, z2⟩ | ⟨_, z⟩
    · exact x.new n a z2 hn
    · cases z; exact h
  keep := x.keep
  there := x.there
  grow := x.grow
  fresh := x.fresh
theorem Sr.put {ds : List PyData} {vs : List V} (s : Sr S F H as M) (hF : F p = none) (hp : some p ∉ as) (hH : H p = some (.lst vs)) (d : DpAll S.K F vs ds) : Sr S F H (as ++ [some p]) (M ++ [.lst ds]) where
  sub := s.sub
  nt := s.nt
  len := by rw [List.length_append, List.length_append, s.len]; rfl
  inj := fun n m a h1 h2 => by
    rcases getElem?_snoc h1 with ⟨a1, a2⟩ | ⟨a1, a2⟩ <;> rcases getElem?_snoc h2 with ⟨b1, b2⟩ | ⟨b1, b2⟩
    · exact s.inj n m a a2 b2
    · cases b2; exact absurd (mem_ix.mpr ⟨n, a2⟩) hp
    · cases a2; exact absurd (mem_ix.mpr ⟨m, b2⟩) hp
    · omega
  out := fun n a h => by
    rcases getElem?_snoc h with ⟨_, z⟩ | ⟨_, z⟩
    · exact s.out n a z
    · cases z; exact ⟨hF, by rw [hH]; trivial⟩
  obj := fun n es h => by
    rcases getElem?_snoc h with ⟨z0, z⟩ | ⟨z0, z⟩
    · obtain ⟨a, us, h1, h2, h3⟩ := s.obj n es z
      exact ⟨a, us, by rw [List.getElem?_append_left (by rw [s.len]; exact z0)]; exact h1, h2, h3⟩
    · cases z
      exact ⟨p, vs, by rw [z0, ← s.len, List.getElem?_append_right (Nat.le_refl _)]; simp, hH, d⟩
  vls := fun n xs h => by
    rcases getElem?_snoc h with ⟨z0, z⟩ | ⟨z0, z⟩
    · obtain ⟨a, us, h1, h2, h3⟩ := s.vls n xs z
      refine ⟨a, us, by rw [List.getElem?_append_left (by rw [s.len]; exact z0)]; exact h1, h2, paired_mono (Vi.up (fun _ _ h => h) fun m b hm e => ?_) h3⟩
      rw [List.getElem?_append_left (by rw [s.len]; omega)] at e
      exact e
    · cases z
  tabs := s.tabs
theorem items_vi {K : KO} {F : Hp} {as : AS} {a : Option Addr} : ∀ {xs : List VV} {vs : List V}, itemsOk as.length xs = true → Paired (Vr K F as) xs vs → Paired (Vi K F (as ++ [a]) as.length) xs vs
  | [], _, _, .nil => .nil
  | .d _ :: xs, _, h, .cons h1 h2 => .cons h1 (items_vi (xs := xs) h h2)
  | .ref m :: xs, _, h, .cons h1 h2 => by
    simp only [itemsOk, Bool.and_eq_true, decide_eq_true_eq] at h
    refine .cons ⟨h.1, fun b e => ?_⟩ (items_vi (xs := xs) h.2 h2)
    rw [List.getElem?_append_left h.1] at e
    exact h1.2 b e
  | .raw _ :: _, _, h, _ => by simp [itemsOk] at h
  | .fn _ :: _, _, h, _ => by simp [itemsOk] at h
theorem Sr.putV {xs : List VV} {vs : List V} (s : Sr S F H as M) (hF : F p = none) (hp : some p ∉ as) (hH : H p = some (.lst vs)) (d : Paired (Vi S.K F (as ++ [some p]) as.length) xs vs) : Sr S F H (as ++ [some p]) (M ++ [.vls xs]) where
  sub := s.sub
  nt := s.nt
  len := by rw [List.length_append, List.length_append, s.len]; rfl
  inj := fun n m a h1 h2 => by
    rcases getElem?_snoc h1 with ⟨a1, a2⟩ | ⟨a1, a2⟩ <;> rcases getElem?_snoc h2 with ⟨b1, b2⟩ | ⟨b1, b2⟩
    · exact s.inj n m a a2 b2
    · cases b2; exact absurd (mem_ix.mpr ⟨n, a2⟩) hp
    · cases a2; exact absurd (mem_ix.mpr ⟨m, b2⟩) hp
    · omega
  out := fun n a h => by
    rcases getElem?_snoc h with ⟨_, z⟩ | ⟨_, z⟩
    · exact s.out n a z
    · cases z; exact ⟨hF, by rw [hH]; trivial⟩
  obj := fun n es h => by
    rcases getElem?_snoc h with ⟨z0, z⟩ | ⟨z0, z⟩
    · obtain ⟨a, us, h1, h2, h3⟩ := s.obj n es z
      exact ⟨a, us, by rw [List.getElem?_append_left (by rw [s.len]; exact z0)]; exact h1, h2, h3⟩
    · cases z
  vls := fun n ys h => by
    rcases getElem?_snoc h with ⟨z0, z⟩ | ⟨z0, z⟩
    · obtain ⟨a, us, h1, h2, h3⟩ := s.vls n ys z
      refine ⟨a, us, by rw [List.getElem?_append_left (by rw [s.len]; exact z0)]; exact h1, h2, paired_mono (Vi.up (fun _ _ h => h) fun m b hm e => ?_) h3⟩
      rw [List.getElem?_append_left (by rw [s.len]; omega)] at e
      exact e
    · cases z
      refine ⟨p, vs, by rw [z0, ← s.len, List.getElem?_append_right (Nat.le_refl _)]; simp, hH, ?_⟩
      rw [z0, ← s.len]
      exact d
  tabs := s.tabs
theorem pe_lrefsE {es : List Expr} {pos : Pos} {fs : Env' → Sto → Res (List VV)} (h : PA X es (tV S fs W)) : PE X (.List es pos) (tE S (fun ρ M => (fs ρ M).bind lrefsK) W) :=
  PE.imp (pe_lst h) fun σ H Q h => tG.bind (k := fun _ xs M => lrefsK xs M) h fun F1 H1 as1 ρ M1 _ _ xs vs s1 e1 t1 w1 => by
    unfold lrefsK at w1
    split at w1
    · rename_i hz
      have t1' : Paired (Vr S.K F1 as1) xs vs := t1
      refine ⟨by rw [← Paired.length t1']; exact hz.2, fun p hp => ?_⟩
      have i1 := hz.1
      rw [← s1.len] at i1
      have sn := (s1.upd (o := .lst vs) hp).putV (s1.none_of hp) (s1.not_as hp) upd_same (items_vi (a := some p) i1 t1')
      refine w1 (.ref p) F1 _ (as1 ++ [some p]) ((nxt_upd hp).put' (.inl hp)) sn ⟨by rw [List.length_append, s1.len]; simp, fun a e => ?_⟩
      rw [← s1.len, List.getElem?_append_right (Nat.le_refl _)] at e
      simp at e
      rw [e]
    · exact w1.elim
theorem lrefs_ok : FinOk S id lrefsK where
  len := fun ys M W F H as Q w => by
    unfold lrefsK at w
    split at w
    · rename_i h; exact h.2
    · exact w.elim
  done := fun ys M W F H F' H' as as' D vs Q nx sr dk w => by
    unfold lrefsK at w
    split at w
    · rename_i hz
      have t1' : Paired (Vr S.K F' as') ys vs := by
        have := dk.dp
        rwa [List.map_id] at this
      have i1 := hz.1
      rw [← sr.len] at i1
      have sn := sr.putV dk.nF dk.na dk.at_ (items_vi (a := some D) i1 t1')
      refine w (.ref D) F' H' (as' ++ [some D]) (nx.put' (.inl dk.new)) sn ⟨by rw [List.length_append, sr.len]; simp, fun a e => ?_⟩
      rw [← sr.len, List.getElem?_append_right (Nat.le_refl _)] at e
      simp at e
      rw [e]
    · exact w.elim
theorem pe_alcE {e : Expr} {fe : Env' → Sto → Res TV} (he : PE X e (tE S fe W)) : PE X e (tE S (fun ρ M => (fe ρ M).bind alcK) W) :=
  PE.imp he fun σ H Q ⟨F, as, ρ, M, s, er, w⟩ => ⟨F, as, ρ, M, s, er, by
    dsimp only at w
    cases hz : fe ρ M with
    | ok t M1 =>
      rw [hz] at w
      intro v F1 H1 as1 nx s1 t1
      cases t with
      | own ds =>
        obtain ⟨p, vs, e, h1, h2, h3, h4, h5⟩ := t1
        subst e
        have w' : WpG S (RT S) (fun c d H' => W c d σ H') F H as (.ok (.v (.ref M1.length)) (M1 ++ [.lst ds])) Q := w
        exact w' (.ref p) F1 H1 (as1 ++ [some p]) (nx.put' h5) (s1.put h1 h2 h3 h4) ⟨by rw [List.length_append, s1.len]; simp, fun a e => by
          rw [← s1.len, List.getElem?_append_right (Nat.le_refl _)] at e
          simp at e
          rw [e]⟩
      | v x => exact w.elim
    | err x M1 => rw [hz] at w; exact w
    | stuck => rw [hz] at w; exact w.elim⟩
theorem Nxt.wr {o : HO} (h : some p ∈ as) (hH : H p ≠ none) : Nxt F H as F (upd H p o) as where
  len := Nat.le_refl _
  old := fun _ _ e _ => e
  new := fun n a e hl => by rw [List.getElem?_eq_none hl] at e; cases e
  keep := fun b u hb _ e => by
    by_cases hp : b = p
    · subst hp; exact absurd h hb
    · rw [upd_ne hp]; exact e
  there := fun b e => by
    by_cases hp : b = p
    · rw [hp, upd_same]; simp
    · rw [upd_ne hp]; exact e
  grow := fun _ _ e => e
  fresh := fun _ e _ _ => e
theorem Sr.wr {n : Nat} {ds : List PyData} {vs us : List V} (s : Sr S F H as M) (h : as[n]? = some (some p)) (hH : H p = some (.lst us)) (d : DpAll S.K F vs ds) : Sr S F (L2.upd H p (.lst vs)) as (M.set n (.lst ds)) where
  sub := fun b u e => by
    by_cases hb : b = p
    · rw [hb, (s.out n p h).1] at e; cases e
    · rw [upd_ne hb]; exact s.sub b u e
  nt := s.nt
  len := by rw [List.length_set]; exact s.len
  inj := s.inj
  out := fun m a e => by
    have q := s.out m a e
    refine ⟨q.1, ?_⟩
    by_cases hb : a = p
    · rw [hb, upd_same]; trivial
    · rw [upd_ne hb]; exact q.2
  obj := fun m es e => by
    by_cases hm : n = m
    · subst hm
      have hl : n < M.length := by
        rw [← s.len]
        exact (List.getElem?_eq_some_iff.mp h).1
      rw [List.getElem?_set_self hl] at e
      cases e
      exact ⟨p, vs, h, upd_same, d⟩
    · rw [List.getElem?_set_ne hm] at e
      obtain ⟨a, us, h1, h2, h3⟩ := s.obj m es e
      have hb : a ≠ p := fun z => hm (s.inj n m p h (by rw [← z]; exact h1))
      exact ⟨a, us, h1, by rw [upd_ne hb]; exact h2, h3⟩
  vls := fun m xs e => by
    by_cases hm : n = m
    · subst hm
      rw [List.getElem?_set_self (by rw [← s.len]; exact (List.getElem?_eq_some_iff.mp h).1)] at e
      cases e
    · rw [List.getElem?_set_ne hm] at e
      obtain ⟨a, us, h1, h2, h3⟩ := s.vls m xs e
      have hb : a ≠ p := fun z => hm (s.inj n m p h (by rw [← z]; exact h1))
      exact ⟨a, us, h1, by rw [upd_ne hb]; exact h2, h3⟩
  tabs := tabs_over s.tabs hH
def appF (fo : Env' → Sto → Res TV) (fs : Env' → Sto → Res (List VV)) : Env' → Sto → Res TV := fun ρ M => (fo ρ M).bind fun ta M1 => if isRef ta M1 = true then (fs ρ M1).bind (appK ta) else .stuck
theorem pe_appE {o e : Expr} {apos cpos : Pos} {fo : Env' → Sto → Res TV} {fs : Env' → Sto → Res (List VV)} (ho : PE X o (tE S fo W)) (ha : PA X [e] (tV S fs W)) (hK : X.K = S.K)
    (hbase : attributeBase o "append" X.env (eval o X.env) = eval o X.env) (hst : notStar e = true) (hline : (apos.endLine == cpos.line) = true) :
    PE X (.Call (.Attribute o "append" apos) [e] [] cpos) (tE S (appF fo fs) W) := by
  have hs : starEach (e :: []) X.env = (false, eval e X.env) :: starEach [] X.env := star_of hst
  refine PE.imp (pe_bm PySem.F.plainAttrs_list PySem.F.slot_list_append PySem.F.type_list_append mt_append ho ha hbase ?_ hline hs ?_) fun σ H Q h => ?_
  · rw [hs]; rfl
  · rfl
  · obtain ⟨F, as, ρ, M, s, er, w⟩ := h
    refine ⟨F, as, ρ, M, s, er, WpG.bind w fun ta M1 v F1 H1 as1 _ nx s1 t1 w1 => ?_⟩
    cases hr : isRef ta M1 with
    | false => rw [if_neg (by rw [hr]; exact Bool.false_ne_true)] at w1; exact w1.elim
    | true =>
      rw [if_pos hr] at w1
      unfold isRef at hr
      split at hr
      · rename_i n het
        split at hr
        · rename_i ds hds
          obtain ⟨a, vs, h1, h2, h3⟩ := s1.obj n ds hds
          have t1' : Vr S.K F1 as1 (.ref n) v := t1
          have ev := t1'.2 a h1
          subst ev
          refine ⟨.inl ⟨rfl, vs, SqL.of h2⟩, F1, as1, ρ, M1, s1, er.mono nx, WpG.bind (k := appK (.v (.ref n))) w1 fun xs M2 us F2 H2 as2 _ nx2 s2 t2 w2 => ?_⟩
          unfold appK at w2
          split at w2
          · rename_i m x e1 e2
            cases e1
            split at w2
            · rename_i ds2 hds2
              obtain ⟨b, ws, g1, g2, g3⟩ := s2.obj _ ds2 hds2
              have hb : b = a := by
                have z := nx2.old n b g1 t1'.1
                rw [h1] at z
                cases z
                rfl
              subst hb
              cases hz : lenOk (ds2.length + 1) with
              | true =>
                rw [if_pos hz] at w2
                have t2' : Paired (Vr S.K F2 as2) [.d x] us := t2
                cases t2' with
                | cons hx hr =>
                  cases hr
                  have zl := lenOk_le hz
                  have zl2 := dpAll_len g3
                  refine ⟨b, ws, _, rfl, rfl, g2, by omega, ?_⟩
                  exact w2 .non F2 _ as2 (Nxt.wr (mem_ix.mpr ⟨n, g1⟩) (by rw [g2]; simp)) (s2.wr g1 g2 (dpAll_app g3 (.cons hx .nil))) .non
              | false => rw [if_neg (by rw [hz]; exact Bool.false_ne_true)] at w2; exact w2.elim
            · exact w2.elim
          · exact w2.elim
        · cases hr
      · cases hr

theorem fz_shape {r : Res TV} {t : TV} {M1 : Sto} (h : r.fz = .ok t M1) : t = .v (freezes t) := by
  cases r with
  | ok u M2 =>
    have h : Res.ok u.fz M2 = Res.ok t M1 := h
    injection h with h1 h2
    rw [← h1]
    cases u <;> rfl
  | err _ _ => cases h
  | stuck => cases h
/-! ### statements -/
inductive Fl where
  | nx (ρ : Env')
  | ret (t : TV)
def seqF (k : Env' → Sto → Res Fl) (f : Fl) (M : Sto) : Res Fl := match f with
  | .nx ρ => k ρ M
  | .ret t => .ok (.ret t) M
def WpS (S : Stat) (W : WX) (D : Ends) (F H : Hp) (as : AS) (r : Res Fl) : Prop := match r with
  | .ok (.nx ρ') M' => ∀ σ' F' H' as', Nxt F H as F' H' as' → Sr S F' H' as' M' → Er S F' as' ρ' σ' → D.nx σ' H'
  | .ok (.ret t) M' => ∀ v F' H' as', Nxt F H as F' H' as' → Sr S F' H' as' M' → Tr S.K H as F' H' as' t v → D.rt v H'
  | .err x M' => ∀ σ' F' H' as', Nxt F H as F' H' as' → Sr S F' H' as' M' → W (.ref (S.cx x)) none σ' H'
  | .stuck => False
def tS (S : Stat) (f : Env' → Sto → Res Fl) (W : WX) : TS := fun D σ H => ∃ F as ρ M, Sr S F H as M ∧ Er S F as ρ σ ∧ WpS S W D F H as (f ρ M)
theorem WpS.later {D : Ends} {F1 H1 : Hp} {as1 : AS} {r : Res Fl} (x : Nxt F H as F1 H1 as1) (h : WpS S W D F H as r) : WpS S W D F1 H1 as1 r := by
  cases r with
  | ok f M' =>
    cases f with
    | nx ρ => exact fun σ' F' H' as' nx s e => h σ' F' H' as' (x.trans nx) s e
    | ret t => exact fun v F' H' as' nx s t => h v F' H' as' (x.trans nx) s (Tr.start x t)
  | err y M' => exact fun σ' F' H' as' nx s => h σ' F' H' as' (x.trans nx) s
  | stuck => exact h
/-- an expression's value, the rest of the statement behind it -/
theorem WpS.bind {α β : Type} {R : Rel S α β} {D : Ends} {σ : L2.St} {r : Res α} {k : α → Sto → Res Fl} {Q : β → Hp → Prop} (h : WpS S W D F H as (r.bind k))
    (hq : ∀ t M1 v F1 H1 as1, r = .ok t M1 → Nxt F H as F1 H1 as1 → Sr S F1 H1 as1 M1 → R.r H as F1 H1 as1 t v → WpS S W D F1 H1 as1 (k t M1) → Q v H1) : WpG S R (fun c d H' => W c d σ H') F H as r Q := by
  cases r with
  | ok t M' => exact fun v F' H' as' nx s tr => hq t M' v F' H' as' rfl nx s tr (WpS.later nx h)
  | err y M' => exact fun F' H' as' nx s => h σ F' H' as' nx s
  | stuck => exact h
theorem PS.imp {st : Stmt} {t t' : TS} (h : PS X st t) (hi : ∀ D σ H, t' D σ H → t D σ H) : PS X st t' := ⟨fun pins s σ H D I q => h.run pins s σ H D I (hi D σ H q)⟩
theorem PSs.imp {st : List Stmt} {t t' : TS} (h : PSs X st t) (hi : ∀ D σ H, t' D σ H → t D σ H) : PSs X st t' := ⟨fun pins s σ H D I q => h.run pins s σ H D I (hi D σ H q)⟩
variable {st : Stmt} {rest : List Stmt} {fa fb : Env' → Sto → Res Fl} {fe : Env' → Sto → Res TV} {e : Expr} {pos : Pos}
theorem pss_nilE : PSs X [] (tS S (fun ρ M => .ok (.nx ρ) M) W) := PSs.imp pss_nil fun D σ H ⟨F, as, ρ, M, s, er, w⟩ => w σ F H as .refl s er
theorem pss_consE (h1 : PS X st (tS S fa W)) (h2 : PSs X rest (tS S fb W)) : PSs X (st :: rest) (tS S (fun ρ M => (fa ρ M).bind (seqF fb)) W) :=
  PSs.imp (pss_cons h1 h2) fun D σ H ⟨F, as, ρ, M, s, er, w⟩ => ⟨F, as, ρ, M, s, er, by
    dsimp only at w
    cases hz : fa ρ M with
    | ok f M1 =>
      rw [hz] at w
      cases f with
      | nx ρ1 => exact fun σ' F' H' as' nx s' e' => ⟨F', as', ρ1, M1, s', e', WpS.later (r := fb ρ1 M1) nx w⟩
      | ret t => exact w
    | err x M1 => rw [hz] at w; exact w
    | stuck => rw [hz] at w; exact w.elim⟩

/-- the lists among the items, frozen -/
def frzAll : List VV → Sto → Option (List PyData × Sto)
  | [], M => some ([], M)
  | .d x :: r, M => (frzAll r M).map fun p => (x :: p.1, p.2)
  | .ref m :: r, M => match M[m]? with
    | some (.lst ds) => (frzAll r (M.set m .gone)).map fun p => (.list ds :: p.1, p.2)
    | _ => none
  | _ :: _, _ => none
def frzK (i : Nat) (ρ : Env') (M : Sto) : Res Fl := match ρ[i]? with
  | some (some (.ref n)) => match M[n]? with
    | some (.lst ds) => .ok (.nx (ρ.set i (some (.d (.list ds))))) (M.set n .gone)
    | some (.vls xs) => match frzAll xs M with
      | some (ds, M') => .ok (.nx (ρ.set i (some (.d (.list ds))))) (M'.set n .gone)
      | none => .stuck
    | _ => .stuck
  | _ => .stuck
theorem ps_dropE (he : PE X e (tE S fe W)) (hs : swapsWith e none pos.line X.env = pure false) : PS X (.Expr e pos) (tS S (fun ρ M => (fe ρ M).bind fun _ M1 => .ok (.nx ρ) M1) W) :=
  PS.imp (ps_expr he hs) fun D σ H ⟨F, as, ρ, M, s, er, w⟩ => ⟨F, as, ρ, M, s, er, WpS.bind (σ := σ) w fun t M1 v F1 H1 as1 _ nx s1 t1 w1 => w1 σ F1 H1 as1 .refl s1 (er.mono nx)⟩
theorem ps_retE (he : PE X e (tE S fe W)) : PS X (.Return (some e) pos) (tS S (fun ρ M => (fe ρ M).bind fun t M1 => .ok (.ret t) M1) W) :=
  PS.imp (ps_ret he) fun D σ H ⟨F, as, ρ, M, s, er, w⟩ => ⟨F, as, ρ, M, s, er, by
    dsimp only at w
    cases hz : fe ρ M with
    | ok t M1 => rw [hz] at w; exact fun v F' H' as' nx s' t' => w v F' H' as' nx s' t'
    | err x M1 => rw [hz] at w; exact fun F' H' as' nx s' => w σ F' H' as' nx s'
    | stuck => rw [hz] at w; exact w.elim⟩
theorem ps_ifE {c : Expr} {a b : List Stmt} {fc : Env' → Sto → Res TV} (hc : PT X c (tT S fc W)) (ha : PSs X a (tS S fa W)) (hb : PSs X b (tS S fb W)) :
    PS X (.If c a b pos) (tS S (fun ρ M => ((fc ρ M).bind asB).bind fun c M1 => if c = true then fa ρ M1 else fb ρ M1) W) :=
  PS.imp (ps_if hc ha hb) fun D σ H ⟨F, as, ρ, M, s, er, w⟩ => ⟨F, as, ρ, M, s, er, WpS.bind (R := RB S) (σ := σ) w fun c M1 c' F1 H1 as1 _ nx s1 t1 w1 => by
    obtain rfl : c = c' := t1
    cases c with
    | true => rw [if_pos rfl] at w1 ⊢; exact ⟨F1, as1, ρ, M1, s1, er.mono nx, w1⟩
    | false => rw [if_neg Bool.false_ne_true] at w1 ⊢; exact ⟨F1, as1, ρ, M1, s1, er.mono nx, w1⟩⟩
def setK (i : Nat) (ρ : Env') (t : TV) (M : Sto) : Res Fl := .ok (.nx (ρ.set i (some (freezes t)))) M
theorem set_ok {i : Nat} {D : Ends} {σ : L2.St} (h : tS S (fun ρ M => (fe ρ M).bind (setK i ρ)) W D σ H) : tE S (fun ρ M => (fe ρ M).fz) W σ H fun x H1 => gName i x σ H1 D.nx := by
  obtain ⟨F, as, ρ, M, s, er, w⟩ := h
  refine ⟨F, as, ρ, M, s, er, ?_⟩
  have w' : WpS S W D F H as ((fe ρ M).fz.bind (setK i ρ)) := by
    rw [Res.fz_bind]
    have e0 : (fun t M => setK i ρ t.fz M) = setK i ρ := by funext t M; unfold setK; rw [freezes_fz]
    rw [e0]; exact w
  refine WpS.bind (σ := σ) (k := setK i ρ) w' fun t M1 v F1 H1 as1 et nx s1 t1 w1 => ?_
  have ft : t = .v (freezes t) := fz_shape et
  rw [ft] at t1
  exact w1 _ F1 H1 as1 .refl s1 ((er.mono nx).set i t1)
theorem ps_setE {i : Nat} {x : Str} {pos' : Pos} (hN : X.N.Nodup) (hi : X.N[i]? = some x) (hx : Loc X.env.scope x) (he : PE X e (tE S fe W)) (hs : swapsWith e (some (.Name x pos')) pos.line X.env = pure false) (hf : X.fn x = true ∨ X.env.scope.names.lookup x = some .local) :
    PS X (.Assign [.Name x pos'] e pos) (tS S (fun ρ M => (fe ρ M).bind (setK i ρ)) W) := PS.imp (ps_set hN hi hx (PE.fz he) hs hf) fun D σ H h => set_ok h
theorem ps_lcSetG {α : Type} {em : α → VV} {fin : List α → Sto → Res TV} {i : Nat} {y : Str} {py spos : Pos} {elt tg itE : Expr} {ifs : List Expr} {rest : List Comprehension} {scope : Scope} {own : List (Str × Nat)} {t : Tg} {sl : List Nat} {W' : WX} {fi : Env' → Sto → Res (List PyData)} {ft : Env' → Sto → Res Bool} {fb : Env' → Sto → Res (List α)}
    (hfin : FinOk S em fin) (P : LcP em X S W elt tg itE ifs rest scope own pos t sl W' fi ft fb) (hy : X.N[i]? = some y) (hyl : X.env.scope.names.lookup y = some .local)
    (hsw : swapsWith (.ListComp elt (⟨tg, itE, ifs, 0⟩ :: rest) scope pos) (some (.Name y py)) spos.line X.env = pure true) :
    PS X (.Assign [.Name y py] (.ListComp elt (⟨tg, itE, ifs, 0⟩ :: rest) scope pos) spos) (tS S (fun ρ M => (lcG fin (lcF fi t ft fb (wipeE ρ (own.map (·.2))) M)).bind (setK i ρ)) W) :=
  PS.imp (ps_lcG hfin P hy hyl hsw) fun D σ H h => by
    have q := set_ok h
    obtain ⟨F, as, ρ, M, s, er, w⟩ := q
    exact ⟨F, as, ρ, M, s, er, Wp.fz (r := lcG fin (lcF fi t ft fb (wipeE ρ (own.map (·.2))) M)) w⟩
theorem ps_lcSetE {i : Nat} {y : Str} {py spos : Pos} {elt tg itE : Expr} {ifs : List Expr} {rest : List Comprehension} {scope : Scope} {own : List (Str × Nat)} {t : Tg} {sl : List Nat} {W' : WX} {fi : Env' → Sto → Res (List PyData)} {ft : Env' → Sto → Res Bool} {fb : Env' → Sto → Res (List PyData)}
    (P : LcP VV.d X S W elt tg itE ifs rest scope own pos t sl W' fi ft fb) (hy : X.N[i]? = some y) (hyl : X.env.scope.names.lookup y = some .local)
    (hsw : swapsWith (.ListComp elt (⟨tg, itE, ifs, 0⟩ :: rest) scope pos) (some (.Name y py)) spos.line X.env = pure true) :
    PS X (.Assign [.Name y py] (.ListComp elt (⟨tg, itE, ifs, 0⟩ :: rest) scope pos) spos) (tS S (fun ρ M => (lcK (lcF fi t ft fb (wipeE ρ (own.map (·.2))) M)).bind (setK i ρ)) W) := by
  have e0 : (fun (ρ : Env') (M : Sto) => (lcK (lcF fi t ft fb (wipeE ρ (own.map (·.2))) M)).bind (setK i ρ)) = fun ρ M => (lcG finD (lcF fi t ft fb (wipeE ρ (own.map (·.2))) M)).bind (setK i ρ) := by funext ρ M; rw [lcK_eq]
  rw [e0]
  exact ps_lcSetG finD_ok P hy hyl hsw
def tgtK (t : Tg) (ρ : Env') (u : TV) (M : Sto) : Res Fl := match freezes u with
  | .d x => match tgD t x ρ with
    | some ρ' => .ok (.nx ρ') M
    | none => .stuck
  | _ => .stuck
theorem ps_tgtE {tg : Expr} {t : Tg} (he : PE X e (tE S fe W)) (hg : PG X tg (gTg S t)) (hs : swapsWithSole [tg] e pos.line X.env = pure false) (hw : swappedStores [tg] e X.env = pure none) (h1 : (assignEach [tg] X.env).map (·.2) = [assign tg X.env]) :
    PS X (.Assign [tg] e pos) (tS S (fun ρ M => (fe ρ M).bind (tgtK t ρ)) W) :=
  PS.imp (ps_asg (PE.fz he) hg hs hw h1) fun D σ H h => by
    obtain ⟨F, as, ρ, M, s, er, w⟩ := h
    refine ⟨F, as, ρ, M, s, er, ?_⟩
    have w' : WpS S W D F H as ((fe ρ M).fz.bind (tgtK t ρ)) := by
      rw [Res.fz_bind]
      have e0 : (fun u M => tgtK t ρ u.fz M) = tgtK t ρ := by funext u M; unfold tgtK; rw [freezes_fz]
      rw [e0]; exact w
    refine WpS.bind (σ := σ) (k := tgtK t ρ) w' fun u M1 v F1 H1 as1 et nx s1 t1 w1 => ?_
    have ft : u = .v (freezes u) := fz_shape et
    unfold tgtK at w1
    split at w1
    · rename_i x hx
      rw [ft, hx] at t1
      split at w1
      · rename_i ρ' hρ
        exact ⟨F1, as1, M1, x, ρ, ρ', s1, er.mono nx, t1, hρ, fun σ' er' _ => w1 σ' F1 H1 as1 .refl s1 er'⟩
      · exact w1.elim
    · exact w1.elim
def par2K (i j : Nat) (ρ : Env') (xs : List VV) (M : Sto) : Res Fl := match xs with
  | [u, v] => .ok (.nx ((ρ.set i (some u)).set j (some v))) M
  | _ => .stuck
def par3K (i j l : Nat) (ρ : Env') (xs : List VV) (M : Sto) : Res Fl := match xs with
  | [u, v, w] => .ok (.nx (((ρ.set i (some u)).set j (some v)).set l (some w))) M
  | _ => .stuck
theorem ps_par2E {i j : Nat} {x y : Str} {a b : Expr} {fs : Env' → Sto → Res (List VV)} {px py pt : Pos} {kt k2 pt2} (hc : X.calm = true) (hN : X.N.Nodup) (hi : X.N[i]? = some x) (hj : X.N[j]? = some y) (hij : i ≠ j)
    (hx : X.env.scope.names.lookup x = some .local) (hy : X.env.scope.names.lookup y = some .local) (ha : PA X [a, b] (tV S fs W))
    (hw : swappedStores [.Tuple [.Name x px, .Name y py] kt pt] (.Tuple [a, b] k2 pt2) X.env = pure (some [x, y]))
    (hs : swapsWithSole [.Tuple [.Name x px, .Name y py] kt pt] (.Tuple [a, b] k2 pt2) pos.line X.env = pure false) :
    PS X (.Assign [.Tuple [.Name x px, .Name y py] kt pt] (.Tuple [a, b] k2 pt2) pos) (tS S (fun ρ M => (fs ρ M).bind (par2K i j ρ)) W) :=
  PS.imp (ps_par hc hN hi hj hij hx hy ha hw hs) fun D σ H ⟨F, as, ρ, M, s, er, w⟩ => ⟨F, as, ρ, M, s, er, WpS.bind (R := RV S) (σ := σ) (k := par2K i j ρ) w fun xs M1 vs F1 H1 as1 _ nx s1 t1 w1 => by
    unfold par2K at w1
    split at w1
    · have t1' : Paired (Vr S.K F1 as1) [_, _] vs := t1
      cases t1' with
      | cons h1 hr =>
        cases hr with
        | cons h2 hr =>
          cases hr
          exact ⟨_, _, rfl, w1 _ F1 H1 as1 .refl s1 (((er.mono nx).set i h1).set j h2)⟩
    · exact w1.elim⟩
theorem ps_par3E {i j l : Nat} {x y z : Str} {a b c : Expr} {fs : Env' → Sto → Res (List VV)} {px py pz pt : Pos} {kt k2 pt2} (hc : X.calm = true) (hN : X.N.Nodup) (hi : X.N[i]? = some x) (hj : X.N[j]? = some y) (hl : X.N[l]? = some z) (hij : i ≠ j) (hil : i ≠ l) (hjl : j ≠ l)
    (hx : X.env.scope.names.lookup x = some .local) (hy : X.env.scope.names.lookup y = some .local) (hz : X.env.scope.names.lookup z = some .local) (ha : PA X [a, b, c] (tV S fs W))
    (hw : swappedStores [.Tuple [.Name x px, .Name y py, .Name z pz] kt pt] (.Tuple [a, b, c] k2 pt2) X.env = pure (some [x, y, z]))
    (hs : swapsWithSole [.Tuple [.Name x px, .Name y py, .Name z pz] kt pt] (.Tuple [a, b, c] k2 pt2) pos.line X.env = pure false) :
    PS X (.Assign [.Tuple [.Name x px, .Name y py, .Name z pz] kt pt] (.Tuple [a, b, c] k2 pt2) pos) (tS S (fun ρ M => (fs ρ M).bind (par3K i j l ρ)) W) :=
  PS.imp (ps_par3 hc hN hi hj hl hij hil hjl hx hy hz ha hw hs) fun D σ H ⟨F, as, ρ, M, s, er, w⟩ => ⟨F, as, ρ, M, s, er, WpS.bind (R := RV S) (σ := σ) (k := par3K i j l ρ) w fun xs M1 vs F1 H1 as1 _ nx s1 t1 w1 => by
    unfold par3K at w1
    split at w1
    · have t1' : Paired (Vr S.K F1 as1) [_, _, _] vs := t1
      cases t1' with
      | cons h1 hr =>
        cases hr with
        | cons h2 hr =>
          cases hr with
          | cons h3 hr =>
            cases hr
            exact ⟨_, _, _, rfl, w1 _ F1 H1 as1 .refl s1 ((((er.mono nx).set i h1).set j h2).set l h3)⟩
    · exact w1.elim⟩
/-- o[i] = e -/
def stiK (v : VV) (to ti : TV) (M : Sto) : Res Unit := match to, ti, v with
  | .v (.ref n), .v (.d (.int k)), .d x => match M[n]? with
    | some (.lst ds) => match ixN ds.length k with
      | some j => .ok () (M.set n (.lst (ds.set j x)))
      | none => .stuck
    | _ => .stuck
  | _, _, _ => .stuck
theorem ps_stiE {o ix : Expr} {tpos : Pos} {fo fi : Env' → Sto → Res TV} (he : PE X e (tE S fe W)) (ho : PE X o (tE S fo W)) (hi : PE X ix (tE S fi W))
    (hs : swapsWithSole [.Subscript o ix tpos] e pos.line X.env = pure false) (hw : swappedStores [.Subscript o ix tpos] e X.env = pure none) (h1 : (assignEach [.Subscript o ix tpos] X.env).map (·.2) = [assign (.Subscript o ix tpos) X.env])
    (ha : ∀ v, assign (.Subscript o ix tpos) X.env v = (do
      let ov ← holding [v] (eval o X.env)
      let iv ← holding [v, ov] (eval ix X.env)
      standAt tpos
      holding [v, ov, iv] (setItem ov iv v)
      release [v, ov, iv] [])) :
    PS X (.Assign [.Subscript o ix tpos] e pos) (tS S (fun ρ M => (fe ρ M).bind fun u M1 => (fo ρ M1).bind fun to M2 => (fi ρ M2).bind fun ti M3 => (stiK (freezes u) to ti M3).bind fun _ M4 => .ok (.nx ρ) M4) W) :=
  PS.imp (ps_asg (PE.fz he) (pg_sub ho hi set_list ha) hs hw h1) fun D σ H h => by
    obtain ⟨F, as, ρ, M, s, er, w⟩ := h
    refine ⟨F, as, ρ, M, s, er, ?_⟩
    have w' : WpS S W D F H as ((fe ρ M).fz.bind fun u M1 => (fo ρ M1).bind fun to M2 => (fi ρ M2).bind fun ti M3 => (stiK (freezes u) to ti M3).bind fun _ M4 => .ok (.nx ρ) M4) := by
      rw [Res.fz_bind]
      simp only [freezes_fz]
      exact w
    refine WpS.bind (σ := σ) w' fun u M1 v F1 H1 as1 et nx s1 t1 w1 => ?_
    have ft : u = .v (freezes u) := fz_shape et
    refine ⟨F1, as1, ρ, M1, s1, er.mono nx, WpS.bind (σ := σ) w1 fun to M2 ov F2 H2 as2 _ nx2 s2 t2 w2 => ⟨F2, as2, ρ, M2, s2, (er.mono nx).mono nx2, WpS.bind (σ := σ) w2 fun ti M3 iv F3 H3 as3 _ nx3 s3 t3 w3 => ?_⟩⟩
    have t1' := Tr.mono nx3 (Tr.mono nx2 t1)
    have t2' := Tr.mono nx3 t2
    cases hz : stiK (freezes u) to ti M3 with
    | ok q M4 =>
      rw [hz] at w3
      unfold stiK at hz
      split at hz
      · rename_i n k x ex ho' hi'
        split at hz
        · rename_i ds hds
          split at hz
          · rename_i j hj
            cases hz
            obtain ⟨b, ws, g1, g2, g3⟩ := s3.obj _ ds hds
            have t2'' : Vr S.K F3 as3 (.ref n) ov := t2'
            have e2 := t2''.2 b g1
            have t3' : Dp S.K F3 iv (.int k) := t3
            cases t3'
            rw [ft, ex] at t1'
            have hl := dpAll_len g3
            refine ⟨b, ws, k, j, e2, rfl, g2, by rw [hl]; exact hj, ?_⟩
            exact w3 σ F3 _ as3 (Nxt.wr (mem_ix.mpr ⟨n, g1⟩) (by rw [g2]; simp)) (s3.wr g1 g2 (dpAll_set t1' j g3)) (((er.mono nx).mono nx2).mono nx3)
          · cases hz
        · cases hz
      · cases hz
    | err x M4 =>
      unfold stiK at hz
      split at hz
      · split at hz
        · split at hz <;> cases hz
        · cases hz
      · cases hz
    | stuck => rw [hz] at w3; exact w3.elim
/-- while, with a bound for its turns -/
def whlF (fc : Env' → Sto → Res Bool) (fb : Env' → Sto → Res Fl) : Nat → Env' → Sto → Res Fl
  | 0, _, _ => .stuck
  | n + 1, ρ, M => (fc ρ M).bind fun c M1 => if c = true then (fb ρ M1).bind (seqF (whlF fc fb n)) else .ok (.nx ρ) M1
theorem ps_whlE {c : Expr} {body : List Stmt} {fc : Env' → Sto → Res TV} (n : Nat) (hp : PassesOwn (model X.prog X.w) X.A X.env X.xe) (hc : PT X c (tT S fc W)) (hb : PSs X body (tS S fb W)) :
    PS X (.While c body [] pos) (tS S (whlF (fun ρ M => (fc ρ M).bind asB) fb n) W) :=
  PS.imp (ps_while hp hc hb) fun D σ H ⟨F, as, ρ, M, s, er, w⟩ => by
    refine ⟨fun m σ H => ∃ F as ρ M, Sr S F H as M ∧ Er S F as ρ σ ∧ WpS S W D F H as (whlF (fun ρ M => (fc ρ M).bind asB) fb m ρ M), ⟨n, F, as, ρ, M, s, er, w⟩, ?_⟩
    rintro m σ1 H1 ⟨F1, as1, ρ1, M1, s1, er1, w1⟩
    cases m with
    | zero => exact w1.elim
    | succ m =>
      rw [whlF] at w1
      refine ⟨F1, as1, ρ1, M1, s1, er1, WpS.bind (R := RB S) (σ := σ1) w1 fun c M2 c' F2 H2 as2 _ nx s2 t2 w2 => ?_⟩
      obtain rfl : c = c' := t2
      cases c with
      | true =>
        rw [if_pos rfl] at w2 ⊢
        refine ⟨fun σ' H' => ∃ F as ρ M, Sr S F H' as M ∧ Er S F as ρ σ' ∧ WpS S W D F H' as (whlF (fun ρ M => (fc ρ M).bind asB) fb m ρ M), fun σ' H' h => ⟨m, Nat.lt_succ_self m, h⟩, F2, as2, ρ1, M2, s2, er1.mono nx, ?_⟩
        cases hz : fb ρ1 M2 with
        | ok f M3 =>
          rw [hz] at w2
          cases f with
          | nx ρ3 => exact fun σ' F' H' as' nx' s' e' => ⟨F', as', ρ3, M3, s', e', WpS.later (r := whlF (fun ρ M => (fc ρ M).bind asB) fb m ρ3 M3) nx' w2⟩
          | ret t => exact w2
        | err x M3 => rw [hz] at w2; exact w2
        | stuck => rw [hz] at w2; exact w2.elim
      | false =>
        rw [if_neg Bool.false_ne_true] at w2 ⊢
        exact w2 σ1 F2 H2 as2 .refl s2 (er1.mono nx)
def forF (t : Tg) (fb : Env' → Sto → Res Fl) : List PyData → Env' → Sto → Res Fl
  | [], ρ, M => .ok (.nx ρ) M
  | x :: xs, ρ, M => match tgD t x ρ with
    | some ρ1 => (fb ρ1 M).bind (seqF (forF t fb xs))
    | none => .stuck
theorem ps_forE {tg it : Expr} {body : List Stmt} {t : Tg} {fi : Env' → Sto → Res (List PyData)} (hp : PassesOwn (model X.prog X.w) X.A X.env X.xe) (hc : X.calm = true) (hi : PI X tg it (tI S fi W)) (hg : PG X tg (gTg S t)) (hb : PSs X body (tS S fb W))
    (hs : ∀ x, foldedSetIterable it X.env x = pure x) : PS X (.For tg it body [] pos) (tS S (fun ρ M => (fi ρ M).bind fun xs M1 => forF t fb xs ρ M1) W) :=
  PS.imp (ps_for hp hc hi hg hb hs) fun D σ H ⟨F, as, ρ, M, s, er, w⟩ => ⟨F, as, ρ, M, s, er, WpS.bind (R := RI S) (σ := σ) w fun xs M1 J F1 H1 as1 _ nx s1 wk w1 => by
    have wk : Wk S F1 as1 xs J := wk
    refine ⟨fun i m σ' H' => m = xs.length - i ∧ i ≤ xs.length ∧ ∃ F' as' ρ' M', Gw F1 as1 F' as' ∧ Sr S F' H' as' M' ∧ Er S F' as' ρ' σ' ∧ WpS S W D F' H' as' (forF t fb (xs.drop i) ρ' M'), ⟨xs.length, rfl, Nat.zero_le _, F1, as1, ρ, M1, .refl, s1, er.mono nx, w1⟩, ?_⟩
    rintro i m σ2 H2 ⟨rfl, hi, F2, as2, ρ2, M2, g2, s2, er2, w2⟩
    by_cases hlt : i < xs.length
    · have hy : xs[i]? = some xs[i] := List.getElem?_eq_getElem hlt
      rw [List.drop_eq_getElem_cons hlt] at w2
      obtain ⟨go, yl⟩ := wk.go F2 H2 as2 M2 i _ g2 s2 hy
      refine .inr ⟨go, fun σ' H' => ∃ F' as' ρ' M', Gw F1 as1 F' as' ∧ Sr S F' H' as' M' ∧ Er S F' as' ρ' σ' ∧ WpS S W D F' H' as' (forF t fb (xs.drop (i + 1)) ρ' M'), fun σ' H' h => ⟨xs.length - (i + 1), by omega, rfl, hlt, h⟩, fun x H3 y3 => ?_⟩
      obtain ⟨F3, nx3, s3, d3⟩ := yl x H3 y3
      rw [forF] at w2
      split at w2
      · rename_i ρ3 hρ
        have w3 := WpS.later nx3 w2
        refine ⟨F3, as2, M2, _, ρ2, ρ3, s3, er2.mono nx3, d3, hρ, fun σ4 er4 _ => ⟨F3, as2, ρ3, M2, s3, er4, ?_⟩⟩
        cases hz : fb ρ3 M2 with
        | ok f M5 =>
          rw [hz] at w3
          cases f with
          | nx ρ5 => exact fun σ' F' H' as' nx' s' e' => ⟨F', as', ρ5, M5, (g2.trans nx3.gw).trans nx'.gw, s', e', WpS.later (r := forF t fb (xs.drop (i + 1)) ρ5 M5) nx' w3⟩
          | ret t => exact w3
        | err x M5 => rw [hz] at w3; exact w3
        | stuck => rw [hz] at w3; exact w3.elim
      · exact w2.elim
    · have e : i = xs.length := by omega
      subst e
      rw [List.drop_length] at w2
      exact .inl ⟨wk.stop F2 H2 as2 M2 _ g2 s2 rfl, w2 σ2 F2 H2 as2 .refl s2 er2⟩⟩
theorem ps_rseE {B newId initId : String} {bmB : List Value} {x m : Str} {j k : Nat} {p p2 cpos : Pos} (hc : X.calm = true) (tk : L2N.Takes X W) (Fb : ExcBaseFacts B newId initId bmB) (q : PySem.W.excIn X.K (S.cx k) bmB newId = true) (gC : X.mg x = some (.ref (S.cx k))) (kC : PySem.W.keepIn X.K (.ref (S.cx k)) = true)
    (r : Raises X (.ref (S.cx k))) (hg : Gl X x) (hdb : (x == ("__debug__" : Str)) = false) :
    PS X (.Raise (some (.Call (.Name x p) [.Constant (.str m) j p2] [] cpos)) none pos) (tS S (fun _ M => .err k M) W) :=
  PS.imp (L2N.ps_raise hc tk (L2N.pmk_own Fb q gC kC r hg hdb)) fun D σ H ⟨F, as, ρ, M, s, er, w⟩ => w σ F H as .refl s
end
end Ev

/-! Ev11: the checker for expressions, and that it is right. -/
namespace Ev
open PySem PySem.Spec PyProof.Rows L2
open LamX (Tabs)

/-- what the module holds: functions, numbers, names that are left alone, classes of errors -/
structure Gf where
  fns : List (Nat × Str)
  nums : List (Str × Int)
  unt : List Str
  excs : List (Nat × Str)
  /-- what _law_word calls the errors -/
  words : List Str := []
  /-- further classes of errors, by their numbers; where they are values -/
  xcls : List (Nat × Str) := []
/-- a block's names -/
structure CC where
  N : List Str
  sc : Scope
  fn : Str → Bool
  /-- may lambdas stand here -/
  tab : Bool := false
  /-- the functions made here: the slot, the def's number, the slots that it reads -/
  nds : List (Nat × Nat × List Nat) := []
def kOf (C : CC) (x : Str) : Option NameKind := C.sc.names.lookup x
def isVis (C : CC) (x : Str) : Bool := match kOf C x with
  | some .local => true | some .cell => true | some .free => true | _ => false
def isLoc (C : CC) (x : Str) : Bool := match kOf C x with
  | some .local => true | some .cell => C.fn x | _ => false
def isGl (C : CC) (x : Str) : Bool := match kOf C x with
  | some .globalImplicit => true | _ => false
def plainName (x : Str) : Bool := !(x == ("__debug__" : Str)) && !(x == ("__classdict__" : Str))
def isSlot (C : CC) (i : Nat) (x : Str) : Bool := decide (C.N[i]? = some x)
def inner (C : CC) (scope : Scope) : CC := ⟨C.N, relS scope C.sc, fun x => scope.names.lookup x == some .cell, C.tab, []⟩
def lamC (C : CC) (scope : Scope) : CC := ⟨C.N, scope, fun _ => false, false, []⟩
def noParams (a : Arguments) : Bool := a.posonlyargs.isEmpty && a.args.isEmpty && a.vararg.isNone && a.kwonlyargs.isEmpty && a.kw_defaults.isEmpty && a.kwarg.isNone && a.defaults.isEmpty
def constEq : PyData → Const → Bool
  | .none, .none => true
  | .bool b, .bool c => b == c
  | .int i, .int j => decide (i = j)
  | .str x, .str y => x == y
  | _, _ => false
def isTst : Expr → Bool
  | .IfExp .. => false
  | _ => true
def isBool : Expr → Bool
  | .BoolOp .. => true
  | _ => false
def isConst : Expr → Bool
  | .Constant .. => true
  | _ => false
def isTup : Expr → Bool
  | .Tuple .. => true
  | _ => false
def isName : Expr → Bool
  | .Name .. => true
  | _ => false
def notSet : Expr → Bool
  | .Set .. => false
  | _ => true
def plainT : Expr → Bool
  | .UnaryOp .Not _ _ => false
  | .BoolOp .. => false
  | .IfExp .. => false
  | .Compare .. => false
  | _ => true
def ownP (C : CC) (own : List Nat) : List (Str × Nat) := own.map fun i => (C.N.getD i "", i)
def slC : E → List Nat
  | .cf t _ _ b => tgS t ++ slC b
  | _ => []
mutual
def chkTg (C : CC) : Tg → Expr → Bool
  | .nm i, .Name x _ => isSlot C i x && isLoc C x
  | .tp l, .Tuple es _ _ => chkTgs C l es && decide (es.length = tgN l) && es.all notStar
  | _, _ => false
def chkTgs (C : CC) : Tg → List Expr → Bool
  | .nil, [] => true
  | .cons a b, e :: es => chkTg C a e && chkTgs C b es
  | _, _ => false
end
def opB : Operator → BOp → Bool
  | .Add, .add => true | .Sub, .sub => true | .Mult, .mul => true | .FloorDiv, .fdiv => true | .Mod, .mod => true | .Pow, .pow => true
  | _, _ => false
def copB : CmpOp → COp → Bool
  | .Eq, .eq => true | .NotEq, .ne => true | .Lt, .lt => true | .LtE, .le => true | .Gt, .gt => true | .GtE, .ge => true | .In, .in_ => true | .NotIn, .nin => true
  | _, _ => false
theorem opB_ok {o : Operator} {p : BOp} (h : opB o p = true) : o = opOf p := by cases o <;> cases p <;> first | rfl | cases h
theorem copB_ok {o : CmpOp} {p : COp} (h : copB o p = true) : o = copOf p := by cases o <;> cases p <;> first | rfl | cases h
section
variable (G : Gf)
def freeName (C : CC) (x : Str) : Bool := isGl C x && G.unt.contains x
/-- the part of such an operation -/
def ssetArg (C : CC) : Expr → Option Expr
  | .Call (.Name nm _) [.Call (.Name nm2 _) [y] [] _] [] _ => if (nm == ("sorted" : Str)) && (nm2 == ("set" : Str)) && freeName G C nm && freeName G C nm2 && notStar y then some y else none
  | _ => none
def srtArg (C : CC) : Expr → Option Expr
  | .Call (.Name nm _) [y] [] _ => if (nm == ("sorted" : Str)) && freeName G C nm && notStar y then some y else none
  | _ => none
def isSub : Expr → Bool
  | .Subscript .. => true
  | _ => false
/-- what a method is asked of: a name, an item, a written text -/
def mBase : Expr → Bool
  | .Name .. => true
  | .Subscript .. => true
  | .Constant .. => true
  | _ => false
def splitArg (b : Str) : Expr → Option Expr
  | .Call (.Attribute p nm apos) [.Constant (.str c) _ _] [] cpos => if (nm == ("split" : Str)) && mBase p && (apos.endLine == cpos.line) && decide (b = c) then some p else none
  | _ => none
def replArg (k : Int) (y z : Str) : Expr → Option Expr
  | .Call (.Attribute (.Subscript p (.Constant (.int i) _ _) _) nm apos) [.Constant (.str c) _ _, .Constant (.str d) _ _] [] cpos => if (nm == ("replace" : Str)) && (apos.endLine == cpos.line) && decide (i = k) && decide (y = c) && decide (z = d) then some p else none
  | _ => none
def mxlArg (C : CC) : Expr → Option Expr
  | .Call (.Name nm _) [y] [] _ => if (nm == ("max" : Str)) && freeName G C nm && notStar y then some y else none
  | _ => none
def revArg : Expr → Option Expr
  | .Subscript y (.Slice none none (some (.UnaryOp .USub (.Constant (.int 1) _ _) _)) _) _ => some y
  | _ => none
/-- the class of the number j -/
def clsB (C : CC) (j : Nat) (c : Str) : Bool := decide ((G.excs ++ G.xcls).lookup j = some c) && isGl C c && plainName c
def excArg (C : CC) (k : Nat) : Expr → Option Expr
  | .Call (.Name nm _) [y] [] _ => if !G.xcls.isEmpty && decide (G.excs.lookup k = some nm) && isGl C nm && plainName nm && notStar y then some y else none
  | _ => none
def isxArg (C : CC) (j : Nat) : Expr → Option Expr
  | .Call (.Name i _) [y, .Name c _] [] _ => if !G.xcls.isEmpty && (i == ("isinstance" : Str)) && freeName G C i && notStar y && (clsB G C j c || (decide (j = 18) && (c == ("ValueError" : Str)) && freeName G C c)) then some y else none
  | _ => none
def strxArg (C : CC) : Expr → Option Expr
  | .Call (.Name nm _) [y] [] _ => if !G.xcls.isEmpty && (nm == ("str" : Str)) && freeName G C nm && notStar y then some y else none
  | _ => none
def limArg : Expr → Option Expr
  | .Attribute y nm _ => if !G.xcls.isEmpty && (nm == ("limit" : Str)) && mBase y then some y else none
  | _ => none
def tmArg (C : CC) : Expr → Option Expr
  | .Call (.Name nm _) [y] [] _ => if (nm == ("TooMany" : Str)) && decide (G.xcls.lookup 16 = some nm) && isGl C nm && notStar y then some y else none
  | _ => none
def u1Arg (C : CC) : U1 → Expr → Option Expr
  | .exc k => excArg G C k
  | .isx j => isxArg G C j
  | .strx => strxArg G C
  | .lim => limArg G
  | .tm => tmArg G C
  | .mxl => mxlArg G C
  | .rev => revArg
  | .sset => ssetArg G C
  | .srt => srtArg G C
  | .split b => splitArg b
  | .repl k y z => replArg k y z
def lzipArg (C : CC) : Expr → Option (Expr × Expr)
  | .Call (.Name nm _) [.Call (.Name nm2 _) [y, z] [] _] [] _ => if (nm == ("list" : Str)) && (nm2 == ("zip" : Str)) && freeName G C nm && freeName G C nm2 && notStar y && notStar z then some (y, z) else none
  | _ => none
def u2Arg (C : CC) : U2 → Expr → Option (Expr × Expr)
  | .lzip => lzipArg G C
mutual
def chkE (C : CC) : E → Expr → Bool
  | .k d, x => match x with
    | .Constant c _ _ => constEq d c
    | _ => false
  | .v i, x => match x with
    | .Name nm _ => isSlot C i nm && isVis C nm && plainName nm
    | _ => false
  | .g y z, x => match x with
    | .Name nm _ => (nm == y) && decide (G.nums.lookup y = some z) && isGl C nm && plainName nm
    | _ => false
  | .bin o a b, x => match x with
    | .BinOp p op q _ => opB op o && chkE C a p && chkE C b q
    | _ => false
  | .neg a, x => match x with
    | .UnaryOp .USub p _ => chkE C a p
    | _ => false
  | .rep a b, x => match x with
    | .BinOp p .Mult q _ => chkE C a p && chkE C b q
    | _ => false
  | .cmp o a b, x => match x with
    | .Compare p [op] [q] _ => copB op o && chkE C a p && chkE C b q && !behindInMarks op q
    | _ => false
  | .chn o o2 a b c, x => match x with
    | .Compare p [op, op2] [q, r] _ => copB op o && copB op2 o2 && chkE C a p && chkE C b q && chkE C c r && !lastMarks [op, op2] [q, r]
    | _ => false
  | .isN a, x => match x with
    | .Compare p [.Is] [.Constant .none _ _] _ => chkE C a p
    | _ => false
  | .nsN a, x => match x with
    | .Compare p [.IsNot] [.Constant .none _ _] _ => chkE C a p
    | _ => false
  | .and_ a b, x => match x with
    | .BoolOp .And (p :: q :: []) _ => chkE C a p && chkE C b q && isTst p && isTst q
    | .BoolOp .And (p :: q :: r :: l) pos => chkE C a p && chkE C b (.BoolOp .And (q :: r :: l) pos) && isTst p
    | _ => false
  | .or_ a b, x => match x with
    | .BoolOp .Or (p :: q :: []) _ => chkE C a p && chkE C b q && isTst p && isTst q
    | .BoolOp .Or (p :: q :: r :: l) pos => chkE C a p && chkE C b (.BoolOp .Or (q :: r :: l) pos) && isTst p
    | _ => false
  | .not_ a, x => match x with
    | .UnaryOp .Not p _ => chkE C a p && isTst p
    | _ => false
  | .ite c a b, x => match x with
    | .IfExp r p q _ => chkE C c r && chkE C a p && chkE C b q && isTst r
    | _ => false
  | .tup es, x => match x with
    | .Tuple xs _ _ => chkL C es xs
    | _ => false
  | .lst es, x => match x with
    | .List xs _ => chkL C es xs
    | _ => false
  | .lrefs es, x => match x with
    | .List xs _ => chkL C es xs
    | _ => false
  | .ix a b, x => match x with
    | .Subscript p q _ => notSlice q && chkE C a p && chkE C b q
    | _ => false
  | .sl a lo hi, x => match x with
    | .Subscript p (.Slice l h none _) _ => chkE C a p && (match l with | none => isNil lo | some l => !isNil lo && chkE C lo l) && (match h with | none => isNil hi | some h => !isNil hi && chkE C hi h)
    | _ => false
  | .call f es, x => match x with
    | .Call (.Name nm _) xs [] _ => decide (G.fns.lookup f = some nm) && isGl C nm && plainName nm && chkL C es xs
    | _ => false
  | .bi b es, x => match x with
    | .Call (.Name nm _) (y :: ys) [] _ => (nm == biN b) && freeName G C nm && chkL C es (y :: ys)
    | _ => false
  | .u1 u a, x => match u1Arg G C u x with
    | some y => chkE C a y && plainT x
    | none => false
  | .u2 u a b, x => match u2Arg G C u x with
    | some (y, z) => chkE C a y && chkE C b z && plainT x
    | none => false
  | .isi a t, x => match x with
    | .Call (.Name nm _) [y, .Name ty _] [] _ => (nm == ("isinstance" : Str)) && (ty == tyS t) && freeName G C nm && freeName G C ty && notStar y && chkE C a y
    | _ => false
  | .lc own (.cf t i c b), x => match x with
    | .ListComp elt (⟨tg, it, ifs, 0⟩ :: rest) scope _ => blkC C.N C.sc scope (ownP C own) && chkI C i it tg && notSet it && chkTg (inner C scope) t tg && (match ifs with | [] => isNil c | [y] => !isNil c && isTst y && chkE (inner C scope) c y | _ => false) &&
        chkC (inner C scope) elt b rest && (tgS t).all (fun j => !(slC b).contains j) && (tgS t ++ slC b).all (fun j => own.contains j)
    | _ => false
  | .lcr own t i b, x => match x with
    | .ListComp elt [⟨tg, it, [], 0⟩] scope _ => blkC C.N C.sc scope (ownP C own) && chkI C i it tg && notSet it && chkTg (inner C scope) t tg && chkE (inner C scope) b elt && (tgS t).all (fun j => own.contains j)
    | _ => false
  | .alc a, x => plainT x && chkE C a x
  | .bad, _ => true
  | .app o es, x => match x with
    | .Call (.Attribute p nm apos) [q] [] cpos => (nm == ("append" : Str)) && isName p && notStar q && (apos.endLine == cpos.line) && chkE C o p && chkL C es [q]
    | _ => false
  | .join a b, x => match x with
    | .Call (.Attribute p nm apos) [q] [] cpos => (nm == ("join" : Str)) && isConst p && notStar q && (apos.endLine == cpos.line) && chkE C a p && chkE C b q
    | _ => false
  | .word ws f es, x => match x with
    | .Call (.Name nm _) [.Lambda params (.Call (.Name g _) xs [] _) scope _] [] _ => C.tab && (nm == ("_law_word" : Str)) && isGl C nm && decide (ws = G.words) && noParams params && LamX.lamSB C.sc scope && decide (G.fns.lookup f = some g) && isGl (lamC C scope) g && plainName g && chkL (lamC C scope) es xs
    | _ => false
  | .calln i k js es, x => match x with
    | .Call (.Name nm _) (y :: ys) [] _ => isSlot C i nm && isVis C nm && plainName nm && C.nds.contains (i, k, js) && chkL C es (y :: ys)
    | _ => false
  | _, _ => false
def chkL (C : CC) : E → List Expr → Bool
  | .nil, xs => xs.isEmpty
  | .cons a b, xs => match xs with
    | y :: ys => notStar y && chkE C a y && chkL C b ys
    | _ => false
  | _, _ => false
def chkC (C : CC) (elt : Expr) : E → List Comprehension → Bool
  | .cy e, l => l.isEmpty && chkE C e elt
  | .cf t i c b, l => match l with
    | ⟨tg, it, ifs, 0⟩ :: rest => chkI C i it tg && notSet it && chkTg C t tg && (match ifs with | [] => isNil c | [y] => !isNil c && isTst y && chkE C c y | _ => false) && chkC C elt b rest && (tgS t).all (fun j => !(slC b).contains j)
    | _ => false
  | _, _ => false
def chkI (C : CC) : E → Expr → Expr → Bool
  | .it .val (.cons e .nil), x, _ => chkE C e x
  | .it .rng1 es, x, _ => match x with
    | .Call (.Name nm _) [y] [] _ => (nm == ("range" : Str)) && freeName G C nm && chkL C es [y]
    | _ => false
  | .it .rng2 es, x, _ => match x with
    | .Call (.Name nm _) [y, z] [] _ => (nm == ("range" : Str)) && freeName G C nm && chkL C es [y, z]
    | _ => false
  | .it .enum es, x, tg => match x with
    | .Call (.Name nm _) [y] [] _ => (nm == ("enumerate" : Str)) && freeName G C nm && chkL C es [y] && isTup tg
    | _ => false
  | .it .zip es, x, tg => match x with
    | .Call (.Name nm _) [y, z] [] _ => (nm == ("zip" : Str)) && freeName G C nm && chkL C es [y, z] && isTup tg
    | _ => false
  | _, _, _ => false
end
end
end Ev

/-! Tx1: split, and replace of written texts. -/
namespace Ev
open PySem PySem.Spec PyProof.Rows L2
section
variable {X : Cx} {S : Stat} {W : WX} {a : Expr} {fa : Env' → Sto → Res TV} {pos : Pos}
theorem dpAll_strs {K : KO} {F : Hp} : ∀ (zs : List Str), DpAll K F (zs.map V.str) (zs.map PyData.str)
  | [] => .nil
  | z :: zs => .cons (.str z) (dpAll_strs zs)
theorem pe_splitE {b : Str} {j : Nat} {apos cpos p : Pos} (ha : PE X a (tE S fa W)) (hbase : attributeBase a "split" X.env (eval a X.env) = eval a X.env) (hline : (apos.endLine == cpos.line) = true) :
    PE X (.Call (.Attribute a "split" apos) [.Constant (.str b) j p] [] cpos) (tE S (fun ρ M => (fa ρ M).bind (splitK b)) W) := by
  refine PE.imp (pe_split ha pe_str (star_of rfl) hbase hline) fun σ H Q h => ?_
  obtain ⟨F, as, ρ, M, s, e, w⟩ := h
  refine ⟨F, as, ρ, M, s, e, WpG.bind w fun ta M1 v F1 H1 as1 _ nx s1 t1 w1 => ?_⟩
  unfold splitK at w1
  split at w1
  · rename_i z hz
    have ex := (peek_ok s1 t1 hz).str
    subst ex
    split at w1
    · rename_i hc
      simp only [Bool.and_eq_true, Bool.not_eq_true', decide_eq_true_eq] at hc
      exact ⟨⟨z, rfl⟩, z, b, rfl, rfl, hc.1, hc.2, fun p hp => wp_own s1 w1 (dpAll_strs _) hp⟩
    · exact w1.elim
  · exact w1.elim
theorem pe_replE {k : Int} {y z : Str} {j j0 j1 : Nat} {apos cpos p q p0 p1 : Pos} (hK : X.K = S.K) (ha : PE X a (tE S fa W)) (hline : (apos.endLine == cpos.line) = true) :
    PE X (.Call (.Attribute (.Subscript a (.Constant (.int k) j p) q) "replace" apos) [.Constant (.str y) j0 p0, .Constant (.str z) j1 p1] [] cpos) (tE S (fun ρ M => (fa ρ M).bind (replK k y z)) W) := by
  refine ⟨fun pins s σ H Q I h => ?_⟩
  obtain ⟨F0, as, ρ, M, sr, e, w⟩ := h
  have w1 := WpG.bind (R := RT S) (k := replK k y z) (Q2 := fun v H1 => ∃ F1 as1 M1 x, Sr S F1 H1 as1 M1 ∧ Pk S.K F1 H1 v x ∧ WpG S (RT S) (fun c d H' => W c d σ H') F1 H1 as1 (match ixD x (.int k) with
    | some (.str a) => if decide (a.length + (a.length + 1) * z.length ≤ 16777216) && !(y == z) then .ok (.v (.d (.str (PySem.Txt.replace a y z)))) M1 else .stuck
    | _ => .stuck) Q) w fun ta M1 v F1 H1 as1 _ nx s1 t1 w1 => by
      unfold replK at w1
      split at w1
      · rename_i x hx
        exact ⟨F1, as1, M1, x, s1, peek_ok s1 t1 hx, w1⟩
      · exact w1.elim
  refine PySem.Call_method2 rfl rfl hline (Subscript_ (thn (ha.run pins s σ H _ I ⟨F0, as, ρ, M, sr, e, w1⟩) fun v s1 ⟨u, H1, I1, r1, q1⟩ => wpAny_Constant_int ?_))
  obtain ⟨F1, as1, M1, x, sr1, px, w1⟩ := q1
  cases hi : ixD x (.int k) with
  | none => rw [hi] at w1; exact w1.elim
  | some c =>
    rw [hi] at w1
    cases c with
    | str t =>
      have w1 : WpG S (RT S) (fun c d H' => W c d σ H') F1 H1 as1 (if decide (t.length + (t.length + 1) * z.length ≤ 16777216) && !(y == z) then .ok (.v (.d (.str (PySem.Txt.replace t y z)))) M1 else .stuck) Q := w1
      split at w1
      · rename_i hc
        simp only [Bool.and_eq_true, Bool.not_eq_true', decide_eq_true_eq] at hc
        have it := ix_D (S := S) hK a (.Constant (.int k) j p) pins { s1 with toks := s1.toks + 1 } σ H1 u (.int k) v (.int k s1.toks) (fun w' H' => w' = .str t ∧ H' = H1) (I1.tok (s1.toks + 1)) r1 ⟨_, rfl⟩ ⟨F1, as1, M1, x, .int k, .str t, sr1, px, .inl (.int k), hi, fun w' d => by cases d; exact ⟨rfl, rfl⟩⟩ (plain_of rfl _ _)
        refine wpAny_mono (PySem.wpAny_toks it) (fun o s2 hq => ?_) fun _ _ zz => zz.2
        obtain ⟨hk, w', H2, I2, r2, rfl, eH⟩ := hq
        subst eH
        have hk : s1.toks + 1 ≤ s2.toks := hk
        obtain ⟨t', rfl⟩ := r2
        refine ⟨"str", _, F.plainAttrs_str, F.slot_str_replace, F.type_str_replace, typeIs_str _ _ _, (fun _ e => nomatch e), Calls.callWith_builtin rfl (Calls.evalArgs_plain (Calls.spliced_cons (Calls.Constant_str (Calls.spliced_cons (Calls.Constant_str (Calls.spliced_nil ?_))))))⟩
        exact PySem.SC.replace (show s2.toks ≠ 0 by omega) (show s2.toks + 1 ≠ 0 by omega) (show s2.toks ≠ s2.toks + 1 by omega) hc.2 hc.1 fun t'' k => ⟨.str (Txt.replace t y z), H2, I2.tok k, ⟨t'', rfl⟩, wp_d sr1 w1 (.str _)⟩
      · exact w1.elim
    | _ => exact w1.elim
end
end Ev

/-! Ss1: set of a list of ints, any number below the line; sorted of it. -/
namespace Ev
open PySem PySem.Spec PyProof.Rows L2
section
variable {P : Program} {w : World} {A : Around} {E : Value → Shared → Prop} {s : Shared}
/-- the empty set, as made -/
abbrev emptyS (w : World) : Obj := { cls := .type "set", dict := none, data := .set #[] 0 (.fresh 0 0 (!w.params.followText "set-order")) }
abbrev heapE (w : World) (h : Heap) : Heap := h.push (emptyS w)
theorem set_of_ints {la : Addr} {its : Array Value} (ks : List Int) {Q : Value → Shared → Prop} (calm : A.handled = none) (isL : s.heap.IsList la its) (are : IntsAre its.toList ks) (few : ks.length + 1 < scanBound)
    (next : ∀ (hq : Heap) (tq c : Nat), SetR w hq s.heap.objs.size (fun z => decide (z ∈ ks)) c → c ≤ ks.length → (∀ b o, s.heap.get? b = some o → hq.get? b = some o) → Q (.ref s.heap.objs.size) { s with heap := hq, toks := tq }) :
    wpAny (model P w) A (call (.type "set") [.ref la]) Q E s := by
  have szI : its.size = ks.length := (Array.length_toList (xs := its)).symm.trans (IntsAre.length are)
  obtain ⟨mc, ml, mro0⟩ := F.called_set.mro
  have f1 := F.called_set.made; have f2 := F.called_set.sub
  refine wpAny_call (codeAny_of_tree ?_); show wpAny _ _ (callAny (.type "set") _) _ _ _
  refine wpAny_pure ⟨Code.quiet_builtin _ (by decide +kernel), codeAny_builtin F.entry_type_call ?_⟩
  rw [Around.under_plain (weight_type_call_type "set" [.ref la] []) rfl]
  have f3 := F.called_set.notType; have f4 := F.called_set.canCreate; have f5 := F.typeCall_set_1 (.ref la)
  repeat (any_goals (first | assumption | wp_step))
  have new0 : (heapE w s.heap).get? s.heap.objs.size = some (emptyS w) := Heap.get?_push_size _ rfl
  refine codeAny_mono (code_set_led1 (.ref la) (E := E) (Q₁ := fun ob t => ob = .ref s.heap.objs.size ∧ t = { s with heap := heapE w s.heap }) ⟨rfl, rfl⟩) fun res t1 hres => ?_
  cases res with
  | error _ => exact hres
  | ok fin0 =>
    cases fin0 with
    | ret ob0 =>
      obtain ⟨rfl, rfl⟩ := hres
      have ty0 : Shared.TypeIs { s with heap := heapE w s.heap } (.ref s.heap.objs.size) "set" := ⟨_, new0, rfl⟩
      have g1 := F.called_set.init.lookup; have g2 := F.called_set.init.bind (.ref s.heap.objs.size)
      repeat (any_goals (first | assumption | wp_step))
      refine codeAny_mono (codeAny_call_builtin (R := wants (fun v t => v = .none ∧ ∃ hq tq c, t = { s with heap := hq, toks := tq } ∧ SetR w hq s.heap.objs.size (fun z => decide (z ∈ ks)) c ∧ c ≤ ks.length ∧ (∀ b o, s.heap.get? b = some o → hq.get? b = some o)) E)
        F.called_set.init.plain F.entry_set_init (check_set_init_1 ty0 ?_)) fun res2 t2 hres2 => ?_
      · obtain ⟨ob, hob, cob, nob, dob⟩ := isL
        obtain ⟨c0, d0, data0, sl0⟩ := ob
        simp only at cob dob
        subst cob dob
        have isL1 : (heapE w s.heap).IsList la its := ⟨_, Heap.get?_push_of_some _ hob, rfl, nob, rfl⟩
        have hob1 : (heapE w s.heap).get? la = some { cls := .type "list", dict := d0, data := .seq its nob, slots := sl0 } := Heap.get?_push_of_some _ hob
        have s1 := F.sub_list_set; have s2 := F.sub_list_frozenset
        have s3 : (Value.type "list" == Value.type "dict") = false := by decide
        unfold Builtin.«set.__init__» noKeywords Builtin.Frozenset.updateFrom
        generalize ePI : pyIter = PI
        wp_walk
        subst ePI
        refine wpAny_pyIter_list isL1 (wpAny_bind (wpAny_runValue ?_))
        have lt0 : la < s.heap.objs.size := Heap.lt_size hob
        have calm3 : A.in1.in1.in1.handled = none := by simp [calm]
        have sz1 : (heapE w s.heap).objs.size = s.heap.objs.size + 1 := Heap.size_push ..
        have ne1 : la ≠ (heapE w s.heap).objs.size := by rw [sz1]; exact Nat.ne_of_lt (Nat.lt_succ_of_lt lt0)
        have nin : s.heap.objs.size ∉ [(heapE w s.heap).objs.size, la] := by
          rw [sz1]; simp only [List.mem_cons, List.mem_singleton, List.not_mem_nil, or_false, not_or]; exact ⟨Nat.ne_of_lt (Nat.lt_succ_self _), Nat.ne_of_gt lt0⟩
        have val : ∀ (i : Nat) (v : Value), its[i]? = some v → ∃ k t, ks[i]? = some k ∧ v = .int k t := fun i v e0 => by
          have lt1 : i < ks.length := by rw [← szI]; exact (Array.getElem?_eq_some_iff.mp e0).1
          obtain ⟨t, e1⟩ := PyProof.Rows.IntsAre.int_at are i v (by rw [Array.getElem?_toList]; exact e0)
          exact ⟨ks[i], t, List.getElem?_eq_getElem lt1, by rw [e1, List.getD_eq_getElem?_getD, List.getElem?_eq_getElem lt1]; rfl⟩
        refine set_update_ints ((Walks.list calm3 _ la ne1 its).toS) s.heap.objs.size nin ks szI few val (its.size - 0) 0 _ (by omega) (Nat.zero_le _) ⟨⟨_, Heap.get?_push_size _ rfl, rfl, rfl⟩, (isL1.push _)⟩ ?start ?stop
        case start => exact ⟨0, Nat.le_refl 0, setR_new_at (Heap.get?_push_of_some _ new0)⟩
        case stop =>
          intro t3 c3 mv lc R3
          obtain ⟨h3, gen3, dr3, tk3, os3⟩ := t3
          have q1 : gen3 = s.gens := mv.gens
          have q2 : dr3 = s.drawn := mv.drawn
          have q3 : os3 = s.os := mv.os
          subst q1 q2 q3
          show wpAny _ _ _ _ _ _
          refine wpAny_pure (show wpAny _ _ (ret Value.none) _ _ _ from ?_)
          refine wpAny_pure ⟨rfl, h3, tk3, c3, rfl, R3, by rw [← szI]; exact lc, fun b o e0 => ?_⟩
          have lb : b < s.heap.objs.size := Heap.lt_size e0
          refine mv.heap b o ?_ (Heap.get?_push_of_some _ (Heap.get?_push_of_some _ e0))
          rw [sz1]; simp only [List.mem_cons, List.mem_singleton, List.not_mem_nil, or_false, not_or]; exact ⟨Nat.ne_of_lt lb, Nat.ne_of_lt (Nat.lt_succ_of_lt lb)⟩
      · cases res2 with
        | error _ => exact hres2
        | ok fin2 =>
          cases fin2 with
          | ret v2 =>
            obtain ⟨rfl, h3, tk3, c3, rfl, R3, lc, kp⟩ := hres2
            repeat (any_goals (first | assumption | wp_step))
            exact next _ _ _ R3 lc kp
          | _ => exact hres2.elim
    | _ => exact hres.elim
end
end Ev

/-! Ss2: sorted(set(xs)). -/
namespace Ev
open PySem PySem.Spec PyProof.Rows L2
theorem setR_few {w : World} {h : Heap} {a : Addr} {ks : List Int} {n : Nat} (R : SetR w h a (fun z => decide (z ∈ ks)) n) : n ≤ (sdI ks).length := by
  obtain ⟨o, es, ep, t, _, _, _, _, nd, hm, _, _, hn, _⟩ := R
  rw [← hn, ← Array.length_toList, ← List.length_map (f := keyOf)]
  refine nodup_len nd fun z hz => (sdI_mem z ks).mpr ?_
  exact of_decide_eq_true ((hm z).mpr hz)
section
variable {X : Cx}
def rSetI (K : PySem.W.Frag) (w : World) : List V → Hp → VK → Prop := fun vs H Q => ∃ (a : Addr) (ns : List Int), vs = [V.ref a] ∧ SqL K H a (ns.map V.int) ∧ ns.length ≤ 4000 ∧
  ∀ p n, n ≤ (sdI ns).length → H p = none → Q (.ref p) (upd H p (SetO w p (fun z => decide (z ∈ ns)) n))
theorem cr_setI (hc : X.calm = true) : CallR X (.type "set") (rSetI X.K X.w) := by
  intro pins s σ H vs us Q I r h
  obtain ⟨a, ns, rfl, hs, hn, q⟩ := h
  obtain ⟨its, rv, hl, _⟩ := I.list hs
  rw [Vals.ref1 r]
  refine set_of_ints (its := its.toArray) ns (I.ok.hd hc) hl.isList rv.ints (Nat.lt_of_le_of_lt (Nat.succ_le_succ hn) (by decide)) fun hq tq c R lc kp => ?_
  have hz := I.hok.fresh (Nat.le_refl s.heap.objs.size)
  exact ⟨.ref s.heap.objs.size, upd H s.heap.objs.size (SetO X.w s.heap.objs.size (fun z => decide (z ∈ ns)) c), I.laid (t' := tq) kp (Nat.le_refl _) (setO_new R), rfl, q _ c (setR_few R) hz⟩
theorem setO_nt {w : World} {a : Addr} {S : Int → Bool} {n : Nat} (ps) : SetO w a S n ≠ HO.tbl ps := fun z => by cases z
end
section
variable {X : Cx} {S : Stat} {W : WX} {a : Expr} {fa : Env' → Sto → Res TV} {pos : Pos}
theorem pe_ssetE {p p2 q : Pos} (hK : X.K = S.K) (hc : X.calm = true) (hg : Gl X "sorted") (hm : X.mg "sorted" = none) (hg2 : Gl X "set") (hm2 : X.mg "set" = none) (hst : notStar a = true) (ha : PE X a (tE S fa W)) :
    PE X (.Call (.Name "sorted" p) [.Call (.Name "set" p2) [a] [] q] [] pos) (tE S (fun ρ M => (fa ρ M).bind ssetK) W) := by
  have h1 := pe_callTy (pos := q) (p := p2) (cr_setI (X := X) hc) hg2 hm2 (by decide +kernel) (pa_cons ha pa_nil (star_of hst)) (by decide +kernel) (by decide +kernel) (star_of hst) (by rfl)
  have h2 := pe_callB (pos := pos) (p := p) (cr_sortedSet (X := X) hc) hg hm (by decide +kernel) (pa_cons h1 pa_nil rfl) (by decide +kernel) (by decide +kernel) (by rfl) (by rfl)
  refine PE.imp h2 fun σ H Q h => one h fun F1 H1 as1 M1 ta v _ _ s1 t1 w1 => ?_
  unfold ssetK at w1
  split at w1
  · rename_i xs hx
    split at w1
    · rename_i ns hn
      cases hz : (decide (ns.length ≤ 4000) && decide ((sdI ns).length < 64)) with
      | true =>
        rw [hz] at w1
        simp only [Bool.and_eq_true, decide_eq_true_eq] at hz
        obtain ⟨z1, z2⟩ := hz
        obtain ⟨l, vs, e, h3, h4⟩ := (peek_ok s1 t1 hx).list s1.sub
        have e2 := intsOf_map hn
        subst e2
        have e3 := dpAll_int_of h4
        subst e3
        refine ⟨l, ns, by rw [e], by rw [hK]; exact h3, z1, fun p n hn hp => ⟨p, _, n, rfl, upd_same, by omega, fun ns' q hup hmem hlen hq => ?_⟩⟩
        have e4 : ns' = sdI ns := up_unique hup (sdI_up ns) fun z => by
          rw [hmem, sdI_mem]
          exact decide_eq_true_iff
        subst e4
        exact wp_own (s1.upd hp) (WpG.later (nxt_upd hp) w1) (dpAll_ints _) hq
      | false => rw [hz] at w1; exact w1.elim
    · exact w1.elim
  · exact w1.elim
end
end Ev

/-! Sd3: sorted of a tuple. -/
namespace Ev
open PySem PySem.Spec PyProof.Rows PySem.Calls L2
open PySem.W (alike alikeAll dataLt dataLe AllAlike Sortable EachIs SortsAt sortVals dataKind copyHeap sortingHeap copyHeap_at list_sort_vals each_map bound_map sortVals_length sortVals_data sorting_copy_old)
section
variable {prog : Program} {w : World} {A : Around} {E : Value → Shared → Prop} {s : Shared}
theorem collect_tupR {l : Addr} {vs : List Value} {Q : List Value → Shared → Prop} (hl : IsTup s.heap l vs.toArray) (hsz : vs.length ≤ sizeLine)
    (h : Q vs { s with heap := (s.heap.push (seqObj "list" #[] 0)).update s.heap.objs.size (Obj.mapSeq (· ++ vs.toArray)) }) :
    wpAny (model prog w) A (collect (.ref l)) Q E s := by
  obtain ⟨o, ho, hc, n, hd⟩ := hl
  unfold collect
  refine wpAny_bind (wpAny_runValue (codeAny_builtin entry_proto_collect' ?_))
  show wpAny _ _ (do again (.builtin "list.__iadd__" ⟨[← newList [], .ref l], []⟩)) _ _ s
  refine wpAny_bind (wpAny_newList (wpAny_pure ⟨Code.quiet_builtin _ (by decide +kernel), codeAny_builtin entry_list_iadd' ?_⟩))
  show wpAny _ _ (Builtin.List.listExtendWith (.ref s.heap.objs.size) (.ref l) (.ref s.heap.objs.size)) _ _ { s with heap := s.heap.push (seqObj "list" #[] 0) }
  unfold Builtin.List.listExtendWith
  have ho' : (s.heap.push (seqObj "list" #[] 0)).get? l = some o := Heap.get?_push_of_some _ ho
  refine wpAny_bind (wpAny_typeOf (T := "tuple") ⟨o, ho', hc⟩ ?_)
  have ht : (Value.type "tuple" == Value.type "tuple") = true := by rfl
  rw [if_pos (by rw [ht]; simp)]
  refine wpAny_bind (listItems_at ho' hd ?_)
  refine wpAny_bind (listItems_at (xs := #[]) (n := 0) (Heap.get?_push_size _ rfl) rfl ?_)
  rw [if_neg (by simp)]
  refine wpAny_bind (listUpdate_at (xs := #[]) (n := 0) (Heap.get?_push_size _ rfl) rfl ?_ (Nat.zero_le _) (by show (#[] ++ vs.toArray).size ≤ sizeLine + 1; simp only [Array.size_append, List.size_toArray, List.length_nil]; omega))
  refine wpAny_pure ?_
  show wpAny (model prog w) A (do
      let o ← load s.heap.objs.size
      match o.data with
      | .seq xs _ => pure xs.toList
      | _ => unsupported "internal:collect") Q E { s with heap := (s.heap.push (seqObj "list" #[] 0)).update s.heap.objs.size (Obj.mapSeq (· ++ vs.toArray)) }
  refine wpAny_bind (wpAny_load (get?_update_seq (Heap.get?_push_size _ rfl) _) ?_)
  show wpAny _ _ (pure ((#[] : Array Value) ++ vs.toArray).toList) Q E _
  rw [show ((#[] : Array Value) ++ vs.toArray).toList = vs by simp]
  exact wpAny_pure h
theorem sorted_tupR {l : Addr} {vs : List Value} {κ : PyProof.Rows.KeyKind} {Q : Value → Shared → Prop} (hl : IsTup s.heap l vs.toArray) (S : SortsAt prog w A.in1.in1 { s with heap := sortingHeap (copyHeap s.heap vs) (s.heap.objs.size + 1) vs } κ vs) (hL : vs.length ≤ sizeLine)
    (h : Q (.ref (s.heap.objs.size + 1)) { s with heap := sortedAll s.heap vs (sortVals κ false vs vs).toArray }) : wpAny (model prog w) A (call (.builtin "sorted") [.ref l]) Q E s := by
  refine call_function_entry kind_sorted plain_sorted entry_sorted (args_sorted1 _) ?_
  unfold Builtin.«sorted»
  refine wpAny_bind (m := checkCount "sorted" 1 1 _) (wpAny_pure ?_)
  refine wpAny_bind (collect_tupR hl hL ?_)
  refine wpAny_bind (wpAny_newList ?_ hL)
  have hsz : ((s.heap.push (seqObj "list" #[] 0)).update s.heap.objs.size (Obj.mapSeq (· ++ vs.toArray))).objs.size = s.heap.objs.size + 1 := by
    rw [Heap.size_update, size_push']
  show wpAny _ _ _ _ _ { s with heap := copyHeap s.heap vs }
  rw [hsz]
  refine wpAny_bind (wpAny_holding (wpAny_call_entry slot_list_sort ⟨_, copyHeap_at s.heap vs, rfl⟩ entry_list_sort (list_sort_vals (s := { s with heap := copyHeap s.heap vs }) (copyHeap_at s.heap vs) S hL ⟨_, rfl, ?_⟩) (args_list_sort _)))
  exact wpAny_pure ⟨_, rfl, h⟩
theorem sorted_tupD {β : Type} {vs : List Value} {bs : List β} {enc : β → PyData} {R : Value → β → Prop} {l : Addr} {Q : Value → Shared → Prop} (hl : IsTup s.heap l vs.toArray) (e : EachIs R vs bs) (er : EachIs (fun v b => ∃ as, Reads s.heap v (enc b) as) vs bs) (hal : AllAlike (bs.map enc)) (hk : Sortable (bs.map enc)) (hL : bs.length ≤ sizeLine)
    (hu : ∀ b, b ∈ bs → A.units + 2 + (enc b).depth < cLine) (h : ∀ out, out.length = bs.length → EachIs R out (bs.mergeSort (dataLe false enc)) → Q (.ref (s.heap.objs.size + 1)) { s with heap := sortedAll s.heap vs (List.toArray out) }) :
    wpAny (model prog w) A (call (.builtin "sorted") [.ref l]) Q E s := by
  have er' : EachIs (fun v b => ∃ as, Reads (sortingHeap (copyHeap s.heap vs) (s.heap.objs.size + 1) vs) v (enc b) as) vs bs := er.mono fun _ _ ⟨as, r⟩ => ⟨as, PyProof.Rows.Reads.keeps (fun _ _ => sorting_copy_old) r⟩
  exact sorted_tupR hl (SortsAt.data (s := { s with heap := sortingHeap (copyHeap s.heap vs) (s.heap.objs.size + 1) vs }) (each_map (R := fun v d => ∃ as, Reads (sortingHeap (copyHeap s.heap vs) (s.heap.objs.size + 1) vs) v d as) enc er') hal hk (bound_map hu)) (by rw [e.length]; exact hL)
    (h _ (by rw [sortVals_length false rfl]; exact e.length) (sortVals_data false e er' hal))
end
section
variable {X : Cx}
/-- sorted(xs), xs a list or a tuple -/
def rSortB (K : PySem.W.Frag) : List V → Hp → VK → Prop := fun vs H Q => ∃ (a : Addr) (ps : List (V × PyData)), vs = [V.ref a] ∧ (SqL K H a (ps.map (·.1)) ∨ SqT K H a (ps.map (·.1))) ∧ (∀ p ∈ ps, L2.Dp K H p.1 p.2) ∧ sortOk (ps.map (·.2)) = true ∧
  ∀ p, H p = none → Q (.ref p) (upd H p (.lst ((ps.mergeSort (dataLe false fun b : V × PyData => b.2)).map (·.1))))
theorem cr_sortB (hu : X.A.units + 64 < cLine) : CallR X (.builtin "sorted") (rSortB X.K) := by
  intro pins s σ H vs us Q I r h
  obtain ⟨a, ps, rfl, hs, hd, ok, q⟩ := h
  rcases hs with hs | hs
  · exact cr_sortD hu pins s σ H _ us Q I r ⟨a, ps, rfl, hs, hd, ok, q⟩
  obtain ⟨its, rv, hl, hz⟩ := I.tuple hs
  rw [Vals.ref1 r]
  obtain ⟨o1, o2, o3⟩ := sortOk_ok ok
  have ev := vals_each rv
  have er : EachIs (fun v (b : V × PyData) => ∃ as, Reads s.heap v b.2 as) its ps := each_both ev fun u b hb rb => Dp.reads I b.2 b.1 u (hd b hb) rb
  refine sorted_tupD (R := fun u (b : V × PyData) => RelV b.1 u) (enc := fun b : V × PyData => b.2) hl ev er o1 o2 (by rw [List.length_map] at hz; exact hz) (fun b hb => ?_) fun out ho e => ?_
  · have := o3 b.2 (List.mem_map.mpr ⟨b, hb, rfl⟩)
    omega
  · obtain ⟨ep, he'⟩ := PyProof.Rows.sortedAll_at s.heap its out.toArray
    have hlen : ((ps.mergeSort (dataLe false fun b : V × PyData => b.2)).map (·.1)).length ≤ sizeLine := by
      rw [List.length_map, List.length_mergeSort]
      rw [List.length_map] at hz
      exact hz
    exact ⟨.ref _, upd H (s.heap.objs.size + 1) (.lst ((ps.mergeSort (dataLe false fun b : V × PyData => b.2)).map (·.1))), I.laid (t' := s.toks) (fun _ _ => PyProof.Rows.sortedAll_old) (Nat.le_succ _) ⟨hlen, out, ep, each_vals e, he'⟩, rfl, q _ (I.hok.fresh (Nat.le_succ _))⟩
end
end Ev

/-! Sd2: sorted as an expression. -/
namespace Ev
open PySem PySem.Spec PyProof.Rows L2
open PySem.W (alike alikeAll dataLt dataLe AllAlike Sortable EachIs)
section
variable {X : Cx} {S : Stat} {W : WX} {a : Expr} {fa : Env' → Sto → Res TV} {pos : Pos}
theorem pe_srtE {p : Pos} (hK : X.K = S.K) (hu : X.A.units + 64 < cLine) (hg : Gl X "sorted") (hm : X.mg "sorted" = none) (hst : notStar a = true) (ha : PE X a (tE S fa W)) :
    PE X (.Call (.Name "sorted" p) [a] [] pos) (tE S (fun ρ M => (fa ρ M).bind srtK) W) := by
  have h2 := pe_callB (pos := pos) (p := p) (cr_sortB (X := X) hu) hg hm (by decide +kernel) (pa_cons ha pa_nil (star_of hst)) (by decide +kernel) (by decide +kernel) (star_of hst) (by rfl)
  refine PE.imp h2 fun σ H Q h => one h fun F1 H1 as1 M1 ta v _ _ s1 t1 w1 => ?_
  unfold srtK at w1
  split at w1
  · rename_i xs hx
    cases hz : sortOk xs with
    | true =>
      rw [hz] at w1
      obtain ⟨l, vs, e, h3, h4⟩ := (peek_ok s1 t1 hx).list s1.sub
      obtain ⟨q1, q2, q3⟩ := dpAll_zip h4
      refine ⟨l, vs.zip xs, by rw [e], .inl (by rw [hK, q2]; exact h3), fun p hp => by rw [hK]; exact (dp_mono s1.sub p.2 p.1 (q1 p hp)).bare _ _ (sortOk_bare hz _ (List.of_mem_zip hp).2), by rw [q3]; exact hz, fun p hp => ?_⟩
      refine wp_own s1 w1 ?_ hp
      have e4 := sort_snd (ps := vs.zip xs)
      rw [q3] at e4
      rw [← e4]
      exact dpAll_of_mem fun p hp => q1 p ((List.mergeSort_perm _ _).mem_iff.mp hp)
    | false => rw [hz] at w1; exact w1.elim
  · rename_i xs hx
    cases hz : sortOk xs with
    | true =>
      rw [hz] at w1
      obtain ⟨l, vs, e, h3, h4⟩ := (peek_ok s1 t1 hx).tuple s1.sub
      obtain ⟨q1, q2, q3⟩ := dpAll_zip h4
      refine ⟨l, vs.zip xs, by rw [e], .inr (by rw [hK, q2]; exact h3), fun p hp => by rw [hK]; exact (dp_mono s1.sub p.2 p.1 (q1 p hp)).bare _ _ (sortOk_bare hz _ (List.of_mem_zip hp).2), by rw [q3]; exact hz, fun p hp => ?_⟩
      refine wp_own s1 w1 ?_ hp
      have e4 := sort_snd (ps := vs.zip xs)
      rw [q3] at e4
      rw [← e4]
      exact dpAll_of_mem fun p hp => q1 p ((List.mergeSort_perm _ _).mem_iff.mp hp)
    | false => rw [hz] at w1; exact w1.elim
  · exact w1.elim
end
end Ev

/-! En1: enumerate of a tuple. -/
namespace Ev
open PySem PySem.Spec PyProof.Rows L2
theorem meets_enum1 {v : Value} {o : Obj} {H : Heap → Prop} (B : Begins v o H) :
    Meets (Builtin.«enumerate.__new__» ⟨[.type "enumerate", v], []⟩) (fun _ R s => H s.heap ∧
      R (.ok (.ret (.ref (s.heap.push o).objs.size))) { s with heap := (s.heap.push o).push { cls := .type "enumerate", data := .fields #[.none, .bool false, .ref s.heap.objs.size, rawInt 0, .none, .none] } }) :=
  .of_wp fun prog w A R s h => by
    obtain ⟨hp, gs, dr, tks, oss⟩ := s
    obtain ⟨stands, next⟩ := h
    have se := sub_enumerate
    have it1 : ∀ {A' : Around} {E' : Value → Shared → Prop} {Q' : Value → Shared → Prop}, Q' (.ref hp.objs.size) ⟨hp.push o, gs, dr, tks, oss⟩ → wpAny (model prog w) A' (pyIter v) Q' E' ⟨hp, gs, dr, tks, oss⟩ := fun q => B.iter prog w _ _ ⟨hp, gs, dr, tks, oss⟩ _ stands q
    wp_walk using it1
    refine wpAny_stack_any fun st => wpAny_pure ?_
    split
    · rename_i cc _ _ _ _ _
      cases (cc == Value.type "enumerate") <;> (wp_walk using it1; exact ⟨_, rfl, next⟩)
    · wp_walk using it1
      exact ⟨_, rfl, next⟩
section
variable {prog : Program} {w : World} {A : Around} {E : Value → Shared → Prop} {s : Shared}
theorem call_enum1 {v : Value} {o : Obj} {H : Heap → Prop} {Q : Value → Shared → Prop} (B : Begins v o H) (h1 : H s.heap)
    (next : ∀ hh, IsEnum hh (s.heap.objs.size + 1) s.heap.objs.size 0 .none → hh.get? s.heap.objs.size = some o → (∀ b u, s.heap.get? b = some u → hh.get? b = some u) → Q (.ref (s.heap.objs.size + 1)) { s with heap := hh }) :
    wpAny (model prog w) A (call (.type "enumerate") [v]) Q E s := by
  refine callType_new F.called_enumerate (by decide) (F.typeCall_enumerate_1 _) (F.newCall_enumerate_1 _) (fun ob => F.args_object_init_2 ob _) F.entry_enumerate_new (meets_enum1 B) ⟨h1, ?_⟩
  have sz : (s.heap.push o).objs.size = s.heap.objs.size + 1 := Heap.size_push ..
  show _ ∧ _
  rw [sz]
  have en : IsEnum ((s.heap.push o).push { cls := .type "enumerate", data := .fields #[.none, .bool false, .ref s.heap.objs.size, rawInt 0, .none, .none] }) (s.heap.objs.size + 1) s.heap.objs.size 0 .none := by
    have q := Heap.get?_push_size (s.heap.push o) (o := { cls := .type "enumerate", data := .fields #[.none, .bool false, .ref s.heap.objs.size, rawInt 0, .none, .none] }) rfl
    rwa [sz] at q
  exact ⟨⟨_, en, rfl⟩, next _ en (Heap.get?_push_of_some _ (Heap.get?_push_size _ B.free)) fun b u q => Heap.get?_push_of_some _ (Heap.get?_push_of_some _ q)⟩
end
theorem enum_endT {prog : Program} {w : World} {A : Around} {E : Value → Shared → Prop} {s : Shared} {e it a : Addr} {i : Nat} {its : Array Value} {old : Value} {Q : Option Value → Shared → Prop} (calm : A.handled = none) (he : IsEnum s.heap e it i old) (hit : s.heap.IsTupleIter it a i)
    (ht : s.heap.IsTuple a its) (hx : its[i]? = none) (next : ∀ hh, Heap.ExtBut it s.heap hh → Q none { s with heap := hh }) : wpAny (model prog w) A (pyNext (.ref e)) Q E s := by
  have ty : s.TypeIs (.ref e) "enumerate" := ⟨_, he, rfl⟩
  have calm1 : A.in1.handled = none := by simp [calm]
  unfold pyNext
  refine wpAny_bind (wpAny_attempt (wpAny_callSpecial?_slot (name := Str.ofString "__next__") ty F.slot_enumerate_next (wpAny_call_entry F.slot_enumerate_next ty F.entry_enumerate_next (show wpAny _ _ (field (.ref e) 2 >>= _) _ _ _ from ?_) (F.args_enumerate_next_1 _))))
  refine wpAny_bind (wpAny_field he rfl (x := .ref it) rfl (wpAny_bind (wpAny_nextOf_tuple_end calm1 hit ht hx fun hh ex hb ⟨ob, hob, cob⟩ => ?_)))
  exact wpAny_bind (wpAny_isInstance (T := "StopIteration") (b := true) ⟨ob, hob, cob⟩ isSubtype_stop (wpAny_pure (next _ hb)))
/-- the tuple at a as it stands at each turn, each item in a new pair -/
def IteT (K : PySem.W.Frag) (a : Addr) : It :=
  ⟨fun i H => ∃ (xs : List V) (x : V), SqT K H a xs ∧ xs[i]? = some x, fun i H v H' => ∃ T x, v = .ref T ∧ H T = none ∧ H' = upd H T (.tup [.int (i : Nat), x]) ∧ ∀ xs, SqT K H a xs → xs[i]? = some x, fun i H => ∃ xs : List V, SqT K H a xs ∧ xs.length ≤ i⟩
theorem enum_ne_tup {h : Heap} {e it a : Addr} {i : Int} {old : Value} {its : Array Value} (he : IsEnum h e it i old) (ht : h.IsTuple a its) : e ≠ a := fun z => by
  subst z
  obtain ⟨o, ho, hc, _⟩ := ht
  have he : h.get? e = _ := he
  rw [he] at ho
  cases ho
  exact absurd (Value.type.inj hc) (by decide)
theorem turn_enumT {P : Program} {w : World} {K : PySem.W.Frag} {elts : List Expr} {kk : Nat} {tpos : Pos} (a e it : Addr) :
    Turn P w K (.Tuple elts kk tpos) (IteT K a) [e, it] e (fun i h => (∃ old, IsEnum h e it ((i : Nat) : Int) old) ∧ h.IsTupleIter it a i ∧ e ≠ it ∧ a ≠ it) where
  mem := by simp
  obj := fun i h st b hb => by
    obtain ⟨⟨old, he⟩, ⟨o, ho, hc, hd⟩, _⟩ := st
    rcases (show b = e ∨ b = it by simpa using hb) with rfl | rfl
    · exact ⟨_, he, fun v q => nomatch q⟩
    · exact ⟨o, ho, fun v q => by rw [hd] at q; cases q⟩
  keep := fun i h h' ⟨⟨old, he⟩, hi, hne, hna⟩ k => ⟨⟨old, k e (by simp) _ he⟩, hi.at fun o q => k it (by simp) o q, hne, hna⟩
  item := by
    intro X hP hw hK hc i pins s σ H E I hf st hg
    subst hP hw hK
    obtain ⟨⟨old, he⟩, hit, hne, hna⟩ := st
    obtain ⟨xs, x, hq, hx⟩ := hg
    obtain ⟨its, rv, p, hz⟩ := I.tuple hq
    obtain ⟨u, hu, ru⟩ := rv.get hx
    have lte : e < s.heap.objs.size := Heap.lt_size he
    have lti : it < s.heap.objs.size := by obtain ⟨_, q, _⟩ := hit; exact Heap.lt_size q
    have calm1 : X.A.in1.handled = none := by
      have := I.ok.hd hc
      simp [this]
    have hlt : i < its.toArray.size := by
      have := (List.getElem?_eq_some_iff.mp hu).1
      simpa using this
    have hea : e ∉ [it, a] := by
      simp only [List.mem_cons, List.not_mem_nil, or_false, not_or]
      exact ⟨hne, enum_ne_tup he p⟩
    refine wpAny_pyNext_enum_itemD (Draws.tuple calm1 it a hna its.toArray) he ⟨hit, p⟩ hlt hne hea fun x' h1 tk hP ho hs1 hT hsz hk => ?_
    obtain rfl : u = x' := by
      have : its.toArray[i]? = some u := by simpa using hu
      rw [this] at hP
      exact Option.some.inj hP
    refine ⟨_, rfl, wpAny_letOwnedTupleGo_enum (s := { s with heap := h1, toks := tk + 1 }) ho fun h2 he2 sb => ?_⟩
    have hT2 : h2.get? s.heap.objs.size = some { cls := .type "tuple", data := .seq #[.int i tk, u] } := (sb.2 _ (Nat.ne_of_gt lte)).trans hT
    have new : ObjOk X.prog X.w (upd H s.heap.objs.size (.tup [.int (i : Nat), x])) h2 s.heap.objs.size (.tup [.int (i : Nat), x]) := ⟨by show 2 ≤ sizeLine; decide, [.int i tk, u], .cons ⟨_, rfl⟩ (.cons ru .nil), ⟨_, hT2, rfl, _, rfl⟩⟩
    have I1 : Inv X pins σ (upd H s.heap.objs.size (.tup [.int (i : Nat), x])) { s with heap := h2, toks := tk + 1 } := I.turnedNew (ch := [e, it]) (fun b ob hb q => (sb.2 b (fun z => hb (by simp [z]))).trans (hk b ob (fun z => hb (by simp [z])) (fun z => hb (by simp [z])) q)) hf (Nat.le_refl _) new
    refine ⟨.ref s.heap.objs.size, _, I1, rfl, ⟨_, x, rfl, I.hok.fresh (Nat.le_refl _), rfl, fun ys hy => by rw [I.tuple_inj hy hq]; exact hx⟩, ⟨⟨u, ?_⟩, hs1.1.at fun o q => (sb.2 it (Ne.symm hne)).trans q, hne, hna⟩, fun b hb => ?_⟩
    · rw [show ((i + 1 : Nat) : Int) = (i : Int) + 1 by omega]; exact he2
    · have lb : b < s.heap.objs.size := by
        rcases (show b = e ∨ b = it by simpa using hb) with rfl | rfl
        · exact lte
        · exact lti
      rw [upd_ne (Nat.ne_of_lt lb)]
      exact (hf b hb).1
  done := by
    intro X hP hw hK hc i pins s σ H E I hf st hg
    subst hP hw hK
    obtain ⟨⟨old, he⟩, hit, hne, hna⟩ := st
    obtain ⟨xs, hq, hx⟩ := hg
    obtain ⟨its, rv, p, hz⟩ := I.tuple hq
    obtain ⟨f0, f1, f2, f3, f4, f5⟩ := hf it (by simp)
    have hl := rv.length
    exact enum_endT (I.ok.hd hc) he hit p (by simp; omega) fun h' eb => ⟨rfl, I.turned (t' := s.toks) (fun b o hb q => eb b o hb q) f0 f1 f3 f4 f5⟩
  self := fun A i s Q E st h => let ⟨⟨_, he⟩, _⟩ := st; wpAny_pyIter_enum he h
theorem wk_enumT {S : Stat} {F : Hp} {as : AS} {xs : List PyData} {vs : List V} {a : Addr} (h1 : SqT S.K F a vs) (h2 : DpAll S.K F vs xs) : Wk S F as (enumD xs) (IteT S.K a) where
  go := fun F' H' as' M i y g s hy => by
    obtain ⟨x1, y1, e1, e2, ez⟩ := zip_get hy
    subst ez
    obtain ⟨k1, k2⟩ := rngD_get e1
    subst k2
    obtain ⟨v, hv, dv⟩ := dpAll_get h2 e2
    have q1 : SqT S.K H' a vs := sqT_mono s.sub (sqT_mono g.grow h1)
    exact ⟨⟨vs, v, q1, hv⟩, fun x H2 ⟨T, v', e, hT, eH, hx⟩ => by
      subst e eH
      have hx := hx vs q1
      rw [hv] at hx
      cases hx
      have e0 : (0 : Int) + (i : Int) = (i : Int) := by omega
      rw [e0]
      exact pair_new s hT (.int _) (dp_mono g.grow _ _ dv)⟩
  stop := fun F' H' as' M i g s hi => ⟨vs, sqT_mono s.sub (sqT_mono g.grow h1), by
    unfold enumD at hi
    rw [List.length_zipWith, rngD_len] at hi
    rw [dpAll_len h2]
    omega⟩
theorem enum_endS {prog : Program} {w : World} {A : Around} {E : Value → Shared → Prop} {s : Shared} {e it : Addr} {z : Str} {t : Tok} {i : Nat} {old : Value} {Q : Option Value → Shared → Prop} (calm : A.handled = none) (he : IsEnum s.heap e it i old) (hit : s.heap.IsStrIter it (strIterType z) z t i)
    (hx : z.cps[i]? = none) (next : ∀ hh, Heap.ExtBut it s.heap hh → Q none { s with heap := hh }) : wpAny (model prog w) A (pyNext (.ref e)) Q E s := by
  have ty : s.TypeIs (.ref e) "enumerate" := ⟨_, he, rfl⟩
  have calm1 : A.in1.handled = none := by simp [calm]
  unfold pyNext
  refine wpAny_bind (wpAny_attempt (wpAny_callSpecial?_slot (name := Str.ofString "__next__") ty F.slot_enumerate_next (wpAny_call_entry F.slot_enumerate_next ty F.entry_enumerate_next (show wpAny _ _ (field (.ref e) 2 >>= _) _ _ _ from ?_) (F.args_enumerate_next_1 _))))
  unfold strIterType at hit
  refine wpAny_bind (wpAny_field he rfl (x := .ref it) rfl ?_)
  split at hit
  · exact wpAny_bind (wpAny_nextOf_ascii_end calm1 hit hx fun hh ex hb ⟨ob, hob, cob⟩ => wpAny_bind (wpAny_isInstance (T := "StopIteration") (b := true) ⟨ob, hob, cob⟩ isSubtype_stop (wpAny_pure (next _ hb))))
  · exact wpAny_bind (wpAny_nextOf_wide_end calm1 hit hx fun hh ex hb ⟨ob, hob, cob⟩ => wpAny_bind (wpAny_isInstance (T := "StopIteration") (b := true) ⟨ob, hob, cob⟩ isSubtype_stop (wpAny_pure (next _ hb))))
/-- a text, each sign in a new pair -/
def IteS (z : Str) : It :=
  ⟨fun i _ => i < z.cps.size, fun i H v H' => ∃ T c, v = .ref T ∧ H T = none ∧ z.cps[i]? = some c ∧ H' = upd H T (.tup [.int (i : Nat), .str ⟨#[c]⟩]), fun i _ => z.cps.size ≤ i⟩
theorem turn_enumS {P : Program} {w : World} {K : PySem.W.Frag} {elts : List Expr} {kk : Nat} {tpos : Pos} (z : Str) (t : Tok) (e it : Addr) :
    Turn P w K (.Tuple elts kk tpos) (IteS z) [e, it] e (fun i h => (∃ old, IsEnum h e it ((i : Nat) : Int) old) ∧ h.IsStrIter it (strIterType z) z t i ∧ e ≠ it) where
  mem := by simp
  obj := fun i h st b hb => by
    obtain ⟨⟨old, he⟩, ⟨o, ho, hc, hd⟩, _⟩ := st
    rcases (show b = e ∨ b = it by simpa using hb) with rfl | rfl
    · exact ⟨_, he, fun v q => nomatch q⟩
    · exact ⟨o, ho, fun v q => by rw [hd] at q; cases q⟩
  keep := fun i h h' ⟨⟨old, he⟩, ⟨o, ho, r⟩, hne⟩ k => ⟨⟨old, k e (by simp) _ he⟩, ⟨o, k it (by simp) _ ho, r⟩, hne⟩
  item := by
    intro X hP hw hK hc i pins s σ H E I hf st hg
    subst hP hw hK
    obtain ⟨⟨old, he⟩, hit, hne⟩ := st
    have lte : e < s.heap.objs.size := Heap.lt_size he
    have lti : it < s.heap.objs.size := by obtain ⟨_, q, _⟩ := hit; exact Heap.lt_size q
    have calm1 : X.A.in1.handled = none := by
      have := I.ok.hd hc
      simp [this]
    have hea : e ∉ [it] := by
      simp only [List.mem_cons, List.not_mem_nil, or_false]
      exact hne
    refine wpAny_pyNext_enum_itemD (Draws.text calm1 it z t) he hit hg hne hea fun x' h1 tk hP ho hs1 hT hsz hk => ?_
    obtain ⟨c, tc, hcx, rfl⟩ := hP
    refine ⟨_, rfl, wpAny_letOwnedTupleGo_enum (s := { s with heap := h1, toks := tk + 1 }) ho fun h2 he2 sb => ?_⟩
    have hT2 := (sb.2 _ (Nat.ne_of_gt lte)).trans hT
    have new : ObjOk X.prog X.w (upd H s.heap.objs.size (.tup [.int (i : Nat), .str ⟨#[c]⟩])) h2 s.heap.objs.size (.tup [.int (i : Nat), .str ⟨#[c]⟩]) := ⟨by show 2 ≤ sizeLine; decide, _, .cons ⟨_, rfl⟩ (.cons ⟨_, rfl⟩ .nil), ⟨_, hT2, rfl, _, rfl⟩⟩
    have I1 := I.turnedNew (t' := tk + 1) (ch := [e, it]) (fun b ob hb q => (sb.2 b (fun z => hb (by simp [z]))).trans (hk b ob (fun z => hb (by simp [z])) (fun z => hb (by simpa using Or.inr z)) q)) hf (Nat.le_refl _) new
    refine ⟨.ref s.heap.objs.size, _, I1, rfl, ⟨_, c, rfl, I.hok.fresh (Nat.le_refl _), hcx, rfl⟩, ⟨⟨.str ⟨#[c]⟩ tc, ?_⟩, ?_, hne⟩, fun b hb => ?_⟩
    · rw [show ((i + 1 : Nat) : Int) = (i : Int) + 1 by omega]; exact he2
    · obtain ⟨o, ho', r⟩ := hs1
      exact ⟨o, (sb.2 it (Ne.symm hne)).trans ho', r⟩
    · have lb : b < s.heap.objs.size := by
        rcases (show b = e ∨ b = it by simpa using hb) with rfl | rfl
        · exact lte
        · exact lti
      rw [upd_ne (Nat.ne_of_lt lb)]
      exact (hf b hb).1
  done := by
    intro X hP hw hK hc i pins s σ H E I hf st hg
    subst hP hw hK
    obtain ⟨⟨old, he⟩, hit, hne⟩ := st
    obtain ⟨f0, f1, f2, f3, f4, f5⟩ := hf it (by simp)
    exact enum_endS (I.ok.hd hc) he hit (Array.getElem?_eq_none hg) fun h' eb => ⟨rfl, I.turned (t' := s.toks) (fun b o hb q => eb b o hb q) f0 f1 f3 f4 f5⟩
  self := fun A i s Q E st h => let ⟨⟨_, he⟩, _⟩ := st; wpAny_pyIter_enum he h
theorem wk_enumS {S : Stat} {F : Hp} {as : AS} {z : Str} : Wk S F as (enumD (signsD z)) (IteS z) where
  go := fun F' H' as' M i y g s hy => by
    obtain ⟨x1, y1, e1, e2, ez⟩ := zip_get hy
    subst ez
    obtain ⟨k1, k2⟩ := rngD_get e1
    subst k2
    obtain ⟨c, hc, rfl⟩ := signs_get e2
    refine ⟨(Array.getElem?_eq_some_iff.mp hc).1, fun x H2 ⟨T, c', e, hT, hc', eH⟩ => ?_⟩
    subst e eH
    rw [hc] at hc'
    cases hc'
    have e0 : (0 : Int) + (i : Int) = (i : Int) := by omega
    rw [e0]
    exact pair_new s hT (.int _) (.str _)
  stop := fun F' H' as' M i g s hi => by
    unfold enumD at hi
    rw [List.length_zipWith, rngD_len, signs_len, Nat.min_self] at hi
    show z.cps.size ≤ i
    exact Nat.le_of_eq hi
def iEnumA (K : PySem.W.Frag) (ta : TA) : TI := fun σ H R => ta σ H fun vs H1 => (∃ a xs, vs = [.ref a] ∧ ((SqL K H1 a xs ∧ R (Ite K a) H1) ∨ (SqT K H1 a xs ∧ R (IteT K a) H1))) ∨ ∃ z, vs = [.str z] ∧ R (IteS z) H1
theorem pi_enumA {X : Cx} {e : Expr} {ta : TA} {p pos tpos : Pos} {elts : List Expr} {kk : Nat} (hg : Gl X "enumerate") (hm : X.mg "enumerate" = none) (ha : PA X [e] ta) (hs : starEach [e] X.env = [(false, eval e X.env)]) :
    PI X (.Tuple elts kk tpos) (.Call (.Name "enumerate" p) [e] [] pos) (iEnumA X.K ta) := by
  refine ⟨fun pins s σ H R I h => ?_⟩
  refine Call_ (ld_blt I hg hm boot_enumerate (PyProof.Rows.callWith_type1 (thn (ha.run pos pins s σ H _ I h) fun us s1 ⟨vs, H1, I1, r1, q1⟩ => ?_) hs rfl))
  rcases q1 with ⟨a, xs, ex, q1⟩ | ⟨z, ex, q⟩
  rotate_left
  · subst ex
    cases r1 with
    | cons r rr =>
      cases rr
      obtain ⟨t, rfl⟩ := r
      refine call_enum1 (begins_text z t) trivial fun hh en hit kp => wpAny_pyIter_enum en ?_
      have I2 : Inv X pins σ H1 { s1 with heap := hh } := I1.kept (t' := s1.toks) kp
      refine ⟨s1.heap.objs.size + 1, [s1.heap.objs.size + 1, s1.heap.objs.size], _, _, H1, rfl, I2, turn_enumS z t (s1.heap.objs.size + 1) s1.heap.objs.size, ⟨⟨.none, en⟩, ⟨_, hit, rfl, rfl⟩, Nat.succ_ne_self _⟩, fun b hb => ?_, q⟩
      have hle : s1.heap.objs.size ≤ b := by
        rcases (show b = s1.heap.objs.size + 1 ∨ b = s1.heap.objs.size by simpa using hb) with z | z
        · rw [z]; exact Nat.le_add_right _ _
        · rw [z]; exact Nat.le_refl _
      exact I1.fpOk hle (I1.hok.fresh hle)
  subst ex
  cases r1 with
  | cons r rr =>
    cases rr
    cases r
    have fresh2 : ∀ b, b ∈ [s1.heap.objs.size + 1, s1.heap.objs.size] → FpOk X pins H1 b := fun b hb => by
      have hle : s1.heap.objs.size ≤ b := by
        rcases (show b = s1.heap.objs.size + 1 ∨ b = s1.heap.objs.size by simpa using hb) with z | z
        · rw [z]; exact Nat.le_add_right _ _
        · rw [z]; exact Nat.le_refl _
      exact I1.fpOk hle (I1.hok.fresh hle)
    rcases q1 with ⟨hq, q⟩ | ⟨hq, q⟩
    · obtain ⟨its, rv, p', hz⟩ := I1.list hq
      refine call_enum1 (begins_list a its.toArray) p'.isList fun hh en hit kp => wpAny_pyIter_enum en ?_
      have I2 : Inv X pins σ H1 { s1 with heap := hh } := I1.kept (t' := s1.toks) kp
      exact ⟨s1.heap.objs.size + 1, [s1.heap.objs.size + 1, s1.heap.objs.size], _, _, H1, rfl, I2, turn_enum a (s1.heap.objs.size + 1) s1.heap.objs.size, ⟨⟨.none, en⟩, ⟨_, hit, rfl, rfl⟩, Nat.succ_ne_self _⟩, fresh2, q⟩
    · obtain ⟨its, rv, p', hz⟩ := I1.tuple hq
      have lta : a < s1.heap.objs.size := by obtain ⟨_, q, _⟩ := p'; exact Heap.lt_size q
      refine call_enum1 (begins_tuple a its.toArray) p' fun hh en hit kp => wpAny_pyIter_enum en ?_
      have I2 : Inv X pins σ H1 { s1 with heap := hh } := I1.kept (t' := s1.toks) kp
      exact ⟨s1.heap.objs.size + 1, [s1.heap.objs.size + 1, s1.heap.objs.size], _, _, H1, rfl, I2, turn_enumT a (s1.heap.objs.size + 1) s1.heap.objs.size, ⟨⟨.none, en⟩, ⟨_, hit, rfl, rfl⟩, Nat.succ_ne_self _, Nat.ne_of_lt lta⟩, fresh2, q⟩
section
variable {X : Cx} {S : Stat} {W : WX}
theorem pi_enumE {fs : Env' → Sto → Res (List VV)} {a : Expr} {elts : List Expr} {kk : Nat} {p pos tpos : Pos} (hK : X.K = S.K) (hg : Gl X "enumerate") (hm : X.mg "enumerate" = none) (ha : PA X [a] (tV S fs W)) (hs : starEach [a] X.env = [(false, eval a X.env)]) :
    PI X (.Tuple elts kk tpos) (.Call (.Name "enumerate" p) [a] [] pos) (tI S (fun ρ M => (fs ρ M).bind enumK) W) :=
  PI.imp (pi_enumA hg hm ha hs) fun σ H R h => tG.bind (k := fun _ ts M => enumK ts M) h fun F1 H1 as1 ρ M1 _ _ ts vs s1 e1 t1 w1 => by
    unfold enumK at w1
    split at w1
    · rename_i t
      have t1' : Paired (Vr S.K F1 as1) [t] vs := t1
      cases t1' with
      | cons h1 hr =>
        cases hr
        cases e1' : seqOfE t with
        | none => rw [e1'] at w1; exact w1.elim
        | some xs =>
          rw [e1'] at w1
          have w2 : WpG S (RI S) (fun c d H' => W c d σ H') F1 H1 as1 (.ok (enumD xs) M1) R := w1
          by_cases hs : ∃ z, t = .d (.str z)
          · obtain ⟨z, rfl⟩ := hs
            cases e1'
            have d : Dp S.K F1 _ (.str z) := h1
            cases d with
            | str => exact .inr ⟨z, rfl, w2 _ F1 H1 as1 .refl s1 wk_enumS⟩
          · have e2 : seqOf t = some xs := by
              unfold seqOfE at e1'
              split at e1'
              · exact e1'
              · exact e1'
              · exact absurd ⟨_, rfl⟩ hs
              · cases e1'
            obtain ⟨b, us, ea, da, ka⟩ := seqOf_ok s1 h1 e2
            rcases ka with ⟨ka, ex⟩ | ⟨ka, ex⟩
            · exact .inl ⟨b, us, by rw [ea], .inl ⟨by rw [hK]; exact sqL_mono s1.sub ka, by rw [hK]; exact w2 _ F1 H1 as1 .refl s1 (wk_enum ka da)⟩⟩
            · exact .inl ⟨b, us, by rw [ea], .inr ⟨by rw [hK]; exact sqT_mono s1.sub ka, by rw [hK]; exact w2 _ F1 H1 as1 .refl s1 (wk_enumT ka da)⟩⟩
    · exact w1.elim
end
end Ev

/-! Zp1: zip of two, each a list or a tuple. -/
namespace Ev
open PySem PySem.Spec PyProof.Rows L2
inductive SeqK where
  | l | t
def SqX (k : SeqK) (K : PySem.W.Frag) (H : Hp) (a : Addr) (xs : List V) : Prop := match k with
  | .l => SqL K H a xs
  | .t => SqT K H a xs
def IterX (k : SeqK) (h : Heap) (it a : Addr) (i : Nat) : Prop := match k with
  | .l => h.IsListIter it a i
  | .t => h.IsTupleIter it a i
def ObX (k : SeqK) (h : Heap) (a : Addr) (its : Array Value) : Prop := match k with
  | .l => h.IsList a its
  | .t => h.IsTuple a its
def itO (k : SeqK) (a : Addr) : Obj := match k with
  | .l => { cls := .type "list_iterator", data := .fields #[.ref a, .int 0 0] }
  | .t => { cls := .type "tuple_iterator", data := .fields #[.ref a, .int 0 0] }
theorem iterX_obj {k : SeqK} {h : Heap} {it a : Addr} {i : Nat} (p : IterX k h it a i) : ∃ o, h.get? it = some o ∧ ∀ v, o.data ≠ .cell v := by
  cases k <;> (obtain ⟨o, e, _, d⟩ := p; exact ⟨o, e, fun v q => by rw [d] at q; cases q⟩)
theorem iterX_at {k : SeqK} {h h' : Heap} {it a : Addr} {i : Nat} (p : IterX k h it a i) (q : ∀ o, h.get? it = some o → h'.get? it = some o) : IterX k h' it a i := by
  cases k
  · exact (show h.IsListIter it a i from p).at q
  · exact (show h.IsTupleIter it a i from p).at q
theorem drawsX {P : Program} {w : World} {A : Around} (k : SeqK) (hh : A.handled = none) {it a : Addr} (hne : a ≠ it) (its : Array Value) : Draws P w A it [it, a] its.size (fun i v => its[i]? = some v) (fun i h => IterX k h it a i ∧ ObX k h a its) := by
  cases k
  · exact Draws.list hh it a hne its
  · exact Draws.tuple hh it a hne its
theorem beginsX (k : SeqK) (a : Addr) (its : Array Value) : Begins (.ref a) (itO k a) (fun h => ObX k h a its) := by
  cases k
  · exact begins_list a its
  · exact begins_tuple a its
theorem itO_iter {k : SeqK} {h : Heap} {it a : Addr} (e : h.get? it = some (itO k a)) : IterX k h it a 0 := by
  cases k <;> exact ⟨_, e, rfl, rfl⟩
section
variable {X : Cx} {pins : List (Addr × Obj)} {σ : L2.St} {H : Hp} {s : Shared}
theorem invX {k : SeqK} {a : Addr} {xs : List V} (I : Inv X pins σ H s) (h : SqX k X.K H a xs) : ∃ its : List Value, Vals xs its ∧ ObX k s.heap a its.toArray ∧ a < s.heap.objs.size := by
  cases k
  · obtain ⟨its, rv, p, _⟩ := I.list h
    have q := p.isList
    exact ⟨its, rv, q, by obtain ⟨_, e, _⟩ := q; exact Heap.lt_size e⟩
  · obtain ⟨its, rv, p, _⟩ := I.tuple h
    have q : s.heap.IsTuple a its.toArray := p
    exact ⟨its, rv, q, by obtain ⟨_, e, _⟩ := q; exact Heap.lt_size e⟩
theorem invX_inj {k : SeqK} {a : Addr} {xs ys : List V} (I : Inv X pins σ H s) (h : SqX k X.K H a xs) (h2 : SqX k X.K H a ys) : xs = ys := by
  cases k
  · exact I.list_inj h h2
  · exact I.tuple_inj h h2
end
/-- the two as they stand at each turn, the items in new pairs -/
def ItzG (k1 k2 : SeqK) (K : PySem.W.Frag) (a b : Addr) : It :=
  ⟨fun i H => ∃ (xs ys : List V) (x y : V), SqX k1 K H a xs ∧ SqX k2 K H b ys ∧ xs[i]? = some x ∧ ys[i]? = some y,
    fun i H v H' => ∃ T x y, v = .ref T ∧ H T = none ∧ H' = upd H T (.tup [x, y]) ∧ (∀ xs, SqX k1 K H a xs → xs[i]? = some x) ∧ ∀ ys, SqX k2 K H b ys → ys[i]? = some y,
    fun i H => ∃ xs ys : List V, SqX k1 K H a xs ∧ SqX k2 K H b ys ∧ i = min xs.length ys.length⟩
theorem turn_zipG {P : Program} {w : World} {K : PySem.W.Frag} {elts : List Expr} {kk : Nat} {tpos : Pos} {k1 k2 : SeqK} {a b z TI TO i1 i2 : Addr} (D : ZipSep2 z TI TO i1 i2 [i1, a] [i2, b]) (n1 : a ≠ i1) (n2 : b ≠ i2) :
    Turn P w K (.Tuple elts kk tpos) (ItzG k1 k2 K a b) [z, TI, TO, i1, i2] z (fun i h => IsZip h z TI TO .none ∧ IsTupOf2 h TI (.ref i1) (.ref i2) ∧ (∃ x y, IsTupOf2 h TO x y) ∧ IterX k1 h i1 a i ∧ IterX k2 h i2 b i) where
  mem := by simp
  obj := fun i h st c hc => by
    obtain ⟨hz, hTI, ⟨x, y, hTO⟩, p1, p2⟩ := st
    rcases (show c = z ∨ c = TI ∨ c = TO ∨ c = i1 ∨ c = i2 by simpa using hc) with rfl | rfl | rfl | rfl | rfl
    · exact ⟨_, hz, fun v q => nomatch q⟩
    · exact ⟨_, hTI, fun v q => nomatch q⟩
    · exact ⟨_, hTO, fun v q => nomatch q⟩
    · exact iterX_obj p1
    · exact iterX_obj p2
  keep := fun i h h' ⟨hz, hTI, ⟨x, y, hTO⟩, p1, p2⟩ k => ⟨k z (by simp) _ hz, k TI (by simp) _ hTI, ⟨x, y, k TO (by simp) _ hTO⟩, iterX_at p1 fun o q => k i1 (by simp) o q, iterX_at p2 fun o q => k i2 (by simp) o q⟩
  item := by
    intro X hP hw hK hc i pins s σ H E I hf st hg
    subst hP hw hK
    obtain ⟨hz, hTI, hTO, p1, p2⟩ := st
    obtain ⟨xs, ys, x, y, hqx, hqy, hx, hy⟩ := hg
    obtain ⟨its, rv, o1, _⟩ := invX I hqx
    obtain ⟨its2, rv2, o2, _⟩ := invX I hqy
    obtain ⟨u, hu, ru⟩ := rv.get hx
    obtain ⟨u2, hu2, ru2⟩ := rv2.get hy
    have calm1 : X.A.in1.handled = none := by
      have := I.ok.hd hc
      simp [this]
    have W := WalksT.zipD2 (A := X.A) D (drawsX (P := X.prog) (w := X.w) k1 calm1 n1 its.toArray) (drawsX (P := X.prog) (w := X.w) k2 calm1 n2 its2.toArray)
    have l1 := (List.getElem?_eq_some_iff.mp hu).1
    have l2 := (List.getElem?_eq_some_iff.mp hu2).1
    refine W.item i s _ E (by simp; omega) ⟨hz, hTI, hTO, ⟨p1, o1⟩, p2, o2⟩ fun T vals h1 tk hP hle hT hM hk => ?_
    obtain ⟨x1, x2, e1, e2, rfl⟩ := hP
    obtain rfl : u = x1 := by
      have : its.toArray[i]? = some u := by simpa using hu
      rw [this] at e1
      exact Option.some.inj e1
    obtain rfl : u2 = x2 := by
      have : its2.toArray[i]? = some u2 := by simpa using hu2
      rw [this] at e2
      exact Option.some.inj e2
    refine ⟨_, rfl, W.go elts kk tpos i T { s with heap := h1, toks := tk } _ _ hM fun h2 st2 hk2 => ?_⟩
    have hT2 : h2.IsTuple T #[u, u2] := by
      obtain ⟨o, eo, co, no, do_⟩ := hT
      exact ⟨o, hk2 T o (W.apart i T h1 hM) eo, co, no, do_⟩
    have new : ObjOk X.prog X.w (upd H T (.tup [x, y])) h2 T (.tup [x, y]) := ⟨by show 2 ≤ sizeLine; decide, [u, u2], .cons ru (.cons ru2 .nil), hT2⟩
    have I1 : Inv X pins σ (upd H T (.tup [x, y])) { s with heap := h2, toks := tk } := I.turnedNew (ch := [z, TI, TO, i1, i2]) (fun c o hb q => hk2 c o (fun hm => hb (by simp at hm ⊢; rcases hm with h | h | h | h <;> simp [h])) (hk c o (fun hm => hb (by simp at hm ⊢; rcases hm with h | h | h | h <;> simp [h])) q)) hf hle new
    obtain ⟨z2, t2, to2, q1, q2⟩ := st2
    refine ⟨.ref T, _, I1, rfl, ⟨T, x, y, rfl, I.hok.fresh hle, rfl, fun l hl => by rw [invX_inj I hl hqx]; exact hx, fun l hl => by rw [invX_inj I hl hqy]; exact hy⟩, ⟨z2, t2, to2, q1.1, q2.1⟩, fun c hcm => ?_⟩
    have lt : c < s.heap.objs.size := by
      obtain ⟨_, _, hTO'⟩ := hTO
      rcases (show c = z ∨ c = TI ∨ c = TO ∨ c = i1 ∨ c = i2 by simpa using hcm) with rfl | rfl | rfl | rfl | rfl
      · exact Heap.lt_size hz
      · exact Heap.lt_size hTI
      · exact Heap.lt_size hTO'
      · obtain ⟨_, e, _⟩ := iterX_obj p1; exact Heap.lt_size e
      · obtain ⟨_, e, _⟩ := iterX_obj p2; exact Heap.lt_size e
    rw [upd_ne (Nat.ne_of_lt (Nat.lt_of_lt_of_le lt hle))]
    exact (hf c hcm).1
  done := by
    intro X hP hw hK hc i pins s σ H E I hf st hg
    subst hP hw hK
    obtain ⟨hz, hTI, hTO, p1, p2⟩ := st
    obtain ⟨xs, ys, hqx, hqy, hend⟩ := hg
    obtain ⟨its, rv, o1, _⟩ := invX I hqx
    obtain ⟨its2, rv2, o2, _⟩ := invX I hqy
    have calm1 : X.A.in1.handled = none := by
      have := I.ok.hd hc
      simp [this]
    have W := WalksT.zipD2 (A := X.A) D (drawsX (P := X.prog) (w := X.w) k1 calm1 n1 its.toArray) (drawsX (P := X.prog) (w := X.w) k2 calm1 n2 its2.toArray)
    have en : i = min its.toArray.size its2.toArray.size := by
      rw [hend, rv.length, rv2.length]; simp
    subst en
    exact W.done s _ E ⟨hz, hTI, hTO, ⟨p1, o1⟩, p2, o2⟩ fun h' tk hk => ⟨rfl, I.turnedL (ch := [z, TI, TO, i1, i2]) (fun c o hb q => hk c o (fun hm => hb (by simp at hm ⊢; rcases hm with h | h | h | h <;> simp [h])) q) hf⟩
  self := fun A i s Q E st h => wpAny_pyIter_zip st.1 h
def iZipG (K : PySem.W.Frag) (ta : TA) : TI := fun σ H R => ta σ H fun vs H1 => ∃ (k1 k2 : SeqK) (a b : Addr) (xs ys : List V), vs = [.ref a, .ref b] ∧ SqX k1 K H1 a xs ∧ SqX k2 K H1 b ys ∧ R (ItzG k1 k2 K a b) H1
theorem pi_zipG {X : Cx} {e e2 : Expr} {ta : TA} {p pos tpos : Pos} {elts : List Expr} {kk : Nat} (hg : Gl X "zip") (hm : X.mg "zip" = none) (ha : PA X [e, e2] ta)
    (hs : starEach [e, e2] X.env = (false, eval e X.env) :: starEach [e2] X.env) (hpl : (backTo pos (starEach [e2] X.env)).any (·.1) = false) :
    PI X (.Tuple elts kk tpos) (.Call (.Name "zip" p) [e, e2] [] pos) (iZipG X.K ta) := by
  refine ⟨fun pins s σ H R I h => ?_⟩
  refine Call_ (ld_blt I hg hm PyProof.Rows.boot_zip (PyProof.Rows.callWith_type1 (thn (ha.run pos pins s σ H _ I h) fun us s1 ⟨vs, H1, I1, r1, q1⟩ => ?_) hs hpl))
  obtain ⟨k1, k2, a, b, xs, ys, ex, hqx, hqy, q⟩ := q1
  subst ex
  cases r1 with
  | cons r rr =>
    cases rr with
    | cons r' rr =>
      cases rr
      cases r
      cases r'
      obtain ⟨its, rv, o1, la⟩ := invX I1 hqx
      obtain ⟨its2, rv2, o2, lb⟩ := invX I1 hqy
      have fresh5 : ∀ c, c ∈ [s1.heap.objs.size + 4, s1.heap.objs.size + 2, s1.heap.objs.size + 3, s1.heap.objs.size, s1.heap.objs.size + 1] → FpOk X pins H1 c := fun c hcm => by
        have hle : s1.heap.objs.size ≤ c := by
          rcases (show c = s1.heap.objs.size + 4 ∨ c = s1.heap.objs.size + 2 ∨ c = s1.heap.objs.size + 3 ∨ c = s1.heap.objs.size ∨ c = s1.heap.objs.size + 1 by simpa using hcm) with z | z | z | z | z <;> rw [z] <;> first | exact Nat.le_add_right _ _ | exact Nat.le_refl _
        exact I1.fpOk hle (I1.hok.fresh hle)
      refine zip_begins2 (beginsX k1 a its.toArray) (beginsX k2 b its2.toArray) o1 o2 fun hh hz hTI hTO e1 e2 _ kp => wpAny_pyIter_zip hz ?_
      have I2 : Inv X pins σ H1 { s1 with heap := hh } := I1.kept (t' := s1.toks) kp
      have D := zip_sep2 (N := s1.heap.objs.size) (fp1 := [a]) (fp2 := [b]) (by simpa using la) (by simpa using lb)
      exact ⟨s1.heap.objs.size + 4, _, _, _, H1, rfl, I2, turn_zipG D (Nat.ne_of_lt la) (Nat.ne_of_lt (Nat.lt_succ_of_lt lb)), ⟨hz, hTI, ⟨_, _, hTO⟩, itO_iter e1, itO_iter e2⟩, fresh5, q⟩
theorem wk_zipG {S : Stat} {F : Hp} {as : AS} {k1 k2 : SeqK} {xs ys : List PyData} {vs us : List V} {a b : Addr} (h1 : SqX k1 S.K F a vs) (h2 : DpAll S.K F vs xs) (g1 : SqX k2 S.K F b us) (g2 : DpAll S.K F us ys) : Wk S F as (zipD xs ys) (ItzG k1 k2 S.K a b) := by
  have mono : ∀ {k : SeqK} {F H : Hp} {a : Addr} {xs : List V}, (∀ b o, F b = some o → H b = some o) → SqX k S.K F a xs → SqX k S.K H a xs := fun {k} {F H a xs} sub h => by
    cases k
    · exact sqL_mono sub h
    · exact sqT_mono sub h
  exact {
    go := fun F' H' as' M i y g s hy => by
      obtain ⟨x1, y1, e1, e2, ez⟩ := zip_get hy
      subst ez
      obtain ⟨v, hv, dv⟩ := dpAll_get h2 e1
      obtain ⟨u, hu, du⟩ := dpAll_get g2 e2
      have q1 : SqX k1 S.K H' a vs := mono s.sub (mono g.grow h1)
      have q2 : SqX k2 S.K H' b us := mono s.sub (mono g.grow g1)
      exact ⟨⟨vs, us, v, u, q1, q2, hv, hu⟩, fun x H2 ⟨T, v', u', e, hT, eH, hx, hy⟩ => by
        subst e eH
        have hx := hx vs q1
        have hy := hy us q2
        rw [hv] at hx
        rw [hu] at hy
        cases hx
        cases hy
        exact pair_new s hT (dp_mono g.grow _ _ dv) (dp_mono g.grow _ _ du)⟩
    stop := fun F' H' as' M i g s hi => ⟨vs, us, mono s.sub (mono g.grow h1), mono s.sub (mono g.grow g1), by
      unfold zipD at hi
      rw [List.length_zipWith] at hi
      rw [dpAll_len h2, dpAll_len g2]
      omega⟩ }
theorem seqX_ok {S : Stat} {F H : Hp} {as : AS} {M : Sto} {x : VV} {v : V} {xs : List PyData} (s : Sr S F H as M) (h : Vr S.K F as x v) (e : seqOf x = some xs) : ∃ k a vs, v = .ref a ∧ DpAll S.K F vs xs ∧ SqX k S.K F a vs := by
  obtain ⟨a, vs, e1, d, k⟩ := seqOf_ok s h e
  rcases k with ⟨k, _⟩ | ⟨k, _⟩
  · exact ⟨.l, a, vs, e1, d, k⟩
  · exact ⟨.t, a, vs, e1, d, k⟩
section
variable {X : Cx} {S : Stat} {W : WX}
theorem pi_zipGE {fs : Env' → Sto → Res (List VV)} {a b : Expr} {elts : List Expr} {kk : Nat} {p pos tpos : Pos} (hK : X.K = S.K) (hg : Gl X "zip") (hm : X.mg "zip" = none) (ha : PA X [a, b] (tV S fs W)) (hs : starEach [a, b] X.env = (false, eval a X.env) :: starEach [b] X.env) (hpl : (backTo pos (starEach [b] X.env)).any (·.1) = false) :
    PI X (.Tuple elts kk tpos) (.Call (.Name "zip" p) [a, b] [] pos) (tI S (fun ρ M => (fs ρ M).bind zipK) W) :=
  PI.imp (pi_zipG hg hm ha hs hpl) fun σ H R h => tG.bind (k := fun _ ts M => zipK ts M) h fun F1 H1 as1 ρ M1 _ _ ts vs s1 e1 t1 w1 => by
    unfold zipK at w1
    split at w1
    · rename_i t u
      have t1' : Paired (Vr S.K F1 as1) [t, u] vs := t1
      cases t1' with
      | cons h1 hr =>
        cases hr with
        | cons h2 hr =>
          cases hr
          cases e1' : seqOf t with
          | none => rw [e1'] at w1; exact w1.elim
          | some xs =>
            cases e2' : seqOf u with
            | none => rw [e1', e2'] at w1; exact w1.elim
            | some ys =>
              rw [e1', e2'] at w1
              obtain ⟨k1, a, us, ea, da, ka⟩ := seqX_ok s1 h1 e1'
              obtain ⟨k2, b, ws, eb, db, kb⟩ := seqX_ok s1 h2 e2'
              have w2 : WpG S (RI S) (fun c d H' => W c d σ H') F1 H1 as1 (.ok (zipD xs ys) M1) R := w1
              have mono : ∀ {k : SeqK} {a : Addr} {xs : List V}, SqX k S.K F1 a xs → SqX k S.K H1 a xs := fun {k a xs} h => by
                cases k
                · exact sqL_mono s1.sub h
                · exact sqT_mono s1.sub h
              exact ⟨k1, k2, a, b, us, ws, by rw [ea, eb], by rw [hK]; exact mono ka, by rw [hK]; exact mono kb, by rw [hK]; exact w2 _ F1 H1 as1 .refl s1 (wk_zipG ka da kb db)⟩
    · exact w1.elim
end
end Ev

/-! Lz1: list(zip(a, b)): the pairs given out stay. -/
namespace Ev
open PySem PySem.Spec PyProof.Rows L2
section
variable {P : Program} {w : World} {A : Around} {E : Value → Shared → Prop} {s : Shared} {z TI TO T i1 i2 : Addr} {fp1 fp2 : List Addr} {n1 n2 i : Nat} {P1 P2 : Nat → Value → Prop} {St1 St2 : Nat → Heap → Prop} {f : Bool} {oT : Obj}
theorem zh_item {Q : Value → Shared → Prop} (D : ZipSep2 z TI TO i1 i2 fp1 fp2) (d1 : Draws P w A i1 fp1 n1 P1 St1) (d2 : Draws P w A i2 fp2 n2 P2 St2) (hz : IsZipHeld s.heap z TI TO T f) (hT : s.heap.get? T = some oT) (hTI : IsTupOf2 s.heap TI (.ref i1) (.ref i2)) (q1 : St1 i s.heap) (q2 : St2 i s.heap) (l1 : i < n1) (l2 : i < n2)
    (next : ∀ x y hh tk, P1 i x → P2 i y → IsZipHeld hh z TI TO T true → St1 (i + 1) hh → St2 (i + 1) hh → IsTupOf2 hh s.heap.objs.size x y → hh.objs.size = s.heap.objs.size + 1 → (∀ c o, c ≠ z → c ≠ i1 → c ≠ i2 → s.heap.get? c = some o → hh.get? c = some o) → Q (.ref s.heap.objs.size) { s with heap := hh, toks := tk }) :
    wpAny (model P w) A (Builtin.«zip.__next__» ⟨[.ref z], []⟩) (fun fin t => ∃ v, fin = .done (.ret v) ∧ Q v t) E s := by
  obtain ⟨h0, gs, dr, tk0, os⟩ := s
  show wpAny _ _ (field (.ref z) 2 >>= _) _ _ _
  refine wpAny_bind (wpAny_field hz rfl (x := .bool false) rfl ?_)
  show wpAny _ _ (field (.ref z) 3 >>= _) _ _ _
  refine wpAny_bind (wpAny_field hz rfl (x := .ref TI) rfl ?_)
  refine wpAny_bind (wpAny_seqItems hTI rfl ?_)
  show wpAny _ _ (Builtin.SmallTypes.ownedTupleIsFree (.ref z) >>= _) _ _ _
  refine wpAny_bind (wpAny_tupleHeld_zip hz hT fun u1 z1 b1 => ?_)
  simp only [Bool.false_eq_true, if_false]
  refine wpAny_bind ?_
  rw [← Array.forIn_toList]
  simp only [List.forIn_cons, List.forIn_nil]
  refine wpAny_bind (wpAny_bind (wpAny_holding ?_))
  show wpAny _ _ (Builtin.SmallTypes.nextOf (.ref i1) >>= _) _ _ ⟨u1, gs, dr, tk0, os⟩
  replace b1 : Heap.SameBut z h0 u1 := b1
  refine wpAny_bind (d1.item i _ _ _ l1 (d1.over q1 b1 D.zf1) fun x u2 t2 px r1 b2 => wpAny_pure ?_)
  replace b2 : Heap.SameBut i1 u1 u2 := b2
  refine wpAny_pure ?_
  refine wpAny_bind (wpAny_bind (wpAny_holding ?_))
  show wpAny _ _ (Builtin.SmallTypes.nextOf (.ref i2) >>= _) _ _ ⟨u2, gs, dr, t2, os⟩
  refine wpAny_bind (d2.item i _ _ _ l2 (d2.over (d2.over q2 b1 D.zf2) b2 D.sep1_2) fun y u3 t3 py r2 b3 => wpAny_pure ?_)
  replace b3 : Heap.SameBut i2 u2 u3 := b3
  refine wpAny_pure (wpAny_pure ?_)
  show wpAny _ _ (newTuple [x, y] >>= _) _ _ ⟨u3, gs, dr, t3, os⟩
  refine wpAny_bind (wpAny_newTuple ?_)
  have sz3 : u3.objs.size = h0.objs.size := by rw [b3.1, b2.1, b1.1]
  have kp3 : ∀ c o, c ≠ z → c ≠ i1 → c ≠ i2 → h0.get? c = some o → u3.get? c = some o := fun c o e1 e2 e3 q => b3.extBut _ _ e3 (b2.extBut _ _ e2 (b1.extBut _ _ e1 q))
  have z3 : IsZipHeld u3 z TI TO T true := b3.extBut _ _ D.zi2 (b2.extBut _ _ D.zi1 z1)
  refine wpAny_pure ⟨_, rfl, ?_⟩
  show Q (.ref u3.objs.size) _
  have new : IsTupOf2 (u3.push { cls := .type "tuple", data := .seq #[x, y] }) u3.objs.size x y := Heap.get?_push_size _ rfl
  have sz4 : (u3.push { cls := .type "tuple", data := .seq #[x, y] }).objs.size = u3.objs.size + 1 := Heap.size_push ..
  rw [sz3] at new sz4 ⊢
  have s1 : St1 (i + 1) u3 := d1.over r1 b3 D.sep2_1
  exact next x y _ t3 px py (Heap.get?_push_of_some _ z3) (d1.frame _ _ _ s1 fun b _ o q => Heap.get?_push_of_some _ q) (d2.frame _ _ _ r2 fun b _ o q => Heap.get?_push_of_some _ q) new sz4 fun c o e1 e2 e3 q => Heap.get?_push_of_some _ (kp3 c o e1 e2 e3 q)
theorem zh_end {Q : Fin → Shared → Prop} (D : ZipSep2 z TI TO i1 i2 fp1 fp2) (d1 : Draws P w A i1 fp1 n1 P1 St1) (d2 : Draws P w A i2 fp2 n2 P2 St2) (hz : IsZipHeld s.heap z TI TO T f) (hT : s.heap.get? T = some oT) (hTI : IsTupOf2 s.heap TI (.ref i1) (.ref i2)) (q1 : St1 i s.heap) (q2 : St2 i s.heap) (l1 : i ≤ n1) (l2 : i ≤ n2) (last : i = n1 ∨ i = n2)
    (stop : ∀ hh tk e, (∀ c o, c ≠ z → c ≠ i1 → c ≠ i2 → s.heap.get? c = some o → hh.get? c = some o) → (∃ o, hh.get? e = some o ∧ o.cls = .type "StopIteration") → E (.ref e) { s with heap := hh, toks := tk }) :
    wpAny (model P w) A (Builtin.«zip.__next__» ⟨[.ref z], []⟩) Q E s := by
  obtain ⟨h0, gs, dr, tk0, os⟩ := s
  show wpAny _ _ (field (.ref z) 2 >>= _) _ _ _
  refine wpAny_bind (wpAny_field hz rfl (x := .bool false) rfl ?_)
  show wpAny _ _ (field (.ref z) 3 >>= _) _ _ _
  refine wpAny_bind (wpAny_field hz rfl (x := .ref TI) rfl ?_)
  refine wpAny_bind (wpAny_seqItems hTI rfl ?_)
  show wpAny _ _ (Builtin.SmallTypes.ownedTupleIsFree (.ref z) >>= _) _ _ _
  refine wpAny_bind (wpAny_tupleHeld_zip hz hT fun u1 z1 b1 => ?_)
  simp only [Bool.false_eq_true, if_false]
  refine wpAny_bind ?_
  rw [← Array.forIn_toList]
  simp only [List.forIn_cons, List.forIn_nil]
  refine wpAny_bind (wpAny_bind (wpAny_holding ?_))
  show wpAny _ _ (Builtin.SmallTypes.nextOf (.ref i1) >>= _) _ _ ⟨u1, gs, dr, tk0, os⟩
  replace b1 : Heap.SameBut z h0 u1 := b1
  by_cases lt : i < n1
  · refine wpAny_bind (d1.item i _ _ _ lt (d1.over q1 b1 D.zf1) fun x u2 t2 px r1 b2 => wpAny_pure ?_)
    replace b2 : Heap.SameBut i1 u1 u2 := b2
    refine wpAny_pure ?_
    have e2 : i = n2 := by omega
    refine wpAny_bind (wpAny_bind (wpAny_holding ?_))
    show wpAny _ _ (Builtin.SmallTypes.nextOf (.ref i2) >>= _) _ _ ⟨u2, gs, dr, t2, os⟩
    refine wpAny_bind (d2.done ⟨u2, gs, dr, t2, os⟩ _ _ (by rw [← e2]; exact d2.over (d2.over q2 b1 D.zf2) b2 D.sep1_2) fun u3 e b3 he => ?_)
    exact stop u3 t2 e (fun c o e1 e2 e3 q => b3 _ _ e3 (b2.extBut _ _ e2 (b1.extBut _ _ e1 q))) he
  · have e1 : i = n1 := by omega
    refine wpAny_bind (d1.done ⟨u1, gs, dr, tk0, os⟩ _ _ (by rw [← e1]; exact d1.over q1 b1 D.zf1) fun u2 e b2 he => ?_)
    exact stop u2 tk0 e (fun c o e1 e2 e3 q => b2 _ _ e2 (b1.extBut _ _ e1 q)) he
end
end Ev

/-! Lz2: the list's loop over a zip. -/
namespace Ev
open PySem PySem.Spec PyProof.Rows L2
theorem farA {a b lo : Addr} (h1 : a < lo) (h2 : lo ≤ b) : b ≠ a := Nat.ne_of_gt (Nat.lt_of_lt_of_le h1 h2)
theorem farB {a b : Addr} (h1 : a < b) : b ≠ a := Nat.ne_of_gt h1
/-- a zip at turn i, whose last pair may be out -/
def ZhSt (z TI TO i1 i2 S : Addr) (St1 St2 : Nat → Heap → Prop) (i : Nat) (h : Heap) : Prop := IsTupOf2 h TI (.ref i1) (.ref i2) ∧ St1 i h ∧ St2 i h ∧
  ((IsZip h z TI TO .none ∧ ∃ a b, IsTupOf2 h TO a b) ∨ ∃ T f oT, IsZipHeld h z TI TO T f ∧ h.get? T = some oT ∧ T ≠ z ∧ T ≠ i1 ∧ T ≠ i2 ∧ T ≠ S)
/-- the pairs given out so far -/
def ZhGot (P1 P2 : Nat → Value → Prop) (lo : Addr) (h : Heap) (Ts : List Addr) : Prop := Ts.Pairwise (· < ·) ∧ (∀ T ∈ Ts, lo ≤ T ∧ T < h.objs.size) ∧
  ∀ (j : Nat) (T : Addr), Ts[j]? = some T → ∃ x y, IsTupOf2 h T x y ∧ P1 j x ∧ P2 j y
section
variable {P : Program} {w : World} {A : Around} {E : Value → Shared → Prop} {s : Shared} {z TI TO i1 i2 S : Addr} {fp1 fp2 : List Addr} {n1 n2 i : Nat} {P1 P2 : Nat → Value → Prop} {St1 St2 : Nat → Heap → Prop}
theorem zh_type {h : Heap} (st : ZhSt z TI TO i1 i2 S St1 St2 i h) {s : Shared} (e : s.heap = h) : s.TypeIs (.ref z) "zip" := by
  subst e
  rcases st.2.2.2 with ⟨q, _⟩ | ⟨T, f, oT, q, _⟩
  · exact ⟨_, q, rfl⟩
  · exact ⟨_, q, rfl⟩
theorem zh_next {Q : Option Value → Shared → Prop} (D : ZipSep2 z TI TO i1 i2 fp1 fp2) (d1 : Draws P w A.in1 i1 fp1 n1 P1 St1) (d2 : Draws P w A.in1 i2 fp2 n2 P2 St2) (st : ZhSt z TI TO i1 i2 S St1 St2 i s.heap) (hS : ∃ o, s.heap.get? S = some o) (l1 : i < n1) (l2 : i < n2)
    (next : ∀ x y hh tk, P1 i x → P2 i y → ZhSt z TI TO i1 i2 S St1 St2 (i + 1) hh → IsTupOf2 hh s.heap.objs.size x y → hh.objs.size = s.heap.objs.size + 1 → (∀ c o, c ≠ z → c ≠ TO → c ≠ i1 → c ≠ i2 → s.heap.get? c = some o → hh.get? c = some o) → Q (some (.ref s.heap.objs.size)) { s with heap := hh, toks := tk }) :
    wpAny (model P w) A (pyNext (.ref z)) Q E s := by
  have ty := zh_type st (s := s) rfl
  obtain ⟨hTI, q1, q2, alt⟩ := st
  have far : ∀ {c : Addr}, (∃ o, s.heap.get? c = some o) → s.heap.objs.size ≠ c := fun ⟨_, e⟩ => Nat.ne_of_gt (Heap.lt_size e)
  have a1 := far (d1.live _ _ q1)
  have a2 := far (d2.live _ _ q2)
  have a3 := far hS
  unfold pyNext
  rcases alt with ⟨hz, a, b, hTO⟩ | ⟨T, f, oT, hz, hT, r1, r2, r3, r4⟩
  · refine wpAny_bind (wpAny_attempt (wpAny_callSpecial?_slot (name := Str.ofString "__next__") ty F.slot_zip_next (wpAny_call_entry F.slot_zip_next ty F.entry_zip_next (zipD2_next_item D d1 d2 hz hTI hTO q1 q2 l1 l2 fun x y hh tk px py b1 b2 c1 c2 c3 sz kp => wpAny_pure ?_) (F.args_zip_next_1 _))))
    exact next x y hh tk px py ⟨kp _ _ D.TIz D.TITO D.TIi1 D.TIi2 hTI, c1, c2, .inr ⟨s.heap.objs.size, false, _, b1, c3, far ⟨_, hz⟩, a1, a2, a3⟩⟩ c3 sz kp
  · refine wpAny_bind (wpAny_attempt (wpAny_callSpecial?_slot (name := Str.ofString "__next__") ty F.slot_zip_next (wpAny_call_entry F.slot_zip_next ty F.entry_zip_next (zh_item D d1 d2 hz hT hTI q1 q2 l1 l2 fun x y hh tk px py b1 c1 c2 c3 sz kp => wpAny_pure ?_) (F.args_zip_next_1 _))))
    exact next x y hh tk px py ⟨kp _ _ D.TIz D.TIi1 D.TIi2 hTI, c1, c2, .inr ⟨T, true, oT, b1, kp _ _ r1 r2 r3 hT, r1, r2, r3, r4⟩⟩ c3 sz fun c o e1 _ e3 e4 q => kp c o e1 e3 e4 q
theorem zh_last {Q : Option Value → Shared → Prop} (D : ZipSep2 z TI TO i1 i2 fp1 fp2) (d1 : Draws P w A.in1 i1 fp1 n1 P1 St1) (d2 : Draws P w A.in1 i2 fp2 n2 P2 St2) (st : ZhSt z TI TO i1 i2 S St1 St2 (min n1 n2) s.heap)
    (next : ∀ hh tk, (∀ c o, c ≠ z → c ≠ TO → c ≠ i1 → c ≠ i2 → s.heap.get? c = some o → hh.get? c = some o) → Q none { s with heap := hh, toks := tk }) :
    wpAny (model P w) A (pyNext (.ref z)) Q E s := by
  have ty := zh_type st (s := s) rfl
  obtain ⟨hTI, q1, q2, alt⟩ := st
  have l1 : min n1 n2 ≤ n1 := Nat.min_le_left ..
  have l2 : min n1 n2 ≤ n2 := Nat.min_le_right ..
  have last : min n1 n2 = n1 ∨ min n1 n2 = n2 := by omega
  unfold pyNext
  rcases alt with ⟨hz, a, b, hTO⟩ | ⟨T, f, oT, hz, hT, r1, r2, r3, r4⟩
  · refine wpAny_bind (wpAny_attempt (wpAny_callSpecial?_slot (name := Str.ofString "__next__") ty F.slot_zip_next (wpAny_call_entry F.slot_zip_next ty F.entry_zip_next (zipD2_next_end D d1 d2 hz hTI hTO q1 q2 l1 l2 last fun hh tk e kp he => ?_) (F.args_zip_next_1 _))))
    obtain ⟨o, ho, hc⟩ := he
    refine wpAny_bind (wpAny_isInstance (T := "StopIteration") (b := true) ⟨o, ho, hc⟩ isSubtype_stop ?_)
    exact wpAny_pure (next hh tk kp)
  · refine wpAny_bind (wpAny_attempt (wpAny_callSpecial?_slot (name := Str.ofString "__next__") ty F.slot_zip_next (wpAny_call_entry F.slot_zip_next ty F.entry_zip_next (zh_end D d1 d2 hz hT hTI q1 q2 l1 l2 last fun hh tk e kp he => ?_) (F.args_zip_next_1 _))))
    obtain ⟨o, ho, hc⟩ := he
    refine wpAny_bind (wpAny_isInstance (T := "StopIteration") (b := true) ⟨o, ho, hc⟩ isSubtype_stop ?_)
    exact wpAny_pure (next hh tk fun c o e1 _ e3 e4 q => kp c o e1 e3 e4 q)
theorem zh_frame (D : ZipSep2 z TI TO i1 i2 fp1 fp2) (d1 : Draws P w A i1 fp1 n1 P1 St1) (d2 : Draws P w A i2 fp2 n2 P2 St2) {h h' : Heap} (st : ZhSt z TI TO i1 i2 S St1 St2 i h) (hz : S ≠ z) (hTI : S ≠ TI) (hTO : S ≠ TO) (h1 : S ∉ fp1) (h2 : S ∉ fp2)
    (kp : ∀ c o, c ≠ S → h.get? c = some o → h'.get? c = some o) : ZhSt z TI TO i1 i2 S St1 St2 i h' := by
  obtain ⟨p1, q1, q2, alt⟩ := st
  refine ⟨kp _ _ hTI.symm p1, d1.frame _ _ _ q1 fun b hb o e => kp b o (fun x => h1 (x ▸ hb)) e, d2.frame _ _ _ q2 fun b hb o e => kp b o (fun x => h2 (x ▸ hb)) e, ?_⟩
  rcases alt with ⟨u, a, b, v⟩ | ⟨T, f, oT, u, v, r1, r2, r3, r4⟩
  · exact .inl ⟨kp _ _ hz.symm u, a, b, kp _ _ hTO.symm v⟩
  · exact .inr ⟨T, f, oT, kp _ _ hz.symm u, kp _ _ r4 v, r1, r2, r3, r4⟩
theorem zh_loop {R : Result → Shared → Prop} (D : ZipSep2 z TI TO i1 i2 fp1 fp2) (d1 : Draws P w A.in1.in1 i1 fp1 n1 P1 St1) (d2 : Draws P w A.in1.in1 i2 fp2 n2 P2 St2) (hn : min n1 n2 ≤ sizeLine) (hz : S ≠ z) (hTI : S ≠ TI) (hTO : S ≠ TO) (hf1 : S ∉ fp1) (hf2 : S ∉ fp2) (lo : Addr) (hlo : S < lo) (hl1 : z < lo) (hl2 : TO < lo) (hl3 : i1 < lo) (hl4 : i2 < lo) (res : Value) :
    ∀ (k i : Nat) (s : Shared) (Ts : List Addr) (c : Nat), min n1 n2 - i = k → i ≤ min n1 n2 → ZhSt z TI TO i1 i2 S St1 St2 i s.heap → s.heap.get? S = some { cls := .type "list", dict := none, data := .seq (Ts.map Value.ref).toArray c, slots := #[] } → Ts.length = i → ZhGot P1 P2 lo s.heap Ts → lo ≤ s.heap.objs.size →
    (∀ hh tk Us c2, (∀ b o, b ≠ S → b ≠ z → b ≠ TO → b ≠ i1 → b ≠ i2 → s.heap.get? b = some o → hh.get? b = some o) → hh.get? S = some { cls := .type "list", dict := none, data := .seq (Us.map Value.ref).toArray c2, slots := #[] } → Us.length = min n1 n2 → ZhGot P1 P2 lo hh Us → R (.ok (.ret res)) { s with heap := hh, toks := tk }) →
    codeAny (model P w) A (.builtin "list.extend.loop" ⟨[.ref S, .ref z, res], []⟩) R s := by
  intro k
  induction k with
  | zero =>
    intro i s Ts c hk hi st hS hT got hsz out
    have e : i = min n1 n2 := by omega
    subst e
    refine codeAny_builtin F.entry_extend_loop ?_
    rw [Around.under_plainId F.plain_extend_loop _]
    show wpAny _ A.in1 (pyNext (.ref z) >>= _) _ _ s
    refine wpAny_bind (zh_last D d1 d2 st fun hh tk kp => ?_)
    obtain ⟨g1, g2, g3⟩ := got
    have hS2 : hh.get? S = _ := kp S _ hz hTO (fun x => hf1 (x ▸ D.mem1)) (fun x => hf2 (x ▸ D.mem2)) hS
    have up : ∀ T ∈ Ts, ∀ o, s.heap.get? T = some o → hh.get? T = some o := fun T hm o q => by
      have := (g2 T hm).1
      exact kp T o (farA hl1 this) (farA hl2 this) (farA hl3 this) (farA hl4 this) q
    refine wpAny_pure (out hh tk Ts c (fun b o e1 e2 e3 e4 e5 q => kp b o e2 e3 e4 e5 q) hS2 hT ⟨g1, fun T hm => ?_, fun j T e => ?_⟩)
    · obtain ⟨x, y, q, -⟩ := g3 _ _ (List.getElem?_eq_getElem (List.idxOf_lt_length_of_mem hm))
      have e : Ts[List.idxOf T Ts]'(List.idxOf_lt_length_of_mem hm) = T := List.getElem_idxOf _
      rw [e] at q
      exact ⟨(g2 T hm).1, Heap.lt_size (up T hm _ q)⟩
    · obtain ⟨x, y, q, p1, p2⟩ := g3 j T e
      exact ⟨x, y, up T (List.mem_of_getElem? e) _ q, p1, p2⟩
  | succ k ih =>
    intro i s Ts c hk hi st hS hT got hsz out
    have hlt : i < min n1 n2 := by omega
    refine codeAny_builtin F.entry_extend_loop ?_
    rw [Around.under_plainId F.plain_extend_loop _]
    show wpAny _ A.in1 (pyNext (.ref z) >>= _) _ _ s
    refine wpAny_bind (zh_next D d1 d2 st ⟨_, hS⟩ (by omega) (by omega) fun x y hh tk px py st2 new sz kp => ?_)
    obtain ⟨g1, g2, g3⟩ := got
    have hS2 : hh.get? S = _ := kp S _ hz hTO (fun x => hf1 (x ▸ D.mem1)) (fun x => hf2 (x ▸ D.mem2)) hS
    show wpAny _ A.in1 (updateSeq S (·.push (.ref s.heap.objs.size)) >>= _) _ _ _
    refine wpAny_bind ?_
    have len : (Ts.map Value.ref).toArray.size = i := by simp [hT]
    refine wpAny_updateSeq hS2 rfl (wpAny_pure ⟨plainId_quiet F.plain_extend_loop _, ?_⟩) (by rw [len]; omega) (by show (Array.push _ _).size ≤ sizeLine + 1; rw [Array.size_push, len]; omega)
    have hS3 := Heap.get?_update_self (Obj.mapSeq (·.push (Value.ref s.heap.objs.size))) hS2 rfl
    have oth : ∀ c o, c ≠ S → hh.get? c = some o → (hh.update S (Obj.mapSeq (·.push (Value.ref s.heap.objs.size)))).get? c = some o := fun c o hc q => (Heap.get?_update_other _ _ (Ne.symm hc)).trans q
    have szu : (hh.update S (Obj.mapSeq (·.push (Value.ref s.heap.objs.size)))).objs.size = hh.objs.size := by simp [Heap.update]
    refine ih (i + 1) _ (Ts ++ [s.heap.objs.size]) (c + 1) (by omega) hlt (zh_frame D d1 d2 st2 hz hTI hTO hf1 hf2 oth) (hS3.trans (by simp [Obj.mapSeq])) (by simp [hT]) ⟨?_, ?_, ?_⟩ (by show lo ≤ (Heap.update _ _ _).objs.size; rw [szu, sz]; exact Nat.le_succ_of_le hsz) fun h2 tk2 Us c2 kp2 hU lU gU => ?_
    · rw [List.pairwise_append]
      refine ⟨g1, List.pairwise_singleton _ _, fun a ha b hb => ?_⟩
      rw [List.mem_singleton.mp hb]
      exact (g2 a ha).2
    · intro T hm
      show lo ≤ T ∧ T < (Heap.update _ _ _).objs.size
      rw [szu, sz]
      rcases List.mem_append.mp hm with h | h
      · exact ⟨(g2 T h).1, Nat.lt_succ_of_lt (g2 T h).2⟩
      · rw [List.mem_singleton.mp h]
        exact ⟨hsz, Nat.lt_succ_self _⟩
    · intro j T e
      rw [List.getElem?_append] at e
      split at e
      · obtain ⟨x', y', q, p1, p2⟩ := g3 j T e
        have hm := g2 T (List.mem_of_getElem? e)
        exact ⟨x', y', oth _ _ (farA hlo hm.1) (kp T _ (farA hl1 hm.1) (farA hl2 hm.1) (farA hl3 hm.1) (farA hl4 hm.1) q), p1, p2⟩
      · rename_i hj0
        have hj : j - Ts.length = 0 := by
          have q := (List.getElem?_eq_some_iff.mp e).1
          rw [List.length_singleton] at q
          exact Nat.lt_one_iff.mp q
        rw [hj] at e
        have e2 : s.heap.objs.size = T := by simpa using e
        subst e2
        have hj2 : j = i := by
          have := Nat.sub_eq_zero_iff_le.mp hj
          have := Nat.le_of_not_lt hj0
          omega
        subst hj2
        exact ⟨x, y, oth _ _ (farA hlo hsz) new, px, py⟩
    · exact out h2 tk2 Us c2 (fun b o e1 e2 e3 e4 e5 q => kp2 b o e1 e2 e3 e4 e5 (oth b o e1 (kp b o e2 e3 e4 e5 q))) hU lU gU
end
end Ev

/-! Lz3: list(z), z a zip. -/
namespace Ev
open PySem PySem.Spec PyProof.Rows L2
theorem zip_len : typeLookup (.type "zip") "__len__" = pure none := by rw [typeLookup_type, builtinLookup_eq_fast]; kernel_rfl
theorem zip_hint : typeLookup (.type "zip") "__length_hint__" = pure none := by rw [typeLookup_type, builtinLookup_eq_fast]; kernel_rfl
section
variable {P : Program} {w : World} {A : Around} {E : Value → Shared → Prop} {s : Shared} {z TI TO i1 i2 : Addr} {fp1 fp2 : List Addr} {n1 n2 : Nat} {P1 P2 : Nat → Value → Prop} {St1 St2 : Nat → Heap → Prop}
theorem lz_list {Q : Value → Shared → Prop} (D : ZipSep2 z TI TO i1 i2 fp1 fp2) (d1 : ∀ A : Around, A.handled = none → Draws P w A i1 fp1 n1 P1 St1) (d2 : ∀ A : Around, A.handled = none → Draws P w A i2 fp2 n2 P2 St2) (calm : A.handled = none) (hn : min n1 n2 ≤ sizeLine)
    (hz : IsZip s.heap z TI TO .none) (hTI : IsTupOf2 s.heap TI (.ref i1) (.ref i2)) (hTO : ∃ a b, IsTupOf2 s.heap TO a b) (q1 : St1 0 s.heap) (q2 : St2 0 s.heap) (f1 : ∀ b ∈ fp1, b < s.heap.objs.size) (f2 : ∀ b ∈ fp2, b < s.heap.objs.size)
    (next : ∀ hh tk Us c2, (∀ b o, b ≠ z → b ≠ TO → b ≠ i1 → b ≠ i2 → s.heap.get? b = some o → hh.get? b = some o) → hh.get? s.heap.objs.size = some { cls := .type "list", dict := none, data := .seq (Us.map Value.ref).toArray c2, slots := #[] } → Us.length = min n1 n2 → ZhGot P1 P2 (s.heap.objs.size + 1) hh Us → Q (.ref s.heap.objs.size) { s with heap := hh, toks := tk }) :
    wpAny (model P w) A (call (.type "list") [.ref z]) Q E s := by
  have lz : z < s.heap.objs.size := Heap.lt_size hz
  have lTI : TI < s.heap.objs.size := Heap.lt_size hTI
  have lTO : TO < s.heap.objs.size := by obtain ⟨a, b, e⟩ := hTO; exact Heap.lt_size e
  have li1 := f1 _ D.mem1
  have li2 := f2 _ D.mem2
  refine callType_codes (Q₁ := fun ob t => ob = .ref s.heap.objs.size ∧ t = { s with heap := s.heap.push { cls := .type "list", data := .seq #[] } }) F.called_list (F.typeCall_list_1 _) F.entry_list_init (code_list_new _ ⟨rfl, rfl⟩) fun ob t ht => ?_
  obtain ⟨rfl, rfl⟩ := ht
  have new0 : (s.heap.push { cls := .type "list", data := .seq #[] }).get? s.heap.objs.size = some { cls := .type "list", data := .seq #[] } := Heap.get?_push_size _ rfl
  refine ⟨⟨_, new0, rfl⟩, F.args_list_init_2 _ _, ?_⟩
  show wpAny _ _ (do let old ← Builtin.List.listItems (.ref s.heap.objs.size); Builtin.List.listUpdate (.ref s.heap.objs.size) (fun _ => #[]); letGo old.toList.reverse; Builtin.List.listExtendWith (.ref s.heap.objs.size) (.ref z) .none) _ _ _
  refine wpAny_bind ?_
  unfold Builtin.List.listItems
  refine wpAny_bind (wpAny_seqItems new0 rfl (wpAny_pure ?_))
  show wpAny _ _ (updateSeq s.heap.objs.size (fun _ => #[]) >>= fun _ => letGo (#[] : Array Value).toList.reverse >>= fun _ => Builtin.List.listExtendWith (.ref s.heap.objs.size) (.ref z) .none) _ _ _
  refine wpAny_bind (wpAny_updateSeq new0 rfl ?_)
  have new1 := Heap.get?_update_self (Obj.mapSeq (fun _ => (#[] : Array Value))) new0 rfl
  refine wpAny_bind (wpAny_letGo ?_)
  have old1 : ∀ b o, b ≠ s.heap.objs.size → s.heap.get? b = some o → ((s.heap.push { cls := .type "list", data := .seq #[] }).update s.heap.objs.size (Obj.mapSeq (fun _ => (#[] : Array Value)))).get? b = some o :=
    fun b o hb e => (Heap.get?_update_other _ _ (Ne.symm hb)).trans (Heap.get?_push_of_some _ e)
  generalize hg1 : (s.heap.push { cls := .type "list", data := .seq #[] }).update s.heap.objs.size (Obj.mapSeq (fun _ => (#[] : Array Value))) = g1 at new1 old1 ⊢
  have sz1 : g1.objs.size = s.heap.objs.size + 1 := by rw [← hg1]; simp [Heap.update, Heap.push]
  have ne : ∀ {b : Addr}, b < s.heap.objs.size → s.heap.objs.size ≠ b := fun h => Nat.ne_of_gt h
  have z1 : IsZip g1 z TI TO .none := old1 _ _ (ne lz).symm hz
  unfold Builtin.List.listExtendWith
  refine wpAny_bind (wpAny_typeOf (T := "zip") ⟨_, z1, rfl⟩ ?_)
  have h1 : Builtin.List.listSameRef (.ref s.heap.objs.size) (.ref z) = false := by simp [Builtin.List.listSameRef, ne lz]
  have h2 : (Value.type "zip" == Value.type "list") = false := by decide
  have h3 : (Value.type "zip" == Value.type "tuple") = false := by decide
  simp only [h1, h2, h3, Bool.or_false, Bool.false_eq_true, if_false]
  refine wpAny_bind (wpAny_pyIter_zip z1 ?_)
  refine wpAny_bind (wpAny_holding ?_)
  unfold Builtin.List.listLengthHint
  refine wpAny_bind (wpAny_specialOf (T := "zip") ⟨_, z1, rfl⟩ zip_len ?_)
  show wpAny _ _ (specialOf (Value.ref z) (Str.ofString "__length_hint__") >>= _) _ _ _
  refine wpAny_bind (wpAny_specialOf (T := "zip") ⟨_, z1, rfl⟩ zip_hint ?_)
  refine wpAny_pure ?_
  show wpAny _ _ (rule "list.extend.makes-room" >>= fun _ => Builtin.List.listTouch (.ref s.heap.objs.size) >>= fun _ => again (.builtin "list.extend.loop" ⟨[.ref s.heap.objs.size, .ref z, .none], []⟩)) _ _ _
  refine wpAny_bind (wpAny_rule ?_)
  refine wpAny_bind ?_
  show wpAny _ _ (updateSeq s.heap.objs.size (·.push .none) >>= fun _ => updateSeq s.heap.objs.size (·.pop)) _ _ _
  refine wpAny_bind (wpAny_updateSeq new1 rfl ?_)
  have new2 := Heap.get?_update_self (Obj.mapSeq (·.push Value.none)) new1 rfl
  refine wpAny_updateSeq (hz := by seq_fits) new2 rfl ?_
  have new3 := Heap.get?_update_self (Obj.mapSeq (·.pop)) new2 rfl
  have old3 : ∀ b o, b ≠ s.heap.objs.size → g1.get? b = some o → ((g1.update s.heap.objs.size (Obj.mapSeq (·.push Value.none))).update s.heap.objs.size (Obj.mapSeq (·.pop))).get? b = some o :=
    fun b o hb e => (Heap.get?_update_other _ _ (Ne.symm hb)).trans ((Heap.get?_update_other _ _ (Ne.symm hb)).trans e)
  generalize hg3 : (g1.update s.heap.objs.size (Obj.mapSeq (·.push Value.none))).update s.heap.objs.size (Obj.mapSeq (·.pop)) = g3 at new3 old3 ⊢
  have sz3 : g3.objs.size = s.heap.objs.size + 1 := by rw [← hg3, ← sz1]; simp [Heap.update]
  have all3 : ∀ b o, s.heap.get? b = some o → g3.get? b = some o := fun b o e => old3 b o (ne (Heap.lt_size e)).symm (old1 b o (ne (Heap.lt_size e)).symm e)
  have st : ZhSt z TI TO i1 i2 s.heap.objs.size St1 St2 0 g3 := by
    obtain ⟨a, b, e⟩ := hTO
    exact ⟨all3 _ _ hTI, (d1 A calm).frame _ _ _ q1 fun b _ o e => all3 b o e, (d2 A calm).frame _ _ _ q2 fun b _ o e => all3 b o e, .inl ⟨all3 _ _ hz, a, b, all3 _ _ e⟩⟩
  refine wpAny_pure ⟨plainId_quiet F.plain_extend_loop _, zh_loop D (d1 _ (by simp [calm])) (d2 _ (by simp [calm])) hn (ne lz) (ne lTI) (ne lTO) (fun h => Nat.lt_irrefl _ (f1 _ h)) (fun h => Nat.lt_irrefl _ (f2 _ h)) (s.heap.objs.size + 1) (Nat.lt_succ_self _) (Nat.lt_succ_of_lt lz) (Nat.lt_succ_of_lt lTO) (Nat.lt_succ_of_lt li1) (Nat.lt_succ_of_lt li2) _ (min n1 n2) 0 _ [] _ rfl (Nat.zero_le _) st new3 rfl ⟨.nil, by simp, by simp⟩ (by show _ ≤ g3.objs.size; rw [sz3]; exact Nat.le_refl _) fun hh tk Us c2 kp hS hU got => ?_⟩
  exact ⟨rfl, next hh tk Us c2 (fun b o e1 e2 e3 e4 e => kp b o (ne (Heap.lt_size e)).symm e1 e2 e3 e4 (all3 b o e)) hS hU got⟩
end
end Ev

/-! Lz4: the pairs and the list, tracked. -/
namespace Ev
open PySem PySem.Spec PyProof.Rows L2
/-- pairs laid at the addresses -/
def updT (H : Hp) : List Addr → List (V × V) → Hp
  | T :: Ts, p :: ps => updT (upd H T (.tup [p.1, p.2])) Ts ps
  | _, _ => H
section
variable {X : Cx} {pins : List (Addr × Obj)} {σ : L2.St} {s : Shared} {h2 : Heap} {t : Nat}
theorem inv_pairs : ∀ (Ts : List Addr) (ps : List (V × V)) (H : Hp) (G : Heap), Ts.length = ps.length → Inv X pins σ H { s with heap := G, toks := t } → (∀ b o, G.get? b = some o → h2.get? b = some o) → Ts.Nodup → (∀ T ∈ Ts, G.get? T = none ∧ H T = none) →
    (∀ (j : Nat) (T : Addr) (p : V × V), Ts[j]? = some T → ps[j]? = some p → ∃ v u, h2.IsTuple T #[v, u] ∧ RelV p.1 v ∧ RelV p.2 u) →
    ∃ G', (∀ b o, G'.get? b = some o → h2.get? b = some o) ∧ (∀ b, b ∉ Ts → G.get? b = none → G'.get? b = none) ∧ (∀ b, b ∉ Ts → updT H Ts ps b = H b) ∧ Inv X pins σ (updT H Ts ps) { s with heap := G', toks := t }
  | [], ps, H, G, _, I, kp, _, _, _ => ⟨G, kp, fun _ _ e => e, fun _ _ => by cases ps <;> rfl, by cases ps <;> exact I⟩
  | T :: Ts, [], H, G, hl, _, _, _, _, _ => by simp at hl
  | T :: Ts, p :: ps, H, G, hl, I, kp, nd, fr, hp => by
    obtain ⟨G1, g1, g0⟩ := restrict h2 fun b => (G.get? b).isSome || b == T
    obtain ⟨v, u, hT, rv, ru⟩ := hp 0 T p rfl rfl
    obtain ⟨f1, f2⟩ := fr T List.mem_cons_self
    have up : ∀ b o, G.get? b = some o → G1.get? b = some o := fun b o e => by
      rw [g1 b (by rw [e]; rfl)]
      exact kp b o e
    have k1 : ∀ b o, G1.get? b = some o → h2.get? b = some o := fun b o e => by
      cases hb : ((G.get? b).isSome || b == T) with
      | true => rw [← g1 b hb]; exact e
      | false => rw [g0 b hb] at e; cases e
    have hT1 : G1.IsTuple T #[v, u] := by
      obtain ⟨o, eo, c, n, d⟩ := hT
      exact ⟨o, by rw [g1 T (by simp)]; exact eo, c, n, d⟩
    have I1 : Inv X pins σ (upd H T (.tup [p.1, p.2])) { s with heap := G1, toks := t } := I.laidN up f1 f2 ⟨by show 2 ≤ sizeLine; decide, [v, u], .cons rv (.cons ru .nil), hT1⟩
    have nd2 := List.nodup_cons.mp nd
    have other : ∀ b, b ≠ T → G.get? b = none → G1.get? b = none := fun b hb e => g0 b (by rw [e]; simpa using hb)
    obtain ⟨G', a1, a2, a3, a4⟩ := inv_pairs Ts ps (upd H T (.tup [p.1, p.2])) G1 (by simpa using hl) I1 k1 nd2.2 (fun T' h' => by
      have ne : T' ≠ T := fun e => nd2.1 (e ▸ h')
      exact ⟨other T' ne (fr T' (List.mem_cons_of_mem _ h')).1, by rw [upd_ne ne]; exact (fr T' (List.mem_cons_of_mem _ h')).2⟩) fun j T' p' e1 e2 => hp (j + 1) T' p' e1 e2
    exact ⟨G', a1, fun b hb e => a2 b (fun h' => hb (List.mem_cons_of_mem _ h')) (other b (fun z => hb (by rw [z]; exact List.mem_cons_self)) e), fun b hb => by
      have ne : b ≠ T := fun e => hb (by rw [e]; exact List.mem_cons_self)
      show updT (upd H T _) Ts ps b = H b
      rw [a3 b (fun h' => hb (List.mem_cons_of_mem _ h')), upd_ne ne], a4⟩
end
end Ev

/-! Lz5: list(zip(a, b)) evaluated. -/
namespace Ev
open PySem PySem.Spec PyProof.Rows L2
def eLZip (K : PySem.W.Frag) (ta : TA) : TE := fun σ H Q => ta σ H fun vs H1 => ∃ (k1 k2 : SeqK) (a b : Addr) (xs ys : List V), vs = [.ref a, .ref b] ∧ SqX k1 K H1 a xs ∧ SqX k2 K H1 b ys ∧ min xs.length ys.length ≤ sizeLine ∧
  ∀ (p : Addr) (Ts : List Addr), Ts.length = min xs.length ys.length → Ts.Nodup → (∀ T ∈ Ts, H1 T = none ∧ T ≠ p) → H1 p = none → Q (.ref p) (upd (updT H1 Ts (xs.zip ys)) p (.lst (Ts.map V.ref)))
theorem vals_refs : ∀ Ts : List Addr, Vals (Ts.map V.ref) (Ts.map Value.ref)
  | [] => .nil
  | _ :: Ts => .cons rfl (vals_refs Ts)
theorem pe_lzip {X : Cx} {e e2 : Expr} {ta : TA} {p p2 pos q : Pos} (hc : X.calm = true) (hg : Gl X "list") (hm : X.mg "list" = none) (hgz : Gl X "zip") (hmz : X.mg "zip" = none) (ha : PA X [e, e2] ta)
    (hs : starEach [e, e2] X.env = (false, eval e X.env) :: starEach [e2] X.env) (hpl : (backTo q (starEach [e2] X.env)).any (·.1) = false) :
    PE X (.Call (.Name "list" p) [.Call (.Name "zip" p2) [e, e2] [] q] [] pos) (eLZip X.K ta) := by
  refine ⟨fun pins s σ H Q I h => ?_⟩
  refine wpAny_Call_Name_kw (ld_blt I hg hm PyProof.Rows.boot_list ?_ (by decide) (by decide))
  refine PyProof.Rows.callWith_type1 ?_ (by rfl) (by rfl)
  show wpAny _ _ (spliced ((false, eval _ X.env) :: backTo pos (starEach [] X.env))) _ _ s
  refine Calls.spliced_cons ?_
  refine wpAny_Call_Name_kw (ld_blt I hgz hmz PyProof.Rows.boot_zip (PyProof.Rows.callWith_type1 (thn (ha.run q pins s σ H _ I h) fun us s1 ⟨vs, H1, I1, r1, q1⟩ => ?_) hs hpl))
  obtain ⟨k1, k2, a, b, xs, ys, ex, hqx, hqy, few, out⟩ := q1
  subst ex
  cases r1 with
  | cons r rr =>
    cases rr with
    | cons r' rr =>
      cases rr
      cases r
      cases r'
      obtain ⟨its, rv, o1, la⟩ := invX I1 hqx
      obtain ⟨its2, rv2, o2, lb⟩ := invX I1 hqy
      refine zip_begins2 (beginsX k1 a its.toArray) (beginsX k2 b its2.toArray) o1 o2 fun hh hz hTI hTO e1 e2 szh kp => ?_
      refine Calls.spliced_nil ?_
      have D := zip_sep2 (N := s1.heap.objs.size) (fp1 := [a]) (fp2 := [b]) (by simpa using la) (by simpa using lb)
      have calm := I1.ok.hd hc
      have l1 : its.length = xs.length := rv.length.symm
      have l2 : its2.length = ys.length := rv2.length.symm
      have szh : hh.objs.size = s1.heap.objs.size + 5 := szh
      have kp : ∀ c o, s1.heap.get? c = some o → hh.get? c = some o := kp
      have far : ∀ {c : Addr} (i : Nat), c < s1.heap.objs.size → c ≠ s1.heap.objs.size + i := fun i hlt => Nat.ne_of_lt (Nat.lt_of_lt_of_le hlt (Nat.le_add_right _ _))
      have lth : ∀ {c : Addr}, c < s1.heap.objs.size → c < hh.objs.size := fun hlt => by rw [szh]; exact Nat.lt_of_lt_of_le hlt (Nat.le_add_right _ _)
      refine lz_list D (fun A hA => drawsX (P := X.prog) (w := X.w) k1 hA (Nat.ne_of_lt la) its.toArray) (fun A hA => drawsX (P := X.prog) (w := X.w) k2 hA (Nat.ne_of_lt (Nat.lt_succ_of_lt lb)) its2.toArray) calm (by simpa [l1, l2] using few) hz hTI ⟨_, _, hTO⟩ ⟨itO_iter e1, ?_⟩ ⟨itO_iter e2, ?_⟩ ?_ ?_ fun h2 tk Us c2 kp2 hS hU got => ?_
      · cases k1
        · exact (show s1.heap.IsList a its.toArray from o1).at fun o e => kp a o e
        · obtain ⟨o, e, c, n, d⟩ := (show s1.heap.IsTuple a its.toArray from o1)
          exact ⟨o, kp a o e, c, n, d⟩
      · cases k2
        · exact (show s1.heap.IsList b its2.toArray from o2).at fun o e => kp b o e
        · obtain ⟨o, e, c, n, d⟩ := (show s1.heap.IsTuple b its2.toArray from o2)
          exact ⟨o, kp b o e, c, n, d⟩
      · intro c hcm
        simp only [List.mem_cons, List.not_mem_nil, or_false] at hcm
        show c < hh.objs.size
        rcases hcm with z | z
        · rw [z, szh]; exact Nat.lt_add_of_pos_right (by decide)
        · rw [z]; exact lth la
      · intro c hcm
        simp only [List.mem_cons, List.not_mem_nil, or_false] at hcm
        show c < hh.objs.size
        rcases hcm with z | z
        · rw [z, szh]; exact Nat.add_lt_add_left (by decide) _
        · rw [z]; exact lth lb
      · have kp3 : ∀ c o, s1.heap.get? c = some o → h2.get? c = some o := fun c o e => by
          have lt := Heap.lt_size e
          exact kp2 c o (far 4 lt) (far 3 lt) (far 0 lt) (far 1 lt) (kp c o e)
        obtain ⟨got1, got2, got3⟩ := got
        obtain ⟨G0, g1, g0⟩ := restrict h2 fun c => decide (c < s1.heap.objs.size)
        have I0 : Inv X pins σ H1 { s1 with heap := G0, toks := tk } := I1.kept fun c o e => by
          rw [g1 c (by simpa using Heap.lt_size e)]
          exact kp3 c o e
        have sub0 : ∀ c o, G0.get? c = some o → h2.get? c = some o := fun c o e => by
          cases hb : decide (c < s1.heap.objs.size) with
          | true => rw [← g1 c hb]; exact e
          | false => rw [g0 c hb] at e; cases e
        have lo : ∀ T ∈ Us, s1.heap.objs.size ≤ T := fun T hT => Nat.le_trans (Nat.le_trans (by show s1.heap.objs.size ≤ hh.objs.size; rw [szh]; exact Nat.le_add_right _ _) (Nat.le_succ _)) (got2 T hT).1
        have lL : s1.heap.objs.size ≤ hh.objs.size := by rw [szh]; exact Nat.le_add_right _ _
        have none0 : ∀ T, s1.heap.objs.size ≤ T → G0.get? T = none := fun T hT => g0 T (by simpa using hT)
        have notL : hh.objs.size ∉ Us := fun hm => Nat.lt_irrefl _ (got2 _ hm).1
        have lenz : Us.length = (xs.zip ys).length := by rw [hU, List.length_zip]; simp [l1, l2]
        obtain ⟨G', a1, a2, a3, a4⟩ := inv_pairs (h2 := h2) Us (xs.zip ys) H1 G0 lenz I0 sub0 (got1.imp fun h => Nat.ne_of_lt h) (fun T hT => ⟨none0 T (lo T hT), I1.hok.fresh (lo T hT)⟩) fun j T pr e1 e2 => by
          obtain ⟨x, y, q, p1, p2⟩ := got3 j T e1
          have ez : xs[j]? = some pr.1 ∧ ys[j]? = some pr.2 := by
            rw [List.getElem?_zip_eq_some] at e2
            exact e2
          obtain ⟨u, hu, ru⟩ := rv.get ez.1
          obtain ⟨u2, hu2, ru2⟩ := rv2.get ez.2
          have p1 : its[j]? = some x := by simpa using p1
          have p2 : its2[j]? = some y := by simpa using p2
          rw [hu] at p1
          rw [hu2] at p2
          cases p1
          cases p2
          exact ⟨x, y, ⟨_, q, rfl, _, rfl⟩, ru, ru2⟩
        have nL : updT H1 Us (xs.zip ys) hh.objs.size = none := by
          rw [a3 _ notL]
          exact I1.hok.fresh lL
        refine ⟨.ref hh.objs.size, _, a4.laidN (o := .lst (Us.map V.ref)) a1 (a2 _ notL (none0 _ lL)) nL ⟨by rw [List.length_map, hU]; simpa [l1, l2] using few, Us.map Value.ref, c2, vals_refs Us, hS⟩, rfl, out hh.objs.size Us (by rw [hU]; simp [l1, l2]) (got1.imp fun h => Nat.ne_of_lt h) (fun T hT => ⟨I1.hok.fresh (lo T hT), fun e => notL (e ▸ hT)⟩) (I1.hok.fresh lL)⟩
end Ev

/-! Lz6: list(zip(a, b)) in the small language. -/
namespace Ev
open PySem PySem.Spec PyProof.Rows L2
section
variable {S : Stat}
theorem pairs_new {as : AS} {M : Sto} : ∀ (Ts : List Addr) (us ws : List V) (xs ys : List PyData) (F H : Hp), Sr S F H as M → Ts.length = min us.length ws.length → Ts.Nodup → (∀ T ∈ Ts, H T = none) → DpAll S.K F us xs → DpAll S.K F ws ys →
    ∃ F', Nxt F H as F' (updT H Ts (us.zip ws)) as ∧ Sr S F' (updT H Ts (us.zip ws)) as M ∧ DpAll S.K F' (Ts.map V.ref) (zipD xs ys)
  | [], us, ws, xs, ys, F, H, s, hl, _, _, d1, d2 => by
    refine ⟨F, ?_, ?_, ?_⟩
    · exact .refl
    · exact s
    · have l1 := dpAll_len d1
      have l2 := dpAll_len d2
      have : zipD xs ys = [] := by
        rw [List.eq_nil_iff_length_eq_zero]
        unfold zipD
        rw [List.length_zipWith]
        simp at hl
        omega
      rw [this]
      exact .nil
  | T :: Ts, [], ws, xs, ys, F, H, s, hl, _, _, d1, d2 => by simp at hl
  | T :: Ts, u :: us, [], xs, ys, F, H, s, hl, _, _, d1, d2 => by simp at hl
  | T :: Ts, u :: us, v :: ws, xs, ys, F, H, s, hl, nd, fr, d1, d2 => by
    cases d1 with
    | cons du d1 =>
      cases d2 with
      | cons dv d2 =>
        obtain ⟨F1, n1, s1, dp⟩ := pair_new s (fr T List.mem_cons_self) du dv
        have nd2 := List.nodup_cons.mp nd
        have grow := n1.grow
        obtain ⟨F2, n2, s2, dd⟩ := pairs_new Ts us ws _ _ F1 _ s1 (by simp at hl ⊢; omega) nd2.2 (fun T' h' => by
          have ne : T' ≠ T := fun e => nd2.1 (e ▸ h')
          rw [upd_ne ne]
          exact fr T' (List.mem_cons_of_mem _ h')) (dpAll_mono grow _ _ d1) (dpAll_mono grow _ _ d2)
        exact ⟨F2, n1.trans n2, s2, .cons (dp_mono n2.grow _ _ dp) dd⟩
theorem updT_none {b : Addr} : ∀ (Ts : List Addr) (ps : List (V × V)) (H : Hp), b ∉ Ts → updT H Ts ps b = H b
  | [], ps, H, _ => by cases ps <;> rfl
  | T :: Ts, [], H, _ => rfl
  | T :: Ts, p :: ps, H, h => by
    have ne : b ≠ T := fun e => h (by rw [e]; exact List.mem_cons_self)
    show updT (upd H T _) Ts ps b = H b
    rw [updT_none Ts ps _ (fun h' => h (List.mem_cons_of_mem _ h')), upd_ne ne]
theorem pe_lzipE {X : Cx} {W : WX} {fs : Env' → Sto → Res (List VV)} {a b : Expr} {p p2 pos q : Pos} (hK : X.K = S.K) (hc : X.calm = true) (hg : Gl X "list") (hm : X.mg "list" = none) (hgz : Gl X "zip") (hmz : X.mg "zip" = none) (ha : PA X [a, b] (tV S fs W)) (hs : starEach [a, b] X.env = (false, eval a X.env) :: starEach [b] X.env) (hpl : (backTo q (starEach [b] X.env)).any (·.1) = false) :
    PE X (.Call (.Name "list" p) [.Call (.Name "zip" p2) [a, b] [] q] [] pos) (tE S (fun ρ M => (fs ρ M).bind lzipK) W) :=
  PE.imp (pe_lzip hc hg hm hgz hmz ha hs hpl) fun σ H R h => tG.bind (k := fun _ ts M => lzipK ts M) h fun F1 H1 as1 ρ M1 _ _ ts vs s1 e1 t1 w1 => by
    unfold lzipK at w1
    split at w1
    · rename_i t u
      have t1' : Paired (Vr S.K F1 as1) [t, u] vs := t1
      cases t1' with
      | cons h1 hr =>
        cases hr with
        | cons h2 hr =>
          cases hr
          split at w1
          · rename_i xs ys e1' e2'
            split at w1
            · rename_i hz
              obtain ⟨k1, a, us, ea, da, ka⟩ := seqX_ok s1 h1 e1'
              obtain ⟨k2, b, ws, eb, db, kb⟩ := seqX_ok s1 h2 e2'
              have mono : ∀ {k : SeqK} {a : Addr} {xs : List V}, SqX k S.K F1 a xs → SqX k S.K H1 a xs := fun {k a xs} h => by
                cases k
                · exact sqL_mono s1.sub h
                · exact sqT_mono s1.sub h
              have few : min us.length ws.length ≤ sizeLine := by
                have := of_decide_eq_true hz
                unfold zipD at this
                rw [List.length_zipWith] at this
                rw [dpAll_len da, dpAll_len db]
                exact this
              refine ⟨k1, k2, a, b, us, ws, by rw [ea, eb], by rw [hK]; exact mono ka, by rw [hK]; exact mono kb, few, fun p Ts hl nd fr hp => ?_⟩
              obtain ⟨F2, nx, s2, dd⟩ := pairs_new Ts us ws xs ys F1 H1 s1 hl nd (fun T hT => (fr T hT).1) da db
              exact wp_own s2 (WpG.later nx w1) dd (by rw [updT_none _ _ _ fun hm => (fr p hm).2 rfl]; exact hp)
            · exact w1.elim
          · exact w1.elim
    · exact w1.elim
theorem pe_lzip2 {X : Cx} {W : WX} {f g : Env' → Sto → Res TV} {a b : Expr} {p p2 pos q : Pos} (hK : X.K = S.K) (hc : X.calm = true) (hg : Gl X "list") (hm : X.mg "list" = none) (hgz : Gl X "zip") (hmz : X.mg "zip" = none) (na : notStar a = true) (nb : notStar b = true) (ha : PE X a (tE S f W)) (hb : PE X b (tE S g W)) :
    PE X (.Call (.Name "list" p) [.Call (.Name "zip" p2) [a, b] [] q] [] pos) (tE S (fun ρ M => (f ρ M).bind fun ta M1 => (g ρ M1).bind (u2K .lzip ta)) W) := by
  have h := pe_lzipE (p := p) (p2 := p2) (pos := pos) (q := q) hK hc hg hm hgz hmz (pa_consV na ha (pa_consV nb hb pa_nilV)) (star_of na) (noStars (es := [b]) (by simp [nb]))
  have e : (fun ρ M => (f ρ M).bind fun ta M1 => (g ρ M1).bind (u2K .lzip ta)) = fun ρ M => ((f ρ M).bind fun t M1 => ((g ρ M1).bind fun t' M2 => ((Res.ok [] M2 : Res (List VV)).bind fun xs M3 => .ok (freezes t' :: xs) M3)).bind fun xs M2 => .ok (freezes t :: xs) M2).bind lzipK := by
    funext ρ M
    cases f ρ M with
    | ok ta M1 =>
      simp only [Res.bind]
      cases g ρ M1 <;> rfl
    | _ => rfl
  rw [e]
  exact h
end
end Ev

/-! Mx1: max of a list of ints, as an expression. -/
namespace Ev
open PySem PySem.Spec PyProof.Rows L2
theorem fold_max : ∀ (l : List Int) (a : Int), (l.foldl (fun a b => if a < b then b else a) a) ∈ a :: l ∧ ∀ x ∈ a :: l, x ≤ l.foldl (fun a b => if a < b then b else a) a
  | [], a => ⟨by simp, by simp⟩
  | b :: l, a => by
    obtain ⟨h1, h2⟩ := fold_max l (if a < b then b else a)
    rw [List.foldl_cons]
    refine ⟨?_, fun x hx => ?_⟩
    · rcases List.mem_cons.mp h1 with h | h
      · rw [h]
        by_cases hab : a < b
        · rw [if_pos hab]; simp
        · rw [if_neg hab]; simp
      · exact List.mem_cons_of_mem _ (List.mem_cons_of_mem _ h)
    · have h0 := h2 (if a < b then b else a) List.mem_cons_self
      rcases List.mem_cons.mp hx with h | h
      · subst h
        by_cases hab : x < b
        · rw [if_pos hab] at h0 ⊢; omega
        · rw [if_neg hab] at h0 ⊢; exact h0
      · rcases List.mem_cons.mp h with h | h
        · subst h
          by_cases hab : a < x
          · rw [if_pos hab] at h0 ⊢; exact h0
          · rw [if_neg hab] at h0 ⊢; omega
        · exact h2 x (List.mem_cons_of_mem _ h)
theorem intsOf_some : ∀ {xs : List PyData} {ns : List Int}, intsOf xs = some ns → xs = ns.map .int
  | [], ns, h => by cases h; rfl
  | .int i :: r, ns, h => by
    have h : (intsOf r).map (i :: ·) = some ns := h
    cases hr : intsOf r with
    | none => rw [hr] at h; cases h
    | some ms =>
      rw [hr] at h
      cases h
      rw [intsOf_some hr]
      rfl
  | .none :: _, _, h => by cases h
  | .bool _ :: _, _, h => by cases h
  | .str _ :: _, _, h => by cases h
  | .list _ :: _, _, h => by cases h
  | .tuple _ :: _, _, h => by cases h
  | .dict _ :: _, _, h => by cases h
section
variable {X : Cx} {S : Stat} {W : WX} {a : Expr} {fa : Env' → Sto → Res TV} {pos : Pos}
theorem pe_mxlE {p : Pos} (hK : X.K = S.K) (hc : X.calm = true) (hg : Gl X "max") (hm : X.mg "max" = none) (hst : notStar a = true) (ha : PE X a (tE S fa W)) :
    PE X (.Call (.Name "max" p) [a] [] pos) (tE S (fun ρ M => (fa ρ M).bind mxlK) W) := by
  have h2 := pe_callB (pos := pos) (p := p) (cr_max (X := X) hc) hg hm (by decide +kernel) (pa_cons ha pa_nil (star_of hst)) (by decide +kernel) (by decide +kernel) (star_of hst) (by rfl)
  refine PE.imp h2 fun σ H Q h => one h fun F1 H1 as1 M1 ta v _ _ s1 t1 w1 => ?_
  unfold mxlK at w1
  split at w1
  · rename_i xs hx
    split at w1
    · rename_i n ns hn
      obtain ⟨l, vs, e, h3, h4⟩ := (peek_ok s1 t1 hx).list s1.sub
      rw [intsOf_some hn] at h4
      rw [dpAll_int_of h4] at h3
      refine ⟨l, n :: ns, by rw [e], by rw [hK]; exact h3, by simp, fun m h5 h6 => ?_⟩
      obtain ⟨g1, g2⟩ := fold_max ns n
      have em : m = ns.foldl (fun a b => if a < b then b else a) n := Int.le_antisymm (g2 m h5) (h6 _ g1)
      rw [em]
      exact wp_d s1 w1 (.int _)
    · exact w1.elim
  · exact w1.elim
end
end Ev

/-! Nd1: calls of a function that the running def has made. -/
namespace Ev
open PySem PySem.Spec PyProof.Rows L2
open LamX (Tabs CodeO)
open NdefX (NF FnO NOk Caps CellsAt slotAt slotAt_of cells_of fnAt_of)

/-- what such a function promises: its arguments, then what it reads of its maker's names -/
def spN (S : Stat) (n m : Nat) (f : List VV → Sto → Res TV) : List (Option V) → Sp := fun ws vs H Q E => vs.length = n ∧ ∃ F as M xs cs us, Sr S F H as M ∧ Paired (Vr S.K F as) xs vs ∧ ws = us.map some ∧ Paired (Vr S.K F as) cs us ∧ cs.length = m ∧ Wp S E F H as (f (xs ++ cs) M) Q
structure NdAt (S : Stat) (f : List VV → Sto → Res TV) (X : Cx) (k : Nat) (js : List Nat) : Prop where
  ex : ∃ (mk : Addr → NF) (ps fr : List Str) (cl : List (Str × Addr)) (kk : Nat), S.nd k = some mk ∧ Room kk X.A ∧ (∀ f0 c', NOk S.P S.w S.K S.mg S.base (L2N.CX S.P S.w) kk f0 (mk c') ps fr (spN S ps.length js.length f)) ∧ (∀ c', (mk c').cl = cl) ∧ (X.Ok → Caps X cl fr js) ∧
    ∀ xs M, xs.length ≠ ps.length + js.length → f xs M = .stuck
section
variable {S : Stat} {X : Cx} {W : WX} {F H : Hp} {as : AS} {ρ : Env'} {σ : L2.St}
theorem capt_ok (er : Er S F as ρ σ) : ∀ {js : List Nat} {cs : List VV}, capt ρ js = some cs → ∃ us : List V, js.map (slotAt σ) = us.map some ∧ Paired (Vr S.K F as) cs us ∧ cs.length = js.length
  | [], cs, h => by
    cases h
    exact ⟨[], rfl, .nil, rfl⟩
  | j :: js, cs, h => by
    unfold capt at h
    split at h
    · rename_i x hx
      cases hf : isFn x with
      | true => rw [hf, if_pos rfl] at h; cases h
      | false =>
        rw [hf, if_neg Bool.false_ne_true] at h
        cases hc : capt ρ js with
        | none => rw [hc] at h; cases h
        | some ds =>
          rw [hc] at h
          cases h
          obtain ⟨us, h1, h2, h3⟩ := capt_ok er hc
          obtain ⟨v, g1, g2⟩ := er.at_ j x hx
          exact ⟨v :: us, by rw [List.map_cons, List.map_cons, h1, slotAt_of g1], .cons (g2.to hf) h2, by rw [List.length_cons, List.length_cons, h3]⟩
    · cases h
theorem fnAt_some {i k : Nat} (h : fnAt ρ i k = true) : ρ[i]? = some (some (.fn k)) := by
  unfold fnAt at h
  split at h
  · rename_i k' e
    have : k' = k := by simpa using h
    rw [← this]; exact e
  · cases h
theorem run_nS {CX : CXT} {pins : List (Addr × Obj)} {s : Shared} {Q : VK} {f : Addr} {G : NF} {ps fr : List Str} {sp : List (Option V) → Sp} {ws : List (Option V)} {k : Nat} {us : List Value} {vs : List V} {E : XK} (Fn : NOk X.prog X.w X.K X.mg X.base CX k f G ps fr sp) (hr : Room k X.A) (hx : PassesAt CX X σ E) (I : Inv X pins σ H s)
    (hf : H f = some (FnO f G)) (hc : H G.c = some (CodeO G.c G.qual)) (C : CellsAt G.cl fr ws s.heap H) (r : Vals vs us) (q : sp ws vs H Q E) :
    wpAny (model X.prog X.w) X.A (call (.ref f) us) (EP X pins σ Q) X.xe s := by
  refine wpAny_call (codeAny_mono (Fn.run X.A X.stack s H us vs _ Q E hr I.env0 hf hc C r q) fun r s' hq => ?_)
  cases r with
  | error e => exact hx pins H s e s' I hq
  | ok fl =>
    cases fl with
    | ret u => exact I.after hq
    | next => exact False.elim hq
    | brk => exact False.elim hq
    | cont => exact False.elim hq
theorem pe_callnE {x : Str} {e : Expr} {es : List Expr} {p pos : Pos} {i k : Nat} {js : List Nat} {f : List VV → Sto → Res TV} {fs : Env' → Sto → Res (List VV)} (N : NdAt S f X k js) (hP : X.prog = S.P) (hw : X.w = S.w) (hK : X.K = S.K) (hmg : X.mg = S.mg) (hbase : X.base = S.base)
    (tk : L2N.Takes X W) (hN : X.N[i]? = some x) (hv : Vis X.env.scope x) (hd : (x == ("__debug__" : Str)) = false) (hcd : (x == ("__classdict__" : Str)) = false) (hst : (e :: es).all notStar = true) (ha : PA X (e :: es) (tV S fs W)) :
    PE X (.Call (.Name x p) (e :: es) [] pos) (tE S (fun ρ M => if fnAt ρ i k = true then (fs ρ M).bind (callnK f (capt ρ js)) else .stuck) W) := by
  obtain ⟨mk, ps, fr, cl, kk, hnd, hr, Fn, hcl, cp, hlen⟩ := N.ex
  rw [← hP, ← hw, ← hK, ← hmg, ← hbase] at Fn
  have hst' := hst
  rw [List.all_cons, Bool.and_eq_true] at hst'
  refine ⟨fun pins s σ H Q I ⟨F, as, ρ, M, sr, er, w⟩ => ?_⟩
  have w : Wp S (fun c d H' => W c d σ H') F H as (if fnAt ρ i k = true then (fs ρ M).bind (callnK f (capt ρ js)) else .stuck) Q := w
  cases hfa : fnAt ρ i k with
  | false =>
    rw [hfa, if_neg Bool.false_ne_true] at w
    exact w.elim
  | true =>
    rw [hfa, if_pos rfl] at w
    obtain ⟨v0, hs, mk', f0, c', e1, rfl, hf, hc⟩ := er.at_ i _ (fnAt_some hfa)
    rw [hnd] at e1
    cases e1
    refine wpAny_Call_Name_kw (thn ((pe_var (pos := p) hN hv hd hcd).run pins s σ H (fun v H1 => v = .ref f0 ∧ H1 = H) I ⟨.ref f0, hs, rfl, rfl⟩) fun u s1 ⟨v, H1, I1, r1, q1⟩ => ?_)
    obtain ⟨ev, eH⟩ := q1
    subst ev
    rw [eH] at I1
    obtain rfl : u = Value.ref f0 := r1
    have ht : tV S fs W σ H fun vs H1 => H1 f0 = some (FnO f0 (mk c')) ∧ H1 (mk c').c = some (CodeO (mk c').c (mk c').qual) ∧ spN S ps.length js.length f (js.map (slotAt σ)) vs H1 Q (fun c d H' => W c d σ H') := by
      refine ⟨F, as, ρ, M, sr, er, WpG.bind (k := callnK f (capt ρ js)) w fun xs M1 vs F1 H1 as1 _ nx s1 t1 w1 => ⟨s1.sub _ _ (nx.grow _ _ hf), s1.sub _ _ (nx.grow _ _ hc), ?_⟩⟩
      unfold callnK at w1
      split at w1
      · rename_i cs hcs
        obtain ⟨us, g1, g2, g3⟩ := capt_ok er hcs
        refine ⟨?_, F1, as1, M1, xs, cs, us, s1, t1, g1, paired_mono (fun _ _ h => Vr.mono nx h) g2, g3, w1⟩
        have hl : vs.length = xs.length := (Paired.length t1).symm
        by_cases hn : (xs ++ cs).length = ps.length + js.length
        · rw [List.length_append, g3] at hn
          omega
        · rw [hlen _ _ hn] at w1
          exact w1.elim
      · exact w1.elim
    refine PySem.W.callWith_F (first := []) (fnAt_of I1 (sr.sub _ _ hf)) (thn (ha.run pos pins s1 σ H _ I1 ht) fun us s2 ⟨vs, H2, I2, r, h1, h2, q⟩ => ⟨fnAt_of I2 h1, ?_⟩) (star_of hst'.1) (noStars hst'.2)
    show wpAny _ _ (call (.ref f0) us) _ _ _
    refine run_nS (Fn f0 c') hr (L2N.passAt tk σ) I2 h1 h2 ?_ r q
    rw [hcl c']
    exact cells_of I2 (cp I2.ok)
end
end Ev

/-! Rv1: a tuple turned round by [::-1]. -/
namespace Ev
open PySem PySem.Spec PyProof.Rows L2 HT
section
variable {prog : Program} {w : World} {A : Around} {E : Value → Shared → Prop} {s : Shared}
theorem applied_rev {sl : Addr} {vs : Value} {n : Nat} {Q : Int × Int × Nat → Shared → Prop} (hs : s.heap.IsSliceOf sl .none .none vs) (ps : IsPart vs (some (-1)))
    (h : Q ((n : Int) - 1, -1, n) s) : wpAny (model prog w) A (Builtin.Slice.sliceApplied (.ref sl) (pure (n : Int))) Q E s := by
  obtain ⟨os, hos, hcs, hds⟩ := id hs
  unfold Builtin.Slice.sliceApplied Builtin.Slice.sliceFields
  refine wpAny_bind (wpAny_bind (wpAny_field hos hds (x := .none) rfl (wpAny_bind (wpAny_field hos hds (x := .none) rfl (wpAny_bind (wpAny_field hos hds (x := vs) rfl (wpAny_pure ?_)))))))
  refine wpAny_bind (slicePart_ ps ?_)
  show wpAny _ _ (if ((-1 : Int) == 0) = true then _ else _) _ _ s
  rw [if_neg (by decide)]
  refine wpAny_bind (slicePart_ .none (wpAny_bind (slicePart_ .none (wpAny_bind (wpAny_pure ?_)))))
  have e : Builtin.Slice.sliceAdjust none none (-1) (n : Int) = ((n : Int) - 1, -1) := by
    unfold Builtin.Slice.sliceAdjust
    simp
  show wpAny _ _ (match Builtin.Slice.sliceAdjust none none (-1) (n : Int) with | (lo, hi) => pure (lo, (-1 : Int), Builtin.Slice.slicePlaces lo hi (-1))) _ _ s
  rw [e]
  have e2 : Builtin.Slice.slicePlaces ((n : Int) - 1) (-1) (-1) = n := by
    unfold Builtin.Slice.slicePlaces
    simp only [show ¬ ((-1 : Int) > 0) by decide, if_false]
    rw [show (-(-1) : Int) = 1 by decide, Int.ediv_one]
    split <;> omega
  show wpAny _ _ (pure ((n : Int) - 1, (-1 : Int), Builtin.Slice.slicePlaces ((n : Int) - 1) (-1) (-1))) _ _ s
  rw [e2]
  exact wpAny_pure h
theorem fm_map {α β : Type} {f : α → Option β} {g : α → β} : ∀ {l : List α}, (∀ x ∈ l, f x = some (g x)) → l.filterMap f = l.map g
  | [], _ => rfl
  | x :: l, h => by
    rw [List.filterMap_cons, h x List.mem_cons_self, fm_map fun y hy => h y (List.mem_cons_of_mem _ hy)]
    rfl
theorem pick_rev (xs : Array Value) : ((List.range xs.size).filterMap fun (m : Nat) => xs[(((xs.size : Nat) : Int) - 1 + (m : Int) * -1).toNat]?).toArray = xs.toList.reverse.toArray := by
  congr 1
  apply List.ext_getElem?
  intro i
  have key : ∀ (l : List Value), (List.range l.length).filterMap (fun (m : Nat) => l[((l.length : Int) - 1 + (m : Int) * -1).toNat]?) = l.reverse := by
    intro l
    have h1 : (List.range l.length).filterMap (fun (m : Nat) => l[((l.length : Int) - 1 + (m : Int) * -1).toNat]?) = (List.range l.length).map (fun m => l.getD (l.length - 1 - m) .none) := by
      refine fm_map fun m hm => ?_
      have hm := List.mem_range.mp hm
      have e : ((l.length : Int) - 1 + (m : Int) * -1).toNat = l.length - 1 - m := by omega
      rw [e, List.getD_eq_getElem?_getD, List.getElem?_eq_getElem (by omega)]
      rfl
    rw [h1]
    apply List.ext_getElem
    · simp
    · intro i h1 h2
      simp only [List.length_map, List.length_range] at h1
      rw [List.getElem_map, List.getElem_range, List.getElem_reverse, List.getD_eq_getElem?_getD, List.getElem?_eq_getElem (by omega)]
      rfl
  have := key xs.toList
  simp only [Array.length_toList, Array.getElem?_toList] at this
  rw [this]
theorem getItem_tuple_rev {t sl : Addr} {items : Array Value} {vs : Value} {Q : Value → Shared → Prop} (ht : IsTup s.heap t items) (hs : s.heap.IsSliceOf sl .none .none vs) (ps : IsPart vs (some (-1)))
    (h : Q (.ref s.heap.objs.size) { s with heap := s.heap.push { cls := .type "tuple", data := .seq items.toList.reverse.toArray } })
    (hsz : items.size ≤ sizeLine) : wpAny (model prog w) A (getItem (.ref t) (.ref sl)) Q E s := by
  have htake : sizeOk (.seq items.toList.reverse.toArray) := by
    show items.toList.reverse.toArray.size ≤ sizeLine
    rw [List.size_toArray, List.length_reverse, Array.length_toList]
    exact hsz
  obtain ⟨os, hos, hcs, hds⟩ := id hs
  have hTs : s.TypeIs (.ref sl) "slice" := ⟨os, hos, hcs⟩
  unfold getItem
  try with_reducible refine wpAny_holding ?_
  first | refine wpAny_bind (wpAny_pure ?_) | skip
  refine wpAny_bind (wpAny_sequenceKey ht.typeIs (by decide) ?_)
  refine wpAny_bind (wpAny_callSpecial?_slot (name := Str.ofString "__getitem__") ht.typeIs PyProof.Rows.slot_tuple_getitem
    (wpAny_call_entry PyProof.Rows.slot_tuple_getitem ht.typeIs entry_tuple_getitem ?_ (args_tuple_getitem _ _)))
  show wpAny _ _ (Builtin.Tuple.tupleItemsOf (.ref t) >>= _) _ _ s
  refine wpAny_bind (tupleItemsOf_ ht ?_)
  refine wpAny_bind (wpAny_typeOf hTs ?_)
  rw [if_pos (by decide)]
  refine wpAny_bind (applied_rev hs ps ?_)
  have hno : ¬ ((((items.size : Int) - 1) == 0 && (-1 : Int) == 1 && items.size == items.size) = true) := by
    simp
  show wpAny _ _ (if (((items.size : Int) - 1) == 0 && (-1 : Int) == 1 && items.size == items.size) = true then _ else _) _ _ s
  rw [if_neg hno, pick_rev]
  first
    | exact wpAny_bind (m := Builtin.Tuple.tupleExact _) (wpAny_newObj_type (wpAny_pure ⟨_, rfl, wpAny_pure h⟩) htake)
    | exact wpAny_bind (m := Builtin.Tuple.tupleExact _) (wpAny_newObj_type (wpAny_bind (wpAny_pure (wpAny_pure ⟨_, rfl, wpAny_pure h⟩))) htake)
    | exact wpAny_bind (wpAny_bind (m := Builtin.Tuple.tupleExact _) (wpAny_newObj_type (wpAny_pure (wpAny_pure ⟨_, rfl, wpAny_pure h⟩)) htake))
    | exact wpAny_bind (wpAny_bind (m := Builtin.Tuple.tupleExact _) (wpAny_newObj_type (wpAny_pure ⟨_, rfl, wpAny_pure h⟩) htake))
end
section
variable {X : Cx}
def tRevT (K : PySem.W.Frag) (te : TE) : TE := fun σ H Q => te σ H fun x H1 => ∃ a xs, x = .ref a ∧ SqT K H1 a xs ∧ ∀ p, H1 p = none → Q (.ref p) (upd H1 p (.tup xs.reverse))
theorem pe_revT {e : Expr} {te : TE} {k : Nat} {p1 p2 p3 pos : Pos} (he : PE X e te) : PE X (.Subscript e (.Slice none none (some (.UnaryOp .USub (.Constant (.int 1) k p1) p2)) p3) pos) (tRevT X.K te) := by
  refine ⟨fun pins s σ H Q I h => ?_⟩
  refine Subscript_ (thn (he.run pins s σ H _ I h) fun v s1 ⟨x, H1, I1, r1, q1⟩ => ?_)
  obtain ⟨a, xs, ex, hx, q⟩ := q1
  subst ex
  cases r1
  have hst : PO X (some (.UnaryOp .USub (.Constant (.int 1) k p1) p2)) (tPart (tUn (rU fun i => .int (-i)) (tC (.int 1)))) := po_some (pe_un un_neg pe_int)
  refine wpAny_Slice (thn (po_none.run pins s1 σ H1 (fun o H2 => o = none ∧ H2 = H1) I1 ⟨rfl, rfl⟩) fun vl s2 ⟨l, H2, I2, pl, el, e2⟩ => ?_)
  subst el e2
  refine thn (po_none.run pins s2 σ H2 (fun o H3 => o = none ∧ H3 = H2) I2 ⟨rfl, rfl⟩) fun vu s3 ⟨u, H3, I3, pu, eu, e3⟩ => ?_
  subst eu e3
  refine thn (hst.run pins s3 σ H3 (fun o H4 => o = some (-1) ∧ H4 = H3) I3 ⟨1, rfl, -1, rfl, rfl, rfl⟩) fun vs s4 ⟨o, H4, I4, ps, eo, e4⟩ => ?_
  subst eo e4
  cases pl
  cases pu
  have I5 : Inv X pins σ H4 { s4 with heap := s4.heap.push { cls := .type "slice", data := .fields #[.none, .none, vs] } } := I4.kept (t' := s4.toks) fun b ob q => Heap.get?_push_of_some _ q
  obtain ⟨its, r, ht, hz⟩ := I5.tuple hx
  have hlen := r.length
  show wpAny (model X.prog X.w) X.A (subscriptTail e (.Slice none none (some (.UnaryOp .USub (.Constant (.int 1) k p1) p2)) p3) (.ref a) (.ref s4.heap.objs.size)) (EP X pins σ Q) X.xe { s4 with heap := s4.heap.push { cls := .type "slice", data := .fields #[.none, .none, vs] } }
  refine tail_any (ops := [.ref a, .ref s4.heap.objs.size]) ht.typeIs (PyProof.Rows.slot_tuple_getitem.lookup) ?_ (by with_unfolding_all rfl)
  refine getItem_tuple_rev ht (Heap.IsSliceOf.new _ .none .none vs) ps ?_ (by rw [List.size_toArray]; omega)
  refine ⟨.ref _, _, I5.laid (t' := s4.toks) (o := .tup xs.reverse) (fun b ob q => Heap.get?_push_of_some _ q) (Nat.le_refl _) ?_, rfl, q _ (I5.hok.fresh (Nat.le_refl _))⟩
  exact ⟨by rw [List.length_reverse]; exact hz, _, r.reverse, IsTup.new _ _⟩
theorem pe_revE {S : Stat} {W : WX} {fa : Env' → Sto → Res TV} {a : Expr} {k : Nat} {p1 p2 p3 pos : Pos} (hK : X.K = S.K) (ha : PE X a (tE S fa W)) : PE X (.Subscript a (.Slice none none (some (.UnaryOp .USub (.Constant (.int 1) k p1) p2)) p3) pos) (tE S (fun ρ M => (fa ρ M).bind revK) W) :=
  PE.imp (pe_revT ha) fun σ H Q h => one h fun F1 H1 as1 M1 ta v _ _ s1 t1 w1 => by
    unfold revK at w1
    split at w1
    · rename_i xs hx
      obtain ⟨l, vs, e, h3, h4⟩ := (peek_ok s1 t1 hx).tuple s1.sub
      exact ⟨l, vs, e, by rw [hK]; exact h3, fun p hp => wp_tup s1 w1 (dpAll_rev h4) hp⟩
    · exact w1.elim
end
end Ev

/-! Xv1: exceptions as values: isinstance over the abstract heap. -/
namespace Ev
open PySem PySem.Spec PyProof.Rows L2
section
variable {X : Cx}
/-- isinstance(e, c), e an exception that stands in the heap -/
def rIsH (K : PySem.W.Frag) : List V → Hp → VK → Prop := fun xs H Q => ∃ (a D : Addr) (c : V) (cv : Value) (b : Bool), xs = [.ref a, c] ∧ H a = some (ExO (.ref D) a) ∧ ExcC K D ∧ (∀ u, RelV c u → u = cv) ∧ PySem.W.kitOne K (.ref D) cv = some b ∧ Q (.bl b) H
theorem call_isH : CallR X (.builtin "isinstance") (rIsH X.K) := by
  intro pins s σ H xs us Q I r h
  obtain ⟨a, D, c, cv, b, rfl, ha, C, hcv, e, q⟩ := h
  cases r with
  | cons rx rr =>
    cases rr with
    | cons rt rr =>
      cases rr
      cases rx
      have ec := hcv _ rt
      subst ec
      obtain ⟨⟨oe, vs, ho, hz, hd, h1, _⟩, _, _⟩ := I.hok a _ ha
      have J : PySem.W.InstAt s.heap a oe D none := by
        obtain ⟨oc, od, oda, osl⟩ := oe
        obtain ⟨z1, z2⟩ := hz
        dsimp only at z1 z2 hd
        subst z1 z2 hd
        exact ⟨ho, rfl, rfl, trivial⟩
      exact PySem.W.kia_one (PySem.W.handS_kitx_exc C.hg C.hk C.hs C.hd C.ha C.hn C.ht C.hm) I.kIn J e (fun z => nomatch z) fun tk => ⟨.bl b, H, I.kept (t' := tk) fun _ _ z => z, rfl, q⟩
/-- an exception of the class cls at a, whose arguments stand at t -/
def ExV (cls : Value) (t a : Addr) : HO := .ext fun h => h.get? a = some { cls := cls, data := .fields #[.ref t, .none, .none, .none, .bool false, .none] }
theorem exV_ok {P : Program} {w : World} {H : Hp} {h : Heap} {a t : Addr} {cls : Value} (e : h.get? a = some { cls := cls, data := .fields #[.ref t, .none, .none, .none, .bool false, .none] }) : ObjOk P w H h a (ExV cls t a) :=
  ⟨e, ⟨_, e⟩, fun _ _ q k => k _ q⟩
def rIsV (K : PySem.W.Frag) : List V → Hp → VK → Prop := fun xs H Q => ∃ (a t D : Addr) (c : V) (cv : Value) (b : Bool), xs = [.ref a, c] ∧ H a = some (ExV (.ref D) t a) ∧ L2.ExcC K D ∧ (∀ u, RelV c u → u = cv) ∧ PySem.W.kitOne K (.ref D) cv = some b ∧ Q (.bl b) H
theorem call_isV : CallR X (.builtin "isinstance") (rIsV X.K) := by
  intro pins s σ H xs us Q I r h
  obtain ⟨a, t, D, c, cv, b, rfl, ha, C, hcv, e, q⟩ := h
  cases r with
  | cons rx rr =>
    cases rr with
    | cons rt rr =>
      cases rr
      cases rx
      have ec := hcv _ rt
      subst ec
      obtain ⟨ho, _, _⟩ := I.hok a _ ha
      have J : PySem.W.InstAt s.heap a { cls := .ref D, data := .fields #[.ref t, .none, .none, .none, .bool false, .none] } D none := ⟨ho, rfl, rfl, trivial⟩
      exact PySem.W.kia_one (PySem.W.handS_kitx_exc C.hg C.hk C.hs C.hd C.ha C.hn C.ht C.hm) I.kIn J e (fun z => nomatch z) fun tk => ⟨.bl b, H, I.kept (t' := tk) fun _ _ z => z, rfl, q⟩
/-- str(e), e made with one text -/
def rStrV (K : PySem.W.Frag) : List V → Hp → VK → Prop := fun xs H Q => ∃ (a t D : Addr) (m : Str), xs = [.ref a] ∧ H a = some (ExV (.ref D) t a) ∧ SqT K H t [.str m] ∧ PySem.W.findIn K (.ref D) "__str__" = some (some (.builtin "BaseException.__str__")) ∧
  PySem.W.subIn K (.ref D) (.type "BaseException") = some true ∧ Q (.str m) H
theorem call_strV (hu : X.A.units + 2 < cLine) : CallR X (.type "str") (rStrV X.K) := by
  intro pins s σ H xs us Q I r h
  obtain ⟨a, t, D, m, rfl, ha, ht, h1, h2, q⟩ := h
  rw [Vals.ref1 r]
  obtain ⟨ho, _, _⟩ := I.hok a _ ha
  obtain ⟨its, rv, it, _⟩ := I.tuple ht
  cases rv with
  | cons r1 rr =>
    cases rr
    obtain ⟨tk, rfl⟩ := r1
    obtain ⟨ot, hto, htc, n, htd⟩ := it
    exact PySem.P.str_of_C_one (K := X.K) (C := D) (t0 := t) hu ⟨I.kIn, _, _, ho, rfl, rfl, rfl⟩ ⟨ot, n, hto, htc, htd⟩ h1 h2 ⟨.str m, H, I, ⟨_, rfl⟩, q⟩
end
end Ev

/-! Xv2: an exception made as a value, with one argument. -/
namespace Ev
open PySem PySem.Spec PyProof.Rows L2
section
variable {X : Cx} {pins : List (Addr × Obj)} {σ : L2.St} {H : Hp} {s : Shared}
theorem laid2 {h' : Heap} {a t : Addr} {o u : HO} {t' : Nat} (I : Inv X pins σ H s) (k : ∀ b u, s.heap.get? b = some u → h'.get? b = some u) (ha : s.heap.get? a = none) (ht : s.heap.get? t = none) (na : H a = none) (nt : H t = none) (hat : a ≠ t)
    (new1 : ObjOk X.prog X.w (upd H t u) h' t u) (new2 : ObjOk X.prog X.w (upd (upd H t u) a o) h' a o) : Inv X pins σ (upd (upd H t u) a o) { s with heap := h', toks := t' } := by
  have na2 : upd H t u a = none := by rw [upd_ne hat]; exact na
  refine I.un ?_ (HOk.laidN (HOk.laidN I.hok k nt new1) (fun _ _ q => q) na2 new2)
  exact {
    keep := fun b u q _ _ _ => k b u q
    slot := fun b u q _ _ _ => ⟨u.slots, k b u q⟩
    free := fun b u q n _ => by rw [upd_ne (fun z => by rw [z, ha] at q; cases q), upd_ne (fun z => by rw [z, ht] at q; cases q)]; exact n
    there := fun b u q _ => ⟨u, k b u q⟩
    tups := fun b xs q => by rw [upd_ne (ne_of_none q na), upd_ne (ne_of_none q nt)]; exact q
    frzs := fun b u xs q => by rw [upd_ne (ne_of_none q na), upd_ne (ne_of_none q nt)]; exact q
    tbls := fun b ps q => ⟨#[], by rw [upd_ne (ne_of_none q na), upd_ne (ne_of_none q nt), q]; simp⟩ }
theorem pe_excV {C : Addr} {bmB : List Value} {B newId initId : String} {x : Str} {e : Expr} {ta : TE} {p pos : Pos} (F : ExcBaseFacts B newId initId bmB) (q : PySem.W.excIn X.K C bmB newId = true) (gC : X.mg x = some (.ref C)) (kC : PySem.W.keepIn X.K (.ref C) = true) (hg : Gl X x)
    (he : PE X e ta) (hs : starEach [e] X.env = (false, eval e X.env) :: starEach [] X.env := by rfl) (hdb : (x == ("__debug__" : Str)) = false := by decide) :
    PE X (.Call (.Name x p) [e] [] pos) (fun σ H Q => ta σ H fun v H1 => ∀ a t, a ≠ t → H1 a = none → H1 t = none → Q (.ref a) (upd (upd H1 t (.tup [v])) a (ExV (.ref C) t a))) := by
  refine ⟨fun pins s σ H Q I h => ?_⟩
  refine wpAny_Call_Name_kw (ld_glob I hg gC ?_ hdb)
  refine PySem.W.callWith_K (h₀ := X.base) I.ok.mod.kin kC ?_ hs (by rfl)
  rw [hs]
  show wpAny _ _ (spliced ((false, eval e X.env) :: backTo pos (starEach [] X.env))) _ _ s
  refine Calls.spliced_cons (thn (he.run pins s σ H _ I h) fun u s1 ⟨v, H1, I1, r1, q1⟩ => ?_)
  refine Calls.spliced_nil ⟨I1.kIn, ?_⟩
  show wpAny _ _ (call (.ref C) [u]) _ _ _
  obtain ⟨bm, N, nm, qn, bs, hdct, sn, sub, ab, col, dd, k0, k1, k2, k3, k5, mN, hC, hN, hni, T⟩ := exc_obj I1.kIn q
  refine wpAny_call_exc_subT F T hC hN hni (fun h' a hm => ?_) (by show 1 ≤ sizeLine; rw [sizeLine_eq]; omega)
  have hn : H1 a = none := I1.hok.gone hm.new
  obtain ⟨t, ht, tn, tt⟩ := hm.there
  have hn2 : H1 t = none := I1.hok.gone tn
  have hat : a ≠ t := fun z => by
    rw [← z, ht] at tt
    injection tt with tt
    injection tt with _ _ tt
    cases tt
  refine ⟨.ref a, upd (upd H1 t (.tup [v])) a (ExV (.ref C) t a), laid2 I1 hm.keeps hm.new tn hn hn2 hat ?_ (exV_ok ht), rfl, q1 a t hat hn hn2⟩
  exact ⟨by show 1 ≤ sizeLine; rw [sizeLine_eq]; omega, [u], .cons r1 .nil, ⟨_, tt, rfl, _, rfl⟩⟩
end
end Ev

/-! Ob1: exceptions as data: which objects they are. -/
namespace PySem.W
open PySem PySem.Spec PySem.Calls PyProof.Rows
section
variable {prog : Program} {w : World} {A : Around} {E : Value → Shared → Prop} {s : Shared} {K : Frag} {x D : Addr} {ox : Obj} {od : Option Obj}
theorem ob_findObj {C : Addr} {name : Str} {a g : Value} (hc : (clsIn K C).isSome = true) (ha : findIn K (.ref C) name = some (some a)) (hg : specialIn K a "__get__" = some (some g)) (ht : takesIn K a = some true) : findObj K C od name = some (.bind g a) := by
  obtain ⟨cd, hc⟩ := Option.isSome_iff_exists.mp hc
  unfold findObj
  rw [hc, Option.bind_some, ha, Option.bind_some]
  simp [hg, ht]
theorem ob_classE {Q : Option Value → Shared → Prop} (C : L2.ExcC K D) (X : K.In s.heap) (I : InstAt s.heap x ox D od) (h : Q (some (.ref D)) { s with toks := s.toks + 1 }) : wpAny (model prog w) A (getAttr? (.ref x) "__class__") Q E s := by
  have hf : findObj K D od "__class__" = some (.bind (.builtin "getset_descriptor.__get__") (.builtin "object.__class__")) := ob_findObj (by obtain ⟨cd, hc, _⟩ := any_some C.hd; rw [hc]; rfl) C.ha C.hn C.ht
  obtain ⟨hp, g, d, t, os⟩ := s
  have L0 := I.type (M := model prog w)
  have L1 := looks_findIn (M := model prog w) X C.hg
  have L2 := looks_findIn (M := model prog w) X C.hk
  have L3 := looks_find (M := model prog w) X I hf
  have sub : Looks (model prog w) hp (isInstance (.ref x) (.type "BaseException")) true := L0.andThen (looks_subIn X C.hs)
  have hx0 : (false && onTheHeap (Value.builtin "BaseException.__getattribute__")) = false := rfl
  have hx2 : (Value.builtin "BaseException.__getattribute__" == Value.builtin "object.__getattribute__") = false := by decide +kernel
  have hx1 : (onTheHeap (Value.ref D) && Value.builtin "BaseException.__getattribute__" == Value.builtin "object.__getattribute__") = false := by rw [hx2]; rfl
  unfold getAttr? getAttrBy? getAttrBy
  refine wpAny_bind (wpAny_mkText (wpAny_bind (wpAny_attempt (wpAny_holding (wpAny_bind (L0.at (wpAny_bind (L1.at ?_))))))))
  show wpAny _ _ (if (onTheHeap (Value.ref D) && Value.builtin "BaseException.__getattribute__" == Value.builtin "object.__getattribute__") = true then _ else _) _ _ _
  rw [hx1, if_neg Bool.false_ne_true]
  unfold getAttrByItsOwn hookBefore
  refine wpAny_bind ?_
  rw [if_pos (show onTheHeap (Value.ref D) = true from rfl)]
  refine L2.at ?_
  refine wpAny_bind (wpAny_attempt (wpAny_holding ?_))
  unfold callGetattribute
  rw [hx0, if_neg Bool.false_ne_true]
  unfold boundAndCalled
  rw [PySem.F.excAttr_ValueError.ga.bind (.ref x)]
  refine wpAny_bind (wpAny_pure ?_)
  show wpAny _ _ (call (.builtin "BaseException.__getattribute__") [.ref x, .str "__class__" t]) _ _ _
  refine wpAny_call (codeAny_call_builtin PySem.F.excAttr_ValueError.ga.plain PySem.F.entry_bexc_ga ?_)
  refine @check_slot (model prog w) _ _ ⟨hp, g, d, t + 1, os⟩ "BaseException.__getattribute__" "BaseException" "__getattribute__" (.ref x) [.str "__class__" t] [] _ (by decide +kernel) (by decide +kernel) sub (PySem.F.args_bexc_ga (.ref x) (.str "__class__" t)) ?_
  unfold Builtin.«object.__getattribute__»
  refine wpAny_bind (wpAny_of_eq (a := ((Value.ref x : Value), [Value.str "__class__" t])) (by first | rfl | (simp only [slotArgs]; rfl)) ?_)
  refine wpAny_bind (wpAny_pure (wpAny_bind (L0.at (wpAny_bind (L3.at ?_)))))
  show wpAny _ _ (holding [Value.builtin "object.__class__"] (call (.builtin "getset_descriptor.__get__") [.builtin "object.__class__", .ref x, .ref D]) >>= ret) _ _ _
  refine wpAny_bind (wpAny_holding (wpAny_call (class_get (s := ⟨hp, g, d, t + 1, os⟩) (ox := ox) (od := od) X I C.hm ?_)))
  refine wpAny_pure ?_
  show wpAny _ _ (handedOut (.ref D)) _ _ _
  rw [handedOut_of (v := .ref D) rfl]
  first
    | exact wpAny_pure (wpAny_pure h)
    | exact wpAny_pure h
    | exact wpAny_pure (wpAny_bind (wpAny_pure (wpAny_pure h)))
theorem ob_kitx (C : L2.ExcC K D) : KitX K (.ref x) (.ref D) (fun h => InstAt h x ox D od) where
  ty := fun _ _ _ I => I.type
  it := fun _ _ X _ => by
    obtain ⟨cdD, hcD, _⟩ := any_some C.hd
    unfold clsIn at hcD
    split at hcD
    · rename_i c' d' cd' sl' ho
      intro A' Q' E' s' k q
      unfold isType loadHead
      exact wpAny_bind (wpAny_loadPart (k _ _ (X _ _ ho)) (wpAny_pure q))
    · cases hcD
  ne := fun h tp dd its n sl X htp => by
    obtain ⟨cdD, hcD, _⟩ := any_some C.hd
    refine Bool.eq_false_iff.mpr fun q => ?_
    have e : D = tp := Value.ref.inj (beq_iff_eq.mp q)
    subst e
    unfold clsIn at hcD
    split at hcD
    · rename_i c' d' cd' sl' ho
      have z := (X _ _ ho).symm.trans htp
      cases z
    · cases hcD
  ca := fun X I k => ob_classE C X I k
end
end PySem.W
namespace Ev
open PySem PySem.Spec PyProof.Rows L2
/-- what the written part says of an exception's class -/
structure ExFact (K : PySem.W.Frag) (C : Addr) : Prop where
  c : L2.ExcC K C
  no : ∀ T : String, (T = "int" ∨ T = "bool" ∨ T = "tuple" ∨ T = "str" ∨ T = "list") → PySem.W.kitOne K (.ref C) (.type T) = some false
  st : PySem.W.findIn K (.ref C) "__str__" = some (some (.builtin "BaseException.__str__"))
  li : PySem.W.findIn K (.ref C) "limit" = some none
/-- an exception of class k, made with one text, or with a limit -/
def ExR (K : PySem.W.Frag) (cx : Nat → Addr) (ok : Nat → Bool) (F : Hp) (v : V) (kvs : List (PyData × PyData)) : Prop :=
  ∃ (k : Nat) (a : Addr), v = .ref a ∧ (ok k = true ∧ ExFact K (cx k)) ∧ ((∃ t m, kvs = exk k (.str m) ∧ F a = some (ExV (.ref (cx k)) t a) ∧ SqT K F t [.str m]) ∨
    ∃ d n, kvs = exk k (.int n) ∧ F a = some (exo a (cx k) (some d)) ∧ F d = some (exd d [("limit", .int n)]))
theorem sqT_up {K : PySem.W.Frag} {F H : Hp} {a : Addr} {xs : List V} (sub : ∀ b o, F b = some o → H b = some o) (h1 : SqT K F a xs) : SqT K H a xs := by
  rcases h1 with (h | ⟨o, h⟩) | h
  · exact .inl (.inl (sub _ _ h))
  · exact .inl (.inr ⟨o, sub _ _ h⟩)
  · exact .inr h
theorem ExR.mono {K : PySem.W.Frag} {cx : Nat → Addr} {ok : Nat → Bool} {F F' : Hp} (k : ∀ b o, F b = some o → F' b = some o) (v : V) (kvs : List (PyData × PyData)) (h : ExR K cx ok F v kvs) : ExR K cx ok F' v kvs := by
  obtain ⟨n, a, e, c, h | h⟩ := h
  · obtain ⟨t, m, e1, e2, e3⟩ := h
    exact ⟨n, a, e, c, .inl ⟨t, m, e1, k _ _ e2, sqT_up k e3⟩⟩
  · obtain ⟨d, m, e1, e2, e3⟩ := h
    exact ⟨n, a, e, c, .inr ⟨d, m, e1, k _ _ e2, k _ _ e3⟩⟩
section
variable {X : Cx} {pins : List (Addr × Obj)} {s : Shared} {σ : L2.St} {H : Hp}
/-- it stands in the heap as an object of its class -/
theorem exV_inst {a t D : Addr} (I : Inv X pins σ H s) (h : H a = some (ExV (.ref D) t a)) : ∃ ox, PySem.W.InstAt s.heap a ox D none := by
  obtain ⟨ho, _, _⟩ := I.hok a _ h
  exact ⟨{ cls := .ref D, data := .fields #[.ref t, .none, .none, .none, .bool false, .none] }, ho, rfl, rfl, trivial⟩
theorem exO_inst {a d D : Addr} {fs : List (Str × V)} (I : Inv X pins σ H s) (h : H a = some (exo a D (some d))) (hd : H d = some (exd d fs)) : ∃ ox oD mA, PySem.W.InstAt s.heap a ox D (some oD) ∧ s.heap.get? d = some oD ∧ s.heap.Ns1 d mA ∧ ∀ f, RelO (fs.lookup f) (mA f) := by
  obtain ⟨t1, ho⟩ := exo_at I.hok h
  obtain ⟨mA, hns, rel⟩ := exd_at I.hok hd
  obtain ⟨oD, _, _, hoD, _, _⟩ := hns.count (within_of rel)
  exact ⟨{ cls := .ref D, dict := some d, data := .fields #[.ref t1, .none, .none, .none, .bool false, .none] }, oD, mA, ⟨ho, rfl, rfl, hoD⟩, hoD, hns, rel⟩
theorem ex_isi {u : Value} {v : V} {k : Nat} {x : PyData} {cx : Nat → Addr} {ok : Nat → Bool} {c : Value} {b : Bool} {Q : VK} (I : Inv X pins σ H s) (h : ExR X.K cx ok H v (exk k x)) (ru : RelV v u) (hb : PySem.W.kitOne X.K (.ref (cx k)) c = some b) (q : Q (.bl b) H) :
    wpAny (model X.prog X.w) X.A (call (.builtin "isinstance") [u, c]) (EP X pins σ Q) X.xe s := by
  obtain ⟨n, a, e, ⟨_, C⟩, h⟩ := h
  subst e
  obtain rfl : u = Value.ref a := ru
  have ek : ∀ y : PyData, exk k x = exk n y → k = n := fun y e => by
    have e := List.cons.inj e
    have e := (Prod.mk.inj e.1).1
    have e := PyData.int.inj e
    omega
  rcases h with ⟨t, m, e1, e2, e3⟩ | ⟨d, m, e1, e2, e3⟩
  · obtain rfl := ek _ e1
    obtain ⟨ox, J⟩ := exV_inst I e2
    exact PySem.W.kia_one (PySem.W.ob_kitx C.c) I.kIn J hb (fun z => nomatch z) fun tk => ⟨.bl b, H, I.kept (t' := tk) fun _ _ z => z, rfl, q⟩
  · obtain rfl := ek _ e1
    obtain ⟨ox, oD, mA, J, _⟩ := exO_inst I e2 e3
    exact PySem.W.kia_one (PySem.W.ob_kitx C.c) I.kIn J hb (fun z => nomatch z) fun tk => ⟨.bl b, H, I.kept (t' := tk) fun _ _ z => z, rfl, q⟩
end
theorem ExR.key {K : PySem.W.Frag} {cx : Nat → Addr} {ok : Nat → Bool} {F : Hp} {v : V} {kvs : List (PyData × PyData)} (h : ExR K cx ok F v kvs) : ∃ k x, kvs = exk k x ∧ ok k = true ∧ ExFact K (cx k) := by
  obtain ⟨n, a, e, c, ⟨t, m, e1, _⟩ | ⟨d, m, e1, _⟩⟩ := h
  · exact ⟨n, _, e1, c⟩
  · exact ⟨n, _, e1, c⟩
theorem exk_inj {k n : Nat} {x y : PyData} (e : exk k x = exk n y) : k = n ∧ x = y := by
  have e := (List.cons.inj e).1
  have e1 := PyData.int.inj (Prod.mk.inj e).1
  exact ⟨by omega, (Prod.mk.inj e).2⟩
def koEx (K : PySem.W.Frag) (cx : Nat → Addr) (ok : Nat → Bool) : KO where
  fr := K
  ob := ExR K cx ok
  mono := fun k v kvs h => ExR.mono k v kvs h
  rf := fun h => by
    obtain ⟨_, a, e, _⟩ := h
    exact ⟨a, e⟩
  isi := fun sub h X pins s σ u T Q hK I ru hT q => by
    subst hK
    obtain ⟨k, x, rfl, _, C⟩ := h.key
    exact ex_isi I (h.mono sub) ru (C.no T hT) q
end Ev

/-! Xv3: an exception with its own __init__, made as a value. -/
namespace Ev
open PySem PySem.Spec PyProof.Rows L2
section
variable {prog : Program} {w : World} {A : Around} {E : Value → Shared → Prop} {s : Shared} {env : Env}
/-- a call by o.name(..), the callee's tree first -/
theorem wp_methodCall {o : Expr} {name : Str} {apos pos : Pos} {args : List Expr} {Q : Value → Shared → Prop}
    (hbase : attributeBase o name env (eval o env) = eval o env)
    (hfew : ((backTo pos (starEach args env)).all (fun x => !x.1) && (backToKw pos (keywordEach [] env)).all (fun x => x.1.isSome)
      && decide (args.length + ([] : List Keyword).length + (if ([] : List Keyword).isEmpty then 0 else 1) < 30)) = true)
    (hline : (apos.endLine == pos.line) = true)
    (h : wpAny (model prog w) A (eval o env) (fun ov s₁ => wpAny (model prog w) A (getMethod ov name (do return (← importBound o env).getD true)) (fun fx s₂ => wpAny (model prog w) A (callWith pos fx.1 fx.2 (backTo pos (starEach args env)) []) Q E s₂) E s₁) E s) :
    wpAny (model prog w) A (eval (.Call (.Attribute o name apos) args [] pos) env) Q E s := by
  rw [arm_eval_Call, hbase]
  refine wpAny_bind (wpAny_mono h (fun ov s₁ h₁ => ?_) fun _ _ e => e)
  refine wpAny_bind (wpAny_standAt ?_)
  have hform : methodCallForm (args.length + ([] : List Keyword).length) (backTo pos (starEach args env)) (backToKw pos (keywordEach [] env)) = true := hfew
  have hpos : methodCallPos true o env apos pos = pure pos := by unfold methodCallPos; simp [hline]
  unfold methodCall calleeOf
  rw [hform, if_pos rfl]
  refine wpAny_bind (wpAny_holding (wpAny_mono h₁ (fun fx s₂ h₂ => ?_) fun _ _ e => e))
  exact wpAny_bind (wpAny_of_eq hpos h₂)
end
/-- what the written part says of the base, of which __init__ is called -/
structure BaseI (K : PySem.W.Frag) (T : Addr) (mc : Value) : Prop where
  sp : PySem.W.specialIn K (.ref T) "__getattribute__" = some (some (.builtin "type.__getattribute__"))
  rd : PySem.W.readsIn K T mc = true
  at_ : PySem.W.findCls K (.ref T) mc "__init__" = some (.val (.builtin "ValueError.__init__"))
section
variable {X : Cx} {e : Expr} {es : List Expr} {ta : TA} {p1 p2 pos : Pos}
/-- Base.__init__(self, ..) -/
theorem pe_teinit {x : Str} {T : Addr} {mc : Value} (hg : Gl X x) (hm : X.mg x = some (.ref T)) (B : BaseI X.K T mc) (ha : PA X (e :: es) ta) (hdb : (x == ("__debug__" : Str)) = false) (hline : (p2.endLine == pos.line) = true)
    (hfew : ((backTo pos (starEach (e :: es) X.env)).all (fun x => !x.1) && (backToKw pos (keywordEach [] X.env)).all (fun x => x.1.isSome)
      && decide ((e :: es).length + ([] : List Keyword).length + (if ([] : List Keyword).isEmpty then 0 else 1) < 30)) = true := by rfl)
    (he : starEach (e :: es) X.env = (false, eval e X.env) :: starEach es X.env := by rfl) (hpl : (backTo pos (starEach es X.env)).any (·.1) = false := by rfl) :
    PE X (.Call (.Attribute (.Name x p1) "__init__" p2) (e :: es) [] pos) (tVeI X.K ta) := by
  refine ⟨fun pins s σ H Q I h => ?_⟩
  refine wp_methodCall (by rfl) hfew hline (ld_glob I hg hm ?_ hdb)
  refine PySem.W.method_cls I.kIn B.sp (PySem.W.cls_value I.kIn B.rd B.at_ (by decide +kernel) ?_)
  show wpAny _ _ (callWith pos (Value.builtin "ValueError.__init__") [] (backTo pos (starEach (e :: es) X.env)) []) _ _ _
  refine PyProof.Rows.callWith_method1 (thn (ha.run pos pins _ σ H _ (I.tok _) h) fun us s1 ⟨vs, H1, I1, r1, a, C, ws, ev, hl, T, ea, q⟩ => ?_) he hpl
  subst ev
  cases r1 with
  | @cons _ u0 _ ur ra rw' =>
    obtain rfl : u0 = Value.ref a := ra
    have hlen : ur.length ≤ sizeLine := by
      rw [← Paired.length rw', sizeLine_eq]
      omega
    exact oinit_ok T I1 ea hlen fun s' J => ⟨.non, H1, J, rfl, q⟩
/-- C(e, ..), C's own __init__ keeping sp: the exception is a value -/
def tMkV (C : Addr) (sp : Sp) (ta : TA) : TE := fun σ H Q => ta σ H fun vs H1 => vs.length ≤ 1000 ∧ ∀ a, H1 a = none → sp (.ref a :: vs) (upd H1 a (exo a C none))
  (fun v H2 => v = .non ∧ Q (.ref a) H2) (fun _ _ _ => False)
theorem pe_oexV {CX : CXT} {x : Str} {C fI : Addr} {k : Nat} {fd : FuncData} {ps : List Str} {sp : Sp} {p : Pos} (T : OexC X.K C) (iC : PySem.W.findIn X.K (.ref C) "__init__" = some (some (.ref fI))) (tI : PySem.W.typeIn X.K (.ref fI) = some (.type "function"))
    (F1 : FnOk X.prog X.w X.K X.mg X.base CX k fI fd ps sp) (hr : Room (k + 1) X.A) (hb : Binds X.K fd ps []) (hx : ∀ σ, PassesAt CX X σ (fun _ _ _ => False)) (hg : Gl X x) (hm : X.mg x = some (.ref C)) (ha : PA X (e :: es) ta)
    (hdb : (x == ("__debug__" : Str)) = false) (he : starEach (e :: es) X.env = (false, eval e X.env) :: starEach es X.env := by rfl) (hpl : (backTo pos (starEach es X.env)).any (·.1) = false := by rfl) :
    PE X (.Call (.Name x p) (e :: es) [] pos) (tMkV C sp ta) := by
  refine ⟨fun pins s σ H Q I h => ?_⟩
  obtain ⟨nm, q, N, bs, bm, sn, sub, ab, col, dd, k0, k1, k2, k3, k5, hC, hbm⟩ := T.cls
  refine wpAny_Call_Name_kw (ld_glob I hg hm ?_ hdb)
  refine PySem.W.callWith_K (h₀ := X.base) I.ok.mod.kin T.kC (thn (ha.run pos pins s σ H _ I h) fun us s1 ⟨vs, H1, I1, r1, hz, q1⟩ => ⟨I1.kIn, ?_⟩) he hpl
  show wpAny _ _ (call (.ref C) us) _ _ _
  obtain ⟨hp, g, dr, tk, os⟩ := s1
  have hsz : hp.objs.size ≤ hp.objs.size + 1 := Nat.le_succ _
  have hn : H1 (hp.objs.size + 1) = none := I1.hok.fresh hsz
  have hq := q1 (hp.objs.size + 1) hn
  have kk : ∀ b o, hp.get? b = some o → ((hp.push (PySem.W.kdv_tup us)).push (PySem.HandSPX.excO C hp.objs.size)).get? b = some o := fun b o e => Heap.get?_push_of_some _ (Heap.get?_push_of_some _ e)
  have hget : ((hp.push (PySem.W.kdv_tup us)).push (PySem.HandSPX.excO C hp.objs.size)).get? (hp.objs.size + 1) = some (PySem.HandSPX.excO C hp.objs.size) := by heap_get
  have I2 : Inv X pins σ (upd H1 (hp.objs.size + 1) (exo (hp.objs.size + 1) C none)) ⟨(hp.push (PySem.W.kdv_tup us)).push (PySem.HandSPX.excO C hp.objs.size), g, dr, tk, os⟩ :=
    I1.laid (t' := tk) (a := hp.objs.size + 1) (o := exo (hp.objs.size + 1) C none) (h' := (hp.push (PySem.W.kdv_tup us)).push (PySem.HandSPX.excO C hp.objs.size)) kk hsz (exo_ok hget)
  have r2 : Vals (V.ref (hp.objs.size + 1) :: vs) (Value.ref (hp.objs.size + 1) :: us) := .cons rfl r1
  have hl : (Value.ref (hp.objs.size + 1) :: us).length = ps.length := by
    have e := r2.length
    rw [F1.len _ _ _ _ hq] at e
    exact e.symm
  have hus : us.length ≤ sizeLine := by
    rw [← Paired.length r1, sizeLine_eq]
    omega
  refine wpAny_call (PySem.HandSPX.call_own F.excBase_ValueError (fun Y => PySem.HandSPX.refsVE_contains Y bm hbm) (I1.kIn _ _ hC) (PySem.W.looks_findIn I1.kIn iC) (fun self => PySem.W.bind_fn I1.kIn self tI) hus
    (codeAny_mono (F1.run _ X.stack _ _ ⟨Value.ref (hp.objs.size + 1) :: us, []⟩ (Value.ref (hp.objs.size + 1) :: us) _ _ (fun _ _ _ => False) (hr.make C us []) (I2.env0.make C us []) (by
      have := hb _ (Value.ref (hp.objs.size + 1) :: us) I2.kIn (by rw [List.append_nil]; exact hl)
      rw [List.append_nil] at this
      exact this) r2 hq) fun r s' hq' => ?_))
  cases r with
  | error er => exact hx σ pins _ _ er s' I2 hq'
  | ok fl =>
    cases fl with
    | ret u =>
      have J := I2.after hq'
      obtain ⟨v, H2, I3, rv, ev, q2⟩ := J
      subst ev
      exact ⟨rv, .ref (hp.objs.size + 1), H2, I3, rfl, q2⟩
    | next => exact False.elim hq'
    | brk => exact False.elim hq'
    | cont => exact False.elim hq'
end
end Ev

/-! Xv4: the __init__ of the class that has a limit. -/
namespace Ev
open PySem PySem.Spec PyProof.Rows L2
theorem small_text : ∀ n : Fin 128, (toString (n.val : Int) : Str).length ≤ 100 := by decide +kernel
theorem text_len {n : Int} (h : 0 ≤ n ∧ n < 128) : (toString n : Str).length ≤ 100 := by
  obtain ⟨k, rfl⟩ := Int.eq_ofNat_of_zero_le h.1
  exact small_text ⟨k, by omega⟩
/-- what the __init__ does -/
def spInit (K : PySem.W.Frag) (C : Addr) : Sp := fun vs H Q _ => ∃ (a : Addr) (n : Int), vs = [.ref a, .int n] ∧ (0 ≤ n ∧ n < 128) ∧ OexC K C ∧ PySem.W.findIn K (.ref C) "limit" = some none ∧ H a = some (exo a C none) ∧
  ∀ dx, H dx = none → dx ≠ a → Q .non (upd (upd H dx (exd dx [("limit", .int n)])) a (exo a C (some dx)))
/-- its text -/
def initB (sc : Scope) : List Stmt → Bool
  | [.Expr (.Call (.Attribute (.Name te _) im pa) [.Name s1 _, .BinOp (.Constant (.str _) _ _) .Add (.Call (.Name st _) [.Name l1 _] [] _) _] [] pe) _, .Assign [.Attribute (.Name s2 _) f _] (.Name l2 _) _] =>
    (pa.endLine == pe.line) && (te == ("TermError" : Str)) && (im == ("__init__" : Str)) && (s1 == ("self" : Str)) && (st == ("str" : Str)) && (l1 == ("limit" : Str)) && (s2 == ("self" : Str)) && (f == ("limit" : Str)) && (l2 == ("limit" : Str)) &&
      (sc.names.lookup ("TermError" : Str) == some .globalImplicit) && (sc.names.lookup ("str" : Str) == some .globalImplicit) && (sc.names.lookup ("self" : Str) == some .local) && (sc.names.lookup ("limit" : Str) == some .local)
  | _ => false
def strLen : List Stmt → Nat
  | .Expr (.Call _ [_, .BinOp (.Constant (.str z) _ _) _ _ _] _ _) _ :: _ => z.length
  | _ => 0
theorem init_ok {P : Program} {w : World} {K : PySem.W.Frag} {mg : Str → Option Value} {base : Heap} {CX : CXT} {params : Arguments} {body : List Stmt} {scope : Scope} {fI C T : Addr} {mc : Value} {fd : FuncData} (F : FunD K "__init__" "TooMany.__init__" params body scope [] [] fI fd)
    (g4 : FnScope ["self", "limit"] ["self", "limit"] scope) (hb : initB scope body = true) (hl : strLen body ≤ 1000) (hT : mg "TermError" = some (.ref T)) (hS : mg "str" = none) (B : BaseI K T mc) : FnOk P w K mg base CX 1 fI fd ["self", "limit"] (spInit K C) := by
  refine F.ok (k := 0) g4 (fun vs H Q E q => by obtain ⟨a, n, rfl, _⟩ := q; rfl) fun cdv A outer s H vs Q E hr hsp => ?_
  obtain ⟨a, n, rfl, hn, oc, hf, ha, q⟩ := hsp
  unfold initB at hb
  split at hb
  · rename_i te pt im pa s1 p1 z j pz st ps l1 pl pc pb pe ppe s2 p2 f pf l2 pl2 pas
    simp only [Bool.and_eq_true, beq_iff_eq] at hb
    obtain ⟨⟨⟨⟨⟨⟨⟨⟨⟨⟨⟨⟨hln, rfl⟩, rfl⟩, rfl⟩, rfl⟩, rfl⟩, rfl⟩, rfl⟩, rfl⟩, n1⟩, n2⟩, n3⟩, n4⟩ := hb
    have hz : z.length ≤ 1000 := hl
    have selfV : ∀ pos, PE (cxOf CX P w K mg base ["self", "limit"] "TooMany.__init__" scope fI cdv A outer s H E) (.Name "self" pos) (tVar 0) := fun pos => pe_var rfl (.inl n3) (by decide +kernel) (by decide +kernel)
    have limV : ∀ pos, PE (cxOf CX P w K mg base ["self", "limit"] "TooMany.__init__" scope fI cdv A outer s H E) (.Name "limit" pos) (tVar 1) := fun pos => pe_var rfl (.inl n4) (by decide +kernel) (by decide +kernel)
    refine ⟨_, pss_cons (ps_expr (pe_teinit (T := T) (mc := mc) n1 hT B (pa_cons (selfV _) (pa_cons (pe_op op_add_str pe_str (pe_callTy call_str_int n2 hS (by decide +kernel) (pa_cons (limV _) pa_nil) (by decide +kernel) (by decide +kernel))) pa_nil)) (by decide +kernel) (beq_iff_eq.mpr hln)))
      (pss_one (ps_ost (selfV _) (limV _))), ?_⟩
    refine ⟨.ref a, rfl, .int n, rfl, n, rfl, ?_, z, toString n, rfl, rfl, ?_, a, C, [.str (z ++ toString n)], rfl, by simp, oc, ha, ?_⟩
    · have : n.natAbs < 128 := by omega
      by_cases h0 : n.natAbs = 0
      · rw [h0]; decide
      · have := (Nat.log2_lt h0).mpr (show n.natAbs < 2 ^ 7 from this)
        omega
    · have := text_len hn
      rw [sizeLine_eq]
      omega
    · exact ⟨.int n, rfl, .ref a, rfl, a, C, rfl, oc, hf, .inl ⟨ha, fun dx h1 h2 => q dx h1 h2⟩⟩
  · cases hb
end Ev

/-! Ob2: errors as values: the rules. -/
namespace Ev
open PySem PySem.Spec PyProof.Rows L2
theorem nt_exv {cls : Value} {t a : Addr} : ∀ ps, ExV cls t a ≠ .tbl ps := fun ps z => by
  have z' : HO.ext _ = HO.tbl ps := z
  cases z'
theorem nt_exo {e C : Addr} {d : Option Addr} : ∀ ps, exo e C d ≠ .tbl ps := fun ps => exo_tbl
theorem nt_exd {d : Addr} {fs : List (Str × V)} : ∀ ps, exd d fs ≠ .tbl ps := fun ps z => by
  have z' : HO.ext _ = HO.tbl ps := z
  cases z'
theorem objOf_some {x y : PyData} {k : Nat} (h : objOf x = some (k, y)) : x = .dict (exk k y) := by
  unfold objOf at h
  split at h
  · cases h; rfl
  · cases h
section
variable {S : Stat} {F H : Hp} {as : AS} {M : Sto}
theorem two_new (s : Sr S F H as M) {a t : Addr} {o u : HO} (hat : a ≠ t) (na : H a = none) (nt : H t = none) (no : ∀ ps, o ≠ .tbl ps) (nu : ∀ ps, u ≠ .tbl ps) :
    Nxt F H as (upd (upd F t u) a o) (upd (upd H t u) a o) as ∧ Sr S (upd (upd F t u) a o) (upd (upd H t u) a o) as M := by
  have nF := s.none_of nt
  have n1 : Nxt F H as (upd F t u) (upd H t u) as := (nxt_upd nt).freeze (.inl nt) nF
  have s1 : Sr S (upd F t u) (upd H t u) as M := (s.upd nt).freeze upd_same nu nF (s.not_as nt)
  have na1 : upd H t u a = none := by rw [upd_ne hat]; exact na
  have nF1 := s1.none_of na1
  exact ⟨n1.trans ((nxt_upd na1).freeze (.inl na1) nF1), (s1.upd na1).freeze upd_same no nF1 (s1.not_as na1)⟩
/-- such a value, looked at -/
theorem pk_obj {v : V} {k : Nat} {y : PyData} {ok : Nat → Bool} (hob : ∀ F v kvs, S.K.ob F v kvs → ExR S.K.fr S.cx ok F v kvs) (h : Pk S.K F H v (.dict (exk k y))) : ExR S.K.fr S.cx ok F v (exk k y) := by
  rcases h with h | ⟨_, _, _, e, _⟩
  · cases h with
    | obj z => exact hob _ _ _ z
  · cases e
end
section
variable {X : Cx} {S : Stat} {W : WX} {a : Expr} {fa : Env' → Sto → Res TV} {p p2 pos : Pos} {ok : Nat → Bool}
theorem pe_excE {k : Nat} {x : Str} (hob : ∀ F v kvs, ExR S.K.fr S.cx ok F v kvs → S.K.ob F v kvs) (hk : ok k = true) (E : ExFact S.K.fr (S.cx k)) {B nI iI : String} {bm : List Value} (g1 : ExcBaseFacts B nI iI bm) (g2 : PySem.W.excIn S.K (S.cx k) bm nI = true)
    (g3 : S.mg x = some (.ref (S.cx k))) (g4 : PySem.W.keepIn S.K (.ref (S.cx k)) = true) (hK : X.K = S.K) (hmg : X.mg = S.mg) (hg : Gl X x) (hdb : (x == ("__debug__" : Str)) = false) (hst : notStar a = true) (ha : PE X a (tE S fa W)) :
    PE X (.Call (.Name x p) [a] [] pos) (tE S (fun ρ M => (fa ρ M).bind (excK k)) W) := by
  refine PE.imp (pe_excV g1 (by rw [hK]; exact g2) (by rw [hmg]; exact g3) (by rw [hK]; exact g4) hg ha (star_of hst) hdb) fun σ H Q h => one h fun F1 H1 as1 M1 ta v _ _ s1 t1 w1 => ?_
  unfold excK at w1
  split at w1
  · rename_i m hx
    have ev := (peek_ok s1 t1 hx).str
    subst ev
    intro c t hct nc nt
    obtain ⟨nx, sr⟩ := two_new s1 hct nc nt (o := ExV (.ref (S.cx k)) t c) (u := .tup [.str m]) nt_exv (nt_tup _)
    exact w1 (.ref c) _ _ as1 nx sr (Dp.obj (hob _ _ _ ⟨k, c, rfl, ⟨hk, E⟩, .inl ⟨t, m, rfl, upd_same, SqT.of (by rw [upd_ne (Ne.symm hct), upd_same])⟩⟩))
  · exact w1.elim
theorem call_isx {cx : Nat → Addr} : CallR X (.builtin "isinstance") (fun vs H Q => ∃ v c cv k x b, vs = [v, c] ∧ ExR X.K cx ok H v (exk k x) ∧ (∀ u, RelV c u → u = cv) ∧ PySem.W.kitOne X.K (.ref (cx k)) cv = some b ∧ Q (.bl b) H) := by
  intro pins s σ H vs us Q I r h
  obtain ⟨v, c, cv, k, x, b, rfl, e, hc, hb, q⟩ := h
  obtain ⟨u, u2, rfl, ru, r2⟩ := vals2 r
  have e2 := hc _ r2
  subst e2
  exact ex_isi I e ru hb q
theorem pe_isxE {j : Nat} {nm : Str} {cv : Value} {cV : V} (hob : ∀ F v kvs, S.K.ob F v kvs → ExR S.K.fr S.cx ok F v kvs) (hcv : ∀ u, RelV cV u → u = cv) (hc : PE X (.Name nm p2) (tC cV)) (hkit : ∀ k, ok k = true → PySem.W.kitOne S.K.fr (.ref (S.cx k)) cv = some (exSub k j))
    (hK : X.K = S.K) (hg : Gl X "isinstance") (hm : X.mg "isinstance" = none) (hst : notStar a = true) (ha : PE X a (tE S fa W)) :
    PE X (.Call (.Name "isinstance" p) [a, .Name nm p2] [] pos) (tE S (fun ρ M => (fa ρ M).bind (isxK j)) W) := by
  have r := pe_callB (pos := pos) (p := p) (call_isx (X := X) (cx := S.cx) (ok := ok)) hg hm isi_ok (pa_cons ha (pa_cons hc pa_nil rfl) (star_of hst)) (by decide +kernel) (by decide +kernel) (star_of hst) (by rfl)
  refine PE.imp r fun σ H Q h => one h fun F1 H1 as1 M1 ta v _ _ s1 t1 w1 => ?_
  unfold isxK at w1
  cases hx : (peek M1 ta).bind objOf with
  | none => rw [hx] at w1; exact w1.elim
  | some q =>
    obtain ⟨k, y⟩ := q
    rw [hx] at w1
    obtain ⟨x, h1, h2⟩ := Option.bind_eq_some_iff.mp hx
    rw [objOf_some h2] at h1
    have er := pk_obj hob (peek_ok s1 t1 h1)
    obtain ⟨k', x', e, okk, _⟩ := er.key
    obtain ⟨rfl, _⟩ := exk_inj e
    exact ⟨v, cV, cv, k, y, exSub k j, rfl, by rw [hK]; exact er.mono s1.sub, hcv, by rw [hK]; exact hkit k okk, wp_d s1 w1 (.bl _)⟩
theorem pe_strxE (hob : ∀ F v kvs, S.K.ob F v kvs → ExR S.K.fr S.cx ok F v kvs) (hK : X.K = S.K) (hu : X.A.units + 64 < cLine) (hg : Gl X "str") (hm : X.mg "str" = none) (hst : notStar a = true) (ha : PE X a (tE S fa W)) :
    PE X (.Call (.Name "str" p) [a] [] pos) (tE S (fun ρ M => (fa ρ M).bind strxK) W) := by
  have r := pe_callTy (pos := pos) (p := p) (call_strV (X := X) (by omega)) hg hm (by decide +kernel) (pa_cons ha pa_nil (star_of hst)) (by decide +kernel) (by decide +kernel) (star_of hst) (by rfl)
  refine PE.imp r fun σ H Q h => one h fun F1 H1 as1 M1 ta v _ _ s1 t1 w1 => ?_
  unfold strxK at w1
  cases hx : (peek M1 ta).bind objOf with
  | none => rw [hx] at w1; exact w1.elim
  | some q =>
    obtain ⟨k, y⟩ := q
    rw [hx] at w1
    obtain ⟨x, h1, h2⟩ := Option.bind_eq_some_iff.mp hx
    rw [objOf_some h2] at h1
    obtain ⟨n, c, rfl, ⟨_, E⟩, h⟩ := pk_obj hob (peek_ok s1 t1 h1)
    cases y with
    | str m =>
      rcases h with ⟨t, m', e1, e2, e3⟩ | ⟨d, m', e1, _⟩
      · obtain ⟨rfl, e⟩ := exk_inj e1
        cases e
        exact ⟨c, t, S.cx k, m, rfl, s1.sub _ _ e2, by rw [hK]; exact sqT_mono s1.sub e3, by rw [hK]; exact E.st, by rw [hK]; exact E.c.hs, wp_d s1 w1 (.str _)⟩
      · obtain ⟨_, e⟩ := exk_inj e1
        cases e
    | _ => exact w1.elim
/-- e.limit -/
theorem pe_limR {te : TE} (he : PE X a te) (hb : attributeBase a "limit" X.env (eval a X.env) = eval a X.env) :
    PE X (.Attribute a "limit" pos) (fun σ H Q => te σ H fun x H1 => ∃ (c d C : Addr) (fs : List (Str × V)) (v : V), x = .ref c ∧ H1 c = some (exo c C (some d)) ∧ H1 d = some (exd d fs) ∧ fs.lookup ("limit" : Str) = some v ∧ L2.ExcC X.K C ∧ PySem.W.findIn X.K (.ref C) "limit" = some none ∧ Q v H1) := by
  refine ⟨fun pins s σ H Q I h => ?_⟩
  refine attr_of hb (thn (he.run pins s σ H _ I h) fun u s1 ⟨x, H1, I1, rx, c, d, C, fs, v, ex, h1, h2, h3, h4, h5, q⟩ => ?_)
  subst ex
  obtain rfl : u = Value.ref c := rx
  obtain ⟨t1, ho⟩ := exo_at I1.hok h1
  obtain ⟨mA, hns, rel⟩ := exd_at I1.hok h2
  obtain ⟨od, hod, hl⟩ := lookIn_ns hns
  obtain ⟨u, hu, ru⟩ := RelO.some_of (v := v) (o := mA "limit") (by rw [← h3]; exact rel "limit")
  have J : PySem.W.InstAt s1.heap c { cls := .ref C, dict := some d, data := .fields #[.ref t1, .none, .none, .none, .bool false, .none] } C (some od) := ⟨ho, rfl, rfl, hod⟩
  exact PySem.HandSPX.exc_get I1.kIn J h4.hg h4.hk h4.hs (PySem.W.findObj_own h4.hd h5 rfl (by rw [hl, hu])) (handed_of ru) ⟨v, H1, I1.tok _, ru, q⟩
theorem pe_limE (hob : ∀ F v kvs, S.K.ob F v kvs → ExR S.K.fr S.cx ok F v kvs) (hK : X.K = S.K) (hb : attributeBase a "limit" X.env (eval a X.env) = eval a X.env) (ha : PE X a (tE S fa W)) :
    PE X (.Attribute a "limit" pos) (tE S (fun ρ M => (fa ρ M).bind limK) W) := by
  refine PE.imp (pe_limR ha hb) fun σ H Q h => one h fun F1 H1 as1 M1 ta v _ _ s1 t1 w1 => ?_
  unfold limK at w1
  cases hx : (peek M1 ta).bind objOf with
  | none => rw [hx] at w1; exact w1.elim
  | some q =>
    obtain ⟨k, y⟩ := q
    rw [hx] at w1
    obtain ⟨x, h1, h2⟩ := Option.bind_eq_some_iff.mp hx
    rw [objOf_some h2] at h1
    obtain ⟨n, c, rfl, ⟨_, E⟩, h⟩ := pk_obj hob (peek_ok s1 t1 h1)
    cases y with
    | int m =>
      rcases h with ⟨t, m', e1, _⟩ | ⟨d, m', e1, e2, e3⟩
      · obtain ⟨_, e⟩ := exk_inj e1
        cases e
      · obtain ⟨rfl, e⟩ := exk_inj e1
        cases e
        exact ⟨c, d, S.cx k, [("limit", .int m)], .int m, rfl, s1.sub _ _ e2, s1.sub _ _ e3, by simp [List.lookup], by rw [hK]; exact E.c, by rw [hK]; exact E.li, wp_d s1 w1 (.int _)⟩
    | _ => exact w1.elim
/-- what is known of the class that has a limit -/
structure TmFact (S : Stat) : Prop where
  ex : ∃ (fI : Addr) (fd : FuncData), OexC S.K (S.cx 16) ∧ PySem.W.findIn S.K (.ref (S.cx 16)) "__init__" = some (some (.ref fI)) ∧ PySem.W.typeIn S.K (.ref fI) = some (.type "function") ∧ FnOk S.P S.w S.K S.mg S.base (L2N.CX S.P S.w) 1 fI fd ["self", "limit"] (spInit S.K (S.cx 16)) ∧
    L2.Binds S.K fd ["self", "limit"] [] ∧ S.mg "TooMany" = some (.ref (S.cx 16))
theorem pe_tmE (hob : ∀ F v kvs, ExR S.K.fr S.cx ok F v kvs → S.K.ob F v kvs) (hk : ok 16 = true) (E : ExFact S.K.fr (S.cx 16)) (T : TmFact S) (hP : X.prog = S.P) (hw : X.w = S.w) (hK : X.K = S.K) (hmg : X.mg = S.mg) (hbase : X.base = S.base) (hr : Room 2 X.A)
    (tk : L2N.Takes X (fun _ _ _ _ => False)) (hg : Gl X "TooMany") (hst : notStar a = true) (ha : PE X a (tE S fa W)) : PE X (.Call (.Name "TooMany" p) [a] [] pos) (tE S (fun ρ M => (fa ρ M).bind tmK) W) := by
  obtain ⟨fI, fd, t1, t2, t3, t4, t5, t6⟩ := T.ex
  rw [← hP, ← hw, ← hK, ← hmg, ← hbase] at t4
  refine PE.imp (pe_oexV (C := S.cx 16) (fI := fI) (by rw [hK]; exact t1) (by rw [hK]; exact t2) (by rw [hK]; exact t3) t4 hr (by rw [hK]; exact t5) (L2N.passAt tk) hg (by rw [hmg]; exact t6) (pa_cons ha pa_nil (star_of hst)) (by decide +kernel) (star_of hst) (by rfl)) fun σ H Q h => ?_
  refine one h fun F1 H1 as1 M1 ta v _ _ s1 t1' w1 => ?_
  unfold tmK at w1
  split at w1
  · rename_i n hx
    have ev := (peek_ok s1 t1' hx).int
    subst ev
    cases hn : (decide (0 ≤ n) && decide (n < 128)) with
    | false => rw [hn] at w1; exact w1.elim
    | true =>
      rw [hn] at w1
      simp only [Bool.and_eq_true, decide_eq_true_eq] at hn
      refine ⟨by simp, fun c nc => ⟨c, n, rfl, hn, by rw [hK]; exact t1, by rw [hK]; exact E.li, upd_same, fun d nd hdc => ⟨rfl, ?_⟩⟩⟩
      rw [upd_ne hdc] at nd
      obtain ⟨nx, sr⟩ := two_new s1 (a := c) (t := d) (o := exo c (S.cx 16) (some d)) (u := exd d [("limit", .int n)]) (Ne.symm hdc) nc nd nt_exo nt_exd
      have eH : upd (upd (upd H1 c (exo c (S.cx 16) none)) d (exd d [("limit", .int n)])) c (exo c (S.cx 16) (some d)) = upd (upd H1 d (exd d [("limit", .int n)])) c (exo c (S.cx 16) (some d)) := by
        funext b
        by_cases h1 : b = c
        · rw [h1, upd_same, upd_same]
        · rw [upd_ne h1, upd_ne h1]
          by_cases h2 : b = d
          · rw [h2, upd_same, upd_same]
          · rw [upd_ne h2, upd_ne h2, upd_ne h1]
      rw [eH]
      exact w1 (.ref c) _ _ as1 nx sr (Dp.obj (hob _ _ _ ⟨16, c, rfl, ⟨hk, E⟩, .inr ⟨d, n, rfl, upd_same, by rw [upd_ne hdc, upd_same]⟩⟩))
  · exact w1.elim
end
end Ev

/-! Ev12: what passes the checker is what the evaluator says: expressions. -/
namespace Ev
open PySem PySem.Spec PyProof.Rows L2
open LamX (Tabs)

theorem notSet_ok {e : Expr} (h : notSet e = true) (env : Env) (x : Value) : foldedSetIterable e env x = pure x := by
  cases e <;> first
    | (exact absurd (show false = true from h) Bool.false_ne_true)
    | rfl
theorem takesN0 {X : Cx} : L2N.Takes X (fun _ _ _ _ => False) := fun _ _ x => by
  obtain ⟨_, _, _, _, _, _, _, _, _, _, _, _, _, _, _, _, z⟩ := x
  exact z.elim
/-- the context of a lambda's body; an error that leaves has no context of its own -/
abbrev lamCxN (X : Cx) (A : Around) (outer : List Env) (s : Shared) (H : Hp) (E : XK) (scope : Scope) (f c' : Addr) : Cx :=
  (LamX.lamCx X A outer s H E scope f c').wish fun e s' => wpAny (model X.prog X.w) (A.deeper (LamX.lamEnv X scope s.heap.objs.size f c')) (leaving (LamX.lamEnv X scope s.heap.objs.size f c') e) (fun _ s'' => L2N.CX X.prog X.w outer H s E e s'') (fun e' s'' => L2N.CX X.prog X.w outer H s E e' s'') s'
/-- what _law_word does with a lambda -/
def WordRule (S : Stat) (ws : List Str) (X : Cx) (W : WX) (k : Nat) : Prop :=
  ∀ (params : Arguments) (body : Expr) (scope : Scope) (p lpos pos : Pos) (fcall : Env' → Sto → Res TV), noParams params = true → LamX.LamS X.env.scope scope → Gl X "_law_word" →
    (∀ (A : Around) (outer : List Env) (s : Shared) (H : Hp) (E : XK) (f c' : Addr), Room k (A.deeper (LamX.lamEnv X scope s.heap.objs.size f c')) → PE (lamCxN X A outer s H E scope f c') body (tE S fcall (fun c d _ H => E c d H))) →
    PE X (.Call (.Name "_law_word" p) [.Lambda params body scope lpos] [] pos) (tE S (fun ρ M => wordK ws (fcall ρ M)) W)
/-- a lambda may stand here: the def's code object and its table -/
def WordAt (S : Stat) (X : Cx) (k : Nat) : Prop :=
  ∃ (c P : Addr), Room (k + 3) X.A ∧ LamX.TabB S.base S.mg c P ∧ X.env.code = .ref c ∧ (P, X.env.qual ++ "<lambda>") ∈ S.T ∧ ∀ p ∈ S.T, p.1 = P → p.2 = X.env.qual ++ "<lambda>"
/-- _law_word does as told, wherever a lambda may stand -/
def WordsOk (G : Gf) (S : Stat) : Prop :=
  ∀ (X : Cx) (W : WX) (k : Nat), X.prog = S.P → X.w = S.w → X.K = S.K → X.mg = S.mg → X.base = S.base → WordAt S X k → WordRule S G.words X W k
/-- an error of the class k can be raised -/
structure ExF (S : Stat) (k : Nat) (x : Str) : Prop where
  ex : ∃ (B newId initId : String) (bmB : List Value), ExcBaseFacts B newId initId bmB ∧ PySem.W.excIn S.K (S.cx k) bmB newId = true ∧ S.mg x = some (.ref (S.cx k)) ∧ PySem.W.keepIn S.K (.ref (S.cx k)) = true ∧ ∀ X : Cx, X.K = S.K → Raises X (.ref (S.cx k))
/-- errors as values: what the written part says -/
structure ObsOk (G : Gf) (S : Stat) : Prop where
  ob : ∀ F v kvs, S.K.ob F v kvs ↔ ExR S.K.fr S.cx (fun k => ((G.excs ++ G.xcls).lookup k).isSome) F v kvs
  ef : ∀ k y, (G.excs ++ G.xcls).lookup k = some y → ExFact S.K.fr (S.cx k) ∧ S.mg y = some (.ref (S.cx k))
  exc : ∀ k y, G.excs.lookup k = some y → ExF S k y
  kit : ∀ k j y z, (G.excs ++ G.xcls).lookup k = some y → (G.excs ++ G.xcls).lookup j = some z → PySem.W.kitOne S.K.fr (.ref (S.cx k)) (.ref (S.cx j)) = some (exSub k j)
  kitV : ∀ k y, (G.excs ++ G.xcls).lookup k = some y → PySem.W.kitOne S.K.fr (.ref (S.cx k)) (.type "ValueError") = some (exSub k 18)
  tm : G.xcls.lookup 16 = some ("TooMany" : Str) → TmFact S
/-- all that is told of errors -/
def ExAll (G : Gf) (S : Stat) : Prop := (∀ (k : Nat) (y : Str), G.excs.lookup k = some y → ExF S k y) ∧ (G.xcls ≠ [] → ObsOk G S)
/-- what a context gives -/
structure XOk (G : Gf) (S : Stat) (cf : Nat → List VV → Sto → Res TV) (X : Cx) (W : WX) (C : CC) : Prop where
  hP : X.prog = S.P
  hw : X.w = S.w
  hK : X.K = S.K
  hmg : X.mg = S.mg
  hbase : X.base = S.base
  calm : X.calm = true
  un : X.A.units + 64 < cLine
  tk : L2N.Takes X W
  hN : X.N = C.N
  nd : C.N.Nodup
  sc : X.env.scope = C.sc
  fn : X.fn = C.fn
  fns : ∀ f x, G.fns.lookup f = some x → ∃ k, Room k X.A ∧ FnT S k x (cf f)
  nums : ∀ x z, G.nums.lookup x = some z → ∃ t, S.mg x = some (.int z t)
  unt : ∀ x, G.unt.contains x = true → S.mg x = none
  wd : C.tab = true → ∃ k, 2 ≤ k ∧ WordAt S X k ∧ WordsOk G S ∧ ∀ f x, G.fns.lookup f = some x → FnT S k x (cf f)
  nds : ∀ i k js, (i, k, js) ∈ C.nds → NdAt S (cf k) X k js
  rm : Room 2 X.A
  obs : G.xcls ≠ [] → ObsOk G S
section
variable {G : Gf} {S : Stat} {cf : Nat → List VV → Sto → Res TV} {X : Cx} {W : WX} {C : CC}
theorem XOk.slot (o : XOk G S cf X W C) {i : Nat} {x : Str} (h : isSlot C i x = true) : X.N[i]? = some x := by rw [o.hN]; exact of_decide_eq_true h
theorem XOk.vis (o : XOk G S cf X W C) {x : Str} (h : isVis C x = true) : Vis X.env.scope x := by
  unfold isVis kOf at h
  rw [← o.sc] at h
  unfold Vis
  split at h
  · rename_i e; exact .inl e
  · rename_i e; exact .inr (.inl e)
  · rename_i e; exact .inr (.inr e)
  · cases h
theorem XOk.loc (o : XOk G S cf X W C) {x : Str} (h : isLoc C x = true) : L2.Loc X.env.scope x ∧ (X.fn x = true ∨ X.env.scope.names.lookup x = some .local) := by
  unfold isLoc kOf at h
  rw [← o.sc] at h
  unfold L2.Loc
  split at h
  · rename_i e; exact ⟨.inl e, .inr e⟩
  · rename_i e; exact ⟨.inr e, .inl (by rw [o.fn]; exact h)⟩
  · cases h
theorem XOk.gl (o : XOk G S cf X W C) {x : Str} (h : isGl C x = true) : Gl X x := by
  unfold isGl kOf at h
  rw [← o.sc] at h
  split at h
  · rename_i e; exact e
  · cases h
theorem plain_db {x : Str} (h : plainName x = true) : (x == ("__debug__" : Str)) = false ∧ (x == ("__classdict__" : Str)) = false := by
  unfold plainName at h
  simp only [Bool.and_eq_true, Bool.not_eq_true'] at h
  exact h
theorem XOk.free (o : XOk G S cf X W C) {x : Str} (h : freeName G C x = true) : Gl X x ∧ X.mg x = none := by
  unfold freeName at h
  rw [Bool.and_eq_true] at h
  exact ⟨o.gl h.1, by rw [o.hmg]; exact o.unt x h.2⟩
/-- a comprehension's block -/
theorem XOk.blk (o : XOk G S cf X W C) (s : Shared) (H : Hp) (scope : Scope) (cl : List (Str × Addr)) (Ca : Addr) (fp : List Addr) : XOk G S cf (X.blk s H scope (compEnvC scope cl Ca X.env) fp) (fun _ _ _ _ => False) (inner C scope) where
  hP := o.hP
  hw := o.hw
  hK := o.hK
  hmg := o.hmg
  hbase := o.hbase
  calm := o.calm
  un := o.un
  tk := takesN0
  hN := o.hN
  nd := o.nd
  sc := by
    show relS scope X.env.scope = relS scope C.sc
    rw [o.sc]
  fn := rfl
  fns := o.fns
  nums := o.nums
  unt := o.unt
  wd := o.wd
  nds := fun _ _ _ h => nomatch h
  rm := o.rm
  obs := o.obs

/-- a clause's test, as a function -/
def ftC (cf : Nat → List VV → Sto → Res TV) (c : E) : Env' → Sto → Res Bool := fun ρ M => if isNil c = true then .ok true M else (evalE cf c ρ M).bind asB
def lcChk (G : Gf) (C : CC) (own : List Nat) (t : Tg) (i c b : E) (elt tg it : Expr) (ifs : List Expr) (rest : List Comprehension) (scope : Scope) : Bool :=
  blkC C.N C.sc scope (ownP C own) && chkI G C i it tg && notSet it && chkTg (inner C scope) t tg && (match ifs with | [] => isNil c | [y] => !isNil c && isTst y && chkE G (inner C scope) c y | _ => false) &&
        chkC G (inner C scope) elt b rest && (tgS t).all (fun j => !(slC b).contains j) && (tgS t ++ slC b).all (fun j => own.contains j)
structure Snd (G : Gf) (S : Stat) (cf : Nat → List VV → Sto → Res TV) (e : E) : Prop where
  pe : ∀ C X W x, XOk G S cf X W C → chkE G C e x = true → PE X x (tE S (evalE cf e) W)
  pt : ∀ C X W x, XOk G S cf X W C → chkE G C e x = true → isTst x = true → PT X x (tT S (evalE cf e) W)
  pw : ∀ C X W x, XOk G S cf X W C → chkE G C e x = true → isBool x = true → PW X x (tT S (evalE cf e) W)
  pv : ∀ C X W xs, XOk G S cf X W C → chkL G C e xs = true → PA X xs (tV S (evalL cf e) W)
  pts : ∀ C X W xs, XOk G S cf X W C → chkL G C e xs = true → PA X xs (tTs S (evalT cf e) W)
  pst : ∀ C xs, chkL G C e xs = true → xs.all notStar = true
  pc : ∀ C X W elt gens scope pos i rest, XOk G S cf X W C → X.xe = NoE → gens.drop i = rest → chkC G C elt e rest = true → PCl VV.d X S elt gens scope pos i (slC e) (evalC cf e)
  pi : ∀ C X W tg x, XOk G S cf X W C → chkI G C e x tg = true → PI X tg x (tI S (evalI cf e) W)
  hd1 : ∀ a, e = .cons a .nil → ∀ C X W x, XOk G S cf X W C → chkE G C a x = true → PE X x (tE S (evalE cf a) W)
  lcp : ∀ t i c b, e = .cf t i c b → ∀ C X W own elt tg it ifs rest scope pos, XOk G S cf X W C → lcChk G C own t i c b elt tg it ifs rest scope = true →
    LcP VV.d X S W elt tg it ifs rest scope (ownP C own) pos t (slC b) (fun _ _ _ _ => False) (evalI cf i) (ftC cf c) (evalC cf b)
theorem plainT_ok {x : Expr} (h : plainT x = true) (env : Env) (whole : Sem Value) : isTrue x env whole = (do let v ← whole; standAt x.pos; holding [v] (truthy v)) := by
  cases x <;> first
    | rfl
    | (exact absurd (show false = true from h) Bool.false_ne_true)
    | (rename_i op _ _
       cases op <;> first
        | rfl
        | (exact absurd (show false = true from h) Bool.false_ne_true))
theorem plainT_bool {x : Expr} (h : plainT x = true) : isBool x = false := by
  cases x <;> first
    | rfl
    | (exact absurd (show false = true from h) Bool.false_ne_true)
variable {e : E}
/-- an expression, not a list, not a clause -/
theorem Snd.exp (hN : ∀ a, e ≠ .cons a .nil) (hE : ∀ t i c b, e ≠ .cf t i c b) (hL : ∀ C xs, chkL G C e xs = false) (hC : ∀ C elt l, chkC G C elt e l = false) (hI : ∀ C x tg, chkI G C e x tg = false)
    (pe : ∀ C X W x, XOk G S cf X W C → chkE G C e x = true → PE X x (tE S (evalE cf e) W))
    (pt : ∀ C X W x, XOk G S cf X W C → chkE G C e x = true → isTst x = true → PT X x (tT S (evalE cf e) W))
    (pw : ∀ C X W x, XOk G S cf X W C → chkE G C e x = true → isBool x = true → PW X x (tT S (evalE cf e) W)) : Snd G S cf e where
  pe := pe
  pt := pt
  pw := pw
  pv := fun C X W xs _ h => by rw [hL] at h; cases h
  pts := fun C X W xs _ h => by rw [hL] at h; cases h
  pst := fun C xs h => by rw [hL] at h; cases h
  pc := fun C X W elt gens scope pos i rest _ _ _ h => by rw [hC] at h; cases h
  pi := fun C X W tg x _ h => by rw [hI] at h; cases h
  hd1 := fun a z => absurd z (hN a)
  lcp := fun t i c b z => absurd z (hE t i c b)
/-- .. whose text is no test of its own -/
theorem Snd.plain (hN : ∀ a, e ≠ .cons a .nil) (hE : ∀ t i c b, e ≠ .cf t i c b) (hL : ∀ C xs, chkL G C e xs = false) (hC : ∀ C elt l, chkC G C elt e l = false) (hI : ∀ C x tg, chkI G C e x tg = false)
    (pe : ∀ C X W x, XOk G S cf X W C → chkE G C e x = true → PE X x (tE S (evalE cf e) W) ∧ plainT x = true) : Snd G S cf e :=
  Snd.exp hN hE hL hC hI (fun C X W x o h => (pe C X W x o h).1) (fun C X W x o h _ => pt_valE (pe C X W x o h).1 (plainT_ok (pe C X W x o h).2 _)) (fun C X W x o h hb => by
    rw [plainT_bool (pe C X W x o h).2] at hb; cases hb)
theorem constEq_ok {d : PyData} {c : Const} (h : constEq d c = true) : (c = .none ∧ d = .none) ∨ (∃ b, c = .bool b ∧ d = .bool b) ∨ (∃ i, c = .int i ∧ d = .int i) ∨ (∃ z, c = .str z ∧ d = .str z) := by
  unfold constEq at h
  split at h
  · exact .inl ⟨rfl, rfl⟩
  · rename_i b c
    have : b = c := by simpa using h
    subst this
    exact .inr (.inl ⟨_, rfl, rfl⟩)
  · have := of_decide_eq_true h
    subst this
    exact .inr (.inr (.inl ⟨_, rfl, rfl⟩))
  · rename_i x y
    have : x = y := by simpa using h
    subst this
    exact .inr (.inr (.inr ⟨_, rfl, rfl⟩))
  · cases h
theorem snd_k (d : PyData) : Snd G S cf (.k d) := Snd.plain (fun _ z => by cases z) (fun _ _ _ _ z => by cases z) (fun _ _ => by simp only [chkL]) (fun _ _ _ => by simp only [chkC]) (fun _ _ _ => by simp only [chkI]) fun C X W x o h => by
  simp only [chkE] at h
  split at h
  · refine ⟨?_, rfl⟩
    have e0 : evalE cf (.k d) = fun _ M => .ok (.v (.d d)) M := by funext ρ M; simp only [evalE]
    rw [e0]
    exact pe_kE (constEq_ok h)
  · cases h
theorem snd_v (i : Nat) : Snd G S cf (.v i) := Snd.plain (fun _ z => by cases z) (fun _ _ _ _ z => by cases z) (fun _ _ => by simp only [chkL]) (fun _ _ _ => by simp only [chkC]) (fun _ _ _ => by simp only [chkI]) fun C X W x o h => by
  simp only [chkE] at h
  split at h
  · refine ⟨?_, rfl⟩
    have e0 : evalE cf (.v i) = varK i := by funext ρ M; simp only [evalE]
    rw [e0]
    simp only [Bool.and_eq_true] at h
    exact pe_vE (o.slot h.1.1) (o.vis h.1.2) (plain_db h.2).1 (plain_db h.2).2
  · cases h
theorem snd_g (y : Str) (z : Int) : Snd G S cf (.g y z) := Snd.plain (fun _ z => by cases z) (fun _ _ _ _ z => by cases z) (fun _ _ => by simp only [chkL]) (fun _ _ _ => by simp only [chkC]) (fun _ _ _ => by simp only [chkI]) fun C X W x o h => by
  simp only [chkE] at h
  split at h
  · refine ⟨?_, rfl⟩
    have e0 : evalE cf (.g y z) = fun _ M => .ok (.v (.d (.int z))) M := by funext ρ M; simp only [evalE]
    rw [e0]
    simp only [Bool.and_eq_true, beq_iff_eq] at h
    obtain ⟨⟨⟨h1, h2⟩, h3⟩, h4⟩ := h
    subst h1
    obtain ⟨t, ht⟩ := o.nums _ _ (of_decide_eq_true h2)
    exact pe_gE (o.gl h3) (by rw [o.hmg]; exact ht) (plain_db h4).1
  · cases h
variable {a b c : E}
theorem snd_bin (p : BOp) (ha : Snd G S cf a) (hb : Snd G S cf b) : Snd G S cf (.bin p a b) := Snd.plain (fun _ z => by cases z) (fun _ _ _ _ z => by cases z) (fun _ _ => by simp only [chkL]) (fun _ _ _ => by simp only [chkC]) (fun _ _ _ => by simp only [chkI]) fun C X W x o h => by
  simp only [chkE] at h
  split at h
  · refine ⟨?_, rfl⟩
    have e0 : evalE cf (.bin p a b) = fun ρ M => (evalE cf a ρ M).bind fun ta M1 => (evalE cf b ρ M1).bind (binK p ta) := by funext ρ M; simp only [evalE]
    rw [e0]
    simp only [Bool.and_eq_true] at h
    rw [opB_ok h.1.1]
    exact pe_binE o.hK p (ha.pe _ _ _ _ o h.1.2) (hb.pe _ _ _ _ o h.2)
  · cases h
theorem snd_neg (ha : Snd G S cf a) : Snd G S cf (.neg a) := Snd.plain (fun _ z => by cases z) (fun _ _ _ _ z => by cases z) (fun _ _ => by simp only [chkL]) (fun _ _ _ => by simp only [chkC]) (fun _ _ _ => by simp only [chkI]) fun C X W x o h => by
  simp only [chkE] at h
  split at h
  · refine ⟨?_, rfl⟩
    have e0 : evalE cf (.neg a) = fun ρ M => (evalE cf a ρ M).bind negK := by funext ρ M; simp only [evalE]
    rw [e0]
    exact pe_negE (ha.pe _ _ _ _ o h)
  · cases h
theorem snd_rep (ha : Snd G S cf a) (hb : Snd G S cf b) : Snd G S cf (.rep a b) := Snd.plain (fun _ z => by cases z) (fun _ _ _ _ z => by cases z) (fun _ _ => by simp only [chkL]) (fun _ _ _ => by simp only [chkC]) (fun _ _ _ => by simp only [chkI]) fun C X W x o h => by
  simp only [chkE] at h
  split at h
  · refine ⟨?_, rfl⟩
    have e0 : evalE cf (.rep a b) = fun ρ M => (evalE cf a ρ M).bind fun ta M1 => (evalE cf b ρ M1).bind (repK ta) := by funext ρ M; simp only [evalE]
    rw [e0]
    simp only [Bool.and_eq_true] at h
    exact pe_repE (ha.pe _ _ _ _ o h.1) (hb.pe _ _ _ _ o h.2)
  · cases h
theorem snd_cmp (p : COp) (ha : Snd G S cf a) (hb : Snd G S cf b) : Snd G S cf (.cmp p a b) := by
  have e0 : evalE cf (.cmp p a b) = fun ρ M => (evalE cf a ρ M).bind fun ta M1 => (evalE cf b ρ M1).bind (cmpK p ta) := by funext ρ M; simp only [evalE]
  refine Snd.exp (fun _ z => by cases z) (fun _ _ _ _ z => by cases z) (fun _ _ => by simp only [chkL]) (fun _ _ _ => by simp only [chkC]) (fun _ _ _ => by simp only [chkI]) (fun C X W x o h => ?_) (fun C X W x o h _ => ?_) (fun C X W x o h hb => ?_)
  · simp only [chkE] at h
    split at h
    · rw [e0]
      simp only [Bool.and_eq_true, Bool.not_eq_true'] at h
      obtain ⟨⟨⟨h1, h2⟩, h3⟩, h4⟩ := h
      have e1 := copB_ok h1
      subst e1
      exact pe_cmpE o.hK o.un p (ha.pe _ _ _ _ o h2) (hb.pe _ _ _ _ o h3) h4
    · cases h
  · simp only [chkE] at h
    split at h
    · rw [e0]
      simp only [Bool.and_eq_true, Bool.not_eq_true'] at h
      obtain ⟨⟨⟨h1, h2⟩, h3⟩, h4⟩ := h
      have e1 := copB_ok h1
      subst e1
      exact pt_cmpE o.hK o.un p (ha.pe _ _ _ _ o h2) (hb.pe _ _ _ _ o h3) h4
    · cases h
  · simp only [chkE] at h
    split at h
    · cases hb
    · cases h
theorem snd_chn (p q : COp) (ha : Snd G S cf a) (hb : Snd G S cf b) (hc : Snd G S cf c) : Snd G S cf (.chn p q a b c) := by
  have e0 : evalE cf (.chn p q a b c) = fun ρ M => (evalE cf a ρ M).bind fun ta M1 => (evalE cf b ρ M1).bind fun tb M2 => match cmpB p ta tb M2 with
    | some true => (evalE cf c ρ M2).bind (cmpK q tb)
    | some false => .ok (.v (.d (.bool false))) M2
    | none => .stuck := by funext ρ M; simp only [evalE]; try rfl
  refine Snd.exp (fun _ z => by cases z) (fun _ _ _ _ z => by cases z) (fun _ _ => by simp only [chkL]) (fun _ _ _ => by simp only [chkC]) (fun _ _ _ => by simp only [chkI]) (fun C X W x o h => ?_) (fun C X W x o h _ => ?_) (fun C X W x o h hb => ?_)
  · simp only [chkE] at h
    split at h
    · rw [e0]
      simp only [Bool.and_eq_true, Bool.not_eq_true'] at h
      obtain ⟨⟨⟨⟨⟨h1, h2⟩, h3⟩, h4⟩, h5⟩, h6⟩ := h
      have e1 := copB_ok h1
      have e2 := copB_ok h2
      subst e1 e2
      exact pe_chnE o.hK o.un p q (ha.pe _ _ _ _ o h3) (hb.pe _ _ _ _ o h4) (hc.pe _ _ _ _ o h5) h6
    · cases h
  · simp only [chkE] at h
    split at h
    · rw [e0]
      simp only [Bool.and_eq_true, Bool.not_eq_true'] at h
      obtain ⟨⟨⟨⟨⟨h1, h2⟩, h3⟩, h4⟩, h5⟩, h6⟩ := h
      have e1 := copB_ok h1
      have e2 := copB_ok h2
      subst e1 e2
      exact pt_chnE o.hK o.un p q (ha.pe _ _ _ _ o h3) (hb.pe _ _ _ _ o h4) (hc.pe _ _ _ _ o h5) h6
    · cases h
  · simp only [chkE] at h
    split at h
    · cases hb
    · cases h
/-- a comparison with None as a test -/
theorem pt_isE {X : Cx} {W : WX} {x : Expr} {op : CmpOp} {j : Nat} {p' pos : Pos} {n : Bool} {f : Env' → Sto → Res TV} {t : TE} (h : PC X op x (.Constant .none j p') t) (hb : behindInMarks op (.Constant .none j p') = false)
    (hi : ∀ σ H Q, tE S (fun ρ M => (f ρ M).bind (isNK n)) W σ H Q → t σ H Q) : PT X (.Compare x [op] [.Constant .none j p'] pos) (tT S (fun ρ M => (f ρ M).bind (isNK n)) W) :=
  PT.imp (pt_cmp h hb) fun σ H Q ⟨F, as, ρ, M, s, er, w⟩ => hi σ H _ ⟨F, as, ρ, M, s, er, by
    have w' : WpG S (RB S) (fun c d H' => W c d σ H') F H as (((f ρ M).bind (isNK n)).bind asB) Q := w
    refine WpG.bind (R := RT S) (k := asB) w' fun t M1 v F1 H1 as1 _ nx s1 t1 w1 => ?_
    unfold asB at w1
    split at w1
    · rename_i b _
      have t1' : Dp S.K F1 v (.bool b) := t1
      cases t1'
      exact ⟨b, rfl, w1 b F1 H1 as1 .refl s1 rfl⟩
    · exact w1.elim⟩
theorem isN_imp {X : Cx} {W : WX} {fa : Env' → Sto → Res TV} {σ : L2.St} {H : Hp} {Q : VK} (h : tE S (fun ρ M => (fa ρ M).bind (isNK true)) W σ H Q) : tIsN (tE S fa W) σ H Q := one h fun F1 H1 as1 M1 ta v _ _ s1 t1 w1 => by
  unfold isNK at w1
  cases hx : peek M1 ta with
  | some x =>
    rw [hx] at w1
    rw [pk_isNone (peek_ok s1 t1 hx)]
    have e : (isNone x == true) = isNone x := by cases isNone x <;> rfl
    rw [← e]
    exact wp_d s1 w1 (.bl _)
  | none => rw [hx] at w1; exact w1.elim
theorem nsN_imp {X : Cx} {W : WX} {fa : Env' → Sto → Res TV} {σ : L2.St} {H : Hp} {Q : VK} (h : tE S (fun ρ M => (fa ρ M).bind (isNK false)) W σ H Q) : tNotN (tE S fa W) σ H Q := one h fun F1 H1 as1 M1 ta v _ _ s1 t1 w1 => by
  unfold isNK at w1
  cases hx : peek M1 ta with
  | some x =>
    rw [hx] at w1
    rw [pk_isNone (peek_ok s1 t1 hx)]
    have e : (isNone x == false) = !isNone x := by cases isNone x <;> rfl
    rw [← e]
    exact wp_d s1 w1 (.bl _)
  | none => rw [hx] at w1; exact w1.elim
theorem snd_isN (ha : Snd G S cf a) : Snd G S cf (.isN a) := by
  have e0 : evalE cf (.isN a) = fun ρ M => (evalE cf a ρ M).bind (isNK true) := by funext ρ M; simp only [evalE]
  refine Snd.exp (fun _ z => by cases z) (fun _ _ _ _ z => by cases z) (fun _ _ => by simp only [chkL]) (fun _ _ _ => by simp only [chkC]) (fun _ _ _ => by simp only [chkI]) (fun C X W x o h => ?_) (fun C X W x o h _ => ?_) (fun C X W x o h hb => ?_)
  · simp only [chkE] at h
    split at h
    · rw [e0]; exact pe_isNE (ha.pe _ _ _ _ o h)
    · cases h
  · simp only [chkE] at h
    split at h
    · rw [e0]; exact pt_isE (pc_isN (ha.pe _ _ _ _ o h)) rfl fun σ H Q h => isN_imp (X := X) h
    · cases h
  · simp only [chkE] at h
    split at h
    · cases hb
    · cases h
theorem snd_nsN (ha : Snd G S cf a) : Snd G S cf (.nsN a) := by
  have e0 : evalE cf (.nsN a) = fun ρ M => (evalE cf a ρ M).bind (isNK false) := by funext ρ M; simp only [evalE]
  refine Snd.exp (fun _ z => by cases z) (fun _ _ _ _ z => by cases z) (fun _ _ => by simp only [chkL]) (fun _ _ _ => by simp only [chkC]) (fun _ _ _ => by simp only [chkI]) (fun C X W x o h => ?_) (fun C X W x o h _ => ?_) (fun C X W x o h hb => ?_)
  · simp only [chkE] at h
    split at h
    · rw [e0]; exact pe_nsNE (ha.pe _ _ _ _ o h)
    · cases h
  · simp only [chkE] at h
    split at h
    · rw [e0]; exact pt_isE (pc_notN (ha.pe _ _ _ _ o h)) rfl fun σ H Q h => nsN_imp (X := X) h
    · cases h
  · simp only [chkE] at h
    split at h
    · cases hb
    · cases h
theorem snd_and (ha : Snd G S cf a) (hb : Snd G S cf b) : Snd G S cf (.and_ a b) := by
  have e0 : evalE cf (.and_ a b) = fun ρ M => (evalE cf a ρ M).bind fun ta M1 => (asB ta M1).bind fun c M1 => if c = true then evalE cf b ρ M1 else .ok (.v (.d (.bool false))) M1 := by funext ρ M; simp only [evalE]
  have pe : ∀ C X W x, XOk G S cf X W C → chkE G C (.and_ a b) x = true → PE X x (tE S (evalE cf (.and_ a b)) W) := by
    intro C X W x o h
    simp only [chkE] at h
    split at h
    · rw [e0]
      simp only [Bool.and_eq_true] at h
      exact pe_andE (ha.pe _ _ _ _ o h.1.1.1) (pe_one (hb.pe _ _ _ _ o h.1.1.2))
    · rw [e0]
      simp only [Bool.and_eq_true] at h
      exact pe_andE (ha.pe _ _ _ _ o h.1.1) (hb.pe _ _ _ _ o h.1.2)
    · cases h
  have pw : ∀ C X W x, XOk G S cf X W C → chkE G C (.and_ a b) x = true → isBool x = true → PW X x (tT S (evalE cf (.and_ a b)) W) := by
    intro C X W x o h _
    simp only [chkE] at h
    split at h
    · rw [e0]
      simp only [Bool.and_eq_true] at h
      exact pw_andE (ha.pt _ _ _ _ o h.1.1.1 h.1.2) (pw_and1 (hb.pt _ _ _ _ o h.1.1.2 h.2))
    · rw [e0]
      simp only [Bool.and_eq_true] at h
      exact pw_andE (ha.pt _ _ _ _ o h.1.1 h.2) (hb.pw _ _ _ _ o h.1.2 rfl)
    · cases h
  refine Snd.exp (fun _ z => by cases z) (fun _ _ _ _ z => by cases z) (fun _ _ => by simp only [chkL]) (fun _ _ _ => by simp only [chkC]) (fun _ _ _ => by simp only [chkI]) pe (fun C X W x o h _ => ?_) pw
  have hb : isBool x = true := by
    simp only [chkE] at h
    split at h
    · rfl
    · rfl
    · cases h
  exact (pw C X W x o h hb).pt
theorem snd_or (ha : Snd G S cf a) (hb : Snd G S cf b) : Snd G S cf (.or_ a b) := by
  have e0 : evalE cf (.or_ a b) = fun ρ M => (evalE cf a ρ M).bind fun ta M1 => (asB ta M1).bind fun c M1 => if c = true then .ok (.v (.d (.bool true))) M1 else evalE cf b ρ M1 := by funext ρ M; simp only [evalE]
  have pe : ∀ C X W x, XOk G S cf X W C → chkE G C (.or_ a b) x = true → PE X x (tE S (evalE cf (.or_ a b)) W) := by
    intro C X W x o h
    simp only [chkE] at h
    split at h
    · rw [e0]
      simp only [Bool.and_eq_true] at h
      exact pe_orE (ha.pe _ _ _ _ o h.1.1.1) (pe_one (hb.pe _ _ _ _ o h.1.1.2))
    · rw [e0]
      simp only [Bool.and_eq_true] at h
      exact pe_orE (ha.pe _ _ _ _ o h.1.1) (hb.pe _ _ _ _ o h.1.2)
    · cases h
  have pw : ∀ C X W x, XOk G S cf X W C → chkE G C (.or_ a b) x = true → isBool x = true → PW X x (tT S (evalE cf (.or_ a b)) W) := by
    intro C X W x o h _
    simp only [chkE] at h
    split at h
    · rw [e0]
      simp only [Bool.and_eq_true] at h
      exact pw_orE (ha.pt _ _ _ _ o h.1.1.1 h.1.2) (pw_or1 (hb.pt _ _ _ _ o h.1.1.2 h.2))
    · rw [e0]
      simp only [Bool.and_eq_true] at h
      exact pw_orE (ha.pt _ _ _ _ o h.1.1 h.2) (hb.pw _ _ _ _ o h.1.2 rfl)
    · cases h
  refine Snd.exp (fun _ z => by cases z) (fun _ _ _ _ z => by cases z) (fun _ _ => by simp only [chkL]) (fun _ _ _ => by simp only [chkC]) (fun _ _ _ => by simp only [chkI]) pe (fun C X W x o h _ => ?_) pw
  have hb : isBool x = true := by
    simp only [chkE] at h
    split at h
    · rfl
    · rfl
    · cases h
  exact (pw C X W x o h hb).pt
theorem snd_not (ha : Snd G S cf a) : Snd G S cf (.not_ a) := by
  have e0 : evalE cf (.not_ a) = fun ρ M => (evalE cf a ρ M).bind fun ta M1 => (asB ta M1).bind fun c M1 => .ok (.v (.d (.bool (!c)))) M1 := by funext ρ M; simp only [evalE]
  refine Snd.exp (fun _ z => by cases z) (fun _ _ _ _ z => by cases z) (fun _ _ => by simp only [chkL]) (fun _ _ _ => by simp only [chkC]) (fun _ _ _ => by simp only [chkI]) (fun C X W x o h => ?_) (fun C X W x o h _ => ?_) (fun C X W x o h hb => ?_)
  · simp only [chkE] at h
    split at h
    · rw [e0]
      simp only [Bool.and_eq_true] at h
      exact pe_notE (ha.pe _ _ _ _ o h.1)
    · cases h
  · simp only [chkE] at h
    split at h
    · rw [e0]
      simp only [Bool.and_eq_true] at h
      exact pt_notE (ha.pt _ _ _ _ o h.1 h.2)
    · cases h
  · simp only [chkE] at h
    split at h
    · cases hb
    · cases h
theorem snd_ite (hc : Snd G S cf c) (ha : Snd G S cf a) (hb : Snd G S cf b) : Snd G S cf (.ite c a b) := by
  have e0 : evalE cf (.ite c a b) = fun ρ M => (evalE cf c ρ M).bind fun tc M1 => (asB tc M1).bind fun c M1 => if c = true then evalE cf a ρ M1 else evalE cf b ρ M1 := by funext ρ M; simp only [evalE]
  refine Snd.exp (fun _ z => by cases z) (fun _ _ _ _ z => by cases z) (fun _ _ => by simp only [chkL]) (fun _ _ _ => by simp only [chkC]) (fun _ _ _ => by simp only [chkI]) (fun C X W x o h => ?_) (fun C X W x o h ht => ?_) (fun C X W x o h hb => ?_)
  · simp only [chkE] at h
    split at h
    · rw [e0]
      simp only [Bool.and_eq_true] at h
      exact pe_iteE (hc.pt _ _ _ _ o h.1.1.1 h.2) (ha.pe _ _ _ _ o h.1.1.2) (hb.pe _ _ _ _ o h.1.2)
    · cases h
  · simp only [chkE] at h
    split at h
    · cases ht
    · cases h
  · simp only [chkE] at h
    split at h
    · cases hb
    · cases h
theorem snd_tup {es : E} (he : Snd G S cf es) : Snd G S cf (.tup es) := Snd.plain (fun _ z => by cases z) (fun _ _ _ _ z => by cases z) (fun _ _ => by simp only [chkL]) (fun _ _ _ => by simp only [chkC]) (fun _ _ _ => by simp only [chkI]) fun C X W x o h => by
  simp only [chkE] at h
  split at h
  · refine ⟨?_, rfl⟩
    have e0 : evalE cf (.tup es) = fun ρ M => (evalL cf es ρ M).bind tupK := by funext ρ M; simp only [evalE]
    rw [e0]
    exact pe_tupE (he.pv _ _ _ _ o h)
  · cases h
theorem snd_lst {es : E} (he : Snd G S cf es) : Snd G S cf (.lst es) := Snd.plain (fun _ z => by cases z) (fun _ _ _ _ z => by cases z) (fun _ _ => by simp only [chkL]) (fun _ _ _ => by simp only [chkC]) (fun _ _ _ => by simp only [chkI]) fun C X W x o h => by
  simp only [chkE] at h
  split at h
  · refine ⟨?_, rfl⟩
    have e0 : evalE cf (.lst es) = fun ρ M => (evalL cf es ρ M).bind lstK := by funext ρ M; simp only [evalE]
    rw [e0]
    exact pe_lstE (he.pv _ _ _ _ o h)
  · cases h
theorem snd_lrefs {es : E} (he : Snd G S cf es) : Snd G S cf (.lrefs es) := Snd.plain (fun _ z => by cases z) (fun _ _ _ _ z => by cases z) (fun _ _ => by simp only [chkL]) (fun _ _ _ => by simp only [chkC]) (fun _ _ _ => by simp only [chkI]) fun C X W x o h => by
  simp only [chkE] at h
  split at h
  · refine ⟨?_, rfl⟩
    have e0 : evalE cf (.lrefs es) = fun ρ M => (evalL cf es ρ M).bind lrefsK := by funext ρ M; simp only [evalE]
    rw [e0]
    exact pe_lrefsE (he.pv _ _ _ _ o h)
  · cases h
theorem snd_ix (ha : Snd G S cf a) (hb : Snd G S cf b) : Snd G S cf (.ix a b) := Snd.plain (fun _ z => by cases z) (fun _ _ _ _ z => by cases z) (fun _ _ => by simp only [chkL]) (fun _ _ _ => by simp only [chkC]) (fun _ _ _ => by simp only [chkI]) fun C X W x o h => by
  simp only [chkE] at h
  split at h
  · refine ⟨?_, rfl⟩
    have e0 : evalE cf (.ix a b) = fun ρ M => (evalE cf a ρ M).bind fun ta M1 => (evalE cf b ρ M1).bind (ixK ta) := by funext ρ M; simp only [evalE]
    rw [e0]
    simp only [Bool.and_eq_true] at h
    exact pe_ixE o.hK h.1.1 (ha.pe _ _ _ _ o h.1.2) (hb.pe _ _ _ _ o h.2)
  · cases h
/-- a bound of a slice -/
theorem po_of {X : Cx} {W : WX} {C : CC} {lo : E} {l : Option Expr} (o : XOk G S cf X W C) (hl : Snd G S cf lo) (h : (match l with | none => isNil lo | some l => !isNil lo && chkE G C lo l) = true) :
    PO X l (tPt S (fun ρ M => if isNil lo then .ok none M else (evalE cf lo ρ M).bind partK) W) := by
  cases l with
  | none =>
    have h : isNil lo = true := h
    rw [h]
    exact po_noneE
  | some l =>
    simp only [Bool.and_eq_true, Bool.not_eq_true'] at h
    rw [h.1]
    exact po_someE (hl.pe _ _ _ _ o h.2)
theorem snd_sl {lo hi : E} (ha : Snd G S cf a) (hl : Snd G S cf lo) (hh : Snd G S cf hi) : Snd G S cf (.sl a lo hi) := Snd.plain (fun _ z => by cases z) (fun _ _ _ _ z => by cases z) (fun _ _ => by simp only [chkL]) (fun _ _ _ => by simp only [chkC]) (fun _ _ _ => by simp only [chkI]) fun C X W x o h => by
  simp only [chkE] at h
  split at h
  · refine ⟨?_, rfl⟩
    have e0 : evalE cf (.sl a lo hi) = fun ρ M => (evalE cf a ρ M).bind fun ta M1 => (if isNil lo then .ok none M1 else (evalE cf lo ρ M1).bind partK).bind fun l M2 => (if isNil hi then .ok none M2 else (evalE cf hi ρ M2).bind partK).bind (slK ta l) := by funext ρ M; simp only [evalE]
    rw [e0]
    rw [Bool.and_eq_true, Bool.and_eq_true] at h
    exact pe_slE o.hK (ha.pe _ _ _ _ o h.1.1) (po_of o hl h.1.2) (po_of o hh h.2)
  · cases h
theorem snd_alc (ha : Snd G S cf a) : Snd G S cf (.alc a) := Snd.plain (fun _ z => by cases z) (fun _ _ _ _ z => by cases z) (fun _ _ => by simp only [chkL]) (fun _ _ _ => by simp only [chkC]) (fun _ _ _ => by simp only [chkI]) fun C X W x o h => by
  simp only [chkE, Bool.and_eq_true] at h
  refine ⟨?_, h.1⟩
  have e0 : evalE cf (.alc a) = fun ρ M => (evalE cf a ρ M).bind alcK := by funext ρ M; simp only [evalE]
  rw [e0]
  exact pe_alcE (ha.pe _ _ _ _ o h.2)
theorem pe_call0E {X : Cx} {W : WX} {x : Str} {p pos : Pos} {k : Nat} {f : List VV → Sto → Res TV} (T : FnT S k x f) (hP : X.prog = S.P) (hw : X.w = S.w) (hK : X.K = S.K) (hmg : X.mg = S.mg) (hbase : X.base = S.base)
    (hr : Room k X.A) (tk : L2N.Takes X W) (hg : Gl X x) (hdb : (x == ("__debug__" : Str)) = false) :
    PE X (.Call (.Name x p) [] [] pos) (tE S (fun ρ M => f [] M) W) := by
  obtain ⟨a, fd, ps, h1, h2, h3, h4, h5⟩ := T.ex
  rw [← hP, ← hw, ← hK, ← hmg, ← hbase] at h4
  refine ⟨fun pins s σ H Q I ⟨F, as, ρ, M, sr, er, w⟩ => ?_⟩
  refine wpAny_Call_Name_kw (ld_glob I hg (by rw [hmg]; exact h1) ?_ hdb)
  refine PySem.W.callWith_K0 I.kIn (by rw [hK]; exact h2) (run_fnS (E := WE W) (σ := σ) (us := []) (vs := []) h4 hr (by rw [hK]; exact h3) (L2N.passAt tk σ) I .nil ?_)
  have hn : ps.length = 0 := by
    cases hz : ps.length with
    | zero => rfl
    | succ n =>
      have e := h5 [] M (by rw [hz]; simp)
      have w' : Wp S (fun c d H' => W c d σ H') F H as (f [] M) Q := w
      rw [e] at w'
      exact w'.elim
  exact ⟨by rw [hn]; rfl, F, as, M, [], sr, .nil, w⟩
theorem snd_call (f : Nat) {es : E} (he : Snd G S cf es) : Snd G S cf (.call f es) := Snd.plain (fun _ z => by cases z) (fun _ _ _ _ z => by cases z) (fun _ _ => by simp only [chkL]) (fun _ _ _ => by simp only [chkC]) (fun _ _ _ => by simp only [chkI]) fun C X W x o h => by
  simp only [chkE] at h
  split at h
  · rename_i nm _ xs _
    refine ⟨?_, rfl⟩
    have e0 : evalE cf (.call f es) = fun ρ M => (evalL cf es ρ M).bind (cf f) := by funext ρ M; simp only [evalE]
    rw [e0]
    simp only [Bool.and_eq_true] at h
    obtain ⟨⟨⟨h1, h2⟩, h3⟩, h4⟩ := h
    obtain ⟨k, hr, T⟩ := o.fns f nm (of_decide_eq_true h1)
    cases xs with
    | nil =>
      have hes : es = .nil := by
        cases es with
        | nil => rfl
        | _ => simp [chkL] at h4
      subst hes
      have e1 : (fun ρ M => (evalL cf .nil ρ M).bind (cf f)) = fun (_ : Env') M => cf f [] M := by funext ρ M; simp only [evalL]; rfl
      rw [e1]
      exact pe_call0E T o.hP o.hw o.hK o.hmg o.hbase hr o.tk (o.gl h2) (plain_db h3).1
    | cons y ys => exact pe_callE T o.hP o.hw o.hK o.hmg o.hbase hr o.tk (o.gl h2) (plain_db h3).1 (he.pst _ _ h4) (he.pv _ _ _ _ o h4)
  · cases h
theorem snd_calln (i k : Nat) (js : List Nat) {es : E} (he : Snd G S cf es) : Snd G S cf (.calln i k js es) := Snd.plain (fun _ z => by cases z) (fun _ _ _ _ z => by cases z) (fun _ _ => by simp only [chkL]) (fun _ _ _ => by simp only [chkC]) (fun _ _ _ => by simp only [chkI]) fun C X W x o h => by
  simp only [chkE] at h
  split at h
  · rename_i nm _ y ys _
    refine ⟨?_, rfl⟩
    have e0 : evalE cf (.calln i k js es) = fun ρ M => if fnAt ρ i k = true then (evalL cf es ρ M).bind (callnK (cf k) (capt ρ js)) else .stuck := by funext ρ M; simp only [evalE]
    rw [e0]
    simp only [Bool.and_eq_true] at h
    obtain ⟨⟨⟨⟨h1, h2⟩, h3⟩, h4⟩, h5⟩ := h
    exact pe_callnE (o.nds i k js (by simpa using h4)) o.hP o.hw o.hK o.hmg o.hbase o.tk (o.slot h1) (o.vis h2) (plain_db h3).1 (plain_db h3).2 (he.pst _ _ h5) (he.pv _ _ _ _ o h5)
  · cases h
theorem snd_bi (b : BI) {es : E} (he : Snd G S cf es) : Snd G S cf (.bi b es) := Snd.plain (fun _ z => by cases z) (fun _ _ _ _ z => by cases z) (fun _ _ => by simp only [chkL]) (fun _ _ _ => by simp only [chkC]) (fun _ _ _ => by simp only [chkI]) fun C X W x o h => by
  simp only [chkE] at h
  split at h
  · refine ⟨?_, rfl⟩
    have e0 : evalE cf (.bi b es) = fun ρ M => (evalT cf es ρ M).bind (biK b) := by funext ρ M; simp only [evalE]
    rw [e0]
    simp only [Bool.and_eq_true, beq_iff_eq] at h
    obtain ⟨⟨h1, h2⟩, h3⟩ := h
    subst h1
    exact pe_biE o.hK o.calm b (o.free h2).1 (o.free h2).2 (he.pst _ _ h3) (he.pts _ _ _ _ o h3)
  · cases h
theorem xcls_ne (h : (!G.xcls.isEmpty) = true) : G.xcls ≠ [] := fun z => by rw [z] at h; cases h
theorem cls_of {j : Nat} {c : Str} (o : XOk G S cf X W C) (h : clsB G C j c = true) : (G.excs ++ G.xcls).lookup j = some c ∧ Gl X c ∧ (c == ("__debug__" : Str)) = false := by
  unfold clsB at h
  simp only [Bool.and_eq_true, decide_eq_true_eq] at h
  exact ⟨h.1.1, o.gl h.1.2, (plain_db h.2).1⟩
theorem u1_ok (o : XOk G S cf X W C) (u : U1) {y x : Expr} {f : Env' → Sto → Res TV} (h : u1Arg G C u x = some y) (ha : PE X y (tE S f W)) : PE X x (tE S (fun ρ M => (f ρ M).bind (u1K u)) W) := by
  cases u with
  | exc k =>
    have h : excArg G C k x = some y := h
    unfold excArg at h
    split at h
    · split at h
      · rename_i h1
        cases h
        simp only [Bool.and_eq_true, decide_eq_true_eq] at h1
        obtain ⟨⟨⟨⟨h1, h2⟩, h3⟩, h4⟩, h5⟩ := h1
        have ob := o.obs (xcls_ne h1)
        have hl : (G.excs ++ G.xcls).lookup k = G.excs.lookup k := by rw [List.lookup_append, h2]; rfl
        rw [h2] at hl
        obtain ⟨e1, e2⟩ := ob.ef _ _ hl
        obtain ⟨B, nI, iI, bm, g1, g2, g3, g4, g5⟩ := (ob.exc _ _ h2).ex
        exact pe_excE (fun F v kvs z => (ob.ob F v kvs).mpr z) (by rw [hl]; rfl) e1 g1 g2 g3 g4 o.hK o.hmg (o.gl h3) (plain_db h4).1 h5 ha
      · cases h
    · cases h
  | isx j =>
    have h : isxArg G C j x = some y := h
    unfold isxArg at h
    split at h
    · split at h
      · rename_i h1
        cases h
        simp only [Bool.and_eq_true, beq_iff_eq, Bool.or_eq_true, decide_eq_true_eq] at h1
        obtain ⟨⟨⟨⟨h1, h2⟩, h3⟩, h4⟩, h5⟩ := h1
        subst h2
        have ob := o.obs (xcls_ne h1)
        have hx : ∀ k, ((G.excs ++ G.xcls).lookup k).isSome = true → ∃ z, (G.excs ++ G.xcls).lookup k = some z := fun k hk => Option.isSome_iff_exists.mp hk
        rcases h5 with h5 | ⟨⟨h5, h6⟩, h7⟩
        · obtain ⟨c1, c2, c3⟩ := cls_of o h5
          obtain ⟨_, e2⟩ := ob.ef _ _ c1
          exact pe_isxE (fun F v kvs z => (ob.ob F v kvs).mp z) (cV := .ref (S.cx j)) (cv := .ref (S.cx j)) (fun u r => r) (pe_glob (u := .ref (S.cx j)) c2 (by rw [o.hmg]; exact e2) rfl c3) (fun k hk => by
            obtain ⟨z, hz⟩ := hx k hk
            exact ob.kit k j z _ hz c1) o.hK (o.free h3).1 (o.free h3).2 h4 ha
        · subst h5 h6
          exact pe_isxE (fun F v kvs z => (ob.ob F v kvs).mp z) (cV := .ty "ValueError") (cv := .type "ValueError") (fun u r => r) (pe_bltn (u := .type "ValueError") (o.free h7).1 (o.free h7).2 (by decide +kernel) rfl (by decide +kernel) (by decide +kernel)) (fun k hk => by
            obtain ⟨z, hz⟩ := hx k hk
            exact ob.kitV k z hz) o.hK (o.free h3).1 (o.free h3).2 h4 ha
      · cases h
    · cases h
  | strx =>
    have h : strxArg G C x = some y := h
    unfold strxArg at h
    split at h
    · split at h
      · rename_i h1
        cases h
        simp only [Bool.and_eq_true, beq_iff_eq] at h1
        obtain ⟨⟨⟨h1, h2⟩, h3⟩, h4⟩ := h1
        subst h2
        have ob := o.obs (xcls_ne h1)
        exact pe_strxE (fun F v kvs z => (ob.ob F v kvs).mp z) o.hK o.un (o.free h3).1 (o.free h3).2 h4 ha
      · cases h
    · cases h
  | lim =>
    have h : limArg G x = some y := h
    unfold limArg at h
    split at h
    · split at h
      · rename_i h1
        cases h
        simp only [Bool.and_eq_true, beq_iff_eq] at h1
        obtain ⟨⟨h1, h2⟩, h3⟩ := h1
        subst h2
        have ob := o.obs (xcls_ne h1)
        refine pe_limE (fun F v kvs z => (ob.ob F v kvs).mp z) o.hK ?_ ha
        cases y <;> first
          | rfl
          | (exact absurd (show false = true from h3) Bool.false_ne_true)
      · cases h
    · cases h
  | tm =>
    have h : tmArg G C x = some y := h
    unfold tmArg at h
    split at h
    · split at h
      · rename_i h1
        cases h
        simp only [Bool.and_eq_true, beq_iff_eq, decide_eq_true_eq] at h1
        obtain ⟨⟨⟨h1, h2⟩, h3⟩, h4⟩ := h1
        subst h1
        have hne : G.xcls ≠ [] := fun z => by rw [z] at h2; cases h2
        have ob := o.obs hne
        obtain ⟨w1, h16⟩ : ∃ w1, (G.excs ++ G.xcls).lookup 16 = some w1 := by
          rw [List.lookup_append, h2]
          cases G.excs.lookup 16 with
          | none => exact ⟨_, rfl⟩
          | some z => exact ⟨_, rfl⟩
        obtain ⟨e1, _⟩ := ob.ef _ _ h16
        exact pe_tmE (fun F v kvs z => (ob.ob F v kvs).mpr z) (by rw [h16]; rfl) e1 (ob.tm h2) o.hP o.hw o.hK o.hmg o.hbase o.rm (fun u s' ⟨_, _, _, _, _, _, _, _, _, _, _, _, _, _, _, _, z⟩ => z.elim) (o.gl h3) h4 ha
      · cases h
    · cases h
  | sset =>
    have h : ssetArg G C x = some y := h
    unfold ssetArg at h
    split at h
    · split at h
      · rename_i h1
        cases h
        simp only [Bool.and_eq_true, beq_iff_eq] at h1
        obtain ⟨⟨⟨⟨h1, h2⟩, h3⟩, h4⟩, h5⟩ := h1
        subst h1 h2
        exact pe_ssetE o.hK o.calm (o.free h3).1 (o.free h3).2 (o.free h4).1 (o.free h4).2 h5 ha
      · cases h
    · cases h
  | srt =>
    have h : srtArg G C x = some y := h
    unfold srtArg at h
    split at h
    · split at h
      · rename_i h1
        cases h
        simp only [Bool.and_eq_true, beq_iff_eq] at h1
        obtain ⟨⟨h1, h2⟩, h3⟩ := h1
        subst h1
        exact pe_srtE o.hK o.un (o.free h2).1 (o.free h2).2 h3 ha
      · cases h
    · cases h
  | mxl =>
    have h : mxlArg G C x = some y := h
    unfold mxlArg at h
    split at h
    · split at h
      · rename_i h1
        cases h
        simp only [Bool.and_eq_true, beq_iff_eq] at h1
        obtain ⟨⟨h1, h2⟩, h3⟩ := h1
        subst h1
        exact pe_mxlE o.hK o.calm (o.free h2).1 (o.free h2).2 h3 ha
      · cases h
    · cases h
  | rev =>
    have h : revArg x = some y := h
    unfold revArg at h
    split at h
    · cases h
      exact pe_revE o.hK ha
    · cases h
  | split b =>
    have h : splitArg b x = some y := h
    unfold splitArg at h
    split at h
    · split at h
      · rename_i h1
        cases h
        simp only [Bool.and_eq_true, beq_iff_eq, decide_eq_true_eq] at h1
        obtain ⟨⟨⟨h1, h2⟩, h3⟩, h4⟩ := h1
        subst h1 h4
        refine pe_splitE ha ?_ (beq_iff_eq.mpr h3)
        cases y <;> first
          | rfl
          | (exact absurd (show false = true from h2) Bool.false_ne_true)
      · cases h
    · cases h
  | repl k y' z' =>
    have h : replArg k y' z' x = some y := h
    unfold replArg at h
    split at h
    · split at h
      · rename_i h1
        cases h
        simp only [Bool.and_eq_true, beq_iff_eq, decide_eq_true_eq] at h1
        obtain ⟨⟨⟨⟨h1, h2⟩, h3⟩, h4⟩, h5⟩ := h1
        subst h1 h3 h4 h5
        exact pe_replE o.hK ha (beq_iff_eq.mpr h2)
      · cases h
    · cases h
theorem u2_ok (o : XOk G S cf X W C) (u : U2) {y z x : Expr} {f g : Env' → Sto → Res TV} (h : u2Arg G C u x = some (y, z)) (ha : PE X y (tE S f W)) (hb : PE X z (tE S g W)) : PE X x (tE S (fun ρ M => (f ρ M).bind fun ta M1 => (g ρ M1).bind (u2K u ta)) W) := by
  cases u with
  | lzip =>
    have h : lzipArg G C x = some (y, z) := h
    unfold lzipArg at h
    split at h
    · split at h
      · rename_i h1
        cases h
        simp only [Bool.and_eq_true, beq_iff_eq] at h1
        obtain ⟨⟨⟨⟨⟨h1, h2⟩, h3⟩, h4⟩, h5⟩, h6⟩ := h1
        subst h1 h2
        exact pe_lzip2 o.hK o.calm (o.free h3).1 (o.free h3).2 (o.free h4).1 (o.free h4).2 h5 h6 ha hb
      · cases h
    · cases h
theorem snd_u1 (u : U1) (ha : Snd G S cf a) : Snd G S cf (.u1 u a) := Snd.plain (fun _ z => by cases z) (fun _ _ _ _ z => by cases z) (fun _ _ => by simp only [chkL]) (fun _ _ _ => by simp only [chkC]) (fun _ _ _ => by simp only [chkI]) fun C X W x o h => by
  simp only [chkE] at h
  split at h
  · rename_i y hy
    simp only [Bool.and_eq_true] at h
    have e0 : evalE cf (.u1 u a) = fun ρ M => (evalE cf a ρ M).bind (u1K u) := by funext ρ M; simp only [evalE]
    rw [e0]
    exact ⟨u1_ok o u hy (ha.pe _ _ _ _ o h.1), h.2⟩
  · cases h
theorem snd_u2 (u : U2) (ha : Snd G S cf a) (hb : Snd G S cf b) : Snd G S cf (.u2 u a b) := Snd.plain (fun _ z => by cases z) (fun _ _ _ _ z => by cases z) (fun _ _ => by simp only [chkL]) (fun _ _ _ => by simp only [chkC]) (fun _ _ _ => by simp only [chkI]) fun C X W x o h => by
  simp only [chkE] at h
  split at h
  · rename_i y z hy
    simp only [Bool.and_eq_true] at h
    have e0 : evalE cf (.u2 u a b) = fun ρ M => (evalE cf a ρ M).bind fun ta M1 => (evalE cf b ρ M1).bind (u2K u ta) := by funext ρ M; simp only [evalE]
    rw [e0]
    exact ⟨u2_ok o u hy (ha.pe _ _ _ _ o h.1.1) (hb.pe _ _ _ _ o h.1.2), h.2⟩
  · cases h
theorem snd_isi (t : Ty) (ha : Snd G S cf a) : Snd G S cf (.isi a t) := Snd.plain (fun _ z => by cases z) (fun _ _ _ _ z => by cases z) (fun _ _ => by simp only [chkL]) (fun _ _ _ => by simp only [chkC]) (fun _ _ _ => by simp only [chkI]) fun C X W x o h => by
  simp only [chkE] at h
  split at h
  · refine ⟨?_, rfl⟩
    have e0 : evalE cf (.isi a t) = fun ρ M => (evalE cf a ρ M).bind (isiK t) := by funext ρ M; simp only [evalE]
    rw [e0]
    simp only [Bool.and_eq_true, beq_iff_eq] at h
    obtain ⟨⟨⟨⟨⟨h1, h2⟩, h3⟩, h4⟩, h5⟩, h6⟩ := h
    subst h1 h2
    exact pe_isiE o.hK t (o.free h3).1 (o.free h3).2 (o.free h4).1 (o.free h4).2 h5 (ha.pe _ _ _ _ o h6)
  · cases h
theorem snd_app {es : E} (ha : Snd G S cf a) (he : Snd G S cf es) : Snd G S cf (.app a es) := Snd.plain (fun _ z => by cases z) (fun _ _ _ _ z => by cases z) (fun _ _ => by simp only [chkL]) (fun _ _ _ => by simp only [chkC]) (fun _ _ _ => by simp only [chkI]) fun C X W x o h => by
  simp only [chkE] at h
  split at h
  · rename_i p nm apos q cpos
    refine ⟨?_, rfl⟩
    have e0 : evalE cf (.app a es) = appF (evalE cf a) (evalL cf es) := by funext ρ M; simp only [evalE, appF]
    rw [e0]
    simp only [Bool.and_eq_true] at h
    obtain ⟨⟨⟨⟨⟨h1, h2⟩, h3⟩, h4⟩, h5⟩, h6⟩ := h
    have h1 : nm = ("append" : Str) := by simpa using h1
    subst h1
    refine pe_appE (ha.pe _ _ _ _ o h5) (he.pv _ _ _ _ o h6) o.hK ?_ h3 h4
    cases p <;> first
      | rfl
      | (exact absurd (show false = true from h2) Bool.false_ne_true)
  · cases h
theorem XOk.lam (o : XOk G S cf X W C) {k : Nat} (h2 : 2 ≤ k) (hk : ∀ f x, G.fns.lookup f = some x → FnT S k x (cf f)) (A : Around) (outer : List Env) (s : Shared) (H : Hp) (E : XK) (scope : Scope) (f c' : Addr) (hr : Room k (A.deeper (LamX.lamEnv X scope s.heap.objs.size f c'))) :
    XOk G S cf (lamCxN X A outer s H E scope f c') (fun c d _ H => E c d H) (lamC C scope) where
  hP := o.hP
  hw := o.hw
  hK := o.hK
  hmg := o.hmg
  hbase := o.hbase
  calm := rfl
  un := by
    have := hr.un
    show (A.deeper _).units + 64 < cLine
    omega
  tk := L2N.takes_of rfl rfl rfl rfl
  hN := o.hN
  nd := o.nd
  sc := rfl
  fn := rfl
  fns := fun f x hf => ⟨k, hr, hk f x hf⟩
  nums := o.nums
  unt := o.unt
  wd := fun h => by cases h
  nds := fun _ _ _ h => nomatch h
  rm := hr.mono h2
  obs := o.obs
theorem snd_join (ha : Snd G S cf a) (hb : Snd G S cf b) : Snd G S cf (.join a b) := Snd.plain (fun _ z => by cases z) (fun _ _ _ _ z => by cases z) (fun _ _ => by simp only [chkL]) (fun _ _ _ => by simp only [chkC]) (fun _ _ _ => by simp only [chkI]) fun C X W x o h => by
  simp only [chkE] at h
  split at h
  · rename_i p nm apos q cpos
    refine ⟨?_, rfl⟩
    have e0 : evalE cf (.join a b) = joinF (evalE cf a) (evalE cf b) := by funext ρ M; simp only [evalE, joinF]
    rw [e0]
    simp only [Bool.and_eq_true] at h
    obtain ⟨⟨⟨⟨⟨h1, h2⟩, h3⟩, h4⟩, h5⟩, h6⟩ := h
    have h1 : nm = ("join" : Str) := by simpa using h1
    subst h1
    refine pe_joinE o.hK (ha.pe _ _ _ _ o h5) (hb.pe _ _ _ _ o h6) h3 ?_ h4
    cases p <;> first
      | rfl
      | (exact absurd (show false = true from h2) Bool.false_ne_true)
  · cases h
theorem snd_word (ws : List Str) (f : Nat) {es : E} (he : Snd G S cf es) (hcall : ∀ C X W x, XOk G S cf X W C → chkE G C (.call f es) x = true → PE X x (tE S (evalE cf (.call f es)) W)) : Snd G S cf (.word ws f es) := Snd.plain (fun _ z => by cases z) (fun _ _ _ _ z => by cases z) (fun _ _ => by simp only [chkL]) (fun _ _ _ => by simp only [chkC]) (fun _ _ _ => by simp only [chkI]) fun C X W x o h => by
  simp only [chkE] at h
  split at h
  · rename_i nm p params g pg xs cpos scope lpos pos
    refine ⟨?_, rfl⟩
    simp only [Bool.and_eq_true] at h
    obtain ⟨⟨⟨⟨⟨⟨⟨⟨⟨h1, h2⟩, h3⟩, h4⟩, h5⟩, h6⟩, h7⟩, h8⟩, h9⟩, h10⟩ := h
    have h2 : nm = ("_law_word" : Str) := by simpa using h2
    subst h2
    have h4 := of_decide_eq_true h4
    subst h4
    obtain ⟨k, hk2, wa, wok, hk⟩ := o.wd h1
    have wr := wok X W k o.hP o.hw o.hK o.hmg o.hbase wa
    have e0 : evalE cf (.word G.words f es) = fun ρ M => wordK G.words (evalE cf (.call f es) ρ M) := by funext ρ M; simp only [evalE]
    rw [e0]
    refine wr params _ scope p lpos pos _ h5 (LamX.lamS_by (by rw [o.sc]; exact h6)) (o.gl h3) fun A outer s H E f' c' hr => ?_
    refine hcall (lamC C scope) _ _ _ (o.lam hk2 hk A outer s H E scope f' c' hr) ?_
    simp only [chkE, Bool.and_eq_true]
    exact ⟨⟨⟨h7, h8⟩, h9⟩, h10⟩
  · cases h
theorem snd_nil : Snd G S cf .nil where
  pe := fun C X W x o h => by simp only [chkE] at h; cases h
  pt := fun C X W x o h => by simp only [chkE] at h; cases h
  pw := fun C X W x o h => by simp only [chkE] at h; cases h
  pv := fun C X W xs o h => by
    have e0 : evalL cf .nil = fun _ M => .ok [] M := by funext ρ M; simp only [evalL]
    simp only [chkL, List.isEmpty_iff] at h
    subst h
    rw [e0]; exact pa_nilV
  pts := fun C X W xs o h => by
    have e0 : evalT cf .nil = fun _ M => .ok [] M := by funext ρ M; simp only [evalT]
    simp only [chkL, List.isEmpty_iff] at h
    subst h
    rw [e0]; exact pa_nilT
  pst := fun C xs h => by
    simp only [chkL, List.isEmpty_iff] at h
    subst h
    rfl
  pc := fun C X W elt gens scope pos i rest _ _ _ h => by simp only [chkC] at h; cases h
  pi := fun C X W tg x _ h => by simp only [chkI] at h; cases h
  hd1 := fun _ z => by cases z
  lcp := fun _ _ _ _ z => by cases z
theorem snd_cons (ha : Snd G S cf a) (hb : Snd G S cf b) : Snd G S cf (.cons a b) where
  pe := fun C X W x o h => by simp only [chkE] at h; cases h
  pt := fun C X W x o h => by simp only [chkE] at h; cases h
  pw := fun C X W x o h => by simp only [chkE] at h; cases h
  pv := fun C X W xs o h => by
    have e0 : evalL cf (.cons a b) = fun ρ M => (evalE cf a ρ M).bind fun t M1 => (evalL cf b ρ M1).bind fun xs M2 => .ok (freezes t :: xs) M2 := by funext ρ M; simp only [evalL]
    cases xs with
    | nil => simp [chkL] at h
    | cons y ys =>
      simp only [chkL, Bool.and_eq_true] at h
      rw [e0]; exact pa_consV h.1.1 (ha.pe _ _ _ _ o h.1.2) (hb.pv _ _ _ _ o h.2)
  pts := fun C X W xs o h => by
    have e0 : evalT cf (.cons a b) = fun ρ M => (evalE cf a ρ M).bind fun t M1 => (evalT cf b ρ M1).bind fun xs M2 => .ok (t :: xs) M2 := by funext ρ M; simp only [evalT]
    cases xs with
    | nil => simp [chkL] at h
    | cons y ys =>
      simp only [chkL, Bool.and_eq_true] at h
      rw [e0]; exact pa_consT h.1.1 (ha.pe _ _ _ _ o h.1.2) (hb.pts _ _ _ _ o h.2)
  pst := fun C xs h => by
    cases xs with
    | nil => rfl
    | cons y ys =>
      simp only [chkL, Bool.and_eq_true] at h
      rw [List.all_cons, h.1.1, hb.pst _ _ h.2]
      rfl
  pc := fun C X W elt gens scope pos i rest _ _ _ h => by simp only [chkC] at h; cases h
  pi := fun C X W tg x _ h => by simp only [chkI] at h; cases h
  hd1 := fun a' z C X W x o h => by cases z; exact ha.pe _ _ _ _ o h
  lcp := fun _ _ _ _ z => by cases z
theorem drop_nil {α : Type} {l : List α} {i : Nat} (h : l.drop i = []) : l[i]? = none := List.getElem?_eq_none (by
  have := congrArg List.length h
  rw [List.length_drop] at this
  simp at this
  omega)
theorem drop_cons {α : Type} {l r : List α} {x : α} {i : Nat} (h : l.drop i = x :: r) : l[i]? = some x ∧ l.drop (i + 1) = r := by
  have h1 : (l.drop i)[0]? = some x := by rw [h]; rfl
  rw [List.getElem?_drop] at h1
  refine ⟨by simpa using h1, ?_⟩
  have h2 : (l.drop i).drop 1 = r := by rw [h]; rfl
  rw [List.drop_drop] at h2
  simpa [Nat.add_comm] using h2
theorem snd_cy (ha : Snd G S cf a) : Snd G S cf (.cy a) where
  pe := fun C X W x o h => by simp only [chkE] at h; cases h
  pt := fun C X W x o h => by simp only [chkE] at h; cases h
  pw := fun C X W x o h => by simp only [chkE] at h; cases h
  pv := fun C X W xs o h => by simp only [chkL] at h; cases h
  pts := fun C X W xs o h => by simp only [chkL] at h; cases h
  pst := fun C xs h => by simp only [chkL] at h; cases h
  pc := fun C X W elt gens scope pos i rest o hx hd h => by
    simp only [chkC, Bool.and_eq_true, List.isEmpty_iff] at h
    have e0 : evalC cf (.cy a) = fun ρ M => (evalE cf a ρ M).bind cyK := by funext ρ M; simp only [evalC]
    have h1 := h.1
    subst h1
    rw [e0]
    exact pcl_nil hx (drop_nil hd) (ha.pe _ _ _ _ o h.2)
  pi := fun C X W tg x _ h => by simp only [chkI] at h; cases h
  hd1 := fun _ z => by cases z
  lcp := fun _ _ _ _ z => by cases z
/-- targets -/
theorem chkTg_ok {X : Cx} {W : WX} {C : CC} (o : XOk G S cf X W C) : ∀ (t : Tg), (∀ x, chkTg C t x = true → PG X x (gTg S t)) ∧ ∀ xs, chkTgs C t xs = true → xs.all notStar = true → PGs X xs (gTgL S t) := by
  intro t
  induction t with
  | nm i =>
    refine ⟨fun x h => ?_, fun xs h => ?_⟩
    · cases x <;> simp only [chkTg, Bool.false_eq_true, Bool.and_eq_true] at h
      exact pg_nmE (by rw [o.hN]; exact o.nd) (o.slot h.1) (o.loc h.2).1 (o.loc h.2).2
    · simp only [chkTgs] at h; cases h
  | tp l ih =>
    refine ⟨fun x h => ?_, fun xs h => ?_⟩
    · cases x <;> simp only [chkTg, Bool.false_eq_true, Bool.and_eq_true] at h
      rename_i es k pos
      obtain ⟨⟨h1, h2⟩, h3⟩ := h
      have h2 := of_decide_eq_true h2
      have key : ∀ (es : List Expr), es.all notStar = true → (assignEach es X.env).length = es.length ∧ (assignEach es X.env).findIdx? (·.1) = none := fun es => by
        induction es with
        | nil => exact fun _ => ⟨rfl, rfl⟩
        | cons e es ih2 =>
          intro h
          rw [List.all_cons, Bool.and_eq_true] at h
          obtain ⟨q1, q2⟩ := ih2 h.2
          have e1 : assignEach (e :: es) X.env = (false, assign e X.env) :: assignEach es X.env := by
            have := h.1
            cases e <;> first
              | rfl
              | (exact absurd (show false = true from this) Bool.false_ne_true)
          rw [e1]
          refine ⟨by rw [List.length_cons, List.length_cons, q1], ?_⟩
          rw [List.findIdx?_cons]
          simp [q2]
      obtain ⟨q1, q2⟩ := key es h3
      exact pg_tpE o.hK o.calm (ih.2 es h1 h3) (by rw [q1, h2]) q2
    · simp only [chkTgs] at h; cases h
  | nil =>
    refine ⟨fun x h => ?_, fun xs h _ => ?_⟩
    · cases x <;> simp only [chkTg, Bool.false_eq_true] at h
    cases xs with
    | nil => exact pgs_nilE
    | cons _ _ => simp only [chkTgs] at h; cases h
  | cons a b iha ihb =>
    refine ⟨fun x h => ?_, fun xs h hs => ?_⟩
    · cases x <;> simp only [chkTg, Bool.false_eq_true] at h
    cases xs with
    | nil => simp only [chkTgs] at h; cases h
    | cons e es =>
      simp only [chkTgs, Bool.and_eq_true] at h
      rw [List.all_cons, Bool.and_eq_true] at hs
      refine pgs_consE (iha.1 e h.1) (ihb.2 es h.2 hs.2) ?_
      have := hs.1
      cases e <;> first
        | rfl
        | (exact absurd (show false = true from this) Bool.false_ne_true)
/-- a clause's test -/
theorem ifs_ok {X : Cx} {W : WX} {C : CC} {ifs : List Expr} (o : XOk G S cf X W C) (hc : Snd G S cf c) (h : (match ifs with | [] => isNil c | [y] => !isNil c && isTst y && chkE G C c y | _ => false) = true) :
    PTs X ifs (tG S (RB S) (fun ρ M => if isNil c = true then .ok true M else (evalE cf c ρ M).bind asB) W) := by
  cases ifs with
  | nil =>
    have h : isNil c = true := h
    rw [h]
    exact ⟨fun pins s σ H Q I ⟨F, as, ρ, M, sr, er, w⟩ => pts_nil.run pins s σ H Q I (w true F H as .refl sr rfl)⟩
  | cons y l =>
    cases l with
    | nil =>
      simp only [Bool.and_eq_true, Bool.not_eq_true'] at h
      rw [h.1.1]
      exact pts_one (hc.pt _ _ _ _ o h.2 h.1.2)
    | cons _ _ => cases h
theorem tgS_dis {t : Tg} {sl : List Nat} (h : (tgS t).all (fun j => !sl.contains j) = true) : ∀ j ∈ tgS t, j ∉ sl := fun j hj hm => by
  have z := List.all_eq_true.mp h j hj
  simp at z
  exact z hm
theorem snd_cf (t : Tg) {i : E} (hi : Snd G S cf i) (hc : Snd G S cf c) (hb : Snd G S cf b) : Snd G S cf (.cf t i c b) where
  pe := fun C X W x o h => by simp only [chkE] at h; cases h
  pt := fun C X W x o h => by simp only [chkE] at h; cases h
  pw := fun C X W x o h => by simp only [chkE] at h; cases h
  pv := fun C X W xs o h => by simp only [chkL] at h; cases h
  pts := fun C X W xs o h => by simp only [chkL] at h; cases h
  pst := fun C xs h => by simp only [chkL] at h; cases h
  pc := fun C X W elt gens scope pos n rest o hx hd h => by
    have e0 : evalC cf (.cf t i c b) = fun ρ M => (evalI cf i ρ M).bind fun xs M1 => loopC (itemK t ρ (fun ρ M => if isNil c = true then .ok true M else (evalE cf c ρ M).bind asB) (evalC cf b)) xs M1 := by funext ρ M; simp only [evalC]
    simp only [chkC] at h
    split at h
    · rename_i tg it ifs rest
      simp only [Bool.and_eq_true] at h
      obtain ⟨⟨⟨⟨⟨h1, h2⟩, h3⟩, h4⟩, h5⟩, h6⟩ := h
      obtain ⟨g1, g2⟩ := drop_cons hd
      rw [e0]
      refine pcl_cons (W := W) hx o.calm g1 ⟨rfl, notSet_ok h2 _⟩ (fun g hg => ?_) (hi.pi _ _ _ _ _ o h1) ((chkTg_ok o t).1 _ h3) (ifs_ok o hc h4) (hb.pc _ _ W _ _ _ _ _ _ o hx g2 h5) (tgS_dis h6)
      -- the next clause's form
      cases rest with
      | nil => rw [drop_nil g2] at hg; cases hg
      | cons g' r' =>
        obtain ⟨g3, _⟩ := drop_cons g2
        rw [g3] at hg
        cases hg
        cases b with
        | cf t' i' c' b' =>
          simp only [chkC] at h5
          split at h5
          · rename_i e5
            cases e5
            simp only [Bool.and_eq_true] at h5
            exact ⟨rfl, notSet_ok h5.1.1.1.1.2 _⟩
          · cases h5
        | cy e' => simp [chkC] at h5
        | _ => simp only [chkC] at h5; cases h5
    · cases h
  pi := fun C X W tg x _ h => by simp only [chkI] at h; cases h
  hd1 := fun _ z => by cases z
  lcp := fun t' i' c' b' z C X W own elt tg it ifs rest scope pos o h => by
    cases z
    unfold lcChk at h
    simp only [Bool.and_eq_true] at h
    obtain ⟨⟨⟨⟨⟨⟨⟨h0, h1⟩, h2⟩, h3⟩, h4⟩, h5⟩, h6⟩, h7⟩ := h
    have eo : (ownP C own).map (·.2) = own := by
      unfold ownP
      rw [List.map_map]
      have : ((fun p : Str × Nat => p.2) ∘ fun i => (C.N.getD i "", i)) = id := rfl
      rw [this, List.map_id]
    exact {
      hc := o.calm
      hN := by rw [o.hN]; exact o.nd
      hi := hi.pi _ _ _ _ _ o h1
      ok := blkOk_by (by rw [o.hN, o.sc]; exact h0)
      hcl0 := notSet_ok h2 _
      hcl := fun cl Ca g hg => by
        cases rest with
        | nil => cases hg
        | cons g' r' =>
          cases hg
          cases b with
          | cf t' i' c' b' =>
            simp only [chkC] at h5
            split at h5
            · rename_i e5
              cases e5
              simp only [Bool.and_eq_true] at h5
              exact ⟨rfl, notSet_ok h5.1.1.1.1.2 _⟩
            · cases h5
          | cy e' => simp [chkC] at h5
          | _ => simp only [chkC] at h5; cases h5
      hg := fun s H Ca cl fp => (chkTg_ok (o.blk s H scope cl Ca fp) t).1 _ h3
      ht := fun s H Ca cl fp => ifs_ok (o.blk s H scope cl Ca fp) hc h4
      hp := fun s H Ca cl fp => hb.pc _ _ (fun _ _ _ _ => False) _ _ _ _ _ _ (o.blk s H scope cl Ca fp) rfl rfl h5
      dis := tgS_dis h6
      hsl := fun j hj => by
        rw [eo]
        have z := List.all_eq_true.mp h7 j hj
        simpa using z }
theorem snd_lc (own : List Nat) {b : E} (hb : Snd G S cf b) : Snd G S cf (.lc own b) := by
  cases b with
  | cf t i c b =>
    refine Snd.plain (fun _ z => by cases z) (fun _ _ _ _ z => by cases z) (fun _ _ => by simp only [chkL]) (fun _ _ _ => by simp only [chkC]) (fun _ _ _ => by simp only [chkI]) fun C X W x o h => ?_
    simp only [chkE] at h
    split at h
    · rename_i elt tg it ifs rest scope pos
      refine ⟨?_, rfl⟩
      have eo : (ownP C own).map (·.2) = own := by
        unfold ownP
        rw [List.map_map]
        have : ((fun p : Str × Nat => p.2) ∘ fun i => (C.N.getD i "", i)) = id := rfl
        rw [this, List.map_id]
      have P := hb.lcp t i c b rfl C X W own elt tg it ifs rest scope pos o h
      have e0 : evalE cf (.lc own (.cf t i c b)) = fun ρ M => lcK (lcF (evalI cf i) t (ftC cf c) (evalC cf b) (wipeE ρ ((ownP C own).map (·.2))) M) := by
        funext ρ M
        rw [eo]
        simp only [evalE, evalC, lcF]
        rfl
      rw [e0]
      exact pe_lcE P
    · cases h
  | _ => exact Snd.plain (fun _ z => by cases z) (fun _ _ _ _ z => by cases z) (fun _ _ => by simp only [chkL]) (fun _ _ _ => by simp only [chkC]) (fun _ _ _ => by simp only [chkI]) fun C X W x o h => by simp only [chkE] at h; cases h
theorem ownP_snd (C : CC) (own : List Nat) : (ownP C own).map (·.2) = own := by
  unfold ownP
  rw [List.map_map]
  have : ((fun p : Str × Nat => p.2) ∘ fun i => (C.N.getD i "", i)) = id := rfl
  rw [this, List.map_id]
/-- a comprehension whose items may be things of the store -/
def lcrChk (G : Gf) (C : CC) (own : List Nat) (t : Tg) (i b : E) (elt tg it : Expr) (scope : Scope) : Bool :=
  blkC C.N C.sc scope (ownP C own) && chkI G C i it tg && notSet it && chkTg (inner C scope) t tg && chkE G (inner C scope) b elt && (tgS t).all (fun j => own.contains j)
theorem lcr_p {own : List Nat} {t : Tg} {i b : E} (hi : Snd G S cf i) (hb : Snd G S cf b) {elt tg it : Expr} {scope : Scope} {pos : Pos} (o : XOk G S cf X W C) (h : lcrChk G C own t i b elt tg it scope = true) :
    LcP id X S W elt tg it [] [] scope (ownP C own) pos t [] (fun _ _ _ _ => False) (evalI cf i) (fun _ M => .ok true M) (fun ρ M => (evalE cf b ρ M).bind cyV) := by
  unfold lcrChk at h
  simp only [Bool.and_eq_true] at h
  obtain ⟨⟨⟨⟨⟨h0, h1⟩, h2⟩, h3⟩, h4⟩, h5⟩ := h
  exact {
    hc := o.calm
    hN := by rw [o.hN]; exact o.nd
    hi := hi.pi _ _ _ _ _ o h1
    ok := blkOk_by (by rw [o.hN, o.sc]; exact h0)
    hcl0 := notSet_ok h2 _
    hcl := fun cl Ca g hg => by cases hg
    hg := fun s H Ca cl fp => (chkTg_ok (o.blk s H scope cl Ca fp) t).1 _ h3
    ht := fun s H Ca cl fp => ⟨fun pins s' σ H' Q I ⟨F, as, ρ, M, sr, er, w⟩ => pts_nil.run pins s' σ H' Q I (w true F H' as .refl sr rfl)⟩
    hp := fun s H Ca cl fp => pcl_nilV (W := fun _ _ _ _ => False) rfl rfl (hb.pe _ _ _ _ (o.blk s H scope cl Ca fp) h4)
    dis := fun j _ hj => by cases hj
    hsl := fun j hj => by
      rw [ownP_snd]
      rw [List.append_nil] at hj
      have z := List.all_eq_true.mp h5 j hj
      simpa using z }
theorem lcr_eq {own : List Nat} {t : Tg} {i b : E} (C : CC) : evalE cf (.lcr own t i b) = fun ρ M => lcG lrefsK (lcF (evalI cf i) t (fun _ M => .ok true M) (fun ρ M => (evalE cf b ρ M).bind cyV) (wipeE ρ ((ownP C own).map (·.2))) M) := by
  funext ρ M
  rw [ownP_snd, ← lcrK_eq]
  simp only [evalE, lcF]
theorem snd_lcr (own : List Nat) (t : Tg) {i b : E} (hi : Snd G S cf i) (hb : Snd G S cf b) : Snd G S cf (.lcr own t i b) :=
  Snd.plain (fun _ z => by cases z) (fun _ _ _ _ z => by cases z) (fun _ _ => by simp only [chkL]) (fun _ _ _ => by simp only [chkC]) (fun _ _ _ => by simp only [chkI]) fun C X W x o h => by
  simp only [chkE] at h
  split at h
  · rename_i elt tg it scope pos
    refine ⟨?_, rfl⟩
    rw [lcr_eq C]
    exact pe_lcG lrefs_ok (lcr_p hi hb o h)
  · cases h
theorem eval_bad : evalE cf .bad = fun (_ : Env') (_ : Sto) => (.stuck : Res TV) := by funext ρ M; simp only [evalE]
theorem snd_bad : Snd G S cf .bad := by
  refine Snd.exp (fun _ z => by cases z) (fun _ _ _ _ z => by cases z) (fun _ _ => by simp only [chkL]) (fun _ _ _ => by simp only [chkC]) (fun _ _ _ => by simp only [chkI]) (fun C X W x o h => ?_) (fun C X W x o h _ => ?_) (fun C X W x o h hb => ?_)
  · rw [eval_bad]; exact ⟨fun pins s σ H Q I ⟨F, as, ρ, M, sr, er, w⟩ => w.elim⟩
  · rw [eval_bad]; exact ⟨fun pins s σ H Q I ⟨F, as, ρ, M, sr, er, w⟩ => w.elim⟩
  · rw [eval_bad]; exact ⟨fun _ pins s σ H Q I ⟨F, as, ρ, M, sr, er, w⟩ => w.elim⟩
theorem snd_it (k : IK) {es : E} (he : Snd G S cf es) : Snd G S cf (.it k es) := by
  have mk : (∀ C X W tg x, XOk G S cf X W C → chkI G C (.it k es) x tg = true → PI X tg x (tI S (evalI cf (.it k es)) W)) → Snd G S cf (.it k es) := fun pi => {
    pe := fun C X W x o h => by simp only [chkE] at h; cases h
    pt := fun C X W x o h => by simp only [chkE] at h; cases h
    pw := fun C X W x o h => by simp only [chkE] at h; cases h
    pv := fun C X W xs o h => by simp only [chkL] at h; cases h
    pts := fun C X W xs o h => by simp only [chkL] at h; cases h
    pst := fun C xs h => by simp only [chkL] at h; cases h
    pc := fun C X W elt gens scope pos i rest _ _ _ h => by simp only [chkC] at h; cases h
    pi := pi
    hd1 := fun _ z => by cases z
    lcp := fun _ _ _ _ z => by cases z }
  refine mk fun C X W tg x o h => ?_
  cases k with
  | val =>
    cases es with
    | cons a b =>
      cases b with
      | nil =>
        simp only [chkI] at h
        have e0 : evalI cf (.it .val (.cons a .nil)) = fun ρ M => (evalE cf a ρ M).bind seqK := by funext ρ M; simp only [evalI]
        rw [e0]
        exact pi_seqE o.hK (he.hd1 a rfl C X W x o h)
      | _ => simp only [chkI] at h; cases h
    | _ => simp only [chkI] at h; cases h
  | rng1 =>
    simp only [chkI] at h
    split at h
    · have e0 : evalI cf (.it .rng1 es) = fun ρ M => (evalT cf es ρ M).bind rng1K := by funext ρ M; simp only [evalI]
      rw [e0]
      simp only [Bool.and_eq_true, beq_iff_eq] at h
      obtain ⟨⟨h1, h2⟩, h3⟩ := h
      subst h1
      have ns := he.pst _ _ h3
      simp only [List.all_cons, List.all_nil, Bool.and_true] at ns
      exact pi_rng1E (o.free h2).1 (o.free h2).2 (he.pts _ _ _ _ o h3) (star_of ns)
    · cases h
  | rng2 =>
    simp only [chkI] at h
    split at h
    · have e0 : evalI cf (.it .rng2 es) = fun ρ M => (evalT cf es ρ M).bind rng2K := by funext ρ M; simp only [evalI]
      rw [e0]
      simp only [Bool.and_eq_true, beq_iff_eq] at h
      obtain ⟨⟨h1, h2⟩, h3⟩ := h
      subst h1
      have ns := he.pst _ _ h3
      simp only [List.all_cons, List.all_nil, Bool.and_true, Bool.and_eq_true] at ns
      refine pi_rng2E (o.free h2).1 (o.free h2).2 (he.pts _ _ _ _ o h3) ?_ (star_of ns.2)
      rw [star_of ns.1, star_of ns.2]
      rfl
    · cases h
  | enum =>
    simp only [chkI] at h
    split at h
    · have e0 : evalI cf (.it .enum es) = fun ρ M => (evalL cf es ρ M).bind enumK := by funext ρ M; simp only [evalI]
      rw [e0]
      simp only [Bool.and_eq_true, beq_iff_eq] at h
      obtain ⟨⟨⟨h1, h2⟩, h3⟩, h4⟩ := h
      subst h1
      have ns := he.pst _ _ h3
      simp only [List.all_cons, List.all_nil, Bool.and_true] at ns
      cases tg <;> first
        | (exact absurd (show false = true from h4) Bool.false_ne_true)
        | exact pi_enumE o.hK (o.free h2).1 (o.free h2).2 (he.pv _ _ _ _ o h3) (star_of ns)
    · cases h
  | zip =>
    simp only [chkI] at h
    split at h
    · have e0 : evalI cf (.it .zip es) = fun ρ M => (evalL cf es ρ M).bind zipK := by funext ρ M; simp only [evalI]
      rw [e0]
      simp only [Bool.and_eq_true, beq_iff_eq] at h
      obtain ⟨⟨⟨h1, h2⟩, h3⟩, h4⟩ := h
      subst h1
      have ns := he.pst _ _ h3
      simp only [List.all_cons, List.all_nil, Bool.and_true, Bool.and_eq_true] at ns
      cases tg <;> first
        | (exact absurd (show false = true from h4) Bool.false_ne_true)
        | exact pi_zipGE o.hK (o.free h2).1 (o.free h2).2 (he.pv _ _ _ _ o h3) (star_of ns.1) (by rw [star_of ns.2]; rfl)
    · cases h
theorem snd_none {e : E} (h1 : ∀ C x, chkE G C e x = false) (h2 : ∀ C x, chkL G C e x = false) (h3 : ∀ C elt l, chkC G C elt e l = false) (h4 : ∀ C x tg, chkI G C e x tg = false) (h6 : ∀ a, e ≠ .cons a .nil) (h5 : ∀ t i c b, e ≠ .cf t i c b) : Snd G S cf e :=
  Snd.plain h6 h5 h2 h3 h4 fun C X W x o h => by rw [h1] at h; cases h
theorem snd : ∀ e : E, Snd G S cf e
  | .k d => snd_k d
  | .v i => snd_v i
  | .g x z => snd_g x z
  | .bin o a b => snd_bin o (snd a) (snd b)
  | .neg a => snd_neg (snd a)
  | .rep a b => snd_rep (snd a) (snd b)
  | .cmp o a b => snd_cmp o (snd a) (snd b)
  | .chn o p a b c => snd_chn o p (snd a) (snd b) (snd c)
  | .isN a => snd_isN (snd a)
  | .nsN a => snd_nsN (snd a)
  | .and_ a b => snd_and (snd a) (snd b)
  | .or_ a b => snd_or (snd a) (snd b)
  | .not_ a => snd_not (snd a)
  | .ite c a b => snd_ite (snd c) (snd a) (snd b)
  | .tup es => snd_tup (snd es)
  | .lst es => snd_lst (snd es)
  | .lrefs es => snd_lrefs (snd es)
  | .nil => snd_nil
  | .cons a b => snd_cons (snd a) (snd b)
  | .ix a b => snd_ix (snd a) (snd b)
  | .sl a lo hi => snd_sl (snd a) (snd lo) (snd hi)
  | .u1 u a => snd_u1 u (snd a)
  | .call f es => snd_call f (snd es)
  | .bi b es => snd_bi b (snd es)
  | .u2 u a b => snd_u2 u (snd a) (snd b)
  | .isi a t => snd_isi t (snd a)
  | .lc own b => snd_lc own (snd b)
  | .lcr own t i b => snd_lcr own t (snd i) (snd b)
  | .bad => snd_bad
  | .cf t i c b => snd_cf t (snd i) (snd c) (snd b)
  | .cy e => snd_cy (snd e)
  | .it i es => snd_it i (snd es)
  | .alc a => snd_alc (snd a)
  | .app o es => snd_app (snd o) (snd es)
  | .join a b => snd_join (snd a) (snd b)
  | .word ws f es => snd_word ws f (snd es) (snd_call f (snd es)).pe
  | .calln i k js es => snd_calln i k js (snd es)
end
end Ev

/-! Ev13: statements: the evaluator, the checker, and that it is right. -/
namespace Ev
open PySem PySem.Spec PyProof.Rows L2
open LamX (Tabs)

inductive Sm where
  | nil
  | seq (a b : Sm)
  | set (i : Nat) (e : E)
  | tgt (t : Tg) (e : E)
  | par2 (i j : Nat) (es : E)
  | par3 (i j l : Nat) (es : E)
  | sti (o ix e : E)
  | drop (e : E)
  | ret (e : E)
  | ite (c : E) (a b : Sm)
  | whl (c : E) (b : Sm)
  | for_ (t : Tg) (it : E) (b : Sm)
  | rse (k : Nat)
  /-- a ghost: the store's list in slot i is kept by others from now on -/
  | frz (i : Nat)
  /-- a def in a def, at its head: the slot i holds the function of the nested def k -/
  | ndef (i k : Nat)
  /-- any text: it is never come to -/
  | bad
section
variable (cf : Nat → List VV → Sto → Res TV) (fuel : Nat)
def evalS : Sm → Env' → Sto → Res Fl
  | .nil, ρ, M => .ok (.nx ρ) M
  | .seq a b, ρ, M => (evalS a ρ M).bind (seqF fun ρ M => evalS b ρ M)
  | .set i e, ρ, M => (evalE cf e ρ M).bind (setK i ρ)
  | .tgt t e, ρ, M => (evalE cf e ρ M).bind (tgtK t ρ)
  | .par2 i j es, ρ, M => (evalL cf es ρ M).bind (par2K i j ρ)
  | .par3 i j l es, ρ, M => (evalL cf es ρ M).bind (par3K i j l ρ)
  | .sti o ix e, ρ, M => (evalE cf e ρ M).bind fun u M1 => (evalE cf o ρ M1).bind fun to M2 => (evalE cf ix ρ M2).bind fun ti M3 => (stiK (freezes u) to ti M3).bind fun _ M4 => .ok (.nx ρ) M4
  | .drop e, ρ, M => (evalE cf e ρ M).bind fun _ M1 => .ok (.nx ρ) M1
  | .ret e, ρ, M => (evalE cf e ρ M).bind fun t M1 => .ok (.ret t) M1
  | .ite c a b, ρ, M => ((evalE cf c ρ M).bind asB).bind fun c M1 => if c = true then evalS a ρ M1 else evalS b ρ M1
  | .whl c b, ρ, M => whlF (fun ρ M => (evalE cf c ρ M).bind asB) (fun ρ M => evalS b ρ M) fuel ρ M
  | .for_ t it b, ρ, M => (evalI cf it ρ M).bind fun xs M1 => forF t (fun ρ M => evalS b ρ M) xs ρ M1
  | .rse k, _, M => .err k M
  | .frz i, ρ, M => frzK i ρ M
  | .ndef i k, ρ, M => .ok (.nx (ρ.set i (some (.fn k)))) M
  | .bad, _, _ => .stuck
end
/-! ### the checker -/
def notComp : Expr → Bool
  | .ListComp .. => false
  | .SetComp .. => false
  | .DictComp .. => false
  | _ => true
def isLc : E → Bool
  | .lc .. => true
  | .lcr .. => true
  | _ => false
/-- name = e stores within the comprehension -/
def swB (C : CC) (x : Str) (p : Pos) : Expr → Bool
  | .ListComp _ _ s vp => (kOf C x == some .local) && (p.line == vp.line) && !(s.names.any fun (n, k) => n == x && (k == .local || k == .cell))
  | _ => false
def notSDC : Expr → Bool
  | .SetComp .. => false
  | .DictComp .. => false
  | _ => true
def swN (C : CC) (ts vs : List Expr) : Option (Option (List Str)) :=
  if !(ts.length == 2 || ts.length == 3) || vs.length != ts.length then some none
  else if vs.any fun | .Starred .. => true | _ => false then some none
  else
    let line := (ts.head?.map (·.pos.line)).getD 0
    let names := ts.filterMap fun
      | .Name id pos => if kOf C id == some .local && pos.line == line then some id else none
      | _ => none
    if names.length != ts.length || names.eraseDups.length != names.length then some none
    else if vs.all (foldedForSure 8) then some none
    else if vs.all (constantsAlone 8) then none
    else some (some names)
def swT (C : CC) (ts : List Expr) (v : Expr) : Option (Option (List Str)) := match v with
  | .Tuple vs _ _ => swN C ts vs
  | _ => some none
section
variable (G : Gf)
mutual
def chkS (C : CC) : Sm → Stmt → Bool
  | .set i e, st => match st with
    | .Assign [.Name x p] v _ => isSlot C i x && isLoc C x && chkE G C e v && notSDC v && (!swB C x p v || ((kOf C x == some .local) && isLc e))
    | _ => false
  | .tgt t e, st => match st with
    | .Assign [.Tuple ts k p] v _ => chkTg C t (.Tuple ts k p) && chkE G C e v && decide (swT C ts v = some none) && notSDC v
    | _ => false
  | .par2 i j es, st => match st with
    | .Assign [.Tuple [.Name x px, .Name y py] kt pt] (.Tuple [a, b] k2 pt2) _ => isSlot C i x && isSlot C j y && (kOf C x == some .local) && (kOf C y == some .local) && decide (i ≠ j) && chkL G C es [a, b] && decide (swN C [.Name x px, .Name y py] [a, b] = some (some [x, y]))
    | _ => false
  | .par3 i j l es, st => match st with
    | .Assign [.Tuple [.Name x px, .Name y py, .Name z pz] kt pt] (.Tuple [a, b, c] k2 pt2) _ => isSlot C i x && isSlot C j y && isSlot C l z && (kOf C x == some .local) && (kOf C y == some .local) && (kOf C z == some .local) && decide (i ≠ j) && decide (i ≠ l) && decide (j ≠ l) &&
        chkL G C es [a, b, c] && decide (swN C [.Name x px, .Name y py, .Name z pz] [a, b, c] = some (some [x, y, z]))
    | _ => false
  | .sti o ix e, st => match st with
    | .Assign [.Subscript p q _] v _ => notSlice q && chkE G C o p && chkE G C ix q && chkE G C e v && notSDC v
    | _ => false
  | .drop e, st => match st with
    | .Expr v _ => notComp v && chkE G C e v
    | _ => false
  | .ret e, st => match st with
    | .Return (some v) _ => chkE G C e v
    | _ => false
  | .ite c a b, st => match st with
    | .If v p q _ => isTst v && chkE G C c v && chkSs C a p && chkSs C b q
    | _ => false
  | .whl c b, st => match st with
    | .While v p [] _ => isTst v && chkE G C c v && chkSs C b p
    | _ => false
  | .for_ t it b, st => match st with
    | .For tg v p [] _ => chkI G C it v tg && notSet v && chkTg C t tg && chkSs C b p
    | _ => false
  | .bad, _ => true
  | .rse k, st => match st with
    | .Raise (some (.Call (.Name x _) [.Constant (.str _) _ _] [] _)) none _ => decide (G.excs.lookup k = some x) && isGl C x && plainName x
    | _ => false
  | _, _ => false
def chkSs (C : CC) : Sm → List Stmt → Bool
  | .nil, l => l.isEmpty
  | .seq (.frz _) b, l => chkSs C b l
  | .seq a b, l => match l with
    | st :: rest => chkS C a st && chkSs C b rest
    | [] => false
  | _, _ => false
end
end
end Ev

/-! Ev14: what passes the checker is what the evaluator says: statements. -/
namespace Ev
open PySem PySem.Spec PyProof.Rows L2
open LamX (Tabs)

/-- an own class of errors, made with a text -/
structure XS (G : Gf) (S : Stat) (cf : Nat → List VV → Sto → Res TV) (X : Cx) (W : WX) (C : CC) : Prop where
  x : XOk G S cf X W C
  kd : C.sc.kind = .function
  po : PassesOwn (model X.prog X.w) X.A X.env X.xe
  exc : ∀ k y, G.excs.lookup k = some y → ExF S k y
section
variable {G : Gf} {S : Stat} {cf : Nat → List VV → Sto → Res TV} {fuel : Nat} {X : Cx} {W : WX} {C : CC}
theorem blockKind_of {env : Env} (h : env.scope.kind = .function) : env.blockKind = .function := by unfold Env.blockKind; rw [h]; rfl
theorem sw_of (o : XS G S cf X W C) {v : Expr} {x : Str} {p : Pos} {l : Nat} (hv : notSDC v = true) : swapsWith v (some (.Name x p)) l X.env = pure (swB C x p v) := by
  have hk : X.env.scope.kind = .function := by rw [o.x.sc]; exact o.kd
  have hb := blockKind_of hk
  have ek : X.env.kindOf x = kOf C x := by unfold kOf; rw [← o.x.sc]; rfl
  cases v <;> first
    | rfl
    | (exact absurd (show false = true from hv) Bool.false_ne_true)
    | (unfold swapsWith swB
       simp only [hb, ek, Expr.pos]
       done)
    | (unfold swapsWith swB
       simp only [hb, ek, Expr.pos]
       rfl)
theorem sw_other {v tg : Expr} {l : Nat} {env : Env} (hv : notSDC v = true) (ht : ∀ x p, tg ≠ .Name x p) : swapsWithSole [tg] v l env = pure false := by
  show swapsWith v (some tg) l env = pure false
  cases v <;> first
    | rfl
    | (exact absurd (show false = true from hv) Bool.false_ne_true)
    | (unfold swapsWith
       cases tg <;> first
         | rfl
         | (exact absurd rfl (ht _ _)))
theorem sw_none {v : Expr} {l : Nat} {env : Env} (hv : notComp v = true) : swapsWith v none l env = pure false := by
  cases v <;> first
    | rfl
    | (exact absurd (show false = true from hv) Bool.false_ne_true)
theorem swN_ok (o : XS G S cf X W C) {ts vs : List Expr} {k k2 : Nat} {p p2 : Pos} {r : Option (List Str)} (h : swN C ts vs = some r) : swappedStores [.Tuple ts k p] (.Tuple vs k2 p2) X.env = pure r := by
  have hk : X.env.scope.kind = .function := by rw [o.x.sc]; exact o.kd
  have hb := blockKind_of hk
  have ek : ∀ x, X.env.kindOf x = kOf C x := fun x => by unfold kOf; rw [← o.x.sc]; rfl
  unfold swappedStores
  dsimp only
  simp only [hb, ek]
  have e0 : (ScopeKind.function != ScopeKind.function) = false := by decide
  rw [e0, Bool.or_false]
  unfold swN at h
  dsimp only at h
  split at h
  · rename_i h1
    cases h
    exact if_pos h1
  · rename_i h1
    refine (if_neg h1).trans ?_
    split at h
    · rename_i h2
      cases h
      refine if_pos ?_
      exact h2
    · rename_i h2
      refine (if_neg ?_).trans ?_
      · exact h2
      · split at h
        · rename_i h3
          cases h
          refine if_pos ?_
          exact h3
        · rename_i h3
          refine (if_neg ?_).trans ?_
          · exact h3
          · split at h
            · rename_i h4
              cases h
              exact if_pos h4
            · rename_i h4
              refine (if_neg h4).trans ?_
              split at h
              · cases h
              · rename_i h5
                cases h
                exact (if_neg h5).trans rfl
/-! ### the ghost -/
theorem frz_core {F H : Hp} {as : AS} {M : Sto} {n : Nat} {a : Addr} {ds : List PyData} {vs : List V} (s : Sr S F H as M) (h1 : as[n]? = some (some a)) (h2 : H a = some (.lst vs)) (h3 : DpAll S.K F vs ds) :
    ∃ F' as', Nxt F H as F' H as' ∧ Sr S F' H as' (M.set n .gone) ∧ Dp S.K F' (.ref a) (.list ds) ∧ ∀ k, k ≠ n → as'[k]? = as[k]? := by
  have ho := s.out n a h1
  have hin : some a ∈ as := mem_ix.mpr ⟨n, h1⟩
  have hnl : n < as.length := (List.getElem?_eq_some_iff.mp h1).1
  have gone : ∀ (m : Nat) (b : Addr), (as.set n none)[m]? = some (some b) → m ≠ n ∧ as[m]? = some (some b) := fun m b e => by
    by_cases hm : n = m
    · subst hm
      rw [List.getElem?_set_self hnl] at e
      cases e
    · rw [List.getElem?_set_ne hm] at e
      exact ⟨fun z => hm z.symm, e⟩
  have nx : Nxt F H as (upd F a (.lst vs)) H (as.set n none) := {
    len := by rw [List.length_set]; exact Nat.le_refl _
    old := fun m b e _ => (gone m b e).2
    new := fun m b e hl => by
      have z := (gone m b e).2
      rw [List.getElem?_eq_none hl] at z
      cases z
    keep := fun b o _ _ e => e
    there := fun b e => e
    grow := fun b o e => by rw [upd_ne (ne_of_none e ho.1)]; exact e
    fresh := fun b e1 _ e3 => by
      have hb : b ≠ a := fun z => e3 (by rw [z]; exact hin)
      rw [upd_ne hb]; exact e1 }
  have s' : Sr S (upd F a (.lst vs)) H (as.set n none) (M.set n .gone) := {
    sub := fun b u e => by
      by_cases hb : b = a
      · rw [hb, upd_same] at e; rw [hb, h2]; exact e
      · rw [upd_ne hb] at e; exact s.sub b u e
    nt := fun b ps e => by
      by_cases hb : b = a
      · rw [hb, upd_same] at e; cases e
      · rw [upd_ne hb] at e; exact s.nt b ps e
    len := by rw [List.length_set, List.length_set]; exact s.len
    inj := fun m k b e1 e2 => s.inj m k b (gone m b e1).2 (gone k b e2).2
    out := fun m b e => by
      obtain ⟨z1, z2⟩ := gone m b e
      have hb : b ≠ a := fun z => z1 (s.inj m n a (by rw [← z]; exact z2) h1)
      rw [upd_ne hb]
      exact s.out m b z2
    obj := fun m es e => by
      by_cases hm : n = m
      · subst hm
        rw [List.getElem?_set_self (by rw [← s.len]; exact hnl)] at e
        cases e
      · rw [List.getElem?_set_ne hm] at e
        obtain ⟨b, us, g1, g2, g3⟩ := s.obj m es e
        exact ⟨b, us, by rw [List.getElem?_set_ne hm]; exact g1, g2, dpAll_mono (upd_sub ho.1) es us g3⟩
    vls := fun m xs e => by
      by_cases hm : n = m
      · subst hm
        rw [List.getElem?_set_self (by rw [← s.len]; exact hnl)] at e
        cases e
      · rw [List.getElem?_set_ne hm] at e
        obtain ⟨b, us, g1, g2, g3⟩ := s.vls m xs e
        exact ⟨b, us, by rw [List.getElem?_set_ne hm]; exact g1, g2, paired_mono (Vi.up (upd_sub ho.1) fun k c _ h => (gone k c h).2) g3⟩
    tabs := s.tabs }
  exact ⟨_, _, nx, s', Dp.lst (SqL.of upd_same) (dpAll_mono (upd_sub ho.1) ds vs h3), fun k hk => List.getElem?_set_ne fun z => hk z.symm⟩
theorem frzAll_ok {H : Hp} {n : Nat} : ∀ {xs : List VV} {vs : List V} {F : Hp} {as : AS} {M M' : Sto} {ds : List PyData}, Sr S F H as M → Paired (Vi S.K F as n) xs vs → frzAll xs M = some (ds, M') →
    ∃ F' as', Nxt F H as F' H as' ∧ Sr S F' H as' M' ∧ DpAll S.K F' vs ds ∧ ∀ k, n ≤ k → as'[k]? = as[k]?
  | [], _, F, as, M, M', ds, s, .nil, e => by
    simp only [frzAll, Option.some.injEq, Prod.mk.injEq] at e
    obtain ⟨rfl, rfl⟩ := e
    exact ⟨F, as, .refl, s, .nil, fun _ _ => rfl⟩
  | .d x :: xs, _, F, as, M, M', ds, s, .cons h1 h2, e => by
    simp only [frzAll, Option.map_eq_some_iff] at e
    obtain ⟨⟨es, M1⟩, e1, e2⟩ := e
    cases e2
    obtain ⟨F', as', nx, s', d, hk⟩ := frzAll_ok s h2 e1
    exact ⟨F', as', nx, s', .cons (dp_mono nx.grow x _ h1) d, hk⟩
  | .ref m :: xs, _, F, as, M, M', ds, s, .cons h1 h2, e => by
    simp only [frzAll] at e
    split at e
    · rename_i es hm
      simp only [Option.map_eq_some_iff] at e
      obtain ⟨⟨fs, M1⟩, e1, e2⟩ := e
      cases e2
      obtain ⟨a, us, g1, g2, g3⟩ := s.obj m es hm
      obtain ⟨F1, as1, nx1, s1, d1, hk1⟩ := frz_core s g1 g2 g3
      have ev := h1.2 a g1
      obtain ⟨F', as', nx, s', d, hk⟩ := frzAll_ok s1 (paired_mono (Vi.up nx1.grow fun k b hkn z => nx1.old k b z (by
        have q := (List.getElem?_eq_some_iff.mp z).1
        by_cases hkm : k = m
        · rw [hkm]; exact (List.getElem?_eq_some_iff.mp g1).1
        · rw [hk1 k hkm] at z; exact (List.getElem?_eq_some_iff.mp z).1)) h2) e1
      refine ⟨F', as', nx1.trans nx, s', .cons ?_ d, fun k hkn => by rw [hk k hkn, hk1 k (by have := h1.1; omega)]⟩
      rw [ev]
      exact dp_mono nx.grow _ _ d1
    · cases e
  | .raw _ :: _, _, _, _, _, _, _, _, .cons h1 _, _ => h1.elim
  | .fn _ :: _, _, _, _, _, _, _, _, .cons h1 _, _ => h1.elim
theorem frz_ok {rest : List Stmt} {fb : Env' → Sto → Res Fl} {i : Nat} (h : PSs X rest (tS S fb W)) : PSs X rest (tS S (fun ρ M => (frzK i ρ M).bind (seqF fb)) W) :=
  PSs.imp h fun D σ H ⟨F, as, ρ, M, s, er, w⟩ => by
    dsimp only at w
    have fin : ∀ {F' : Hp} {as' : AS} {M' : Sto} {n : Nat} {a : Addr} {ds : List PyData}, ρ[i]? = some (some (.ref n)) → as[n]? = some (some a) → Nxt F H as F' H as' → Sr S F' H as' M' → Dp S.K F' (.ref a) (.list ds) →
        WpS S W D F H as (fb (ρ.set i (some (.d (.list ds)))) M') → tS S fb W D σ H := by
      intro F' as' M' n a ds hn h1 nx s' d w'
      obtain ⟨v, hv, hr⟩ := er.at_ i _ hn
      have ev := hr.2 a h1
      subst ev
      have er' : Er S F' as' (ρ.set i (some (.d (.list ds)))) σ := by
        refine ⟨by rw [List.length_set]; exact er.len, fun j y hy => ?_⟩
        by_cases hj : i = j
        · subst hj
          have hl : i < ρ.length := (List.getElem?_eq_some_iff.mp hn).1
          rw [List.getElem?_set_self hl] at hy
          cases hy
          exact ⟨.ref a, hv, d⟩
        · rw [List.getElem?_set_ne hj] at hy
          obtain ⟨u, g1, g2⟩ := er.at_ j y hy
          exact ⟨u, g1, g2.mono nx⟩
      exact ⟨_, _, _, _, s', er', WpS.later nx w'⟩
    unfold frzK at w
    split at w
    · rename_i n hn
      split at w
      · rename_i ds hds
        obtain ⟨a, vs, h1, h2, h3⟩ := s.obj n ds hds
        obtain ⟨F', as', nx, s', d, _⟩ := frz_core s h1 h2 h3
        exact fin hn h1 nx s' d w
      · rename_i xs hxs
        split at w
        · rename_i ds M' he
          obtain ⟨a, vs, h1, h2, h3⟩ := s.vls n xs hxs
          obtain ⟨F1, as1, nx1, s1, d1, hk1⟩ := frzAll_ok s h3 he
          have g1 : as1[n]? = some (some a) := by rw [hk1 n (Nat.le_refl _)]; exact h1
          obtain ⟨F', as', nx, s', d, _⟩ := frz_core s1 g1 h2 d1
          exact fin hn h1 (nx1.trans nx) s' d w
        · exact w.elim
      · exact w.elim
    · exact w.elim
/-! ### statements -/
theorem local_of (o : XS G S cf X W C) {x : Str} (h : (kOf C x == some .local) = true) : X.env.scope.names.lookup x = some .local := by
  have h : kOf C x = some .local := by simpa using h
  unfold kOf at h
  rw [o.x.sc]
  exact h
theorem snds (a : Sm) : (∀ C X W st, XS G S cf X W C → chkS G C a st = true → PS X st (tS S (evalS cf fuel a) W)) ∧ (∀ C X W l, XS G S cf X W C → chkSs G C a l = true → PSs X l (tS S (evalS cf fuel a) W)) := by
  induction a with
  | nil =>
    refine ⟨fun C X W st o h => (by simp only [chkS] at h; cases h), fun C X W l o h => ?_⟩
    simp only [chkSs, List.isEmpty_iff] at h
    subst h
    have e0 : evalS cf fuel .nil = fun ρ M => .ok (.nx ρ) M := by funext ρ M; simp only [evalS]
    rw [e0]
    exact pss_nilE
  | seq a b iha ihb =>
    refine ⟨fun C X W st o h => (by simp only [chkS] at h; cases h), fun C X W l o h => ?_⟩
    have e0 : evalS cf fuel (.seq a b) = fun ρ M => (evalS cf fuel a ρ M).bind (seqF (evalS cf fuel b)) := by funext ρ M; simp only [evalS]
    rw [e0]
    by_cases hf : ∃ i, a = .frz i
    · obtain ⟨i, rfl⟩ := hf
      simp only [chkSs] at h
      have e1 : evalS cf fuel (.frz i) = frzK i := by funext ρ M; simp only [evalS]
      rw [e1]
      exact frz_ok (ihb.2 C X W l o h)
    · have h' : ∃ st rest, l = st :: rest ∧ chkS G C a st = true ∧ chkSs G C b rest = true := by
        cases l with
        | nil => cases a <;> first | (simp only [chkSs] at h; cases h) | exact absurd ⟨_, rfl⟩ hf
        | cons st rest =>
          refine ⟨st, rest, rfl, ?_⟩
          cases a <;> first | (simp only [chkSs, Bool.and_eq_true] at h; exact h) | exact absurd ⟨_, rfl⟩ hf
      obtain ⟨st, rest, rfl, h1, h2⟩ := h'
      exact pss_consE (iha.1 C X W st o h1) (ihb.2 C X W rest o h2)
  | set i e =>
    refine ⟨fun C X W st o h => ?_, fun C X W l o h => by simp only [chkSs] at h; cases h⟩
    have e0 : evalS cf fuel (.set i e) = fun ρ M => (evalE cf e ρ M).bind (setK i ρ) := by funext ρ M; simp only [evalS]
    rw [e0]
    simp only [chkS] at h
    split at h
    · rename_i x p v pos
      simp only [Bool.and_eq_true, Bool.or_eq_true, Bool.not_eq_true'] at h
      obtain ⟨⟨⟨⟨h1, h2⟩, h3⟩, h4⟩, h5⟩ := h
      have hl := o.x.loc h2
      cases hsw : swB C x p v with
      | false =>
        exact ps_setE (by rw [o.x.hN]; exact o.x.nd) (o.x.slot h1) hl.1 ((snd e).pe _ _ _ _ o.x h3) (by rw [sw_of o h4, hsw]) hl.2
      | true =>
        rw [hsw] at h5
        have hloc : (kOf C x == some .local) = true ∧ isLc e = true := by
          rcases h5 with h5 | h5
          · cases h5
          · exact h5
        cases v with
        | ListComp elt gens scope vp =>
          cases e with
          | lc own b =>
            cases b with
            | cf t i' c b =>
              have h3' := h3
              simp only [chkE] at h3'
              split at h3'
              · rename_i e5
                cases e5
                rename_i tg it ifs rest
                have P := (snd (G := G) (S := S) (cf := cf) (.cf t i' c b)).lcp t i' c b rfl C X W own elt tg it ifs rest scope vp o.x h3'
                have eo : (ownP C own).map (·.2) = own := by
                  unfold ownP
                  rw [List.map_map]
                  have : ((fun p : Str × Nat => p.2) ∘ fun i => (C.N.getD i "", i)) = id := rfl
                  rw [this, List.map_id]
                have e1 : evalE cf (.lc own (.cf t i' c b)) = fun ρ M => lcK (lcF (evalI cf i') t (ftC cf c) (evalC cf b) (wipeE ρ ((ownP C own).map (·.2))) M) := by
                  funext ρ M
                  rw [eo]
                  simp only [evalE, evalC, lcF]
                  rfl
                rw [e1]
                exact ps_lcSetE P (o.x.slot h1) (local_of o hloc.1) (by rw [sw_of o h4, hsw])
              · cases h3'
            | _ => simp only [chkE] at h3; cases h3
          | lcr own t i' b =>
            have h3' := h3
            simp only [chkE] at h3'
            split at h3'
            · rename_i e5
              cases e5
              rename_i tg it
              rw [lcr_eq C]
              exact ps_lcSetG lrefs_ok (lcr_p (snd i') (snd b) o.x h3') (o.x.slot h1) (local_of o hloc.1) (by rw [sw_of o h4, hsw])
            · cases h3'
          | _ => cases hloc.2
        | _ => cases hsw
    · cases h
  | tgt t e =>
    refine ⟨fun C X W st o h => ?_, fun C X W l o h => by simp only [chkSs] at h; cases h⟩
    have e0 : evalS cf fuel (.tgt t e) = fun ρ M => (evalE cf e ρ M).bind (tgtK t ρ) := by funext ρ M; simp only [evalS]
    rw [e0]
    simp only [chkS] at h
    split at h
    · rename_i ts k p v pos
      simp only [Bool.and_eq_true] at h
      obtain ⟨⟨⟨h1, h2⟩, h3⟩, h4⟩ := h
      have h3 := of_decide_eq_true h3
      refine ps_tgtE ((snd e).pe _ _ _ _ o.x h2) ((chkTg_ok o.x t).1 _ h1) (sw_other h4 fun _ _ z => by cases z) ?_ rfl
      unfold swT at h3
      split at h3
      · exact swN_ok o h3
      · rename_i hn
        cases v <;> first
          | rfl
          | exact absurd rfl (hn _ _ _)
    · cases h
  | par2 i j es =>
    refine ⟨fun C X W st o h => ?_, fun C X W l o h => by simp only [chkSs] at h; cases h⟩
    have e0 : evalS cf fuel (.par2 i j es) = fun ρ M => (evalL cf es ρ M).bind (par2K i j ρ) := by funext ρ M; simp only [evalS]
    rw [e0]
    simp only [chkS] at h
    split at h
    · simp only [Bool.and_eq_true] at h
      obtain ⟨⟨⟨⟨⟨⟨h1, h2⟩, h3⟩, h4⟩, h5⟩, h6⟩, h7⟩ := h
      exact ps_par2E o.x.calm (by rw [o.x.hN]; exact o.x.nd) (o.x.slot h1) (o.x.slot h2) (of_decide_eq_true h5) (local_of o h3) (local_of o h4) ((snd es).pv _ _ _ _ o.x h6) (swN_ok o (of_decide_eq_true h7)) rfl
    · cases h
  | par3 i j l es =>
    refine ⟨fun C X W st o h => ?_, fun C X W l o h => by simp only [chkSs] at h; cases h⟩
    have e0 : evalS cf fuel (.par3 i j l es) = fun ρ M => (evalL cf es ρ M).bind (par3K i j l ρ) := by funext ρ M; simp only [evalS]
    rw [e0]
    simp only [chkS] at h
    split at h
    · simp only [Bool.and_eq_true] at h
      obtain ⟨⟨⟨⟨⟨⟨⟨⟨⟨⟨h1, h2⟩, h2'⟩, h3⟩, h4⟩, h4'⟩, h5⟩, h5'⟩, h5''⟩, h6⟩, h7⟩ := h
      exact ps_par3E o.x.calm (by rw [o.x.hN]; exact o.x.nd) (o.x.slot h1) (o.x.slot h2) (o.x.slot h2') (of_decide_eq_true h5) (of_decide_eq_true h5') (of_decide_eq_true h5'') (local_of o h3) (local_of o h4) (local_of o h4') ((snd es).pv _ _ _ _ o.x h6) (swN_ok o (of_decide_eq_true h7)) rfl
    · cases h
  | sti ob ix e =>
    refine ⟨fun C X W st o h => ?_, fun C X W l o h => by simp only [chkSs] at h; cases h⟩
    have e0 : evalS cf fuel (.sti ob ix e) = fun ρ M => (evalE cf e ρ M).bind fun u M1 => (evalE cf ob ρ M1).bind fun to M2 => (evalE cf ix ρ M2).bind fun ti M3 => (stiK (freezes u) to ti M3).bind fun _ M4 => .ok (.nx ρ) M4 := by funext ρ M; simp only [evalS]
    rw [e0]
    simp only [chkS] at h
    split at h
    · rename_i p q tp v pos
      simp only [Bool.and_eq_true] at h
      obtain ⟨⟨⟨⟨h1, h2⟩, h3⟩, h4⟩, h5⟩ := h
      refine ps_stiE ((snd e).pe _ _ _ _ o.x h4) ((snd ob).pe _ _ _ _ o.x h2) ((snd ix).pe _ _ _ _ o.x h3) (sw_other h5 fun _ _ z => by cases z) rfl rfl ?_
      intro v
      cases q <;> first
        | rfl
        | (exact absurd (show false = true from h1) Bool.false_ne_true)
    · cases h
  | drop e =>
    refine ⟨fun C X W st o h => ?_, fun C X W l o h => by simp only [chkSs] at h; cases h⟩
    have e0 : evalS cf fuel (.drop e) = fun ρ M => (evalE cf e ρ M).bind fun _ M1 => .ok (.nx ρ) M1 := by funext ρ M; simp only [evalS]
    rw [e0]
    simp only [chkS] at h
    split at h
    · simp only [Bool.and_eq_true] at h
      exact ps_dropE ((snd e).pe _ _ _ _ o.x h.2) (sw_none h.1)
    · cases h
  | ret e =>
    refine ⟨fun C X W st o h => ?_, fun C X W l o h => by simp only [chkSs] at h; cases h⟩
    have e0 : evalS cf fuel (.ret e) = fun ρ M => (evalE cf e ρ M).bind fun t M1 => .ok (.ret t) M1 := by funext ρ M; simp only [evalS]
    rw [e0]
    simp only [chkS] at h
    split at h
    · exact ps_retE ((snd e).pe _ _ _ _ o.x h)
    · cases h
  | ite c a b iha ihb =>
    refine ⟨fun C X W st o h => ?_, fun C X W l o h => by simp only [chkSs] at h; cases h⟩
    have e0 : evalS cf fuel (.ite c a b) = fun ρ M => ((evalE cf c ρ M).bind asB).bind fun c M1 => if c = true then evalS cf fuel a ρ M1 else evalS cf fuel b ρ M1 := by funext ρ M; simp only [evalS]
    rw [e0]
    simp only [chkS] at h
    split at h
    · simp only [Bool.and_eq_true] at h
      exact ps_ifE ((snd c).pt _ _ _ _ o.x h.1.1.2 h.1.1.1) (iha.2 C X W _ o h.1.2) (ihb.2 C X W _ o h.2)
    · cases h
  | whl c b ihb =>
    refine ⟨fun C X W st o h => ?_, fun C X W l o h => by simp only [chkSs] at h; cases h⟩
    have e0 : evalS cf fuel (.whl c b) = whlF (fun ρ M => (evalE cf c ρ M).bind asB) (evalS cf fuel b) fuel := by funext ρ M; simp only [evalS]
    rw [e0]
    simp only [chkS] at h
    split at h
    · simp only [Bool.and_eq_true] at h
      exact ps_whlE fuel o.po ((snd c).pt _ _ _ _ o.x h.1.2 h.1.1) (ihb.2 C X W _ o h.2)
    · cases h
  | for_ t it b ihb =>
    refine ⟨fun C X W st o h => ?_, fun C X W l o h => by simp only [chkSs] at h; cases h⟩
    have e0 : evalS cf fuel (.for_ t it b) = fun ρ M => (evalI cf it ρ M).bind fun xs M1 => forF t (evalS cf fuel b) xs ρ M1 := by funext ρ M; simp only [evalS]
    rw [e0]
    simp only [chkS] at h
    split at h
    · simp only [Bool.and_eq_true] at h
      exact ps_forE o.po o.x.calm ((snd it).pi _ _ _ _ _ o.x h.1.1.1) ((chkTg_ok o.x t).1 _ h.1.2) (ihb.2 C X W _ o h.2) (notSet_ok h.1.1.2 _)
    · cases h
  | rse k =>
    refine ⟨fun C X W st o h => ?_, fun C X W l o h => by simp only [chkSs] at h; cases h⟩
    have e0 : evalS cf fuel (.rse k) = fun _ M => .err k M := by funext ρ M; simp only [evalS]
    rw [e0]
    simp only [chkS] at h
    split at h
    · simp only [Bool.and_eq_true] at h
      obtain ⟨⟨h1, h2⟩, h3⟩ := h
      obtain ⟨B, nI, iI, bm, g1, g2, g3, g4, g5⟩ := (o.exc k _ (of_decide_eq_true h1)).ex
      exact ps_rseE o.x.calm o.x.tk g1 (by rw [o.x.hK]; exact g2) (by rw [o.x.hmg]; exact g3) (by rw [o.x.hK]; exact g4) (g5 X o.x.hK) (o.x.gl h2) (plain_db h3).1
    · cases h
  | bad =>
    refine ⟨fun C X W st o h => ?_, fun C X W l o h => by simp only [chkSs] at h; cases h⟩
    have e0 : evalS cf fuel .bad = fun (_ : Env') (_ : Sto) => (.stuck : Res Fl) := by funext ρ M; simp only [evalS]
    rw [e0]
    exact ⟨fun pins s σ H D I ⟨F, as, ρ, M, sr, er, w⟩ => w.elim⟩
  | frz i => exact ⟨fun C X W st o h => (by simp only [chkS] at h; cases h), fun C X W l o h => (by simp only [chkSs] at h; cases h)⟩
  | ndef i k => exact ⟨fun C X W st o h => (by simp only [chkS] at h; cases h), fun C X W l o h => (by simp only [chkSs] at h; cases h)⟩
end
end Ev

/-! Ev15: defs, and the table of them. -/
namespace Ev
open PySem PySem.Spec PyProof.Rows L2
open LamX (Tabs)

structure Fd where
  /-- how many slots -/
  n : Nat
  np : Nat
  body : Sm
  /-- lambdas stand in it -/
  tab : Bool := false
/-- what is told behind the def's end: its own things of the store are gone -/
def outV (n : Nat) (t : TV) (M : Sto) : Res TV := match t with
  | .v (.ref m) => if m < n then .ok (.v (.ref m)) (M.take n) else match M[m]? with
    | some (.lst ds) => .ok (.own ds) (M.take n)
    | _ => .stuck
  | .v (.d x) => .ok (.v (.d x)) (M.take n)
  | .v (.raw _) => .stuck
  | .v (.fn _) => .stuck
  | .own ds => .ok (.own ds) (M.take n)
def exitR (n : Nat) (r : Res Fl) : Res TV := match r with
  | .ok (.ret t) M => outV n t M
  | .ok (.nx _) M => .ok (.v (.d .none)) (M.take n)
  | .err x M => .err x (M.take n)
  | .stuck => .stuck
def callS (cf : Nat → List VV → Sto → Res TV) (fuel : Nat) (fd : Fd) (xs : List VV) (M : Sto) : Res TV :=
  if xs.length = fd.np then exitR M.length (evalS cf fuel fd.body (xs.map some ++ List.replicate (fd.n - fd.np) none) M) else .stuck
def cfD (fs : List Fd) (fuel : Nat) : Nat → Nat → List VV → Sto → Res TV
  | 0, _, _, _ => .stuck
  | d + 1, f, xs, M => match fs[f]? with
    | some fd => callS (cfD fs fuel d) fuel fd xs M
    | none => .stuck
section
variable {S : Stat} {F H F' H' : Hp} {as as' : AS} {M M' : Sto}
theorem take_get {α : Type} {l : List α} {n m : Nat} {x : α} (h : (l.take n)[m]? = some x) : m < n ∧ l[m]? = some x := by
  by_cases hm : m < n
  · rw [List.getElem?_take_of_lt hm] at h; exact ⟨hm, h⟩
  · rw [List.getElem?_eq_none (by rw [List.length_take]; omega)] at h; cases h
theorem Nxt.cut (x : Nxt F H as F' H' as') : Nxt F H as F' H' (as'.take as.length) where
  len := by rw [List.length_take]; have := x.len; omega
  old := fun n a e h => x.old n a (take_get e).2 h
  new := fun n a e h => by have := (take_get e).1; omega
  keep := x.keep
  there := x.there
  grow := x.grow
  fresh := x.fresh
theorem Sr.cut (s : Sr S F H as M) (n : Nat) : Sr S F H (as.take n) (M.take n) where
  sub := s.sub
  nt := s.nt
  len := by rw [List.length_take, List.length_take, s.len]
  inj := fun a b c h1 h2 => s.inj a b c (take_get h1).2 (take_get h2).2
  out := fun a b h => s.out a b (take_get h).2
  obj := fun a ds h => by
    obtain ⟨h1, h2⟩ := take_get h
    obtain ⟨b, vs, g1, g2, g3⟩ := s.obj a ds h2
    exact ⟨b, vs, by rw [List.getElem?_take_of_lt h1]; exact g1, g2, g3⟩
  vls := fun a xs h => by
    obtain ⟨h1, h2⟩ := take_get h
    obtain ⟨b, vs, g1, g2, g3⟩ := s.vls a xs h2
    exact ⟨b, vs, by rw [List.getElem?_take_of_lt h1]; exact g1, g2, paired_mono (Vi.up (fun _ _ h => h) fun m c _ e => (take_get e).2) g3⟩
  tabs := s.tabs
theorem exit_ok {E : XK} {Q : VK} {r : Res Fl} (s : Sr S F H as M) (w : Wp S E F H as (exitR M.length r) Q) : WpS S (fun c d _ H => E c d H) { nx := fun _ H' => Q .non H', rt := Q } F H as r := by
  have el : as.length = M.length := s.len
  cases r with
  | ok f M1 =>
    cases f with
    | nx ρ =>
      have w : Wp S E F H as (.ok (.v (.d .none)) (M1.take M.length)) Q := w
      exact fun σ' F' H' as' nx s' _ => w .non F' H' (as'.take as.length) nx.cut (by rw [el]; exact s'.cut _) .non
    | ret t =>
      have w : Wp S E F H as (outV M.length t M1) Q := w
      intro v F' H' as' nx s' tr
      cases t with
      | own ds =>
        have w : Wp S E F H as (.ok (.own ds) (M1.take M.length)) Q := w
        obtain ⟨p, vs, e, h1, h2, h3, h4, h5⟩ := tr
        refine w v F' H' (as'.take as.length) nx.cut (by rw [el]; exact s'.cut _) ⟨p, vs, e, h1, fun z => ?_, h3, h4, h5⟩
        obtain ⟨k, hk⟩ := mem_ix.mp z
        exact h2 (mem_ix.mpr ⟨k, (take_get hk).2⟩)
      | v x =>
        cases x with
        | d x =>
          have w : Wp S E F H as (.ok (.v (.d x)) (M1.take M.length)) Q := w
          exact w v F' H' (as'.take as.length) nx.cut (by rw [el]; exact s'.cut _) tr
        | raw u => exact (show False from w).elim
        | fn u => exact (show False from w).elim
        | ref m =>
          have w : Wp S E F H as (if m < M.length then .ok (.v (.ref m)) (M1.take M.length) else match M1[m]? with
            | some (.lst ds) => .ok (.own ds) (M1.take M.length)
            | _ => .stuck) Q := w
          have tr : Vr S.K F' as' (.ref m) v := tr
          by_cases hm : m < M.length
          · rw [if_pos hm] at w
            refine w v F' H' (as'.take as.length) nx.cut (by rw [el]; exact s'.cut _) ⟨?_, fun a e => tr.2 a (take_get e).2⟩
            rw [List.length_take]
            have := nx.len
            omega
          · rw [if_neg hm] at w
            split at w
            · rename_i ds hds
              obtain ⟨a, vs, g1, g2, g3⟩ := s'.obj m ds hds
              have ev := tr.2 a g1
              obtain ⟨o1, o2⟩ := s'.out m a g1
              refine w v F' H' (as'.take as.length) nx.cut (by rw [el]; exact s'.cut _) ⟨a, vs, ev, o1, fun z => ?_, g2, g3, nx.new m a g1 (by omega)⟩
              obtain ⟨k, hk⟩ := mem_ix.mp z
              obtain ⟨k1, k2⟩ := take_get hk
              have := s'.inj k m a k2 g1
              omega
            · exact w.elim
  | err x M1 =>
    have w : Wp S E F H as (.err x (M1.take M.length)) Q := w
    exact fun σ' F' H' as' nx s' => w F' H' (as'.take as.length) nx.cut (by rw [el]; exact s'.cut _)
  | stuck => exact w
theorem start_ok {xs : List VV} {vs : List V} {n np : Nat} {N : List Str} (h : Paired (Vr S.K F as) xs vs) (hn : vs.length = np) : Er S F as (xs.map some ++ List.replicate (N.length - np) none) (L2.start N vs) := by
  have hl : xs.length = vs.length := h.length
  refine ⟨by unfold L2.start; simp [hl, hn], fun i x e => ?_⟩
  by_cases hi : i < xs.length
  · rw [List.getElem?_append_left (by simpa using hi)] at e
    rw [List.getElem?_map] at e
    have ex : xs[i]? = some x := by
      cases q : xs[i]? with
      | none => rw [q] at e; cases e
      | some y => rw [q] at e; cases e; rfl
    have key : ∀ {xs : List VV} {vs : List V}, Paired (Vr S.K F as) xs vs → ∀ (i : Nat) (x : VV), xs[i]? = some x → ∃ v, vs[i]? = some v ∧ Vr S.K F as x v := by
      intro xs vs h
      induction h with
      | nil => intro i x e; simp at e
      | cons a t ih =>
        intro i x e
        cases i with
        | zero => simp at e; subst e; exact ⟨_, rfl, a⟩
        | succ i => simpa using ih i x (by simpa using e)
    obtain ⟨v, h1, h2⟩ := key h i x ex
    refine ⟨v, ?_, .of h2⟩
    unfold L2.start
    rw [List.getElem?_append_left (by rw [List.length_map, ← hl]; exact hi), List.getElem?_map, h1]
    rfl
  · rw [List.getElem?_append_right (by simpa using hi), List.getElem?_replicate] at e
    split at e <;> cases e
/-- the names within a def begin so -/
def qualIn (qual : Str) : Str := qual ++ ".<locals>."
structure DefOk (G : Gf) (S : Stat) (nm : Str) (fd : Fd) : Prop where
  ex : ∃ (a : Addr) (fdat : FuncData) (N ps : List Str) (qual : Str) (params : Arguments) (body : List Stmt) (scope : Scope) (kws : List (Str × V)), N.length = fd.n ∧ S.mg nm = some (.ref a) ∧ FunD S.K nm qual params body scope [] kws a fdat ∧ L2.Binds S.K fdat ps [] ∧ FnScope N ps scope ∧
    ps.length = fd.np ∧ chkSs G ⟨N, scope, fun _ => true, fd.tab, []⟩ fd.body body = true ∧
    (fd.tab = true → ∃ c P, fdat.code = .ref c ∧ LamX.TabB S.base S.mg c P ∧ (P, qualIn qual ++ "<lambda>") ∈ S.T ∧ ∀ p ∈ S.T, p.1 = P → p.2 = qualIn qual ++ "<lambda>")
/-- a def, told by its parts -/
theorem fnOk_of {G : Gf} {fs : List Fd} {fuel k : Nat} {fd : Fd} {nm : Str} {N : List Str} (hNl : N.length = fd.n) {a : Addr} {fdat : FuncData} {ps : List Str} {qual : Str} {params : Arguments} {body : List Stmt} {scope : Scope} {kws : List (Str × V)} (g2 : FunD S.K nm qual params body scope [] kws a fdat) (g4 : FnScope N ps scope) (g5 : ps.length = fd.np)
    (g6 : chkSs G ⟨N, scope, fun _ => true, fd.tab, []⟩ fd.body body = true) (g7 : fd.tab = true → ∃ c P, fdat.code = .ref c ∧ LamX.TabB S.base S.mg c P ∧ (P, qualIn qual ++ "<lambda>") ∈ S.T ∧ ∀ p ∈ S.T, p.1 = P → p.2 = qualIn qual ++ "<lambda>")
    (ih : ∀ f x, G.fns.lookup f = some x → FnT S (4 * k + 2) x (cfD fs fuel k f)) (nums : ∀ x z, G.nums.lookup x = some z → ∃ t, S.mg x = some (.int z t)) (unt : ∀ x, G.unt.contains x = true → S.mg x = none) (exc : ExAll G S) (wo : fd.tab = true → WordsOk G S) :
    FnOk S.P S.w S.K S.mg S.base (L2N.CX S.P S.w) (4 * (k + 1) + 2) a fdat ps (spF S ps.length (callS (cfD fs fuel k) fuel fd)) := by
  obtain ⟨oc, od, dV, kV, doc, pm, an, cdv, ct, osl, rfl, lk, hcd, _, _⟩ := g2.ex
  refine fn_of (k := 4 * k + 5) lk hcd g4 (fun vs H Q E q => q.1) fun A outer s H vs Q E hr hsp => ?_
  obtain ⟨hl, F, as, M, xs, sr, pr, w⟩ := hsp
  have hX : XS G S (cfD fs fuel k) (cxOf (L2N.CX S.P S.w) S.P S.w S.K S.mg S.base N qual scope a cdv A outer s H E) (fun c d _ H => E c d H) ⟨N, scope, fun _ => true, fd.tab, []⟩ := {
    x := {
      hP := rfl, hw := rfl, hK := rfl, hmg := rfl, hbase := rfl, calm := rfl
      un := by
        have := hr.un
        show (A.deeper _).units + 64 < cLine
        omega
      tk := L2N.takes_of rfl rfl rfl rfl
      hN := rfl
      nd := g4.nd
      sc := rfl
      fn := rfl
      fns := fun f x hf => ⟨4 * k + 2, hr.mono (by omega), ih f x hf⟩
      nums := nums
      unt := unt
      wd := fun ht => by
        obtain ⟨c, P, e1, e2, e3, e4⟩ := g7 ht
        have e1 : cdv = .ref c := e1
        subst e1
        exact ⟨4 * k + 2, by omega, ⟨c, P, hr, e2, rfl, e3, e4⟩, wo ht, fun f x hf => ih f x hf⟩
      nds := fun _ _ _ h => nomatch h
      rm := hr.mono (by omega)
      obs := exc.2 }
    kd := g4.kind
    po := L2.passes_of rfl
    exc := exc.1 }
  refine ⟨_, (snds (fuel := fuel) fd.body).2 _ _ _ _ hX g6, F, as, _, M, sr, start_ok (n := 0) (N := N) (np := fd.np) pr (by rw [hl, g5]), ?_⟩
  have hx : xs.length = fd.np := by rw [pr.length, hl, g5]
  unfold callS at w
  rw [if_pos hx, ← hNl] at w
  exact exit_ok sr w
theorem fnT_all {G : Gf} {fs : List Fd} {fuel : Nat} (hD : ∀ (f : Nat) (x : Str), G.fns.lookup f = some x → ∃ fd, fs[f]? = some fd ∧ DefOk G S x fd) (nums : ∀ x z, G.nums.lookup x = some z → ∃ t, S.mg x = some (.int z t)) (unt : ∀ x, G.unt.contains x = true → S.mg x = none)
    (exc : ExAll G S) (wo : (∃ fd ∈ fs, fd.tab = true) → WordsOk G S) : ∀ (k f : Nat) (x : Str), G.fns.lookup f = some x → FnT S (4 * k + 2) x (cfD fs fuel k f) := by
  intro k
  induction k with
  | zero =>
    intro f x hf
    obtain ⟨fd, h1, a, fdat, N, ps, qual, params, body, scope, kws, hNl, g1, g2, g3, g4, g5, g6, g7⟩ := hD f x hf
    refine ⟨a, fdat, ps, g1, g2.kp, g3, ⟨fun vs H Q E q => q.1, fun A outer s H args us vs Q E _ _ _ _ q => ?_⟩, fun xs M _ => by simp only [cfD]⟩
    obtain ⟨_, F, as, M, xs, _, _, w⟩ := q
    simp only [cfD] at w
    exact w.elim
  | succ k ih =>
    intro f x hf
    obtain ⟨fd, h1, a, fdat, N, ps, qual, params, body, scope, kws, hNl, g1, g2, g3, g4, g5, g6, g7⟩ := hD f x hf
    have ef : cfD fs fuel (k + 1) f = callS (cfD fs fuel k) fuel fd := by
      funext xs M
      simp only [cfD, h1]
    rw [ef]
    exact ⟨a, fdat, ps, g1, g2.kp, g3, fnOk_of hNl g2 g4 g5 g6 g7 ih nums unt exc fun ht => wo ⟨fd, List.mem_of_getElem? h1, ht⟩, fun xs M hl => by unfold callS; rw [if_neg (by rw [← g5]; exact hl)]⟩
end
end Ev

/-! Hx1: the ends of lists and tuples, a tuple unpacked, while an exception is handled. -/
namespace Hx
open PySem PySem.Spec PyProof.Rows HotX
section
variable {prog : Program} {w : World} {A : Around} {E : Value → Shared → Prop} {s : Shared}
theorem upd_new {h : Heap} {a b : Addr} {f : Obj → Obj} {o : Obj} (e : h.get? b = some o) (hb : b ≠ a) : (h.update a f).get? b = some o := by
  rw [Heap.get?_update_other _ _ (Ne.symm hb)]; exact e
theorem list_end_hot {it l x1 : Addr} {i : Nat} {items : Array Value} {Q : Option Value → Shared → Prop} (hot : HotAt A x1 s.heap) (hne : x1 ≠ it)
    (hit : s.heap.IsListIter it l i) (hl : s.heap.IsList l items) (hx : items[i]? = none)
    (hQ : ∀ h', Heap.ExtBut it s.heap h' → Q none { s with heap := h' }) : wpAny (model prog w) A (pyNext (.ref it)) Q E s := by
  obtain ⟨o, ho, hc, hd⟩ := id hit
  obtain ⟨ol, hol, _, nl, hdl⟩ := hl
  obtain ⟨hh, o1, vs1, h1, d1, c1⟩ := hot
  unfold pyNext
  refine wpAny_bind (wpAny_attempt (wpAny_callSpecial?_slot (name := Str.ofString "__next__") hit.typeIs slot_listiter_next
    (wpAny_call_entry slot_listiter_next hit.typeIs entry_listiter_next ?_ (args_listiter_next _))))
  show wpAny _ _ (field (.ref it) 0 >>= _) _ _ s
  refine wpAny_bind (wpAny_field ho hd (x := .ref l) rfl ?_)
  show wpAny _ _ (if (Value.ref l == Value.none) = true then _ else _) _ _ s
  rw [if_neg (show ¬ ((Value.ref l == Value.none) = true) from Bool.false_ne_true)]
  show wpAny _ _ (field (.ref it) 1 >>= _) _ _ s
  refine wpAny_bind (wpAny_field ho hd (x := .int i 0) rfl ?_)
  show wpAny _ _ (seqItems? (.ref l) >>= _) _ _ s
  refine wpAny_bind (wpAny_seqItems hol hdl ?_)
  simp only [Int.toNat_natCast, hx]
  refine wpAny_bind (wpAny_rule (wpAny_bind (wpAny_setField ho hd (by simp) ?_)))
  show wpAny _ _ (newExc (.type "StopIteration") [] >>= _) _ _ _
  refine wpAny_bind ?_
  simp only [newExc, newTuple]
  refine wpAny_bind (wpAny_newObj_type ?_ (by size_fits))
  refine wpAny_bind (m := firstArgMember _ _) (wpAny_of_eq (a := Value.none) (by first | rfl | (simp only [firstArgMember]; rfl)) ?_)
  refine wpAny_newObj_type ?_ (by size_fits)
  have h1' := upd_new (f := Obj.mapFields (·.setIfInBounds 0 Value.none)) h1 hne
  refine raiseNew_hot ⟨hh, o1, vs1, Heap.get?_push_of_some _ (Heap.get?_push_of_some _ h1'), d1, c1⟩ (Nat.ne_of_lt (Heap.lt_size (Heap.get?_push_of_some _ h1'))) (Heap.get?_push_size _ rfl) rfl (by first | (simp; done) | (simp; omega) | (simp only [Array.size_append]; simp; omega)) ?_
  refine wpAny_bind (wpAny_isInstance (T := "StopIteration") (b := true) ⟨_, Heap.get?_update_self _ (Heap.get?_push_size _ rfl) rfl, rfl⟩ isSubtype_stop ?_)
  refine wpAny_pure (hQ _ fun b o hb e => ?_)
  have e1 := upd_new (f := Obj.mapFields (·.setIfInBounds 0 Value.none)) e hb
  exact upd_new (Heap.get?_push_of_some _ (Heap.get?_push_of_some _ e1)) (Nat.ne_of_lt (Heap.lt_size (Heap.get?_push_of_some _ e1)))
theorem tuple_end_hot {it t x1 : Addr} {i : Nat} {items : Array Value} {Q : Option Value → Shared → Prop} (hot : HotAt A x1 s.heap) (hne : x1 ≠ it)
    (hit : IsTupIter s.heap it t i) (ht : IsTup s.heap t items) (hx : items[i]? = none)
    (hQ : ∀ h', Heap.ExtBut it s.heap h' → Q none { s with heap := h' }) : wpAny (model prog w) A (pyNext (.ref it)) Q E s := by
  obtain ⟨o, ho, hc, hd⟩ := id hit
  obtain ⟨ol, hol, _, nl, hdl⟩ := ht
  obtain ⟨hh, o1, vs1, h1, d1, c1⟩ := hot
  unfold pyNext
  refine wpAny_bind (wpAny_attempt (wpAny_callSpecial?_slot (name := Str.ofString "__next__") hit.typeIs slot_tupleiter_next
    (wpAny_call_entry slot_tupleiter_next hit.typeIs entry_tupleiter_next ?_ (args_tupleiter_next _))))
  show wpAny _ _ (field (.ref it) 0 >>= _) _ _ s
  refine wpAny_bind (wpAny_field ho hd (x := .ref t) rfl ?_)
  show wpAny _ _ (if (Value.ref t == Value.none) = true then _ else _) _ _ s
  rw [if_neg (show ¬ ((Value.ref t == Value.none) = true) from Bool.false_ne_true)]
  show wpAny _ _ (field (.ref it) 1 >>= _) _ _ s
  refine wpAny_bind (wpAny_field ho hd (x := .int i 0) rfl ?_)
  show wpAny _ _ (seqItems? (.ref t) >>= _) _ _ s
  refine wpAny_bind (wpAny_seqItems hol hdl ?_)
  simp only [Int.toNat_natCast, hx]
  refine wpAny_bind (wpAny_rule (wpAny_bind (wpAny_setField ho hd (by simp) ?_)))
  show wpAny _ _ (newExc (.type "StopIteration") [] >>= _) _ _ _
  refine wpAny_bind ?_
  simp only [newExc, newTuple]
  refine wpAny_bind (wpAny_newObj_type ?_ (by size_fits))
  refine wpAny_bind (m := firstArgMember _ _) (wpAny_of_eq (a := Value.none) (by first | rfl | (simp only [firstArgMember]; rfl)) ?_)
  refine wpAny_newObj_type ?_ (by size_fits)
  have h1' := upd_new (f := Obj.mapFields (·.setIfInBounds 0 Value.none)) h1 hne
  refine raiseNew_hot ⟨hh, o1, vs1, Heap.get?_push_of_some _ (Heap.get?_push_of_some _ h1'), d1, c1⟩ (Nat.ne_of_lt (Heap.lt_size (Heap.get?_push_of_some _ h1'))) (Heap.get?_push_size _ rfl) rfl (by first | (simp; done) | (simp; omega) | (simp only [Array.size_append]; simp; omega)) ?_
  refine wpAny_bind (wpAny_isInstance (T := "StopIteration") (b := true) ⟨_, Heap.get?_update_self _ (Heap.get?_push_size _ rfl) rfl, rfl⟩ isSubtype_stop ?_)
  refine wpAny_pure (hQ _ fun b o hb e => ?_)
  have e1 := upd_new (f := Obj.mapFields (·.setIfInBounds 0 Value.none)) e hb
  exact upd_new (Heap.get?_push_of_some _ (Heap.get?_push_of_some _ e1)) (Nat.ne_of_lt (Heap.lt_size (Heap.get?_push_of_some _ e1)))
theorem unpackItems_hot {t x1 : Addr} {items : Array Value} {Q : List Value → Shared → Prop} (hot : HotAt A x1 s.heap) (ht : IsTup s.heap t items)
    (hQ : ∀ h', Heap.ExtBut s.heap.objs.size s.heap h' → Q items.toList { s with heap := h' }) : wpAny (model prog w) A (unpackItems (.ref t) items.size none) Q E s := by
  have hlt : t ≠ s.heap.objs.size := by obtain ⟨o, ho, _⟩ := ht; exact Nat.ne_of_lt (Heap.lt_size ho)
  obtain ⟨hh, o1, vs1, h1, d1, c1⟩ := hot
  have hx1 : x1 ≠ s.heap.objs.size := Nat.ne_of_lt (Heap.lt_size h1)
  unfold unpackItems
  refine wpAny_bind ?_
  · unfold notIterableAtAll
    refine wpAny_bind (wpAny_specialOf ht.typeIs slot_tuple_iter.lookup ?_)
    refine wpAny_pure ?_
    simp only [Bool.false_eq_true, if_false]
    refine wpAny_bind (wpAny_holding (iter_tuple ht ?_))
    refine wpAny_bind (wpAny_holding (draw_tuple hlt items.size 0 _ _ ⟨_, Heap.get?_push_size _ rfl, rfl, rfl⟩ (ht.push _) (by omega) fun h₁ hit₁ hs₁ => ?_))
    have hall : List.take items.size (List.drop 0 items.toList) = items.toList := by
      rw [List.drop_zero]; exact List.take_of_length_le (by simp)
    rw [hall]
    rw [if_neg (by simp)]
    have ht₁ : IsTup h₁ t items := (ht.push _).extBut hs₁.extBut hlt
    have h1₁ : h₁.get? x1 = some o1 := hs₁.extBut x1 _ hx1 (Heap.get?_push_of_some _ h1)
    refine wpAny_bind (wpAny_holding (tuple_end_hot (x1 := x1) ⟨hh, o1, vs1, h1₁, d1, c1⟩ hx1 hit₁ ht₁ (by simp) fun h₂ he₂ => ?_))
    simp only [Option.isSome_none, Bool.false_eq_true, if_false]
    refine wpAny_pure (hQ h₂ fun b o hb e => he₂ b o hb (hs₁.extBut b o hb (Heap.get?_push_of_some _ e)))
theorem assign_Tuple_hot {env : Env} {elts : List Expr} {k} {pos : Pos} {t x1 : Addr} {items : Array Value} {Q : Unit → Shared → Prop} (hot : HotAt A x1 s.heap) (ht : IsTup s.heap t items)
    (hn : (assignEach elts env).length = items.size) (hstar : (assignEach elts env).findIdx? (·.1) = none)
    (h : ∀ h', Heap.ExtBut s.heap.objs.size s.heap h' → wpAny (model prog w) A (assignInOrder ((assignEach elts env).map (·.2)) items.toList) Q E { s with heap := h' }) :
    wpAny (model prog w) A (assign (.Tuple elts k pos) env (.ref t)) Q E s := by
  rw [assign_Tuple]
  refine wpAny_bind (wpAny_standAt ?_)
  unfold unpack
  rw [hn, hstar]
  exact wpAny_bind (wpAny_holding (unpackItems_hot hot ht h))
end
end Hx

/-! Hx2: lists walked, tuples taken apart, list comprehensions (one clause) while an exception is handled. -/
namespace Hx
open PySem PySem.Spec PyProof.Rows L2 HotX Ev

/-! ### a block that keeps what is pinned -/
abbrev blkH (X : Cx) (pins : List (Addr × Obj)) (s : Shared) (H : Hp) (scope : Scope) (cenv : Env) (fp : List Addr) : Cx := { X.blk s H scope cenv fp with pn := X.pn ++ pins }
section
variable {X : Cx} {pins ps : List (Addr × Obj)} {σ : L2.St} {H H3 : Hp} {s s3 : Shared} {scope : Scope} {ce : Env} {fp : List Addr}
theorem okH (o : (X.blk s3 H3 scope ce fp).Ok) : (blkH X ps s3 H3 scope ce fp).Ok :=
  ⟨o.mod, o.kind, o.glob, o.blt, o.above, o.inj, o.has, o.cab, o.hd, o.frames, o.stk, o.exf, o.bs, o.bsz, o.noex, o.exfs, o.funs, o.frf⟩
theorem okD (o : (blkH X ps s3 H3 scope ce fp).Ok) : (X.blk s3 H3 scope ce fp).Ok :=
  ⟨o.mod, o.kind, o.glob, o.blt, o.above, o.inj, o.has, o.cab, o.hd, o.frames, o.stk, o.exf, o.bs, o.bsz, o.noex, o.exfs, o.funs, o.frf⟩
theorem invH (I : Inv (X.blk s3 H3 scope ce fp) [] σ H s) (hp : ∀ p ∈ X.pn ++ ps, s.heap.get? p.1 = some p.2 ∧ H p.1 = none ∧ p.1 ≠ ce.locals ∧ p.1 ∉ frs X.stack ∧ ∀ v, p.2.data ≠ .cell v) : Inv (blkH X ps s3 H3 scope ce fp) [] σ H s :=
  ⟨okH I.ok, I.os, I.bare, I.base, I.loc, I.cell, I.free, I.freeC, fun p h => hp p (by simpa using h), I.hok, I.len⟩
theorem invD (I : Inv (blkH X ps s3 H3 scope ce fp) [] σ H s) : Inv (X.blk s3 H3 scope ce fp) [] σ H s :=
  ⟨okD I.ok, I.os, I.bare, I.base, I.loc, I.cell, I.free, I.freeC, fun p h => absurd (show p ∈ ([] : List (Addr × Obj)) ++ [] from h) (by simp), I.hok, I.len⟩
theorem hotB (h : L2H.HotC X) : L2H.HotC (blkH X ps s3 H3 scope ce fp) := by
  obtain ⟨p, h1, h2⟩ := h
  exact ⟨p, h1, List.mem_append_left _ h2⟩
end

/-! ### a list walked -/
theorem turn_listH {P : Program} {w : World} {K : PySem.W.Frag} {tg : Expr} (a it : Addr) : L2H.TurnH P w K tg (Itl K a) [it] it (fun i h => h.IsListIter it a i) where
  mem := by simp
  obj := fun i h st b hb => by
    have e : b = it := by simpa using hb
    subst e
    obtain ⟨o, e, c, d⟩ := st
    exact ⟨o, e, fun v z => by rw [d] at z; cases z⟩
  keep := fun i h h' st k => st.at fun o e => k it (by simp) o e
  item := by
    intro X hP hw hK hc i pins s σ H E I hf st hg
    subst hP hw hK
    obtain ⟨xs, x, hq, hx⟩ := hg
    obtain ⟨its, rv, p, hz⟩ := I.list hq
    obtain ⟨u, hu, ru⟩ := rv.get hx
    obtain ⟨f0, f1, f2, f3, f4, f5⟩ := hf it (by simp)
    refine wpAny_pyNext_list_item st p.isList (x := u) (by simpa using hu) fun h' st' sb => ?_
    have I1 : Inv X pins σ H { s with heap := h' } := I.turned (t' := s.toks) (fun b o hb e => (sb.2 b hb).trans e) f0 f1 f3 f4 f5
    obtain ⟨o, e, c, d⟩ := id st'
    exact ⟨u, rfl, go_of (s := { s with heap := h' }) e c d (by decide) ⟨x, H, I1, ru, ⟨rfl, fun ys hy => by rw [I.list_inj hy hq]; exact hx⟩, st', fun b hb => (hf b hb).1⟩⟩
  done := by
    intro X hP hw hK hc i pins s σ H E I hf st hg
    subst hP hw hK
    obtain ⟨xs, hq, hx⟩ := hg
    obtain ⟨its, rv, p, hz⟩ := I.list hq
    obtain ⟨f0, f1, f2, f3, f4, f5⟩ := hf it (by simp)
    have hl := rv.length
    obtain ⟨p1, ⟨hh, v1, e1, c1⟩, hp⟩ := hc
    have hg := (I.pin p1 (List.mem_append_left _ hp)).1
    exact list_end_hot (x1 := p1.1) ⟨hh, p1.2, v1, hg, e1, c1⟩ (f5 p1 (List.mem_append_left _ hp)) st p.isList (by simp; omega) fun h' eb => ⟨rfl, I.turned (t' := s.toks) (fun b o hb e => eb b o hb e) f0 f1 f3 f4 f5⟩
  self := fun _ _ _ _ _ st h => wpAny_pyIter_listiter st h
theorem TurnX.ofH {X : Cx} {P : Program} {w : World} {K : PySem.W.Frag} {tg : Expr} {J : It} {fp : List Addr} {it : Addr} {tn : Nat → Heap → Prop} (T : L2H.TurnH P w K tg J fp it tn) (hP : X.prog = P) (hw : X.w = w) (hK : X.K = K) (hc : L2H.HotC X) : TurnX X tg J fp it tn := by
  subst hP hw hK
  exact ⟨T.obj, T.keep, T.item X rfl rfl rfl hc, T.done X rfl rfl rfl hc⟩
theorem pih_list {X : Cx} {tg l : Expr} {tl : TE} (hl : PE X l tl) : L2H.PIH X tg l (iList X.K tl) := by
  refine ⟨fun pins s σ H R I h => ?_⟩
  refine thn (hl.run pins s σ H _ I h) fun v s1 ⟨x, H1, I1, r1, q1⟩ => ?_
  obtain ⟨a, e, ⟨xs, hq⟩, q⟩ := q1
  subst e
  cases r1
  obtain ⟨its, rv, p, hz⟩ := I1.list hq
  refine wpAny_pyIter_list p.isList ?_
  refine ⟨s1.heap.objs.size, [s1.heap.objs.size], _, _, H1, rfl, I1.kept (t' := s1.toks) fun b o e => Heap.get?_push_of_some _ e, turn_listH a _, ⟨_, Heap.get?_push_size _ rfl, rfl, rfl⟩, fun b hb => ?_, q⟩
  have e : b = s1.heap.objs.size := by simpa using hb
  subst e
  exact I1.fpOk (Nat.le_refl _) (I1.hok.fresh (Nat.le_refl _))
/-! ### a tuple taken apart -/
theorem pg_tupH {X : Cx} {pos : Pos} {es : List Expr} {k : Nat} {t : TGs} {n : Nat} (hc : L2H.HotC X) (h : PGs X es t)
    (hn : (assignEach es X.env).length = n) (hst : (assignEach es X.env).findIdx? (·.1) = none) : PG X (.Tuple es k pos) (gTup X.K n t) := by
  refine ⟨fun pins s σ H v u Q I r hw => ?_⟩
  obtain ⟨a, xs, e1, hq, hl, hw⟩ := hw
  subst e1
  cases r
  obtain ⟨its, rv, ht, hz⟩ := I.tuple hq
  obtain ⟨x1, hot⟩ := hc.at I
  refine assign_Tuple_hot hot ht (by simp [hn, ← hl, rv.length]) hst fun h' hx => ?_
  have I1 : Inv X pins σ H { s with heap := h' } := I.kept (t' := s.toks) fun b o e => hx b o (Nat.ne_of_lt (Heap.lt_size e)) e
  exact h.run pins _ σ H xs _ Q I1 (by simpa using rv) hw
theorem pg_tpH {X : Cx} {S : Stat} {pos : Pos} {es : List Expr} {k : Nat} {l : Tg} (hK : X.K = S.K) (hc : L2H.HotC X) (h : PGs X es (gTgL S l)) (hn : (assignEach es X.env).length = tgN l) (hst : (assignEach es X.env).findIdx? (·.1) = none) : PG X (.Tuple es k pos) (gTg S (.tp l)) :=
  PG.imp (pg_tupH hc h hn hst) fun v σ H Q ⟨F, as, M, x, ρ, ρ', s, e, d, h, q⟩ => by
    cases x with
    | tuple ys =>
      have h' : tgL l ys ρ = some ρ' := h
      cases d with
      | tup h1 h2 => exact ⟨_, _, rfl, by rw [hK]; exact sqT_mono s.sub h1, by rw [dpAll_len h2, tgL_len l ys _ _ h'], F, as, M, ys, ρ, ρ', s, e, h2, h', q⟩
    | _ => simp [tgD] at h
/-! ### the comprehension -/
/-- a list only -/
def seqLK (t : TV) (M : Sto) : Res (List PyData) := match freezes t with
  | .d (.list xs) => .ok xs M
  | _ => .stuck
section
variable {X : Cx} {S : Stat} {W : WX} {elt tg itE : Expr} {ifs : List Expr} {scope : Scope} {own : List (Str × Nat)} {pos : Pos} {t : Tg} {fe : Env' → Sto → Res TV} {ft : Env' → Sto → Res Bool} {fb : Env' → Sto → Res (List PyData)}
theorem pih_seqE (hK : X.K = S.K) (ha : PE X itE (tE S fe W)) : L2H.PIH X tg itE (tI S (fun ρ M => (fe ρ M).bind seqLK) W) := by
  have P := pih_list (tg := tg) (PE.fz ha)
  refine ⟨fun pins s σ H R I h => P.run pins s σ H R I ?_⟩
  obtain ⟨F, as, ρ, M, s, e, w⟩ := h
  refine ⟨F, as, ρ, M, s, e, ?_⟩
  have w' : WpG S (RI S) (fun c d H' => W c d σ H') F H as ((fe ρ M).fz.bind seqLK) R := by
    rw [Res.fz_bind]
    have e0 : (fun t M => seqLK t.fz M) = seqLK := by funext t M; unfold seqLK; rw [freezes_fz]
    rw [e0]; exact w
  refine WpG.bind (k := seqLK) w' fun t M1 v F1 H1 as1 et nx s1 t1 w1 => ?_
  have ft := fz_shape et
  unfold seqLK at w1
  split at w1
  · rename_i xs hx
    rw [ft, hx] at t1
    have d : Ev.Dp S.K F1 v (.list xs) := t1
    cases d with
    | lst h1 h2 => exact ⟨_, rfl, ⟨_, by rw [hK]; exact sqL_mono s1.sub h1⟩, by rw [hK]; exact w1 _ F1 H1 as1 .refl s1 (wk_list h1 h2)⟩
  · exact w1.elim
theorem pe_lcH {W' : WX} {fi : Env' → Sto → Res (List PyData)} (hc : L2H.HotC X) (hN : X.N.Nodup) (hi : L2H.PIH X tg itE (tI S fi W)) (ok : BlkOk X.N X.env.scope scope own) (hcl0 : ∀ x, foldedSetIterable itE X.env x = pure x)
    (hg : ∀ (ps : List (Addr × Obj)) (s : Shared) (H : Hp) (C : Addr) (cl : List (Str × Addr)) (fp : List Addr), PG (blkH X ps s H scope (compEnvC scope cl C X.env) fp) tg (gTg S t))
    (ht : ∀ (ps : List (Addr × Obj)) (s : Shared) (H : Hp) (C : Addr) (cl : List (Str × Addr)) (fp : List Addr), PTs (blkH X ps s H scope (compEnvC scope cl C X.env) fp) ifs (tG S (RB S) ft W'))
    (hp : ∀ (ps : List (Addr × Obj)) (s : Shared) (H : Hp) (C : Addr) (cl : List (Str × Addr)) (fp : List Addr), PCl VV.d (blkH X ps s H scope (compEnvC scope cl C X.env) fp) S elt [⟨tg, itE, ifs, 0⟩] scope pos 1 [] fb)
    (hsl : ∀ j ∈ tgS t, j ∈ own.map (·.2)) :
    PE X (.ListComp elt [⟨tg, itE, ifs, 0⟩] scope pos) (tE S (fun ρ M => lcK (lcF fi t ft fb (wipeE ρ (own.map (·.2))) M)) W) := by
  refine ⟨fun pins s σ H Q I h => ?_⟩
  rw [eval_ListComp]
  have hfree : ∀ y ∈ scope.names, y.2 = .free → ∃ c, X.env.cells.lookup y.1 = some c := fun y hy e => by
    rcases ok.free y hy e with k | k
    · exact I.ok.has _ (.inl k)
    · exact I.ok.has _ (.inr k)
  obtain ⟨F, as, ρ, M, sr, er, w⟩ := h
  have inv : ∃ xs M1 ys M', fi (wipeE ρ (own.map (·.2))) M = .ok xs M1 ∧ loopC (itemK t (wipeE ρ (own.map (·.2))) ft fb) xs M1 = .ok ys M' ∧ lenOk ys.length = true ∧ Wp S (fun c d H' => W c d σ H') F H as (.ok (.own ys) M') Q := by
    have w' : Wp S (fun c d H' => W c d σ H') F H as (lcK ((fi (wipeE ρ (own.map (·.2))) M).bind fun xs M1 => loopC (itemK t (wipeE ρ (own.map (·.2))) ft fb) xs M1)) Q := w
    cases e0 : (fi (wipeE ρ (own.map (·.2))) M).bind fun xs M1 => loopC (itemK t (wipeE ρ (own.map (·.2))) ft fb) xs M1 with
    | ok ys M' =>
      rw [e0] at w'
      obtain ⟨xs, M1, e1, e2⟩ := Res.bind_inv e0
      cases hz : lenOk ys.length with
      | true =>
        have e3 : lcK (.ok ys M') = .ok (.own ys) M' := by show (if lenOk ys.length = true then Res.ok (TV.own ys) M' else .stuck) = _; rw [if_pos hz]
        rw [e3] at w'
        exact ⟨xs, M1, ys, M', e1, e2, hz, w'⟩
      | false =>
        have e3 : lcK (.ok ys M') = .stuck := by show (if lenOk ys.length = true then Res.ok (TV.own ys) M' else .stuck) = _; rw [if_neg (by rw [hz]; exact Bool.false_ne_true)]
        rw [e3] at w'
        exact w'.elim
    | err x M' => rw [e0] at w'; exact w'.elim
    | stuck => rw [e0] at w'; exact w'.elim
  obtain ⟨xs, M1, ys, M', e1, e2, hz, w2⟩ := inv
  have wI : WpG S (RI S) (fun c d H' => W c d σ H') F H as (fi (wipeE ρ (own.map (·.2))) M) (fun J H' => ∃ F' as', Nxt F H as F' H' as' ∧ Sr S F' H' as' M1 ∧ Wk S F' as' xs J) := by
    rw [e1]
    exact fun J F' H' as' nx' sr' wk => ⟨F', as', nx', sr', wk⟩
  refine wpAny_comprehension_free (use := none) rfl hcl0 (closure_ok hfree) ok.kind (fun y hy e => by rw [ok.uniq y hy, e])
    (thn (hi.run pins s σ H _ I ⟨F, as, _, M, sr, wipeE_er er _, wI⟩) fun xv s1 hx => thn hx fun itv s2 h2 => ?_)
  obtain ⟨it, fp, tn, J, H2, e, I2, T, st2, f2, F2, as2, nx2, sr2, wk2⟩ := h2
  subst e
  refine wpAny_newObj_type (newEnv_comp ?_) (by show 0 ≤ sizeLine; decide)
  generalize hD : s2.heap.objs.size = D
  have hDn : H2 D = none := I2.hok.fresh (Nat.le_of_eq hD)
  have hDn0 : H D = none := by
    cases q : H D with
    | none => rfl
    | some o => exact absurd hDn (nx2.there D (by rw [q]; simp))
  generalize hs3 : ({ s2 with heap := s2.heap.push { cls := .type "list", data := .seq ([] : List Value).toArray } } : Shared) = s3
  have I3 : Inv X pins σ (upd H2 D (.lst [])) s3 := by
    rw [← hs3]
    refine I2.laid (t' := s2.toks) (fun b o e => Heap.get?_push_of_some _ e) (Nat.le_of_eq hD) ⟨Nat.zero_le _, [], 0, .nil, ?_⟩
    rw [← hD]
    exact Heap.get?_push_size _ rfl
  have h3 : s3.heap = s2.heap.push { cls := .type "list", data := .seq ([] : List Value).toArray } := by rw [← hs3]
  have sz : ∀ b ∈ fp, b < s2.heap.objs.size := fun b hb => by
    obtain ⟨o, e, _⟩ := T.obj _ _ st2 b hb
    exact Heap.lt_size e
  have f3 : ∀ b ∈ fp, FpOk X pins (upd H2 D (.lst [])) b ∧ b < s3.heap.objs.size := fun b hb => by
    have hlt := sz b hb
    refine ⟨⟨?_, (f2 b hb).2⟩, by rw [h3, Heap.size_push]; exact Nat.lt_succ_of_lt hlt⟩
    rw [upd_ne (by rw [← hD]; exact Nat.ne_of_lt hlt)]
    exact (f2 b hb).1
  have st3 : tn 0 s3.heap := T.keep _ _ _ st2 fun b _ o e => by rw [h3]; exact Heap.get?_push_of_some _ e
  have I4 := block_start I3 ok hN f3
  have sr3 : Sr S F2 (upd H2 D (.lst [])) as2 M1 := sr2.upd hDn
  have nx3 : Nxt F H as F2 (upd H2 D (.lst [])) as2 := nx2.over hDn0
  have dk3 : DOk S H F2 (upd H2 D (.lst [])) as2 D [] [] := ⟨hDn0, sr2.none_of hDn, sr2.not_as hDn, upd_same, .nil⟩
  have er3 : Er S F2 as2 (wipeE ρ (own.map (·.2))) (wipe σ (own.map (·.2))) := (er.mono nx2).wipe _
  have na3 : NoneAt (tgS t ++ []) (wipeE ρ (own.map (·.2))) := fun j hj => wipeE_noneAt ρ _ j (hsl j (by simpa using hj))
  have pg := hg pins s3 (upd H2 D (.lst [])) s3.heap.objs.size (cellsFrom (s3.heap.objs.size + 1) scope.names (cloFrom X.env.cells scope.names [])) fp
  have pt := ht pins s3 (upd H2 D (.lst [])) s3.heap.objs.size (cellsFrom (s3.heap.objs.size + 1) scope.names (cloFrom X.env.cells scope.names [])) fp
  have pp := hp pins s3 (upd H2 D (.lst [])) s3.heap.objs.size (cellsFrom (s3.heap.objs.size + 1) scope.names (cloFrom X.env.cells scope.names [])) fp
  show codeAny _ _ (.compStart (.ListComp elt [⟨tg, itE, ifs, 0⟩] scope pos) 0 (.ref it) (.ref D) (compEnvC scope (cellsFrom (s3.heap.objs.size + 1) scope.names (cloFrom X.env.cells scope.names [])) s3.heap.objs.size X.env)) (compPost (model X.prog X.w) X.A X.xe none _ (.ref D) s3.heap.objs.size) { s3 with heap := pushCells (s3.heap.push { cls := .type "dict", data := .dict #[] }) scope.names }
  have nfp : ∀ b ∈ fp, (upd H2 D (.lst [])) b = none := fun b hb => (f3 b hb).1.1
  generalize hce : compEnvC scope (cellsFrom (s3.heap.objs.size + 1) scope.names (cloFrom X.env.cells scope.names [])) s3.heap.objs.size X.env = ce at I4 pg pt pp ⊢
  have cL : ce.locals = s3.heap.objs.size := by subst hce; rfl
  generalize hH3 : upd H2 D (.lst []) = H3 at I3 I4 pg pt pp nfp f3 sr3 nx3 dk3
  generalize hs4 : ({ s3 with heap := pushCells (s3.heap.push { cls := .type "dict", data := .dict #[] }) scope.names } : Shared) = s4 at I4 ⊢
  have kp4 : ∀ b o, s3.heap.get? b = some o → s4.heap.get? b = some o := fun b o e => by rw [← hs4]; exact pushCells_keeps _ _ _ _ (Heap.get?_push_of_some _ e)
  have st4 : tn 0 s4.heap := T.keep _ _ _ st3 fun b _ o e => kp4 b o e
  have I5 : Inv (blkH X pins s3 H3 scope ce fp) [] (wipe σ (own.map (·.2))) H3 s4 := invH I4 fun p hp => by
    obtain ⟨g1, g2, g3, g4, g5⟩ := I3.pin p hp
    refine ⟨kp4 _ _ g1, g2, ?_, fun hm => ?_, g5⟩
    · rw [cL]
      exact Nat.ne_of_lt (Heap.lt_size g1)
    · rcases List.mem_cons.mp (I3.stkSub p.1 hm) with z | z
      · exact g3 z
      · exact g4 z
  have stat : ∀ b ∈ fp, FpOk (blkH X pins s3 H3 scope ce fp) [] H3 b := fun b hb =>
    ⟨nfp b hb, (I5.ok.exf b hb).1, I5.ok.exfs b hb, .inl hb, fun x c e => (I5.ok.exf b hb).2 x c e, fun p hp => (f3 b hb).1.2.2.2.2.2 p (by simpa using hp)⟩
  have loop := loop_run (X := blkH X pins s3 H3 scope ce fp) (itE := itE) (i := 0) rfl (gens := [⟨tg, itE, ifs, 0⟩]) rfl (fun g e => by cases e) pg pt pp (fun _ _ z => by cases z) (TurnX.ofH T rfl rfl rfl (hotB hc)) [] s4 _ F H as F2 H3 as2 _ M1 D [] [] xs ys M' I5 stat st4 wk2 nx3 sr3 er3 na3 dk3 e2 (by
    have z := lenOk_le hz
    simpa using z)
  have loop' : codeAny (model X.prog X.w) X.A (.compLoop (.ListComp elt [⟨tg, itE, ifs, 0⟩] scope pos) 0 (.ref it) (.ref D) ce) (compPost (model X.prog X.w) X.A X.xe none (fun u s' => EP X pins σ Q u s') (.ref D) s3.heap.objs.size) s4 := by
    refine codeAny_mono loop fun r s6 ⟨hr, σ6, F6, H6, as6, vs6, I6', o6, g6, nx6, sr6, dk6⟩ => ?_
    subst hr
    have I6 := invD I6'
    have I7 : Inv X pins σ H6 s6 := I3.call' (ch := fp) I6.os I6.base I6.hok I6.bare fun b hb => ⟨(f3 b hb).1.2.2.2.1, (f3 b hb).1.2.1, (f3 b hb).1.2.2.2.2.1, (f3 b hb).1.2.2.2.2.2⟩
    have nC : H6 s3.heap.objs.size = none := by
      have z : H6 ce.locals = none := I6.free
      rw [cL] at z
      exact z
    obtain ⟨m, hn, _⟩ := I6.loc
    have hn : s6.heap.Ns ce.locals m := hn
    rw [cL] at hn
    have dk6' : DOk S H F6 H6 as6 D vs6 (ys.map VV.d) := dk6
    obtain ⟨f0, f1, f2, f3, f4, f5⟩ := I3.fpOk (Nat.le_refl _) nC
    exact ⟨m, hn, fun h'' sb => ⟨.ref D, H6, I7.turned (t' := s6.toks) (fun b o hb e => (sb.2 b hb).trans e) f0 f1 f3 f4 f5, rfl, w2 (.ref D) F6 H6 as6 nx6 sr6 ⟨D, vs6, rfl, dk6'.nF, dk6'.na, dk6'.at_, dpAll_pair dk6'.dp, .inl dk6'.new⟩⟩⟩
  exact codeAny_compStart_list loop' (T.self X.A 0 _ _ _ st4 loop')
end
end Hx

/-! Hx3: _law_kind(e), called while e is handled. -/
namespace Hx
open PySem PySem.Spec PyProof.Rows L2 HotX Ev

/-- isinstance(e, c), e an exception whose object is pinned -/
theorem call_isP {X : Cx} {a D : Addr} {oe : Obj} (C : ExcC X.K D) (hpn : (a, oe) ∈ X.pn) (hz : Zc (.ref D) none oe) (hf : ∃ vs, oe.data = .fields vs) : CallR X (.builtin "isinstance") (rIsE X.K D a) := by
  intro pins s σ H xs us Q I r h
  obtain ⟨c, cv, b, rfl, hcv, e, q⟩ := h
  cases r with
  | cons rx rr =>
    cases rr with
    | cons rt rr =>
      cases rr
      cases rx
      have ec := hcv _ rt
      subst ec
      obtain ⟨hget, _⟩ := I.pin (a, oe) (List.mem_append_left _ hpn)
      obtain ⟨vs, hv⟩ := hf
      have J : PySem.W.InstAt s.heap a oe D none := by
        obtain ⟨oc, od, oda, osl⟩ := oe
        obtain ⟨h1, h2⟩ := hz
        dsimp only at h1 h2 hv
        subst h1 h2 hv
        exact ⟨hget, rfl, rfl, trivial⟩
      exact PySem.W.kia_one (PySem.W.handS_kitx_exc C.hg C.hk C.hs C.hd C.ha C.hn C.ht C.hm) I.kIn J e (fun z => nomatch z) fun tk => ⟨.bl b, H, I.kept (t' := tk) fun _ _ z => z, rfl, q⟩

/-! ### readings by what is known of the slots -/
def tP (S : Stat) (P : Env' → Prop) (t : TV) (W : WX) : TE := fun σ H Q => ∃ F as ρ M, Sr S F H as M ∧ Er S F as ρ σ ∧ P ρ ∧ Wp S (fun c d H' => W c d σ H') F H as (.ok t M) Q
theorem tP_of {S : Stat} {P : Env' → Prop} {t : TV} {W : WX} {f : Env' → Sto → Res TV} {X : Cx} {x : Expr} (h : PE X x (tE S f W)) (hf : ∀ ρ M, P ρ → f ρ M = .ok t M) : PE X x (tP S P t W) :=
  PE.imp h fun σ H Q ⟨F, as, ρ, M, s, er, hp, w⟩ => ⟨F, as, ρ, M, s, er, by rw [hf ρ M hp]; exact w⟩
/-- .. back: where the slots are so -/
noncomputable def fP (P : Env' → Prop) (t : TV) : Env' → Sto → Res TV := fun ρ M => open Classical in if P ρ then .ok t M else .stuck
theorem tE_of {S : Stat} {P : Env' → Prop} {t : TV} {W : WX} {X : Cx} {x : Expr} (h : PE X x (tP S P t W)) : PE X x (tE S (fP P t) W) :=
  PE.imp h fun σ H Q ⟨F, as, ρ, M, s, er, w⟩ => by
    by_cases hp : P ρ
    · refine ⟨F, as, ρ, M, s, er, hp, ?_⟩
      have e : fP P t ρ M = .ok t M := if_pos hp
      rw [← e]; exact w
    · have e : fP P t ρ M = .stuck := if_neg hp
      have w' : WpG S (RT S) (fun c d H' => W c d σ H') F H as (fP P t ρ M) Q := w
      rw [e] at w'
      exact w'.elim
theorem fP_ok {P : Env' → Prop} {t : TV} {ρ : Env'} {M : Sto} (h : P ρ) : fP P t ρ M = .ok t M := if_pos h
def atE (a : Addr) (ρ : Env') : Prop := ρ[0]? = some (some (.raw (.ref a)))
section
variable {X : Cx} {S : Stat} {W : WX} {a : Addr}
/-- isinstance(e, c) -/
theorem pe_isP {e c : Str} {D Cc : Addr} {oe : Obj} {b : Bool} {p p1 p2 pos : Pos} (hK : X.K = S.K) (C : ExcC X.K D) (hpn : (a, oe) ∈ X.pn) (hz : Zc (.ref D) none oe) (hf : ∃ vs, oe.data = .fields vs) (hN : X.N[0]? = some e) (hv : Vis X.env.scope e) (he : plainName e = true)
    (hgi : Gl X "isinstance") (hmi : X.mg "isinstance" = none) (hgc : Gl X c) (hmc : X.mg c = some (.ref Cc)) (hc : plainName c = true) (hk : PySem.W.kitOne X.K (.ref D) (.ref Cc) = some b) :
    PE X (.Call (.Name "isinstance" p) [.Name e p1, .Name c p2] [] pos) (tP S (atE a) (.v (.d (.bool b))) W) := by
  have h1 := pe_callB (pos := pos) (p := p) (call_isP C hpn hz hf) hgi hmi isi_ok (pa_cons (pe_var (pos := p1) hN hv (plain_db he).1 (plain_db he).2) (pa_cons (pe_glob (v := .ref Cc) (pos := p2) hgc hmc rfl (plain_db hc).1) pa_nil))
  refine PE.imp h1 fun σ H Q ⟨F, as, ρ, M, s, er, hp, w⟩ => ?_
  obtain ⟨v, hv, hr⟩ := er.at_ 0 _ hp
  have hr : v = .ref a := hr
  subst hr
  exact ⟨_, hv, _, .ref Cc, b, rfl, fun u r => r, hk, w (.bl b) F H as .refl s (.bl b)⟩
/-- ('w', isinstance(e, c)) -/
theorem pe_pairP {w : Str} {x : Expr} {b : Bool} {j k : Nat} {p1 pos : Pos} (hx : PE X x (tP S (atE a) (.v (.d (.bool b))) W)) (hs : notStar x = true) :
    PE X (.Tuple [.Constant (.str w) j p1, x] k pos) (tP S (atE a) (.v (.d (.tuple [.str w, .bool b]))) W) :=
  tP_of (pe_tupE (pa_consV rfl (pe_kE (d := .str w) (.inr (.inr (.inr ⟨w, rfl, rfl⟩)))) (pa_consV hs (tE_of hx) pa_nilV))) fun ρ M hp => by
    simp only [Res.bind_ok, fP_ok hp]
    rfl
def kPair (e : Str) : Expr → Option (Str × Str)
  | .Tuple [.Constant (.str w) _ _, .Call (.Name i _) [.Name e' _, .Name c _] [] _] _ _ => if (i == ("isinstance" : Str)) && (e' == e) then some (w, c) else none
  | _ => none
def kPairs (e : Str) : List Expr → Option (List (Str × Str))
  | [] => some []
  | x :: r => match kPair e x, kPairs e r with
    | some q, some l => some (q :: l)
    | _, _ => none
/-- what is known of the caught exception: kb says of each class whether it is one of it -/
structure KindOk (X : Cx) (S : Stat) (a : Addr) (e : Str) (kb : Str → Bool) (cs : List Str) : Prop where
  hK : X.K = S.K
  D : ∃ (D : Addr) (oe : Obj), ExcC X.K D ∧ (a, oe) ∈ X.pn ∧ Zc (.ref D) none oe ∧ (∃ vs, oe.data = .fields vs) ∧ ∀ c ∈ cs, ∃ Cc, Gl X c ∧ X.mg c = some (.ref Cc) ∧ plainName c = true ∧ PySem.W.kitOne X.K (.ref D) (.ref Cc) = some (kb c)
  hN : X.N[0]? = some e
  hv : Vis X.env.scope e
  he : plainName e = true
  hgi : Gl X "isinstance"
  hmi : X.mg "isinstance" = none
def pairD (kb : Str → Bool) (q : Str × Str) : PyData := .tuple [.str q.1, .bool (kb q.2)]
theorem pa_pairs {e : Str} {kb : Str → Bool} {cs : List Str} (K : KindOk X S a e kb cs) : ∀ (xs : List Expr) (l : List (Str × Str)), kPairs e xs = some l → (∀ q ∈ l, q.2 ∈ cs) →
    ∃ fs : Env' → Sto → Res (List VV), PA X xs (tV S fs W) ∧ ∀ ρ M, atE a ρ → fs ρ M = .ok (l.map fun q => .d (pairD kb q)) M
  | [], l, h, _ => by
    simp only [kPairs] at h
    cases h
    exact ⟨_, pa_nilV, fun ρ M _ => rfl⟩
  | x :: r, l, h, hl => by
    simp only [kPairs] at h
    split at h
    · rename_i q l' h1 h2
      cases h
      obtain ⟨fs, h3, h4⟩ := pa_pairs K r l' h2 fun q hq => hl q (List.mem_cons_of_mem _ hq)
      unfold kPair at h1
      split at h1
      · rename_i w j p1 i p2 e' p3 c p4 pos k pos'
        split at h1
        · rename_i hb
          cases h1
          simp only [Bool.and_eq_true, beq_iff_eq] at hb
          obtain ⟨rfl, rfl⟩ := hb
          obtain ⟨D, oe, d1, d2, d3, d4, d5⟩ := K.D
          obtain ⟨Cc, c1, c2, c3, c4⟩ := d5 c (hl (w, c) List.mem_cons_self)
          have hx := pe_pairP (w := w) (j := j) (k := k) (p1 := p1) (pos := pos') (pe_isP (W := W) (p := p2) (p1 := p3) (p2 := p4) (pos := pos) K.hK d1 d2 d3 d4 K.hN K.hv K.he K.hgi K.hmi c1 c2 c3 c4) rfl
          refine ⟨_, pa_consV rfl (tE_of hx) h3, fun ρ M hp => ?_⟩
          simp only [fP_ok hp, Res.bind_ok, h4 ρ M hp]
          rfl
        · cases h1
      · cases h1
    · cases h
theorem datL_map {kb : Str → Bool} : ∀ l : List (Str × Str), datL (l.map fun q => VV.d (pairD kb q)) = some (l.map (pairD kb))
  | [] => rfl
  | q :: l => by
    rw [List.map_cons, List.map_cons]
    simp only [datL, datL_map l, Option.map_some]
theorem pe_list {e : Str} {kb : Str → Bool} {cs : List Str} {xs : List Expr} {l : List (Str × Str)} {pos : Pos} (K : KindOk X S a e kb cs) (h : kPairs e xs = some l) (hl : ∀ q ∈ l, q.2 ∈ cs) (hz : l.length ≤ 1000) :
    PE X (.List xs pos) (tP S (atE a) (.own (l.map (pairD kb))) W) := by
  obtain ⟨fs, h1, h2⟩ := pa_pairs (W := W) K xs l h hl
  refine tP_of (pe_lstE h1) fun ρ M hp => ?_
  simp only [h2 ρ M hp, Res.bind_ok, lstK, datL_map, Option.bind_some, List.length_map]
  rw [if_pos (show lenOk l.length = true from decide_eq_true (by rw [sizeLine_eq]; omega))]
  rfl
/-! ### the statements -/
def atS (a : Addr) (i : Nat) (ds : List PyData) (ρ : Env') : Prop := atE a ρ ∧ 4 ≤ ρ.length ∧ ρ[i]? = some (some (.d (.list ds)))
def tPS (S : Stat) (P : Env' → Prop) (t : TV) (W : WX) : TS := fun D σ H => ∃ F as ρ M, Sr S F H as M ∧ Er S F as ρ σ ∧ P ρ ∧ WpS S W D F H as (.ok (.ret t) M)
def kStep (e so : Str) : Stmt → Option (List (Str × Str))
  | .Assign [.Name s p] (.BinOp (.Name s' _) .Add (.List xs _) _) _ => if (s == so) && (s' == so) then kPairs e xs else none
  | _ => none
theorem ps_step {e so : Str} {kb : Str → Bool} {cs : List Str} {st : Stmt} {rest : List Stmt} {l : List (Str × Str)} {i : Nat} {ds : List PyData} {t : TV} (K : KindOk X S a e kb cs) (h : kStep e so st = some l) (hl : ∀ q ∈ l, q.2 ∈ cs) (hz : ds.length + l.length ≤ 1000)
    (hi0 : i ≠ 0) (hN : X.N.Nodup) (hi : X.N[i]? = some so) (hlo : X.env.scope.names.lookup so = some .local) (hso : plainName so = true) (hr : PSs X rest (tPS S (atS a i (ds ++ l.map (pairD kb))) t W)) : PSs X (st :: rest) (tPS S (atS a i ds) t W) := by
  unfold kStep at h
  split at h
  · rename_i s p s' p2 xs p3 p4 pos
    split at h
    · rename_i hb
      simp only [Bool.and_eq_true, beq_iff_eq] at hb
      obtain ⟨rfl, rfl⟩ := hb
      have e1 := tE_of (pe_list (W := W) (pos := p3) K h hl (by omega))
      have e2 := pe_binE (pos := p4) K.hK .add (pe_vE (S := S) (W := W) (pos := p2) hi (.inl hlo) (plain_db hso).1 (plain_db hso).2) e1
      have e3 := ps_setE (pos := pos) (pos' := p) hN hi (.inl hlo) e2 rfl (.inr hlo)
      refine PSs.imp (pss_cons e3 hr) fun D σ H ⟨F, as, ρ, M, s, er, hp, w⟩ => ⟨F, as, ρ, M, s, er, ?_⟩
      obtain ⟨hp1, hp4, hp2⟩ := hp
      have key : ((varK i ρ M).bind fun ta M1 => (fP (atE a) (.own (l.map (pairD kb))) ρ M1).bind (binK .add ta)).bind (setK i ρ) = .ok (.nx (ρ.set i (some (.d (.list (ds ++ l.map (pairD kb))))))) M := by
        unfold varK
        rw [hp2]
        simp only [Res.bind_ok, fP_ok hp1, binK, peek, binD]
        rw [if_pos (show lenOk (ds.length + (l.map (pairD kb)).length) = true from decide_eq_true (by rw [sizeLine_eq, List.length_map]; omega))]
        rfl
      show WpS S W _ F H as (((varK i ρ M).bind fun ta M1 => (fP (atE a) (.own (l.map (pairD kb))) ρ M1).bind (binK .add ta)).bind (setK i ρ))
      rw [key]
      intro σ' F' H' as' nx s' er'
      refine ⟨F', as', _, M, s', er', ⟨?_, by rw [List.length_set]; exact hp4, ?_⟩, WpS.later nx w⟩
      · unfold atE
        rw [List.getElem?_set_ne hi0]
        exact hp1
      · rw [List.getElem?_set_self (List.getElem?_eq_some_iff.mp hp2).1]
    · cases h
  · cases h
end
end Hx

/-! Hx4: _law_kind's end and its whole body; its call. -/
namespace Hx
open PySem PySem.Spec PyProof.Rows L2 HotX Ev

section
variable {X : Cx} {S : Stat} {W : WX} {a : Addr}
def trueWords (kb : Str → Bool) (l : List (Str × Str)) : List Str := (l.filter fun q => kb q.2).map (·.1)
theorem loop_words {kb : Str → Bool} {ρ : Env'} {jw jg : Nat} {M : Sto} (h1 : jw < ρ.length) (h2 : jg < ρ.length) (hne : jw ≠ jg) : ∀ l : List (Str × Str),
    loopC (itemK (.tp (.cons (.nm jw) (.cons (.nm jg) .nil))) ρ (fun ρ M => (varK jg ρ M).bind asB) (fun ρ M => (varK jw ρ M).bind cyK)) (l.map (pairD kb)) M = .ok ((trueWords kb l).map .str) M
  | [] => rfl
  | q :: l => by
    rw [List.map_cons, loopC]
    have e1 : tgD (.tp (.cons (.nm jw) (.cons (.nm jg) .nil))) (pairD kb q) ρ = some ((ρ.set jw (some (.d (.str q.1)))).set jg (some (.d (.bool (kb q.2))))) := by
      simp only [tgD, pairD, tgL]
    have g1 : ((ρ.set jw (some (VV.d (.str q.1)))).set jg (some (VV.d (.bool (kb q.2)))))[jg]? = some (some (.d (.bool (kb q.2)))) := by
      rw [List.getElem?_set_self (by rw [List.length_set]; exact h2)]
    have g2 : ((ρ.set jw (some (VV.d (.str q.1)))).set jg (some (VV.d (.bool (kb q.2)))))[jw]? = some (some (.d (.str q.1))) := by
      rw [List.getElem?_set_ne (Ne.symm hne), List.getElem?_set_self h1]
    have e2 : itemK (.tp (.cons (.nm jw) (.cons (.nm jg) .nil))) ρ (fun ρ M => (varK jg ρ M).bind asB) (fun ρ M => (varK jw ρ M).bind cyK) (pairD kb q) M = .ok (if kb q.2 = true then [.str q.1] else []) M := by
      unfold itemK
      rw [e1]
      simp only [varK, g1, g2, Res.bind_ok, asB, cyK, freezes]
      split <;> rfl
    rw [e2]
    simp only [loop_words h1 h2 hne l, Res.bind_ok]
    unfold trueWords
    rw [List.filter_cons]
    split <;> simp
theorem strsOf_map : ∀ ws : List Str, strsOf (ws.map .str) = some ws
  | [] => rfl
  | w :: ws => by rw [List.map_cons]; simp only [strsOf, strsOf_map ws, Option.map_some]
def kEnd (C : CC) (i jw jg : Nat) (so : Str) : Stmt → Bool
  | .Return (some (.Call (.Attribute (.Constant (.str sp) _ _) m apos) [.ListComp (.Name w _) [⟨.Tuple [.Name w2 _, .Name g _] _ _, .Name so2 _, [.Name g2 _], 0⟩] scope _] [] cpos)) _ =>
    (sp == (" " : Str)) && (m == ("join" : Str)) && (apos.endLine == cpos.line) && (w == w2) && (g == g2) && (so2 == so) && isSlot C jw w && isSlot C jg g && isSlot C i so &&
      blkC C.N C.sc scope [(w, jw), (g, jg)] && isLoc (inner C scope) w && isLoc (inner C scope) g && isVis (inner C scope) w && isVis (inner C scope) g && plainName w && plainName g
  | _ => false
theorem vis_in {C : CC} {scope : Scope} {x : Str} {sc : Scope} (h : isVis (inner C scope) x = true) (hs : sc = relS scope C.sc) : Vis sc x := by
  subst hs
  unfold isVis kOf at h
  have h : (match (relS scope C.sc).names.lookup x with | some .local => true | some .cell => true | some .free => true | _ => false) = true := h
  unfold Vis
  split at h
  · rename_i e; exact .inl e
  · rename_i e; exact .inr (.inl e)
  · rename_i e; exact .inr (.inr e)
  · cases h
theorem loc_in {C : CC} {scope : Scope} {x : Str} {sc : Scope} {fn : Str → Bool} (h : isLoc (inner C scope) x = true) (hs : sc = relS scope C.sc) (hf : fn = fun x => scope.names.lookup x == some .cell) : L2.Loc sc x ∧ (fn x = true ∨ sc.names.lookup x = some .local) := by
  subst hs hf
  unfold isLoc kOf at h
  have h : (match (relS scope C.sc).names.lookup x with | some .local => true | some .cell => (inner C scope).fn x | _ => false) = true := h
  unfold L2.Loc
  split at h
  · rename_i e; exact ⟨.inl e, .inr e⟩
  · rename_i e; exact ⟨.inr e, .inl h⟩
  · cases h
theorem ps_end {C : CC} {i jw jg : Nat} {so : Str} {st : Stmt} {kb : Str → Bool} {l : List (Str × Str)} {z : Str} (hK : X.K = S.K) (hc : L2H.HotC X) (hN : X.N = C.N) (hnd : C.N.Nodup) (hsc : X.env.scope = C.sc) (h : kEnd C i jw jg so st = true) (hne : jw ≠ jg) (hw4 : jw < 4) (hg4 : jg < 4) (hiw : i ≠ jw) (hig : i ≠ jg)
    (hlo : C.sc.names.lookup so = some .local) (hso : plainName so = true) (hz : l.length ≤ 1000) (hlen : ((trueWords kb l).map (·.length)).sum + (trueWords kb l).length * 1 ≤ 16777216) (hw : PySem.Txt.join (" " : Str) (trueWords kb l) = z) :
    PSs X [st] (tPS S (atS a i (l.map (pairD kb))) (.v (.d (.str z))) W) := by
  unfold kEnd at h
  split at h
  · rename_i sp j1 p1 m apos w p2 w2 p3 g p4 k5 p5 so2 p6 g2 p7 scope lp cpos rpos
    simp only [Bool.and_eq_true, beq_iff_eq] at h
    obtain ⟨⟨⟨⟨⟨⟨⟨⟨⟨⟨⟨⟨⟨⟨⟨h1, h2⟩, h3⟩, h4⟩, h5⟩, h6⟩, h7⟩, h8⟩, h9⟩, h10⟩, h11⟩, h12⟩, h13⟩, h14⟩, h15⟩, h16⟩ := h
    subst h1 h2 h4 h5 h6
    have sw : X.N[jw]? = some w := by rw [hN]; exact of_decide_eq_true h7
    have sg : X.N[jg]? = some g := by rw [hN]; exact of_decide_eq_true h8
    have si : X.N[i]? = some so2 := by rw [hN]; exact of_decide_eq_true h9
    have hnd' : X.N.Nodup := by rw [hN]; exact hnd
    have esc : ∀ cl Ca, (compEnvC scope cl Ca X.env).scope = relS scope C.sc := fun cl Ca => by
      show relS scope X.env.scope = _
      rw [hsc]
    have vis : Vis X.env.scope so2 := .inl (by rw [hsc]; exact hlo)
    have pe := pe_lcH (X := X) (S := S) (W := W) (W' := fun _ _ _ _ => False) (elt := .Name w p2) (tg := .Tuple [.Name w p3, .Name g p4] k5 p5) (itE := .Name so2 p6) (ifs := [.Name g p7]) (scope := scope) (own := [(w, jw), (g, jg)]) (pos := lp)
      (t := .tp (.cons (.nm jw) (.cons (.nm jg) .nil))) (ft := fun ρ M => (varK jg ρ M).bind asB) (fb := fun ρ M => (varK jw ρ M).bind cyK) hc hnd'
      (pih_seqE hK (pe_vE si vis (plain_db hso).1 (plain_db hso).2)) (blkOk_by (by rw [hN, hsc]; exact h10)) (fun _ => rfl)
      (fun ps s H Ca cl fp => pg_tpH hK (hotB hc) (pgs_consE (pg_nmE (i := jw) hnd' sw (loc_in h11 (esc cl Ca) rfl).1 (loc_in h11 (esc cl Ca) rfl).2) (pgs_consE (pg_nmE (i := jg) hnd' sg (loc_in h12 (esc cl Ca) rfl).1 (loc_in h12 (esc cl Ca) rfl).2) pgs_nilE rfl) rfl) rfl rfl)
      (fun ps s H Ca cl fp => pts_one (pt_valE (pe_vE (i := jg) sg (vis_in h14 (esc cl Ca)) (plain_db h16).1 (plain_db h16).2) (fun _ => rfl)))
      (fun ps s H Ca cl fp => pcl_nil (W := fun _ _ _ _ => False) rfl rfl (pe_vE (i := jw) sw (vis_in h13 (esc cl Ca)) (plain_db h15).1 (plain_db h15).2))
      (fun j hj => by simpa [tgS] using hj)
    have pj := pe_joinE (apos := apos) (cpos := cpos) hK (pe_kE (S := S) (W := W) (pos := p1) (j := j1) (d := .str (" " : Str)) (x := .str (" " : Str)) (.inr (.inr (.inr ⟨_, rfl, rfl⟩)))) pe rfl rfl (by simpa using h3)
    refine PSs.imp (pss_one (ps_retE (pos := rpos) pj)) fun D σ H ⟨F, as, ρ, M, s, er, hp, w'⟩ => ⟨F, as, ρ, M, s, er, ?_⟩
    obtain ⟨hp1, hp4, hp2⟩ := hp
    have lw : jw < (wipeE ρ [jw, jg]).length := by rw [wipeE_length]; omega
    have lg : jg < (wipeE ρ [jw, jg]).length := by rw [wipeE_length]; omega
    have hi2 : (wipeE ρ [jw, jg])[i]? = some (some (.d (.list (l.map (pairD kb))))) := by
      simp only [wipeE]
      rw [List.getElem?_set_ne (Ne.symm hiw), List.getElem?_set_ne (Ne.symm hig)]
      exact hp2
    have e1 : lcF (fun ρ M => (varK i ρ M).bind seqLK) (.tp (.cons (.nm jw) (.cons (.nm jg) .nil))) (fun ρ M => (varK jg ρ M).bind asB) (fun ρ M => (varK jw ρ M).bind cyK) (wipeE ρ [jw, jg]) M = .ok ((trueWords kb l).map .str) M := by
      unfold lcF
      have e0 : (varK i (wipeE ρ [jw, jg]) M).bind seqLK = .ok (l.map (pairD kb)) M := by
        unfold varK
        rw [hi2]
        rfl
      show ((varK i (wipeE ρ [jw, jg]) M).bind seqLK).bind _ = _
      rw [e0]
      exact loop_words lw lg hne l
    have lt : (trueWords kb l).length ≤ l.length := by
      unfold trueWords
      rw [List.length_map]
      exact List.length_filter_le _ _
    have e2 : lcK (lcF (fun ρ M => (varK i ρ M).bind seqLK) (.tp (.cons (.nm jw) (.cons (.nm jg) .nil))) (fun ρ M => (varK jg ρ M).bind asB) (fun ρ M => (varK jw ρ M).bind cyK) (wipeE ρ [jw, jg]) M) = .ok (.own ((trueWords kb l).map .str)) M := by
      rw [e1]
      show (if lenOk ((trueWords kb l).map PyData.str).length = true then _ else _) = _
      have hle : lenOk ((trueWords kb l).map PyData.str).length = true := by
        unfold lenOk
        exact decide_eq_true (by rw [sizeLine_eq, List.length_map]; omega)
      rw [if_pos hle]
    have key : joinF (fun _ M => .ok (.v (.d (.str (" " : Str)))) M) (fun ρ M => lcK (lcF (fun ρ M => (varK i ρ M).bind seqLK) (.tp (.cons (.nm jw) (.cons (.nm jg) .nil))) (fun ρ M => (varK jg ρ M).bind asB) (fun ρ M => (varK jw ρ M).bind cyK) (wipeE ρ [jw, jg]) M)) ρ M = .ok (.v (.d (.str z))) M := by
      unfold joinF
      simp only [Res.bind_ok, isStr, if_true, e2, joinK, peek, joinD, strsOf_map, Option.bind_some]
      have h1 : (" " : Str).length = 1 := by decide +kernel
      rw [h1, if_pos (decide_eq_true hlen), hw]
      rfl
    show WpS S W D F H as ((joinF (fun _ M => .ok (.v (.d (.str (" " : Str)))) M) (fun ρ M => lcK (lcF (fun ρ M => (varK i ρ M).bind seqLK) (.tp (.cons (.nm jw) (.cons (.nm jg) .nil))) (fun ρ M => (varK jg ρ M).bind asB) (fun ρ M => (varK jw ρ M).bind cyK) (wipeE ρ [jw, jg]) M)) ρ M).bind fun t M1 => .ok (.ret t) M1)
    rw [key]
    exact w'
  · cases h
end
end Hx

/-! Hx5: _law_kind's whole body; its call from a suite. -/
namespace Hx
open PySem PySem.Spec PyProof.Rows L2 HotX Ev

def kSteps (e so : Str) (C : CC) (i jw jg : Nat) : List Stmt → Option (List (Str × Str))
  | [] => none
  | [st] => if kEnd C i jw jg so st then some [] else none
  | st :: rest => match kStep e so st, kSteps e so C i jw jg rest with
    | some l, some r => some (l ++ r)
    | _, _ => none
def kBody (e so : Str) (C : CC) (i jw jg : Nat) : List Stmt → Option (List (Str × Str))
  | .Assign [.Name s _] (.List xs _) _ :: rest => if s == so then match kPairs e xs, kSteps e so C i jw jg rest with
      | some l, some r => some (l ++ r)
      | _, _ => none
    else none
  | _ => none
section
variable {X : Cx} {S : Stat} {W : WX} {a : Addr}
/-- what the checks on the names are -/
structure KNames (X : Cx) (C : CC) (so : Str) (i jw jg : Nat) : Prop where
  hN : X.N = C.N
  nd : C.N.Nodup
  hsc : X.env.scope = C.sc
  hne : jw ≠ jg
  w4 : jw < 4
  g4 : jg < 4
  iw : i ≠ jw
  ig : i ≠ jg
  i0 : i ≠ 0
  lo : C.sc.names.lookup so = some .local
  pl : plainName so = true
  si : C.N[i]? = some so
theorem pss_steps {e so : Str} {C : CC} {i jw jg : Nat} {kb : Str → Bool} {cs : List Str} {z : Str} (K : KindOk X S a e kb cs) (hc : L2H.HotC X) (n : KNames X C so i jw jg) : ∀ (rest : List Stmt) (l0 r : List (Str × Str)), kSteps e so C i jw jg rest = some r → (∀ q ∈ r, q.2 ∈ cs) → (l0 ++ r).length ≤ 1000 →
    ((trueWords kb (l0 ++ r)).map (·.length)).sum + (trueWords kb (l0 ++ r)).length * 1 ≤ 16777216 → PySem.Txt.join (" " : Str) (trueWords kb (l0 ++ r)) = z → PSs X rest (tPS S (atS a i (l0.map (pairD kb))) (.v (.d (.str z))) W)
  | [], _, _, h, _, _, _, _ => by simp [kSteps] at h
  | [st], l0, r, h, _, hz, hlen, hw => by
    simp only [kSteps] at h
    split at h
    · rename_i he
      cases h
      rw [List.append_nil] at hz hlen hw
      exact ps_end K.hK hc n.hN n.nd n.hsc he n.hne n.w4 n.g4 n.iw n.ig n.lo n.pl hz hlen hw
    · cases h
  | st :: st2 :: rest, l0, r, h, hr, hz, hlen, hw => by
    simp only [kSteps] at h
    split at h
    · rename_i l r' h1 h2
      cases h
      have ih := pss_steps (z := z) K hc n (st2 :: rest) (l0 ++ l) r' h2 (fun q hq => hr q (List.mem_append_right _ hq)) (by rw [List.append_assoc]; exact hz) (by rw [List.append_assoc]; exact hlen) (by rw [List.append_assoc]; exact hw)
      rw [List.map_append] at ih
      refine ps_step K h1 (fun q hq => hr q (List.mem_append_left _ hq)) ?_ n.i0 (by rw [n.hN]; exact n.nd) (by rw [n.hN]; exact n.si) (by rw [n.hsc]; exact n.lo) n.pl ih
      rw [List.length_map]
      rw [List.length_append, List.length_append] at hz
      omega
    · cases h
theorem pss_kind {e so : Str} {C : CC} {i jw jg : Nat} {kb : Str → Bool} {cs : List Str} {z : Str} {body : List Stmt} {r : List (Str × Str)} (K : KindOk X S a e kb cs) (hc : L2H.HotC X) (n : KNames X C so i jw jg) (h : kBody e so C i jw jg body = some r) (hr : ∀ q ∈ r, q.2 ∈ cs) (hz : r.length ≤ 1000)
    (hlen : ((trueWords kb r).map (·.length)).sum + (trueWords kb r).length * 1 ≤ 16777216) (hw : PySem.Txt.join (" " : Str) (trueWords kb r) = z) (hi4 : i < 4) : PSs X body (tPS S (fun ρ => atE a ρ ∧ 4 ≤ ρ.length) (.v (.d (.str z))) W) := by
  unfold kBody at h
  split at h
  · rename_i s p xs p3 pos rest
    split at h
    · rename_i hs
      have hs : s = so := by simpa using hs
      subst hs
      split at h
      · rename_i l r' h1 h2
        cases h
        have ih := pss_steps (W := W) (z := z) K hc n rest l r' h2 (fun q hq => hr q (List.mem_append_right _ hq)) hz hlen hw
        have hN : X.N.Nodup := by rw [n.hN]; exact n.nd
        have hi : X.N[i]? = some s := by rw [n.hN]; exact n.si
        have hlo : X.env.scope.names.lookup s = some .local := by rw [n.hsc]; exact n.lo
        have e1 := tE_of (pe_list (W := W) (pos := p3) K h1 (fun q hq => hr q (List.mem_append_left _ hq)) (by rw [List.length_append] at hz; omega))
        have e3 := ps_setE (pos := pos) (pos' := p) hN hi (.inl hlo) e1 rfl (.inr hlo)
        refine PSs.imp (pss_cons e3 ih) fun D σ H ⟨F, as, ρ, M, sr, er, hp, w⟩ => ⟨F, as, ρ, M, sr, er, ?_⟩
        obtain ⟨hp1, hp4⟩ := hp
        show WpS S W _ F H as ((fP (atE a) (.own (l.map (pairD kb))) ρ M).bind (setK i ρ))
        rw [fP_ok hp1]
        intro σ' F' H' as' nx s' er'
        refine ⟨F', as', _, M, s', er', ⟨?_, by rw [List.length_set]; exact hp4, ?_⟩, WpS.later nx w⟩
        · unfold atE
          rw [List.getElem?_set_ne n.i0]
          exact hp1
        · rw [List.getElem?_set_self (by omega)]
          rfl
      · cases h
    · cases h
  · cases h
end
/-! ### the call -/
section
variable {CX : CXT} {P : Program} {w : World} {K : PySem.W.Frag} {mg : Str → Option Value} {base : Heap} {k : Nat} {f : Addr} {name qual : Str} {params : Arguments} {body : List Stmt} {scope : Scope} {dV kV doc pm cdv ct oc : Value} {an od : Option Addr} {osl : Array (Option Value)} {N ps : List Str}
theorem run_hot (lk : K.lookup f = some ⟨oc, od, .func (PySem.W.fnOf name qual params body scope dV kV doc pm an cdv ct), osl⟩) (hcd : PySem.W.codeIn K cdv qual = true) (Sc : FnScope N ps scope)
    {A : Around} {outer : List Env} {s : Shared} {H : Hp} {args : Args} {us : List Value} {vs : List V} {Q : VK} {E : XK} {p : Addr × Obj} (hr : L2H.RoomH (k + 1) A) (hpin : L2H.PinOk outer H s p) (e0 : Env0 P w K mg base A outer s H)
    (hb : BindsTo s (PySem.W.fnOf name qual params body scope dV kV doc pm an cdv ct) args (ps.zip us)) (r : Vals vs us) (hl : vs.length = ps.length)
    (hbody : ∃ t, PSs (L2H.cxH CX P w K mg base N qual scope f cdv A outer s H E p) body t ∧ t { nx := fun _ H' => Q .non H', rt := Q } (L2.start N vs) H) :
    codeAny (model P w) A (.call (.ref f) args) (CR CX outer P w H s Q E) s := by
  have KX : K.In s.heap := e0.mod.kin.keeps fun b o e => (e0.bs b o e).1
  have lim : s.heap.NoLimit := e0.mod.nolimit.keeps fun b o e => (e0.bs b o e).1
  have hkind : ∀ y ∈ ps.zip us, scope.names.lookup y.1 = some .local ∨ (scope.names.lookup y.1 = some .cell ∧ ((cellsFrom (s.heap.objs.size + 1) scope.names []).lookup y.1).isSome = true) := fun ⟨n, v⟩ hy => by
    rcases Sc.par n (List.of_mem_zip hy).1 with q | q
    · exact .inl q
    · exact .inr ⟨q, PySem.W.cellsFrom_some _ _ _ (.inl q)⟩
  refine codeAny_call_function hr.depth (KX _ _ lk) rfl Sc.co Sc.gen rfl (PySem.W.codeRec_of KX hcd) (hb _ _ _ _ ?_)
  refine wpAny_newFunctionEnv_cells Sc.kind hkind fun env he s1 x => ?_
  subst he
  refine ⟨lim.keeps x.toInCall.keep, codeAny_func ?_⟩
  obtain ⟨t, ht, hq⟩ := hbody
  have I : Inv (L2H.cxH CX P w K mg base N qual scope f cdv A outer s H E p) [] (L2.start N vs) H s1 := L2H.inv_startH Sc hpin e0 hl r x
  refine wpAny_mono (ht.run [] s1 (L2.start N vs) H _ I hq) (fun fl s' hs => ?_) fun e s' hs => hs
  have fin : ∀ {σ' : L2.St} {H' : Hp} {v : V} {u : Value}, Inv (L2H.cxH CX P w K mg base N qual scope f cdv A outer s H E p) [] σ' H' s' → L2.RelV v u → Q v H' → CE outer P w H s Q u s' :=
    fun {σ' H' v u} J rv q => ⟨v, H', J.os, J.bare, J.base, J.hok, rv, q⟩
  cases fl with
  | ret u =>
    obtain ⟨v, σ', H', J, rv, q⟩ := hs
    exact fin J rv q
  | next =>
    obtain ⟨σ', H', J, q⟩ := hs
    exact fin (v := V.non) (u := Value.none) J rfl q
  | brk =>
    obtain ⟨_, _, _, q⟩ := hs
    exact False.elim q
  | cont =>
    obtain ⟨_, _, _, q⟩ := hs
    exact False.elim q
end
end Hx

/-! Hx6: a try with two clauses, the first never taken; _law_word. -/
namespace Hx
open PySem PySem.Spec PyProof.Rows L2 HotX Ev

/-- what the clauses wish: the first does not match, the second does -/
def wTwo (K : PySem.W.Frag) (n : Nat) (c1 c2 : Value) (i : Nat) (ts : Addr → Value → Option Addr → TS) (D : Ends) : WX := fun cls d σ H =>
  PySem.W.exmOne K cls c1 = some false ∧ PySem.W.exmOne K cls c2 = some true ∧ (σ.length = n → ∀ a, H a = none → ts a cls d { nx := fun σ' H' => D.nx (σ'.set i none) H', rt := D.rt, bk := fun σ' H' => D.bk (σ'.set i none) H', ct := fun σ' H' => D.ct (σ'.set i none) H' } (σ.set i (some (.ref a))) H)
section
variable {X : Cx} {x1 x2 n1 n2 : Str} {c1 c2 : Value} {i : Nat} {body suite1 suite2 : List Stmt} {b1 b2 : Stmt} {np1 np2 pos pos1 pos2 : Pos} {tb : WX → TS} {ts : Addr → Value → Option Addr → TS}
theorem ps_try_two (hs : X.stack = X.env :: X.outer) (hf : X.env.frame = some X.env.locals) (hN : X.N.Nodup) (hi : X.N[i]? = some n2) (hln : X.env.kindOf n2 = some .local) (hc1 : Names X x1 c1) (hc2 : Names X x2 c2)
    (hb : ∀ (W : WX) (pn : List (Addr × Obj)) (xe : Value → Shared → Prop), L2N.Takes (X.tr pn xe) W → PassesOwn (model X.prog X.w) X.A X.env xe → PSs (X.tr pn xe) body (tb W))
    (hsu : ∀ (a : Addr) (oe : Obj) (cls : Value) (d : Option Addr) (pn : List (Addr × Obj)), L2N.Zn cls d oe → (∃ vs, oe.data = .fields vs) → PSs (X.suite a ((a, oe) :: pn)) (b2 :: suite2) (ts a cls d)) :
    PS X (.Try body [.ExceptHandler (some (.Name x1 np1)) (some n1) (b1 :: suite1) pos1, .ExceptHandler (some (.Name x2 np2)) (some n2) (b2 :: suite2) pos2] [] [] pos) (fun D σ H => tb (wTwo X.K X.N.length c1 c2 i ts D) D σ H) := by
  refine ⟨fun pins s σ H D I h => ?_⟩
  have ok := I.ok
  have hfr : X.A.frames = some (X.env :: X.outer) := by rw [ok.frames, hs]
  have hloc : L2.Loc X.env.scope n2 := .inl hln
  refine wpAny_Try_except ?_
  refine wpAny_mono ((hb (wTwo X.K X.N.length c1 c2 i ts D) (X.pn ++ pins) (fun e s₁ => wpAny (model X.prog X.w) X.A (noteFrame e X.env) (fun _ s₂ => wpAny (model X.prog X.w) X.A (setFlight e none) (fun _ s₃ =>
    wpAny (model X.prog X.w) X.A (handleBy e X.env [.ExceptHandler (some (.Name x1 np1)) (some n1) (b1 :: suite1) pos1, .ExceptHandler (some (.Name x2 np2)) (some n2) (b2 :: suite2) pos2]) (SP X pins D) X.xe s₃) X.xe s₂) X.xe s₁) (fun u s' xx => ?_) PassesOwn.looking).run [] s σ H D (I.toTry _) h) (fun f s1 hsp => ?_) (fun e s1 he => he)
  · obtain ⟨a, B, sI, pins', σ', H', cls, d, rfl, J', nb, up, sky, na, os, ag, hb1, hb2, hyes⟩ := xx
    have J : Inv X pins σ' H' sI := J'.ofTry ok
    have sky' : Sky B (X.env :: X.outer) a (L2N.Zn cls d) X.env.locals s'.heap := by rw [← hs]; exact sky
    show wpAny (model X.prog X.w) X.A (noteFrame (.ref a) X.env) _ _ _
    refine L2N.Sky.land L2N.Zn.steady hfr hf sky' fun h3 fl3 up3 => ?_
    have J3 : Inv X pins σ' H' { s' with heap := h3 } := J.landed nb fl3.1 (up.trans up3) os ag
    obtain ⟨oe3, vs3, he3, hz3, hd3⟩ := fl3.there
    have notFr : ∀ {h : Heap} {o : Obj} {vs : Array Value}, h.FunFrames B (X.env :: X.outer) → h.get? a = some o → o.data = .fields vs → a ∉ frs (X.env :: X.outer) := fun {h o vs} ff e dd hm => by
      obtain ⟨_, o', e', hnf⟩ := ff.mem hm
      rw [e] at e'; cases e'
      exact hnf _ dd
    have nfr := notFr fl3.2.2.1 he3 hd3
    have nL : a ≠ X.env.locals := fun z => nfr (List.mem_filterMap.mpr ⟨X.env, List.mem_cons_self, by rw [hf, z]⟩)
    have nF : a ∉ X.fs := fun hm => by
      obtain ⟨e, he, q⟩ := List.mem_filterMap.mp hm
      exact nfr (List.mem_filterMap.mpr ⟨e, List.mem_cons_of_mem _ he, q⟩)
    have S3 := J3.suite he3 hd3 na nL nF
    have LT : PySem.W.Looks (model X.prog X.w) h3 (typeOf (.ref a)) cls := fun A Q E s k q => wpAny_typeOf_ref (k _ _ he3) (by rw [hz3.1]; exact q)
    have test : ∀ {x : Str} {c : Value} {np : Pos} {Q : Value → Shared → Prop} {E : Value → Shared → Prop}, Names X x c → Q c { s' with heap := h3 } → wpAny (model X.prog X.w) (X.A.mark (some (.ref a))) (eval (.Name x np) X.env) Q E { s' with heap := h3 } := fun {x c np Q E} hc q => by
      obtain ⟨hg, hdbg, hm | ⟨hm, hv, hnn⟩⟩ := hc
      · exact ld_glob (X := X.suite a ((a, oe3) :: (X.pn ++ pins))) S3 hg hm q hdbg
      · exact ld_blt (X := X.suite a ((a, oe3) :: (X.pn ++ pins))) S3 hg hm hv q hnn hdbg
    refine wpAny_handleBy_cons (codeAny_handlers_test ?_) (by intro q; cases q)
    have LM1 := PySem.W.exm_one (M := model X.prog X.w) (J3.kIn) LT hb1
    refine test hc1 (LM1.here ?_)
    show wpAny _ X.A (handleBy (.ref a) X.env [.ExceptHandler (some (.Name x2 np2)) (some n2) (b2 :: suite2) pos2]) _ _ _
    refine wpAny_handleBy_cons (codeAny_handlers_test ?_) (by intro q; cases q)
    have LM2 := PySem.W.exm_one (M := model X.prog X.w) (J3.kIn) LT hb2
    refine test hc2 (LM2.here ?_)
    refine codeAny_handlers_suite_as ?_
    refine HandSPX.lands_againZ fl3 fun h4 fl4 up4 => ?_
    have J4 : Inv X pins σ' H' { s' with heap := h4 } := J.landed nb fl4.1 ((up.trans up3).trans up4) os ag
    obtain ⟨oe4, vs4, he4, hz4, hd4⟩ := fl4.there
    have S4 := J4.suite he4 hd4 na nL nF
    refine store_ok (X := X.suite a ((a, oe4) :: (X.pn ++ pins))) (v := .ref a) S4 hN hi hloc rfl (fun s5 S5 => ?_) (.inr hln)
    refine wpAny_mono ((hsu a oe4 cls d (X.pn ++ pins) hz4 ⟨_, hd4⟩).run [] s5 _ H' _ S5 (hyes J.len a na)) (fun f s6 hsp => ?_) (fun _ _ z => False.elim z)
    have end_ : ∀ {σ6 : L2.St} {H6 : Hp} {Q : Shared → Prop}, Inv (X.suite a ((a, oe4) :: (X.pn ++ pins))) [] σ6 H6 s6 → (∀ s7, Inv X pins (σ6.set i none) H6 s7 → Q s7) →
        wpAny (model X.prog X.w) X.A (do bindName X.env n2 .none; unbindBehindTheSuite X.env n2 pos2) (fun _ s7 => Q s7) X.xe s6 := fun {σ6 H6 Q} S6 hq => gone_ok (S6.unsuite ok) hN hi hln hq
    cases f with
    | next =>
      obtain ⟨σ6, H6, S6, q6⟩ := hsp
      exact end_ S6 fun s7 J7 => ⟨_, _, J7, q6⟩
    | brk =>
      obtain ⟨σ6, H6, S6, q6⟩ := hsp
      exact end_ S6 fun s7 J7 => ⟨_, _, J7, q6⟩
    | cont =>
      obtain ⟨σ6, H6, S6, q6⟩ := hsp
      exact end_ S6 fun s7 J7 => ⟨_, _, J7, q6⟩
    | ret u =>
      obtain ⟨v6, σ6, H6, S6, r6, q6⟩ := hsp
      exact end_ S6 fun s7 J7 => ⟨_, _, _, J7, r6, q6⟩
  · cases f with
    | next =>
      obtain ⟨σ', H', J', q⟩ := hsp
      exact wpAny_execs_nil ⟨σ', H', J'.ofTry ok, q⟩
    | brk =>
      obtain ⟨σ', H', J', q⟩ := hsp
      exact ⟨σ', H', J'.ofTry ok, q⟩
    | cont =>
      obtain ⟨σ', H', J', q⟩ := hsp
      exact ⟨σ', H', J'.ofTry ok, q⟩
    | ret u =>
      obtain ⟨v, σ', H', J', r, q⟩ := hsp
      exact ⟨v, σ', H', J'.ofTry ok, r, q⟩
end
end Hx

/-! Hx7: _law_word's body; a lambda handed to it. -/
namespace Hx
open PySem PySem.Spec PyProof.Rows L2 HotX Ev
open LamX (Tabs ExtN CodeO TabB LamS lamEnv)

/-! ### what the texts of the two defs are -/
def wBody (C : CC) : List Stmt → Bool
  | [.Assign [.Name x1 _] (.Constant (.str z) _ _) _, .Try [.Expr (.Call (.Name cl _) [] [] _) _] [.ExceptHandler (some (.Name tm _)) (some _) (_ :: _) _, .ExceptHandler (some (.Name te _)) (some e2) [.Assign [.Name x2 _] (.Call (.Name kd _) [.Name e3 _] [] _) _] _] [] [] _, .Return (some (.Name x3 _)) _] =>
    (z == ("" : Str)) && (x1 == ("_law_found" : Str)) && (x2 == ("_law_found" : Str)) && (x3 == ("_law_found" : Str)) && (cl == ("_law_call" : Str)) && (tm == ("TooMany" : Str)) && (te == ("TermError" : Str)) && (e2 == ("_law_e" : Str)) && (e3 == ("_law_e" : Str)) && (kd == ("_law_kind" : Str)) &&
      isGl C tm && isGl C te && isGl C kd && (kOf C ("_law_found" : Str) == some .local) && (kOf C ("_law_e" : Str) == some .local) && isVis C ("_law_call" : Str)
  | _ => false
abbrev NW : List Str := ["_law_call", "_law_found", "_law_e"]
abbrev NK : List Str := ["_law_e", "_law_some", "_law_word_here", "_law_good"]
/-- what is known of the module's _law_kind -/
structure KFacts (S : Stat) (ws : List Str) : Prop where
  ex : ∃ (f : Addr) (oc : Value) (od : Option Addr) (dV kV doc pm : Value) (an : Option Addr) (cdv ct : Value) (osl : Array (Option Value)) (params : Arguments) (body : List Stmt) (scope : Scope) (r : List (Str × Str)),
    S.K.fr.lookup f = some ⟨oc, od, .func (PySem.W.fnOf "_law_kind" "_law_kind" params body scope dV kV doc pm an cdv ct), osl⟩ ∧ PySem.W.codeIn S.K cdv "_law_kind" = true ∧ S.mg "_law_kind" = some (.ref f) ∧ PySem.W.keepIn S.K (.ref f) = true ∧
      L2.Binds S.K (PySem.W.fnOf "_law_kind" "_law_kind" params body scope dV kV doc pm an cdv ct) ["_law_e"] [] ∧ FnScope NK ["_law_e"] scope ∧ kBody "_law_e" "_law_some" ⟨NK, scope, fun _ => true, false, []⟩ 1 2 3 body = some r ∧ r.length ≤ 1000 ∧
      isVis ⟨NK, scope, fun _ => true, false, []⟩ "_law_e" = true ∧ isGl ⟨NK, scope, fun _ => true, false, []⟩ "isinstance" = true ∧ S.mg "isinstance" = none ∧ kOf ⟨NK, scope, fun _ => true, false, []⟩ "_law_some" = some .local ∧
      ∀ (k : Nat) (z : Str), ws[k]? = some z → ExcC S.K (S.cx k) ∧ ∃ kb : Str → Bool, (∀ q ∈ r, ∃ Cc, isGl ⟨NK, scope, fun _ => true, false, []⟩ q.2 = true ∧ S.mg q.2 = some (.ref Cc) ∧ plainName q.2 = true ∧ PySem.W.kitOne S.K (.ref (S.cx k)) (.ref Cc) = some (kb q.2)) ∧
        ((trueWords kb r).map (·.length)).sum + (trueWords kb r).length * 1 ≤ 16777216 ∧ PySem.Txt.join (" " : Str) (trueWords kb r) = z
/-- an exception of a known class, its word, what is asked of it -/
def Told (S : Stat) (ws : List Str) (cls : Value) (d : Option Addr) (H : Hp) (Q : Str → Hp → Prop) : Prop :=
  ∃ k z, cls = .ref (S.cx k) ∧ d = none ∧ ws[k]? = some z ∧ Tabs S.T H ∧ ∀ H', ExtN H H' → (∀ b, H b ≠ none → H' b ≠ none) → Tabs S.T H' → Q z H'
theorem roomH_mark {k : Nat} {A : Around} {v : Option Value} (h : L2H.RoomH k A) : L2H.RoomH k (A.mark v) := ⟨h.dp, h.un⟩
section
variable {X : Cx} {S : Stat} {ws : List Str}
/-- _law_kind(e) in the suite that handles e -/
theorem pe_kind (F : KFacts S ws) (hP : X.prog = S.P) (hw : X.w = S.w) (hK : X.K = S.K) (hmg : X.mg = S.mg) {a : Addr} {oe : Obj} {pn : List (Addr × Obj)} {cls : Value} {d : Option Addr} (hz : L2N.Zn cls d oe) (hf : ∃ vs, oe.data = .fields vs) (hr : L2H.RoomH 1 X.A)
    {i : Nat} {e : Str} {p p2 pos : Pos} (hgk : Gl X "_law_kind") (hN : X.N[i]? = some e) (hv : Vis X.env.scope e) (he : plainName e = true) :
    PE (X.suite a ((a, oe) :: pn)) (.Call (.Name "_law_kind" p) [.Name e p2] [] pos) (fun σ H Q => σ[i]? = some (some (.ref a)) ∧ Told S ws cls d H fun z H' => Q (.str z) H') := by
  obtain ⟨f, oc, od, dV, kV, doc, pm, an, cdv, ct, osl, params, body, scope, r, lk, hcd, gk, kp, hb, Sc, kb1, kb2, kb3, kb4, kb5, kb6, kb7⟩ := F.ex
  refine ⟨fun pins s σ H Q I h => ?_⟩
  obtain ⟨h1, k, z, e1, e2, e3, e4, e5⟩ := h
  subst e1 e2
  refine wpAny_Call_Name_kw (ld_glob I (show Gl (X.suite a ((a, oe) :: pn)) "_law_kind" from hgk) (by show X.mg _ = _; rw [hmg]; exact gk) ?_ (by decide +kernel))
  have ha : PA (X.suite a ((a, oe) :: pn)) [.Name e p2] (tCons (tVar i) tNil) := pa_cons (pe_var (X := X.suite a ((a, oe) :: pn)) hN hv (plain_db he).1 (plain_db he).2) pa_nil
  refine PySem.W.callWith_K (h₀ := X.base) I.ok.mod.kin (by rw [show (X.suite a ((a, oe) :: pn)).K = S.K from hK]; exact kp) (thn (ha.run pos pins s σ H (fun vs H1 => vs = [.ref a] ∧ H1 = H) I ⟨.ref a, h1, rfl, rfl⟩) fun us s1 ⟨vs, H1, I1, rv, ev, eH⟩ => ⟨I1.kIn, ?_⟩) (by rfl) (by rfl)
  subst ev eH
  cases rv with
  | cons r0 rr =>
    cases rr
    have r0 : _ = Value.ref a := r0
    subst r0
    have P1 := I1.pin (a, oe) (List.mem_append_left _ List.mem_cons_self)
    have hpin : L2H.PinOk (X.suite a ((a, oe) :: pn)).stack H1 s1 (a, oe) := ⟨P1.1, P1.2.1, fun hm => (List.mem_cons.mp (I1.stkSub a hm)).elim P1.2.2.1 P1.2.2.2.1, P1.2.2.2.2⟩
    obtain ⟨ec, kb, q1, q2, q3⟩ := kb7 k z e3
    have e0 := I1.env0
    have rc : codeAny (model X.prog X.w) (X.A.mark (some (.ref a))) (.call (.ref f) ⟨[.ref a], []⟩) (CR C8.CX0 X.stack X.prog X.w H1 s1 Q C8.E0) s1 := by
      refine run_hot (k := 0) (ps := ["_law_e"]) (us := [.ref a]) (vs := [.ref a]) (N := NK) (by rw [hK]; exact lk) (by rw [hK]; exact hcd) Sc (p := (a, oe)) (roomH_mark hr) hpin e0 ?_ (.cons rfl .nil) rfl ?_
      · have b := hb s1 [.ref a] (by rw [← hK]; exact I1.kIn) rfl
        exact b
      · obtain ⟨vs0, hd0⟩ := hf
        have hot : L2H.HotC (L2H.cxH C8.CX0 X.prog X.w X.K X.mg X.base NK "_law_kind" scope f cdv (X.A.mark (some (.ref a))) X.stack s1 H1 C8.E0 (a, oe)) := ⟨(a, oe), ⟨rfl, vs0, hd0, hz.2.2 vs0 hd0⟩, List.mem_cons_self⟩
        have kn : KNames (L2H.cxH C8.CX0 X.prog X.w X.K X.mg X.base NK "_law_kind" scope f cdv (X.A.mark (some (.ref a))) X.stack s1 H1 C8.E0 (a, oe)) ⟨NK, scope, fun _ => true, false, []⟩ "_law_some" 1 2 3 :=
          ⟨rfl, Sc.nd, rfl, by decide, by decide, by decide, by decide, by decide, by decide, kb6, by decide +kernel, rfl⟩
        have glx : ∀ {y : Str}, isGl ⟨NK, scope, fun _ => true, false, []⟩ y = true → Gl (L2H.cxH C8.CX0 X.prog X.w X.K X.mg X.base NK "_law_kind" scope f cdv (X.A.mark (some (.ref a))) X.stack s1 H1 C8.E0 (a, oe)) y := fun {y} h => by
          unfold isGl kOf at h
          split at h
          · rename_i e; exact e
          · cases h
        have visx : Vis scope "_law_e" := by
          have h := kb3
          unfold isVis kOf at h
          unfold Vis
          split at h
          · rename_i e; exact .inl e
          · rename_i e; exact .inr (.inl e)
          · rename_i e; exact .inr (.inr e)
          · cases h
        have ko : KindOk (L2H.cxH C8.CX0 X.prog X.w X.K X.mg X.base NK "_law_kind" scope f cdv (X.A.mark (some (.ref a))) X.stack s1 H1 C8.E0 (a, oe)) S a "_law_e" kb (r.map (·.2)) := {
          hK := hK
          D := ⟨S.cx k, oe, by show ExcC X.K _; rw [hK]; exact ec, List.mem_cons_self, hz.zc, ⟨vs0, hd0⟩, fun c hc => by
            obtain ⟨q, hq, rfl⟩ := List.mem_map.mp hc
            obtain ⟨Cc, c1, c2, c3, c4⟩ := q1 q hq
            exact ⟨Cc, glx c1, by show X.mg _ = _; rw [hmg]; exact c2, c3, by show PySem.W.kitOne X.K _ _ = _; rw [hK]; exact c4⟩⟩
          hN := rfl
          hv := visx
          he := by decide +kernel
          hgi := glx kb4
          hmi := by show X.mg _ = _; rw [hmg]; exact kb5 }
        have body := pss_kind (S := S) (W := fun _ _ _ _ => False) (z := z) ko hot kn kb1 (fun q hq => List.mem_map.mpr ⟨q, hq, rfl⟩) kb2 q2 q3 (by decide)
        refine ⟨_, body, fun _ => none, [], [some (.raw (.ref a)), none, none, none], [], ?_, ?_, ⟨rfl, Nat.le_refl _⟩, ?_⟩
        · exact ⟨fun _ _ z => (by cases z), fun _ _ z => (by cases z), rfl, fun _ _ _ z => (by simp at z), fun _ _ z => (by simp at z), fun _ _ z => (by simp at z), fun _ _ z => (by simp at z), e4⟩
        · refine ⟨rfl, fun j x hx => ?_⟩
          cases j with
          | zero => cases hx; exact ⟨.ref a, rfl, rfl⟩
          | succ j =>
            cases j with
            | zero => cases hx
            | succ j =>
              cases j with
              | zero => cases hx
              | succ j =>
                cases j with
                | zero => cases hx
                | succ j => simp at hx
        · intro v F' H' as' nx s' tr
          have tr : Ev.Dp S.K F' v (.str z) := tr
          cases tr
          exact e5 H' (fun b o hb hn => nx.keep b o (by simp) hn hb) nx.there s'.tabs
    refine wpAny_call (codeAny_mono rc fun r s2 hq => ?_)
    cases r with
    | error e => exact (show False from hq).elim
    | ok fl =>
      cases fl with
      | ret u => exact I1.after hq
      | next => exact False.elim hq
      | brk => exact False.elim hq
      | cont => exact False.elim hq
end
end Hx

/-! Hx8: what _law_word makes of a lambda. -/
namespace Hx
open PySem PySem.Spec PyProof.Rows L2 HotX Ev
open LamX (Tabs ExtN CodeO TabB LamS lamEnv)

def GivesN (X : Cx) (Ng : List Str) (x : Str) (sg : Scope) (g : Addr) (cdg : Value) (bg : List Stmt) (a : Str) (q : Str) (TT : (XK → Hp → VK → Prop) → Hp → VK → Prop) : Prop :=
  ∀ (f c' : Addr) (s : Shared) (H : Hp) (Q : VK) (tl : XK → Hp → VK → Prop),
    (∀ (W : WX) (pn : List (Addr × Obj)) (xe : Value → Shared → Prop) (E : XK) (p1 p2 : Pos), L2N.Takes ((cxOf C8.CX0 X.prog X.w X.K X.mg X.base Ng x sg g cdg X.A X.stack s H C8.E0).tr pn xe) W → (∀ cls d σ' H', E cls d H' → W cls d σ' H') →
      PE ((cxOf C8.CX0 X.prog X.w X.K X.mg X.base Ng x sg g cdg X.A X.stack s H C8.E0).tr pn xe) (.Call (.Name a p1) [] [] p2) (fun σZ HZ Q => σZ[0]? = some (some (.ref f)) ∧ HZ c' = some (CodeO c' q) ∧ tl E HZ Q)) →
    H c' = some (CodeO c' q) → TT tl H Q →
    ∃ t, PSs (cxOf C8.CX0 X.prog X.w X.K X.mg X.base Ng x sg g cdg X.A X.stack s H C8.E0).nox bg t ∧ t { nx := fun _ H' => Q .non H', rt := Q } (L2.start Ng [.ref f]) H
def TWord (S : Stat) (ws : List Str) : (XK → Hp → VK → Prop) → Hp → VK → Prop := fun tl H Q =>
  tl (fun cls d H' => Told S ws cls d H' fun z H'' => Q (.str z) H'') H (fun _ H' => Q (.str ("" : Str)) H')
theorem gl_of {C : CC} {x : Str} (h : isGl C x = true) : C.sc.names.lookup x = some .globalImplicit := by
  unfold isGl kOf at h
  split at h
  · rename_i e; exact e
  · cases h
theorem word_gives {X : Cx} {S : Stat} {ws : List Str} (F : KFacts S ws) (hP : X.prog = S.P) (hw : X.w = S.w) (hK : X.K = S.K) (hmg : X.mg = S.mg) {k : Nat} (hr : Room (k + 2) X.A) {cTM cTE : Addr} (gTM : S.mg "TooMany" = some (.ref cTM)) (gTE : S.mg "TermError" = some (.ref cTE))
    (ex : ∀ (k : Nat) (z : Str), ws[k]? = some z → PySem.W.exmOne S.K (.ref (S.cx k)) (.ref cTM) = some false ∧ PySem.W.exmOne S.K (.ref (S.cx k)) (.ref cTE) = some true)
    {sg : Scope} {g : Addr} {cdg : Value} {bg : List Stmt} {q : Str} (Sg : FnScope NW ["_law_call"] sg) (hb : wBody ⟨NW, sg, fun _ => true, false, []⟩ bg = true) : GivesN X NW "_law_word" sg g cdg bg "_law_call" q (TWord S ws) := by
  intro f c' s H Q tl act hc h
  unfold wBody at hb
  split at hb
  · rename_i x1 p1 z j1 p2 p3 cl p4 p5 p6 tm p7 e1 b1 s1 p8 te p9 e2 x2 p10 kd p11 e3 p12 p13 p14 p15 p16 x3 p17 p18
    simp only [Bool.and_eq_true, beq_iff_eq] at hb
    obtain ⟨⟨⟨⟨⟨⟨⟨⟨⟨⟨⟨⟨⟨⟨⟨h1, h2⟩, h3⟩, h4⟩, h5⟩, h6⟩, h7⟩, h8⟩, h9⟩, h10⟩, h11⟩, h12⟩, h13⟩, h14⟩, h15⟩, h16⟩ := hb
    subst h1 h2 h3 h4 h5 h6 h7 h8 h9 h10
    have lf : sg.names.lookup ("_law_found" : Str) = some .local := h14
    have le : sg.names.lookup ("_law_e" : Str) = some .local := h15
    generalize hZ : (cxOf C8.CX0 X.prog X.w X.K X.mg X.base NW "_law_word" sg g cdg X.A X.stack s H C8.E0).nox = Z
    have zK : Z.K = S.K := by rw [← hZ]; exact hK
    have zmg : Z.mg = S.mg := by rw [← hZ]; exact hmg
    have zN : Z.N = NW := by rw [← hZ]; rfl
    have zsc : Z.env.scope = sg := by rw [← hZ]; rfl
    have znd : Z.N.Nodup := by rw [zN]; exact Sg.nd
    have room : L2H.RoomH 1 Z.A := by
      rw [← hZ]
      exact (L2H.roomH_of (hr.deeper (envOfC "_law_word" sg s.heap.objs.size g cdg))).mono (by omega)
    have glz : ∀ {y : Str}, isGl ⟨NW, sg, fun _ => true, false, []⟩ y = true → Gl Z y := fun {y} hy => by
      show Z.env.scope.names.lookup y = some .globalImplicit
      rw [zsc]; exact gl_of hy
    have st1 : PS Z (.Assign [.Name ("_law_found" : Str) p1] (.Constant (.str ("" : Str)) j1 p2) p3) (tAsg (tC (.str ("" : Str))) (gName 1)) :=
      ps_set znd (by rw [zN]; rfl) (by rw [zsc]; exact .inl lf) pe_str rfl (.inr (by rw [zsc]; exact lf))
    have st3 : PS Z (.Return (some (.Name ("_law_found" : Str) p17)) p18) (tRet (tVar 1)) :=
      ps_ret (pe_var (by rw [zN]; rfl) (by rw [zsc]; exact .inl lf) (by decide +kernel) (by decide +kernel))
    have st2 : PS Z (.Try [.Expr (.Call (.Name ("_law_call" : Str) p4) [] [] p5) p6] [.ExceptHandler (some (.Name ("TooMany" : Str) p7)) (some e1) (b1 :: s1) p8, .ExceptHandler (some (.Name ("TermError" : Str) p9)) (some ("_law_e" : Str)) [.Assign [.Name ("_law_found" : Str) p10] (.Call (.Name ("_law_kind" : Str) p11) [.Name ("_law_e" : Str) p12] [] p13) p14] p15] [] [] p16)
        (fun D σ H => (fun (W : WX) (D : Ends) (σ : L2.St) (H : Hp) => ∃ Ech : XK, (∀ cls d σ' H', Ech cls d H' → W cls d σ' H') ∧ σ[0]? = some (some (.ref f)) ∧ H c' = some (CodeO c' q) ∧ tl Ech H (fun _ H1 => D.nx σ H1))
          (wTwo Z.K Z.N.length (.ref cTM) (.ref cTE) 2 (fun a cls d D σ H => σ[2]? = some (some (.ref a)) ∧ Told S ws cls d H fun z H' => D.nx (σ.set 1 (some (.str z))) H') D) D σ H) := by
      refine ps_try_two (X := Z) (tb := fun (W : WX) (D : Ends) (σ : L2.St) (H : Hp) => ∃ Ech : XK, (∀ cls d σ' H', Ech cls d H' → W cls d σ' H') ∧ σ[0]? = some (some (.ref f)) ∧ H c' = some (CodeO c' q) ∧ tl Ech H (fun _ H1 => D.nx σ H1))
        (ts := fun a cls d D σ H => σ[2]? = some (some (.ref a)) ∧ Told S ws cls d H fun z H' => D.nx (σ.set 1 (some (.str z))) H') (i := 2) (by rw [← hZ]; rfl) (by rw [← hZ]; rfl) znd (by rw [zN]; rfl) (by show Z.env.scope.names.lookup _ = _; rw [zsc]; exact le)
        ⟨glz h11, by decide +kernel, .inl (by rw [zmg]; exact gTM)⟩ ⟨glz h12, by decide +kernel, .inl (by rw [zmg]; exact gTE)⟩ (fun W pn xe tk _ => ?_) (fun a oe cls d pn hz hf => ?_)
      · subst hZ
        refine ⟨fun pins s' σ H' D I h' => ?_⟩
        obtain ⟨Ech, hW, g1, g2, g3⟩ := h'
        have hp := act W pn xe Ech p4 p5 tk hW
        exact (pss_one (ps_expr (pos := p6) hp rfl)).run pins s' σ H' D I ⟨g1, g2, g3⟩
      · have pk := pe_kind (X := Z) F (by rw [← hZ]; exact hP) (by rw [← hZ]; exact hw) zK zmg (a := a) (oe := oe) (pn := pn) (cls := cls) (d := d) hz hf room (i := 2) (e := ("_law_e" : Str)) (p := p11) (p2 := p12) (pos := p13) (glz h13) (by rw [zN]; rfl) (by rw [zsc]; exact .inl le) (by decide +kernel)
        have ps := ps_set (X := Z.suite a ((a, oe) :: pn)) (i := 1) (x := ("_law_found" : Str)) (pos := p14) (pos' := p10) znd (by show Z.N[1]? = _; rw [zN]; rfl) (by show L2.Loc Z.env.scope _; rw [zsc]; exact .inl lf) pk rfl (.inr (by show Z.env.scope.names.lookup _ = _; rw [zsc]; exact lf))
        exact PSs.imp (pss_one ps) fun D σ H h => h
    refine ⟨_, pss_cons st1 (pss_cons st2 (pss_one st3)), ?_⟩
    -- the reading
    show ∃ Ech : XK, _
    have hl : (L2.start NW [V.ref f]).length = 3 := rfl
    refine ⟨fun cls d H' => Told S ws cls d H' fun z H'' => Q (.str z) H'', fun cls d σ' H' ht => ?_, rfl, hc, ?_⟩
    · obtain ⟨k, z, e1, e2, e3, e4, e5⟩ := ht
      obtain ⟨x1, x2⟩ := ex k z e3
      refine ⟨by rw [zK, e1]; exact x1, by rw [zK, e1]; exact x2, fun hl' a na => ⟨?_, k, z, e1, e2, e3, e4, fun H'' g1 g2 g3 => ?_⟩⟩
      · rw [List.getElem?_set_self (by rw [hl', zN]; decide)]
      · refine ⟨.str z, ?_, e5 H'' g1 g2 g3⟩
        rw [List.getElem?_set_ne (by decide), List.getElem?_set_self (by rw [List.length_set, hl', zN]; decide)]
    · have e : (fun (_ : V) (H1 : Hp) => ∃ v, ((L2.start NW [V.ref f]).set 1 (some (V.str ("" : Str))))[1]? = some (some v) ∧ Q v H1) = fun _ H' => Q (.str ("" : Str)) H' := by
        funext _ H1
        refine propext ⟨fun ⟨v, e, q⟩ => ?_, fun q => ⟨_, rfl, q⟩⟩
        have e' : some (some (V.str ("" : Str))) = some (some v) := e
        cases e'
        exact q
      show tl _ H (fun (_ : V) (H1 : Hp) => ∃ v, ((L2.start NW [V.ref f]).set 1 (some (V.str ("" : Str))))[1]? = some (some v) ∧ Q v H1)
      rw [e]
      exact h
  · cases hb
end Hx

/-! Hx9: _law_word(lambda: ..). -/
namespace Hx
open PySem PySem.Spec PyProof.Rows L2 HotX Ev
open LamX (Tabs TabS ExtN CodeO TabB LamS lamEnv lamCx among_app inv_table codeO_ne)

section
variable {X : Cx} {pins : List (Addr × Obj)} {σ : L2.St} {H HZ : Hp} {s s1 : Shared}
/-- the lambda is made: its code object is new, or found in the table; nothing goes -/
theorem lam_make3 {T : List (Addr × Str)} {c P : Addr} {params : Arguments} {body : Expr} {scope : Scope} {pos : Pos} {E : Value → Shared → Prop} {Q : Value → Shared → Prop} (I : Inv X pins σ H s) (TB : TabB X.base X.mg c P) (hcode : X.env.code = .ref c)
    (hm : (P, X.env.qual ++ "<lambda>") ∈ T) (hu : ∀ p ∈ T, p.1 = P → p.2 = X.env.qual ++ "<lambda>") (hT : Tabs T H) (hdef : defaultsOf params X.env = ([], [])) (hfree : ∀ y ∈ scope.names, y.2 = .free → ∃ c, X.env.cells.lookup y.1 = some c)
    (h : ∀ (f c' : Addr) (pm ctv : Value) (H1 : Hp) (s' : Shared), Inv X pins σ H1 s' → ExtN H H1 → (∀ b, H b ≠ none → H1 b ≠ none) → Tabs T H1 →
      s'.heap.get? f = some (PySem.W.kla_obj "<lambda>" (X.env.qual ++ "<lambda>") params body scope (cloFrom X.env.cells scope.names []) pm c' ctv) → H1 f = none → f ∉ frs X.stack → H1 c' = some (CodeO c' (X.env.qual ++ "<lambda>")) → Q (.ref f) s') :
    wpAny (model X.prog X.w) X.A (eval (.Lambda params body scope pos) X.env) Q E s := by
  obtain ⟨ps, hP, ht, ha⟩ := hT _ hm
  refine PySem.W.kla_eval hdef ?_
  have bP : s.heap.BuiltinsAt X.mg P := TB.bm.keeps I.bk
  have hP' : s.heap.get? P = some { cls := .none, data := .fields ps } := I.hok P _ hP
  have nofr : ∀ f, s.heap.objs.size ≤ f → f ∉ frs X.stack := fun f hf z => by
    rcases List.mem_cons.mp (I.stkSub _ z) with e | e
    · have h1 := I.lt
      rw [← e] at h1
      exact Nat.lt_irrefl _ (Nat.lt_of_lt_of_le h1 hf)
    · exact I.nofs hf e
  cases hc : codeAmong pos ps.toList with
  | none =>
    refine PySem.W.kla_makeFunction (mg := X.mg) (c := c) (P := P) (ps := ps) (closure_ok hfree) I.ok.glob (I.mod.glob.keeps I.bk) hcode (TB.code.keeps I.bk) hP' ht hc TB.gP bP fun c' ctv h' tk hx hge hlt hrec htb => ?_
    obtain ⟨c2, oc, vs, t, e2, hoc, hd, hv⟩ := hrec
    cases e2
    have hsz : s.heap.objs.size ≤ h'.objs.size := Nat.le_trans hge (Nat.le_of_lt hlt)
    have nC : H c' = none := I.hok.fresh hge
    have I1 := inv_table (t' := tk) (more := #[rawInt pos.line, rawInt pos.col, .ref c']) (h' := h'.push (PySem.W.kla_obj "<lambda>" (X.env.qual ++ "<lambda>") params body scope (cloFrom X.env.cells scope.names []) ((X.mg "__name__").getD .none) c' ctv)) I hP
      (fun b o hb e => Heap.get?_push_of_some _ (hx b o hb e)) (Heap.get?_push_of_some _ htb) hge ⟨oc, vs, t, Heap.get?_push_of_some _ hoc, hd, hv⟩
    have hE : ExtN H (upd (upd H P (.tbl (ps ++ #[rawInt pos.line, rawInt pos.col, .ref c']))) c' (CodeO c' (X.env.qual ++ "<lambda>"))) := fun b o e n => by
      rw [upd_ne (ne_of_none e nC), upd_ne (fun z => n ps (Option.some.inj (e.symm.trans (by rw [z]; exact hP))))]
      exact e
    have hTh : ∀ b, H b ≠ none → upd (upd H P (.tbl (ps ++ #[rawInt pos.line, rawInt pos.col, .ref c']))) c' (CodeO c' (X.env.qual ++ "<lambda>")) b ≠ none := fun b hb => by
      by_cases h1 : b = c'
      · rw [h1, upd_same]; simp
      · rw [upd_ne h1]
        by_cases h2 : b = P
        · rw [h2, upd_same]; simp
        · rw [upd_ne h2]; exact hb
    have eL : (ps ++ #[rawInt pos.line, rawInt pos.col, .ref c']).toList = ps.toList ++ [rawInt pos.line, rawInt pos.col, .ref c'] := by simp
    refine h h'.objs.size c' ((X.mg "__name__").getD .none) ctv _ _ I1 hE hTh (fun p hp => ?_) (Heap.get?_push_size _ rfl) ?_ (nofr _ hsz) upd_same
    · by_cases hb : p.1 = P
      · rw [hu p hp hb, hb]
        refine ⟨_, by rw [upd_ne (ne_of_none hP nC), upd_same], by rw [eL]; exact PySem.TriplesOk_snoc _ _ _ _ ht, fun p' cv hcv => ?_⟩
        rw [eL] at hcv
        rcases among_app _ ht hcv with z | z
        · obtain ⟨c0, e1, e2⟩ := ha p' cv z
          exact ⟨c0, e1, hE _ _ e2 codeO_ne⟩
        · exact ⟨c', z, upd_same⟩
      · obtain ⟨ps', a1, a2, a3⟩ := hT p hp
        refine ⟨ps', by rw [upd_ne (ne_of_none a1 nC), upd_ne hb]; exact a1, a2, fun p' cv hcv => ?_⟩
        obtain ⟨c0, e1, e2⟩ := a3 p' cv hcv
        exact ⟨c0, e1, hE _ _ e2 codeO_ne⟩
    · have n1 : h'.objs.size ≠ c' := Nat.ne_of_gt hlt
      have n2 : h'.objs.size ≠ P := Nat.ne_of_gt (Nat.lt_of_lt_of_le (Heap.lt_size hP') hsz)
      rw [upd_ne n1, upd_ne n2]
      exact I.hok.fresh hsz
  | some cv =>
    obtain ⟨c', e, hco⟩ := ha pos cv hc
    subst e
    refine PySem.W.kla_makeFunctionHit (mg := X.mg) (c := c) (P := P) (ps := ps) (closure_ok hfree) I.ok.glob (I.mod.glob.keeps I.bk) hcode (TB.code.keeps I.bk) hP' ht hc bP fun ctv h' tk hx hsz => ?_
    have I1 : Inv X pins σ H { s with heap := h'.push (PySem.W.kla_obj "<lambda>" (X.env.qual ++ "<lambda>") params body scope (cloFrom X.env.cells scope.names []) ((X.mg "__name__").getD .none) c' ctv), toks := tk } := I.kept fun b o e => Heap.get?_push_of_some _ (hx b o e)
    exact h h'.objs.size c' ((X.mg "__name__").getD .none) ctv H _ I1 (ExtN.refl H) (fun _ hb => hb) hT (Heap.get?_push_size _ rfl) (I.hok.fresh hsz) (nofr _ hsz) hco
/-- x(), in the def that got the lambda -/
theorem pe_actN {CXg : CXT} {Eg : XK} {Ng : List Str} {qg : Str} {sg : Scope} {g f c' : Addr} {cdg pm ctv : Value} {params : Arguments} {body : Expr} {scope : Scope} {k i : Nat} {a : Str} {pn : List (Addr × Obj)} {xe : Value → Shared → Prop} {W : WX} {E : XK} {tb : TE} {p1 p2 : Pos}
    (I : Inv X pins σ H s) (L : LamS X.env.scope scope) (hf : s.heap.get? f = some (PySem.W.kla_obj "<lambda>" (X.env.qual ++ "<lambda>") params body scope (cloFrom X.env.cells scope.names []) pm c' ctv)) (hfn : H f = none) (hfr : f ∉ frs X.stack)
    (hbind : bindArgs (PySem.W.kla_fn "<lambda>" (X.env.qual ++ "<lambda>") params body scope (cloFrom X.env.cells scope.names []) pm (.ref c') ctv) ⟨[], []⟩ = pure [])
    (tk : L2N.Takes ((cxOf CXg X.prog X.w X.K X.mg X.base Ng qg sg g cdg X.A X.stack s H Eg).tr pn xe) W) (hW : ∀ cls d σ' H', E cls d H' → W cls d σ' H') (hr : Room (k + 1) (X.A.deeper (envOfC qg sg s.heap.objs.size g cdg)))
    (hbody : ∀ (A : Around) (outer : List Env) (s : Shared) (H : Hp), Room k (A.deeper (lamEnv X scope s.heap.objs.size f c')) → PE (lamCxN X A outer s H E scope f c') body tb)
    (hN : Ng[i]? = some a) (hv : Vis sg a) (hd : (a == ("__debug__" : Str)) = false) (hcd : (a == ("__classdict__" : Str)) = false) :
    PE ((cxOf CXg X.prog X.w X.K X.mg X.base Ng qg sg g cdg X.A X.stack s H Eg).tr pn xe) (.Call (.Name a p1) [] [] p2)
      (fun σZ HZ Q => σZ[i]? = some (some (.ref f)) ∧ HZ c' = some (CodeO c' (X.env.qual ++ "<lambda>")) ∧ tb σ HZ Q) := by
  refine ⟨fun pinsZ sZ σZ HZ Q IZ h => ?_⟩
  obtain ⟨hs, hc, ht⟩ := h
  refine wpAny_Call_Name_kw (thn ((pe_var (pos := p1) (i := i) hN hv hd hcd).run pinsZ sZ σZ HZ (fun v H1 => v = .ref f ∧ H1 = HZ) IZ ⟨.ref f, hs, rfl, rfl⟩) fun u s1 ⟨v, H1, I1, r1, q1⟩ => ?_)
  obtain ⟨ev, eH⟩ := q1
  subst ev
  rw [eH] at I1
  obtain rfl : u = Value.ref f := r1
  have of1 : s1.heap.get? f = some (PySem.W.kla_obj "<lambda>" (X.env.qual ++ "<lambda>") params body scope (cloFrom X.env.cells scope.names []) pm c' ctv) := I1.base.keep f _ hf hfn hfr (fun z => nomatch (show f ∈ ([] : List Addr) from z))
  refine PySem.W.callWith_F0 ⟨_, _, _, _, of1⟩ ?_
  have un : Un (frs X.stack) [] H HZ s.heap s1.heap := I1.base
  obtain ⟨⟨oc, vs, t, hoc, hdc, hvc⟩, _, _⟩ := I1.hok c' _ hc
  have rc : codeAny (model X.prog X.w) (X.A.deeper (envOfC qg sg s.heap.objs.size g cdg)) (.call (.ref f) ⟨[], []⟩) (CR (L2N.CX X.prog X.w) (envOfC qg sg s.heap.objs.size g cdg :: X.stack) X.prog X.w HZ s1 Q E) s1 := by
    refine PySem.W.kla_callFunE hr.depth of1 rfl L.co L.gen rfl ⟨c', oc, vs, t, rfl, hoc, hdc, hvc⟩ ?_
    rw [hbind]
    refine wpAny_pure (wpAny_newFunctionEnv (fun y hy => (L.own y hy).2) (fun y hy => absurd hy (by simp)) (fun h₁ hns hsb => ⟨I1.nolimit.fresh _ hsb, ?_⟩) L.kind)
    show codeAny _ _ (.expr body (lamEnv X scope s1.heap.objs.size f c')) _ _
    have kp : ∀ b o, s1.heap.get? b = some o → h₁.get? b = some o := fun b o e => hsb.extBut b o (Nat.ne_of_lt (Heap.lt_size e)) (Heap.get?_push_of_some _ e)
    have J0 : Inv (lamCx X (X.A.deeper (envOfC qg sg s.heap.objs.size g cdg)) (envOfC qg sg s.heap.objs.size g cdg :: X.stack) s1 HZ E scope f c') [] σ HZ { s1 with heap := h₁, toks := s1.toks + ([] : List (Str × Value)).length } :=
      LamX.lam_start2 I L I1.env0 hr.hd un hns kp
    have J : Inv (lamCxN X (X.A.deeper (envOfC qg sg s.heap.objs.size g cdg)) (envOfC qg sg s.heap.objs.size g cdg :: X.stack) s1 HZ E scope f c') [] σ HZ { s1 with heap := h₁, toks := s1.toks + ([] : List (Str × Value)).length } := J0.wish _
    refine PySem.W.kla_codeExpr (wpAny_mono ((hbody _ _ s1 HZ (hr.deeper _)).run [] _ _ HZ Q J ht) (fun v s' hq => ?_) fun e s' hq => hq)
    obtain ⟨w', H', J', rv, q⟩ := hq
    exact ⟨w', H', J'.os, J'.bare, J'.base, J'.hok, rv, q⟩
  have hx : Passes (L2N.CX X.prog X.w) ((cxOf CXg X.prog X.w X.K X.mg X.base Ng qg sg g cdg X.A X.stack s H Eg).tr pn xe) E := L2N.passes_call tk hW
  refine wpAny_call (codeAny_mono rc fun r s' hq => ?_)
  cases r with
  | error e => exact hx pinsZ σZ HZ s1 e s' I1 hq
  | ok fl =>
    cases fl with
    | ret u => exact I1.after hq
    | next => exact False.elim hq
    | brk => exact False.elim hq
    | cont => exact False.elim hq
end
def tLamN (T : List (Addr × Str)) (TT : (XK → Hp → VK → Prop) → Hp → VK → Prop) (t : XK → TE) : TE := fun σ H Q => Tabs T H ∧ ∀ H1, ExtN H H1 → (∀ b, H b ≠ none → H1 b ≠ none) → Tabs T H1 → TT (fun E H' Q' => t E σ H' Q') H1 Q
section
variable {X : Cx}
theorem pe_lamcallN {T : List (Addr × Str)} {TT : (XK → Hp → VK → Prop) → Hp → VK → Prop} {x a : Str} {g c P : Addr} {k : Nat} {pg : Arguments} {bg : List Stmt} {sg : Scope} {dV kV doc pm cdv ct oc : Value} {an od : Option Addr} {osl : Array (Option Value)} {Ng : List Str}
    {params : Arguments} {body : Expr} {scope : Scope} {t : XK → TE} {p lpos pos : Pos} (hg : Gl X x) (hm : X.mg x = some (.ref g)) (hk : PySem.W.keepIn X.K (.ref g) = true)
    (lk : X.K.lookup g = some ⟨oc, od, .func (PySem.W.fnOf x x pg bg sg dV kV doc pm an cdv ct), osl⟩) (hcg : PySem.W.codeIn X.K cdv x = true) (hb : L2.Binds X.K (PySem.W.fnOf x x pg bg sg dV kV doc pm an cdv ct) [a] []) (Sg : FnScope Ng [a] sg) (hNg : Ng[0]? = some a) (hva : Vis sg a)
    (hG : GivesN X Ng x sg g cdv bg a (X.env.qual ++ "<lambda>") TT)
    (TB : TabB X.base X.mg c P) (hcode : X.env.code = .ref c) (hmT : (P, X.env.qual ++ "<lambda>") ∈ T) (hu : ∀ p ∈ T, p.1 = P → p.2 = X.env.qual ++ "<lambda>") (hr : Room (k + 2) X.A) (L : LamS X.env.scope scope) (hdef : defaultsOf params X.env = ([], []))
    (hbind : ∀ (q : Str) (cl : List (Str × Addr)) (pm cv ctv : Value), bindArgs (PySem.W.kla_fn "<lambda>" q params body scope cl pm cv ctv) ⟨[], []⟩ = pure [])
    (hbody : ∀ (A : Around) (outer : List Env) (s : Shared) (H : Hp) (E : XK) (f c' : Addr), Room k (A.deeper (lamEnv X scope s.heap.objs.size f c')) → PE (lamCxN X A outer s H E scope f c') body (t E))
    (hdb : (x == ("__debug__" : Str)) = false) (hd : (a == ("__debug__" : Str)) = false) (hcd : (a == ("__classdict__" : Str)) = false) :
    PE X (.Call (.Name x p) [.Lambda params body scope lpos] [] pos) (tLamN T TT t) := by
  refine ⟨fun pins s σ H Q I h => ?_⟩
  obtain ⟨hT, h⟩ := h
  refine wpAny_Call_Name_kw (ld_glob I hg hm ?_ hdb)
  refine PySem.W.callWith_K (h₀ := X.base) I.ok.mod.kin hk ?_ (by rfl) (by rfl)
  show wpAny _ _ (spliced ((false, eval (.Lambda params body scope lpos) X.env) :: backTo pos (starEach [] X.env))) _ _ s
  refine Calls.spliced_cons (lam_make3 I TB hcode hmT hu hT hdef (L.has I.ok) fun f c' pm' ctv H1 s' I1 eN eT T1 hf hfn hfr hco => ?_)
  refine Calls.spliced_nil ⟨I1.kIn, ?_⟩
  have rc : codeAny (model X.prog X.w) X.A (.call (.ref g) ⟨[.ref f], []⟩) (CR C8.CX0 X.stack X.prog X.w H1 s' Q C8.E0) s' := by
    refine LamX.run_ofS (N := Ng) (ps := [a]) (us := [.ref f]) (vs := [.ref f]) lk hcg Sg hr I1.env0 (hb s' [.ref f] I1.kIn rfl) (.cons rfl .nil) rfl fun hr' => ?_
    obtain ⟨t', ht', hq'⟩ := hG f c' s' H1 Q (fun E H' Q' => t E σ H' Q') (fun W pn xe E p1 p2 tk hW => pe_actN (i := 0) I1 L hf hfn hfr (hbind _ _ _ _ _) tk hW hr' (fun A outer s H hr2 => hbody A outer s H E f c' hr2) hNg hva hd hcd) hco (h H1 eN eT T1)
    exact ⟨t', ht'.nox, hq'⟩
  refine wpAny_call (codeAny_mono rc fun r s2 hq => ?_)
  cases r with
  | error e => exact (show False from hq).elim
  | ok fl =>
    cases fl with
    | ret u => exact I1.after hq
    | next => exact False.elim hq
    | brk => exact False.elim hq
    | cont => exact False.elim hq
end
/-- what is known of the module's _law_word -/
structure WFacts (G : Gf) (S : Stat) : Prop where
  kf : KFacts S G.words
  ex : ∃ (g : Addr) (oc : Value) (od : Option Addr) (dV kV doc pm : Value) (an : Option Addr) (cdv ct : Value) (osl : Array (Option Value)) (pg : Arguments) (bg : List Stmt) (sg : Scope) (cTM cTE : Addr),
    S.K.fr.lookup g = some ⟨oc, od, .func (PySem.W.fnOf "_law_word" "_law_word" pg bg sg dV kV doc pm an cdv ct), osl⟩ ∧ PySem.W.codeIn S.K cdv "_law_word" = true ∧ S.mg "_law_word" = some (.ref g) ∧ PySem.W.keepIn S.K (.ref g) = true ∧
      L2.Binds S.K (PySem.W.fnOf "_law_word" "_law_word" pg bg sg dV kV doc pm an cdv ct) ["_law_call"] [] ∧ FnScope NW ["_law_call"] sg ∧ wBody ⟨NW, sg, fun _ => true, false, []⟩ bg = true ∧ isVis ⟨NW, sg, fun _ => true, false, []⟩ "_law_call" = true ∧
      S.mg "TooMany" = some (.ref cTM) ∧ S.mg "TermError" = some (.ref cTE) ∧ ∀ (k : Nat) (z : Str), G.words[k]? = some z → PySem.W.exmOne S.K (.ref (S.cx k)) (.ref cTM) = some false ∧ PySem.W.exmOne S.K (.ref (S.cx k)) (.ref cTE) = some true
theorem noParams_ok {a : Arguments} (h : noParams a = true) : a = { posonlyargs := [], args := [], vararg := none, kwonlyargs := [], kw_defaults := [], kwarg := none, defaults := [] } := by
  obtain ⟨a1, a2, a3, a4, a5, a6, a7⟩ := a
  unfold noParams at h
  simp only [Bool.and_eq_true, List.isEmpty_iff, Option.isNone_iff_eq_none] at h
  obtain ⟨⟨⟨⟨⟨⟨h1, h2⟩, h3⟩, h4⟩, h5⟩, h6⟩, h7⟩ := h
  subst h1 h2 h3 h4 h5 h6 h7
  rfl
/-- the heap behind the lambda's making -/
theorem sr_ext {S : Stat} {F H H1 : Hp} {as : AS} {M : Sto} (s : Sr S F H as M) (eN : ExtN H H1) (eT : ∀ b, H b ≠ none → H1 b ≠ none) (T1 : Tabs S.T H1) : Nxt F H as F H1 as ∧ Sr S F H1 as M := by
  refine ⟨⟨Nat.le_refl _, fun _ _ e _ => e, fun n a e hl => (by rw [List.getElem?_eq_none hl] at e; cases e), fun b o _ hn e => eN b o e hn, eT, fun _ _ e => e, fun _ e _ _ => e⟩,
    ⟨fun b o e => eN b o (s.sub b o e) fun ps z => s.nt b ps (by rw [e, z]), s.nt, s.len, s.inj, fun n a e => ⟨(s.out n a e).1, by
      obtain ⟨u, e1, e2, _⟩ := (s.out n a e).2.some
      have z := (s.out n a e).2
      rw [e1] at z
      rw [eN a u e1 e2]
      exact z⟩, fun n ds e => ?_, fun n xs e => ?_, T1⟩⟩
  · obtain ⟨a, vs, h1, h2, h3⟩ := s.obj n ds e
    exact ⟨a, vs, h1, eN a _ h2 (fun ps z => by cases z), h3⟩
  · obtain ⟨a, vs, h1, h2, h3⟩ := s.vls n xs e
    exact ⟨a, vs, h1, eN a _ h2 (fun ps z => by cases z), h3⟩
theorem words_ok {G : Gf} {S : Stat} (F : WFacts G S) : WordsOk G S := by
  intro X W k hP0 hw0 hK hmg hbase wa params body lsc p lpos pos fcall hp L hg hbody
  obtain ⟨c, P, hrX, TB, hcode, hT, hu⟩ := wa
  obtain ⟨g, oc, od, dV, kV, doc, pm, an, cdv, ct, osl, pg, bg, sg, cTM, cTE, w1, w2, w3, w4, w5, w6, w7, w8, w9, w10, w11⟩ := F.ex
  have vis : Vis sg "_law_call" := by
    have h := w8
    unfold isVis kOf at h
    unfold Vis
    split at h
    · rename_i e; exact .inl e
    · rename_i e; exact .inr (.inl e)
    · rename_i e; exact .inr (.inr e)
    · cases h
  have hp := noParams_ok hp
  subst hp
  have gv := word_gives (X := X) (k := k + 1) F.kf hP0 hw0 hK hmg hrX w9 w10 w11 (g := g) (cdg := cdv) (q := X.env.qual ++ "<lambda>") w6 w7
  have pe := pe_lamcallN (X := X) (T := S.T) (TT := TWord S G.words) (k := k) (p := p) (lpos := lpos) (pos := pos) (params := { posonlyargs := [], args := [], vararg := none, kwonlyargs := [], kw_defaults := [], kwarg := none, defaults := [] }) (body := body) (scope := lsc) (t := fun E => tE S fcall (fun c d _ H => E c d H))
    hg (by rw [hmg]; exact w3) (by rw [hK]; exact w4) (by rw [hK]; exact w1) (by rw [hK]; exact w2) (by rw [hK]; exact w5) w6 rfl vis gv (c := c) (P := P) (by rw [hbase, hmg]; exact TB) hcode hT hu (hrX.mono (by omega)) L rfl
    (fun _ _ _ _ _ => rfl) hbody (by decide +kernel) (by decide +kernel) (by decide +kernel)
  refine PE.imp pe fun σ H Q ⟨F, as, ρ, M, sr, er, w⟩ => ⟨sr.tabs, fun H1 eN eT T1 => ?_⟩
  obtain ⟨nx1, sr1⟩ := sr_ext sr eN eT T1
  have er1 := er.mono nx1
  refine ⟨F, as, ρ, M, sr1, er1, ?_⟩
  have w' : Wp S (fun c d H' => W c d σ H') F H as (wordK G.words (fcall ρ M)) Q := w
  cases hz : fcall ρ M with
  | ok t M' =>
    rw [hz] at w'
    have w2 : Wp S (fun c d H' => W c d σ H') F H as (.ok (.v (.d (.str (Str.ofString "")))) M') Q := w'
    exact fun v F' H' as' nx s' _ => w2 (.str (Str.ofString "")) F' H' as' (nx1.trans nx) s' (.str _)
  | err j M' =>
    rw [hz] at w'
    have w2 : Wp S (fun c d H' => W c d σ H') F H as (match G.words[j]? with | some z => .ok (.v (.d (.str z))) M' | none => .stuck) Q := w'
    split at w2
    · rename_i z hz2
      refine fun F' H' as' nx s' => ⟨j, z, rfl, rfl, hz2, s'.tabs, fun H'' e1 e2 e3 => ?_⟩
      obtain ⟨nx2, sr2⟩ := sr_ext s' e1 e2 e3
      exact w2 (.str z) F' H'' as' ((nx1.trans nx).trans nx2) sr2 (.str z)
    · exact w2.elim
  | stuck => rw [hz] at w'; exact w'.elim
end Hx

/-! Ev16: a def with a def at its head. -/
namespace Ev
open PySem PySem.Spec PyProof.Rows L2
open LamX (Tabs)
open NdefX (NF FnO NOk Caps NScope nscB nscope_by ndefB ndef_free ndef_fr startF)

/-! ### the running def's own functions told, or not -/
def Stat.wn (S : Stat) (nd : Nat → Option (Addr → NF)) : Stat := { S with nd := nd }
section
variable {S : Stat} {nd : Nat → Option (Addr → NF)} {W : XK} {F H : Hp} {as : AS} {M : Sto} {Q : VK} {r : Res TV}
theorem Sr.wn (s : Sr S F H as M) : Sr (S.wn nd) F H as M := ⟨s.sub, s.nt, s.len, s.inj, s.out, s.obj, s.vls, s.tabs⟩
theorem Sr.nw (s : Sr (S.wn nd) F H as M) : Sr S F H as M := ⟨s.sub, s.nt, s.len, s.inj, s.out, s.obj, s.vls, s.tabs⟩
theorem Wp.wn (w : Wp S W F H as r Q) : Wp (S.wn nd) W F H as r Q := by
  cases r with
  | ok t M' => exact fun v F' H' as' nx s tr => w v F' H' as' nx s.nw tr
  | err x M' => exact fun F' H' as' nx s => w F' H' as' nx s.nw
  | stuck => exact w
theorem Wp.nw (w : Wp (S.wn nd) W F H as r Q) : Wp S W F H as r Q := by
  cases r with
  | ok t M' => exact fun v F' H' as' nx s tr => w v F' H' as' nx s.wn tr
  | err x M' => exact fun F' H' as' nx s => w F' H' as' nx s.wn
  | stuck => exact w
theorem FnT.wn {k : Nat} {x : Str} {f : List VV → Sto → Res TV} (T : FnT S k x f) : FnT (S.wn nd) k x f := by
  obtain ⟨a, fd, ps, h1, h2, h3, h4, h5⟩ := T.ex
  exact ⟨a, fd, ps, h1, h2, h3, h4.imp fun vs H Q E ⟨q1, F, as, M, xs, q2, q3, q4⟩ => ⟨q1, F, as, M, xs, q2.nw, q3, q4.nw⟩, h5⟩
end
/-! ### what is asked of the text -/
structure NRow where
  i : Nat
  k : Nat
  js : List Nat
  name : Str
  N : List Str
  np : Nat
  fd : Fd
def NRow.ps (r : NRow) : List Str := r.N.take r.np
def NRow.fr (r : NRow) : List Str := (r.N.drop r.np).take r.js.length
def ndForm (st : Stmt) (name : Str) : Bool := match st with
  | .FunctionDef nm _ _ [] none [] _ none nm2 _ => (nm == name) && (nm2 == name)
  | _ => false
theorem ndForm_ok {st : Stmt} {name : Str} (h : ndForm st name = true) : ∃ pos, st = .FunctionDef name (C8.fnArgs st) (C8.fnBody st) [] none [] (C8.fnScope st) none name pos := by
  unfold ndForm at h
  split at h
  · rename_i nm a b sc nm2 pos
    simp only [Bool.and_eq_true, beq_iff_eq] at h
    obtain ⟨rfl, rfl⟩ := h
    exact ⟨pos, rfl⟩
  · cases h
def chkNd (G : Gf) (C : CC) (r : NRow) (st : Stmt) : Bool := ndForm st r.name && isSlot C r.i r.name && isLoc C r.name && (C8.fnArgs st).defaults.isEmpty && (C8.fnArgs st).kw_defaults.isEmpty && ndefB C.sc (C8.fnScope st) r.fr && decide (r.js.map (fun j => C.N[j]?) = r.fr.map some) &&
  nscB r.N r.ps r.fr (C8.fnScope st) && decide (r.fd.np = r.ps.length + r.js.length) && decide (r.N.length = r.fd.n) && decide (r.fr.length = r.js.length) && chkSs G ⟨r.N, C8.fnScope st, fun _ => false, false, []⟩ r.fd.body (C8.fnBody st)
/-- its arguments are bound, its parameters bear no types -/
def BindsN (r : NRow) (st : Stmt) : Prop := (∀ (cl : List (Str × Addr)) (c' : Addr) (q : Str) (doc pm ctv : Value) (us : List Value), us.length = r.ps.length → bindArgs ((NF.of st r.name q cl c').fd doc pm ctv) ⟨us, []⟩ = pure (r.ps.zip us)) ∧ ∀ env : Env, annTrees (C8.fnArgs st) none env = []
section
variable {G : Gf} {S : Stat} {C : CC} {r : NRow} {st : Stmt} {fs : List Fd} {fuel : Nat}
theorem startN_ok {F : Hp} {as : AS} {xs cs : List VV} {vs us : List V} {n : Nat} {N : List Str} (h : Paired (Vr S.K F as) xs vs) (hc : Paired (Vr S.K F as) cs us) (hn : vs.length + us.length = n) : Er S F as ((xs ++ cs).map some ++ List.replicate (N.length - n) none) (startF N vs (us.map some)) := by
  have app : ∀ {a b : List VV} {c d : List V}, Paired (Vr S.K F as) a c → Paired (Vr S.K F as) b d → Paired (Vr S.K F as) (a ++ b) (c ++ d) := by
    intro a b c d h
    induction h with
    | nil => exact fun g => g
    | cons x _ ih => exact fun g => .cons x (ih g)
  have q := start_ok (S := S) (n := 0) (np := n) (N := N) (app h hc) (by rw [List.length_append]; exact hn)
  have e : L2.start N (vs ++ us) = startF N vs (us.map some) := by
    unfold L2.start startF
    rw [List.map_append, List.append_assoc, List.length_append, List.length_map, Nat.sub_sub]
  rw [e] at q
  exact q
/-- the made function keeps its promise -/
theorem nd_nok (hck : chkNd G C r st = true) (hb : BindsN r st) (hfs : fs[r.k]? = some r.fd) (nums : ∀ x z, G.nums.lookup x = some z → ∃ t, S.mg x = some (.int z t)) (unt : ∀ x, G.unt.contains x = true → S.mg x = none) (exc : ExAll G S)
    (cl : List (Str × Addr)) (q : Str) (c' f0 : Addr) : ∀ k : Nat, (∀ k' f x, k' < k → G.fns.lookup f = some x → FnT S (4 * k' + 2) x (cfD fs fuel k' f)) → NOk S.P S.w S.K S.mg S.base (L2N.CX S.P S.w) (4 * k + 2) f0 (NF.of st r.name q cl c') r.ps r.fr (spN S r.ps.length r.js.length (cfD fs fuel k r.k)) := by
  unfold chkNd at hck
  simp only [Bool.and_eq_true, decide_eq_true_eq] at hck
  obtain ⟨⟨⟨⟨⟨⟨⟨⟨⟨⟨⟨h1, h2⟩, h3⟩, h4⟩, h5⟩, h6⟩, h7⟩, h8⟩, h9⟩, h10⟩, h11⟩, h12⟩ := hck
  intro k ih
  cases k with
  | zero =>
    refine ⟨fun ws vs H Q E q => q.1, fun A outer s H us vs ws Q E _ _ _ _ _ _ q => ?_⟩
    obtain ⟨_, F, as, M, xs, cs, us', _, _, _, _, _, w⟩ := q
    simp only [cfD] at w
    exact w.elim
  | succ k =>
    refine NdefX.nok_of (k := 4 * k + 5) (S := (nscope_by h8 : NScope r.N r.ps r.fr (NF.of st r.name q cl c').scope)) (hb.1 cl c' q) (fun ws vs H Q E q => q.1) fun A outer s H vs ws Q E hr hf hc hwl hsp => ?_
    obtain ⟨hl, F, as, M, xs, cs, us, sr, pr, ew, pc, hcl, w⟩ := hsp
    have hX : XS G S (cfD fs fuel k) (NdefX.ncx (L2N.CX S.P S.w) S.P S.w S.K S.mg S.base r.N (NF.of st r.name q cl c') f0 A outer s H E) (fun c d _ H => E c d H) ⟨r.N, C8.fnScope st, fun _ => false, false, []⟩ := {
      x := {
        hP := rfl, hw := rfl, hK := rfl, hmg := rfl, hbase := rfl, calm := rfl
        un := by
          have := hr.un
          show (A.deeper _).units + 64 < cLine
          omega
        tk := L2N.takes_of rfl rfl rfl rfl
        hN := rfl
        nd := (nscope_by h8).nd
        sc := rfl
        fn := rfl
        fns := fun f x hf => ⟨4 * k + 2, hr.mono (by omega), ih k f x (by omega) hf⟩
        nums := nums
        unt := unt
        wd := fun ht => by cases ht
        nds := fun _ _ _ h => nomatch h
        rm := hr.mono (by omega)
        obs := exc.2 }
      kd := (nscope_by h8).kind
      po := L2.passes_of rfl
      exc := exc.1 }
    have hlen : xs.length = r.ps.length := by rw [pr.length, hl]
    have hx : (xs ++ cs).length = r.fd.np := by rw [List.length_append, hlen, hcl, h9]
    have hul : us.length = r.js.length := by rw [← pc.length, hcl]
    refine ⟨_, (snds (fuel := fuel) r.fd.body).2 _ _ _ _ hX h12, F, as, (xs ++ cs).map some ++ List.replicate (r.N.length - r.fd.np) none, M, sr, ?_, ?_⟩
    · rw [ew]
      exact startN_ok pr pc (by rw [hl, hul, h9])
    · have e : cfD fs fuel (k + 1) r.k = callS (cfD fs fuel k) fuel r.fd := by
        funext xs M
        simp only [cfD, hfs]
      rw [e] at w
      unfold callS at w
      rw [if_pos hx, ← h10] at w
      exact exit_ok sr w
/-- the statement of the nested def, ahead of the rest -/
theorem nd_ok {X : Cx} {W : WX} {rest : List Stmt} {fb : Env' → Sto → Res Fl} {mk : Addr → NF} {k i : Nat} (hT : PS X st (NdefX.tNdefM (S.T.map fun p => (p.1, fun _ _ => p.2)) i mk)) (hk : S.nd k = some mk) (hmk : ∀ c', (mk c').c = c') (h : PSs X rest (tS S fb W)) : PSs X (st :: rest) (tS S (fun ρ M => (Res.ok (Fl.nx (ρ.set i (some (.fn k)))) M).bind (seqF fb)) W) :=
  PSs.imp (pss_cons hT h) fun D σ H ⟨F, as, ρ, M, s, er, w⟩ => by
    have w : WpS S W D F H as (fb (ρ.set i (some (.fn k))) M) := w
    refine ⟨fun p hp => ?_, fun f c' H1 eN nn T1 f0 f1 c1 => ?_⟩
    · obtain ⟨q, hq, rfl⟩ := List.mem_map.mp hp
      exact NdefX.TabN.of (s.tabs q hq)
    · have fF : F f = none := s.none_of f0
      have fA : some f ∉ as := s.not_as f0
      have cA : some c' ∉ as := fun z => by
        obtain ⟨n, e⟩ := mem_ix.mp z
        obtain ⟨u, e1, e2, e3⟩ := (s.out n c' e).2.some
        have q := eN c' u e1 e2
        rw [c1] at q
        exact e3 _ (Option.some.inj q).symm
      have sub : ∀ b o, F b = some o → H1 b = some o := fun b o e => eN b o (s.sub b o e) fun ps z => s.nt b ps (by rw [e, z])
      let F' : Hp := fun b => if b = f ∨ b = c' then H1 b else F b
      have fin : ∀ b, b = f ∨ b = c' → F' b = H1 b := fun b h => if_pos h
      have fout : ∀ b, ¬ (b = f ∨ b = c') → F' b = F b := fun b h => if_neg h
      have lstc : ∀ b vs, (b = f ∨ b = c') → H b ≠ some (.lst vs) := fun b vs h e => by
        rcases h with h | h
        · rw [h, f0] at e; cases e
        · have q := eN b _ e (fun ps z => by cases z)
          rw [h, c1] at q
          cases q
      have nx : Nxt F H as F' H1 as := {
        len := Nat.le_refl _
        old := fun _ _ e _ => e
        new := fun n a e hl => by rw [List.getElem?_eq_none hl] at e; cases e
        keep := fun b o _ t e => eN b o e t
        there := fun b h e => h (nn b e)
        grow := fun b o e => by
          by_cases hb : b = f ∨ b = c'
          · rw [fin b hb]; exact sub b o e
          · rw [fout b hb]; exact e
        fresh := fun b e1 ⟨vs, e2⟩ _ => by
          by_cases hb : b = f ∨ b = c'
          · exact absurd e2 (lstc b vs hb)
          · rw [fout b hb]; exact e1 }
      have s' : Sr S F' H1 as M := {
        sub := fun b o e => by
          by_cases hb : b = f ∨ b = c'
          · rw [fin b hb] at e; exact e
          · rw [fout b hb] at e; exact sub b o e
        nt := fun b ps e => by
          by_cases hb : b = f ∨ b = c'
          · rw [fin b hb] at e
            rcases hb with hb | hb
            · rw [hb, f1] at e; cases e
            · rw [hb, c1] at e; cases e
          · rw [fout b hb] at e; exact s.nt b ps e
        len := s.len
        inj := s.inj
        out := fun n a e => by
          have ha : ¬ (a = f ∨ a = c') := fun h => by
            rcases h with h | h
            · exact fA (mem_ix.mpr ⟨n, by rw [e, h]⟩)
            · exact cA (mem_ix.mpr ⟨n, by rw [e, h]⟩)
          rw [fout a ha]
          refine ⟨(s.out n a e).1, ?_⟩
          obtain ⟨u, e1, e2, _⟩ := (s.out n a e).2.some
          have z := (s.out n a e).2
          rw [e1] at z
          rw [eN a u e1 e2]
          exact z
        obj := fun n ds e => by
          obtain ⟨a, vs, h1, h2, h3⟩ := s.obj n ds e
          exact ⟨a, vs, h1, eN a _ h2 (fun ps z => by cases z), dpAll_mono nx.grow ds vs h3⟩
        vls := fun n xs e => by
          obtain ⟨a, vs, h1, h2, h3⟩ := s.vls n xs e
          exact ⟨a, vs, h1, eN a _ h2 (fun ps z => by cases z), paired_mono (Vi.up nx.grow fun _ _ _ h => h) h3⟩
        tabs := fun p hp => NdefX.TabN.to (T1 (p.1, fun _ _ => p.2) (List.mem_map.mpr ⟨p, hp, rfl⟩)) }
      have er1 := er.mono nx
      have er' : Er S F' as (ρ.set i (some (.fn k))) (σ.set i (some (.ref f))) := by
        refine ⟨by rw [List.length_set, List.length_set, er1.len], fun j y hy => ?_⟩
        by_cases hj : i = j
        · subst hj
          by_cases hl : i < ρ.length
          · rw [List.getElem?_set_self hl] at hy
            cases hy
            exact ⟨.ref f, by rw [List.getElem?_set_self (by rw [← er1.len]; exact hl)], mk, f, c', hk, rfl, by rw [fin f (.inl rfl)]; exact f1, by rw [hmk, fin c' (.inr rfl)]; exact c1⟩
          · rw [List.getElem?_eq_none (by rw [List.length_set]; omega)] at hy; cases hy
        · rw [List.getElem?_set_ne hj] at hy
          obtain ⟨w, h1, h2⟩ := er1.at_ j y hy
          exact ⟨w, by rw [List.getElem?_set_ne hj]; exact h1, h2⟩
      exact ⟨F', as, _, M, s', er', WpS.later nx w⟩
/-- a def with a def at its head stands at its place -/
structure DefOkN (G : Gf) (S : Stat) (nm : Str) (fd : Fd) (fs : List Fd) : Prop where
  ex : ∃ (a : Addr) (fdat : FuncData) (N ps : List Str) (qual : Str) (params : Arguments) (body : List Stmt) (scope : Scope) (kws : List (Str × V)) (nr : NRow) (st : Stmt) (rest : List Stmt) (b : Sm), N.length = fd.n ∧ S.mg nm = some (.ref a) ∧ FunD S.K nm qual params body scope [] kws a fdat ∧ L2.Binds S.K fdat ps [] ∧ FnScope N ps scope ∧
    ps.length = fd.np ∧ body = st :: rest ∧ fd.body = .seq (.ndef nr.i nr.k) b ∧ chkSs G ⟨N, scope, fun _ => true, false, [(nr.i, nr.k, nr.js)]⟩ b rest = true ∧ chkNd G ⟨N, scope, fun _ => true, false, [(nr.i, nr.k, nr.js)]⟩ nr st = true ∧ BindsN nr st ∧ fs[nr.k]? = some nr.fd ∧
    ∃ c P, fdat.code = .ref c ∧ LamX.TabB S.base S.mg c P ∧ (P, qualIn qual ++ nr.name) ∈ S.T ∧ ∀ p ∈ S.T, p.1 = P → p.2 = qualIn qual ++ nr.name
theorem fnOk_ofN {nr : NRow} {rest : List Stmt} {b : Sm} {k : Nat} {fd : Fd} {nm : Str} {N : List Str} (hNl : N.length = fd.n) {a : Addr} {fdat : FuncData} {ps : List Str} {qual : Str} {params : Arguments} {body : List Stmt} {scope : Scope} {kws : List (Str × V)} (g2 : FunD S.K nm qual params body scope [] kws a fdat) (g4 : FnScope N ps scope) (g5 : ps.length = fd.np)
    (eb : body = st :: rest) (ef : fd.body = .seq (.ndef nr.i nr.k) b) (g6 : chkSs G ⟨N, scope, fun _ => true, false, [(nr.i, nr.k, nr.js)]⟩ b rest = true) (hck : chkNd G ⟨N, scope, fun _ => true, false, [(nr.i, nr.k, nr.js)]⟩ nr st = true) (hb : BindsN nr st) (hfs : fs[nr.k]? = some nr.fd)
    (g7 : ∃ c P, fdat.code = .ref c ∧ LamX.TabB S.base S.mg c P ∧ (P, qualIn qual ++ nr.name) ∈ S.T ∧ ∀ p ∈ S.T, p.1 = P → p.2 = qualIn qual ++ nr.name)
    (ih : ∀ k' f x, k' ≤ k → G.fns.lookup f = some x → FnT S (4 * k' + 2) x (cfD fs fuel k' f)) (nums : ∀ x z, G.nums.lookup x = some z → ∃ t, S.mg x = some (.int z t)) (unt : ∀ x, G.unt.contains x = true → S.mg x = none) (exc : ExAll G S) :
    FnOk S.P S.w S.K S.mg S.base (L2N.CX S.P S.w) (4 * (k + 1) + 2) a fdat ps (spF S ps.length (callS (cfD fs fuel k) fuel fd)) := by
  have hck' := hck
  unfold chkNd at hck'
  simp only [Bool.and_eq_true, decide_eq_true_eq] at hck'
  obtain ⟨⟨⟨⟨⟨⟨⟨⟨⟨⟨⟨h1, h2⟩, h3⟩, h4⟩, h5⟩, h6⟩, h7⟩, h8⟩, h9⟩, h10⟩, h11⟩, h12⟩ := hck'
  obtain ⟨oc, od, dV, kV, doc, pm, an, cdv, ct, osl, rfl, lk, hcd, _, _⟩ := g2.ex
  refine fn_of (k := 4 * k + 5) lk hcd g4 (fun vs H Q E q => q.1) fun A outer s H vs Q E hr hsp => ?_
  obtain ⟨hl, F, as, M, xs, sr, pr, w⟩ := hsp
  obtain ⟨c, P, e1, e2, e3, e4⟩ := g7
  have e1 : cdv = .ref c := e1
  subst e1
  generalize hXX : cxOf (L2N.CX S.P S.w) S.P S.w S.K S.mg S.base N qual scope a (.ref c) A outer s H E = X
  let mk : Addr → NF := NF.of st nr.name (X.env.qual ++ nr.name) (cloFrom X.env.cells (C8.fnScope st).names [])
  let nd : Nat → Option (Addr → NF) := fun k' => if k' = nr.k then some mk else none
  have hnd : (S.wn nd).nd nr.k = some mk := if_pos rfl
  have hfree : ∀ y ∈ (C8.fnScope st).names, y.2 = .free → X.env.scope.names.lookup y.1 = some .cell ∨ X.env.scope.names.lookup y.1 = some .free := by
    rw [← hXX]
    exact ndef_free h6
  have hjs : nr.js.map (fun j => X.N[j]?) = nr.fr.map some := by
    rw [← hXX]
    exact h7
  have room : Room (4 * k + 5) X.A := by rw [← hXX]; exact hr
  have hX : XS G (S.wn nd) (cfD fs fuel k) X (fun c d _ H => E c d H) ⟨N, scope, fun _ => true, false, [(nr.i, nr.k, nr.js)]⟩ := by
    refine { x := { hP := by rw [← hXX]; rfl, hw := by rw [← hXX]; rfl, hK := by rw [← hXX]; rfl, hmg := by rw [← hXX]; rfl, hbase := by rw [← hXX]; rfl, calm := by rw [← hXX]; rfl, un := ?_, tk := ?_, hN := by rw [← hXX]; rfl, nd := g4.nd, sc := by rw [← hXX]; rfl, fn := by rw [← hXX]; rfl, fns := fun f x hf => ⟨4 * k + 2, room.mono (by omega), (ih k f x (Nat.le_refl _) hf).wn⟩, nums := nums, unt := unt, wd := fun ht => (by cases ht), nds := fun i k' js hm => ?_, rm := room.mono (by omega), obs := fun h => (let ⟨a1, a2, a3, a4, a5, a6⟩ := exc.2 h; ⟨a1, a2, fun k y h => (let ⟨z⟩ := a3 k y h; ⟨z⟩), a4, a5, fun h => (let ⟨z⟩ := a6 h; ⟨z⟩)⟩) }, kd := g4.kind, po := ?_, exc := fun k y h => ?_ }
    · have := room.un
      omega
    · rw [← hXX]; exact L2N.takes_of rfl rfl rfl rfl
    · simp only [List.mem_cons, List.not_mem_nil, or_false, Prod.mk.injEq] at hm
      obtain ⟨rfl, rfl, rfl⟩ := hm
      refine ⟨mk, nr.ps, nr.fr, cloFrom X.env.cells (C8.fnScope st).names [], 4 * k + 2, hnd, room.mono (by omega), fun f0 c' => (nd_nok hck hb hfs nums unt exc (cloFrom X.env.cells (C8.fnScope st).names []) (X.env.qual ++ nr.name) c' f0 k fun k' f x hk hf => ih k' f x (by omega) hf).imp ?_, fun c' => rfl, fun ok => Caps.made ok hfree (ndef_fr h6) hjs, fun xs M hn => ?_⟩
      · rintro ws vs H Q E ⟨q1, F, as, M, xs, cs, us, q2, q3, q4, q5, q6, q7⟩
        exact ⟨q1, F, as, M, xs, cs, us, q2.nw, q3, q4, q5, q6, q7.nw⟩
      · cases k with
        | zero => simp only [cfD]
        | succ k =>
          simp only [cfD, hfs]
          unfold callS
          rw [if_neg (by rw [h9]; exact hn)]
    · rw [← hXX]; exact L2.passes_of rfl
    · obtain ⟨z⟩ := exc.1 k y h
      exact ⟨z⟩
  have hx : xs.length = fd.np := by rw [pr.length, hl, g5]
  unfold callS at w
  rw [if_pos hx, ← hNl] at w
  have hbody : PSs X body (tS (S.wn nd) (evalS (cfD fs fuel k) fuel fd.body) (fun c d _ H => E c d H)) := by
    have e0 : evalS (cfD fs fuel k) fuel fd.body = fun ρ M => (Res.ok (Fl.nx (ρ.set nr.i (some (.fn nr.k)))) M).bind (seqF (evalS (cfD fs fuel k) fuel b)) := by
      rw [ef]
      funext ρ M
      simp only [evalS]
    rw [e0, eb]
    obtain ⟨pos, hst⟩ := ndForm_ok h1
    refine nd_ok (S := S.wn nd) (mk := mk) ?_ hnd (fun c' => rfl) ((snds (fuel := fuel) b).2 _ _ _ _ hX g6)
    refine NdefX.ps_ndefMS (c := c) (P := P) (nm := fun _ _ => qualIn qual ++ nr.name) (pos := pos) hst (by rw [← hXX]; exact e2) (by rw [← hXX]; rfl) (List.mem_map.mpr ⟨_, e3, rfl⟩) (by rw [← hXX]; rfl) (fun p hp hq => ?_) hfree (List.isEmpty_iff.mp h4) (List.isEmpty_iff.mp h5) (hb.2 _) (by rw [← hXX]; exact g4.nd) (hX.x.slot h2) (hX.x.loc h3).1 (hX.x.loc h3).2
    obtain ⟨p0, hp0, rfl⟩ := List.mem_map.mp hp
    funext _ _
    exact e4 p0 hp0 hq
  refine ⟨_, hbody, F, as, _, M, sr.wn, start_ok (S := S.wn nd) (n := 0) (N := N) (np := fd.np) pr (by rw [hl, g5]), ?_⟩
  exact exit_ok (S := S.wn nd) sr.wn w.wn
theorem fnT_allN {S : Stat} {fs : List Fd} {fuel : Nat} {wz : Prop} (hD : ∀ (f : Nat) (x : Str), G.fns.lookup f = some x → ∃ fd, fs[f]? = some fd ∧ ((DefOk G S x fd ∧ (fd.tab = true → wz)) ∨ DefOkN G S x fd fs)) (nums : ∀ x z, G.nums.lookup x = some z → ∃ t, S.mg x = some (.int z t)) (unt : ∀ x, G.unt.contains x = true → S.mg x = none)
    (exc : ExAll G S) (wo : wz → WordsOk G S) : ∀ (k f : Nat) (x : Str), G.fns.lookup f = some x → FnT S (4 * k + 2) x (cfD fs fuel k f) := by
  have key : ∀ k k' : Nat, k' ≤ k → ∀ (f : Nat) (x : Str), G.fns.lookup f = some x → FnT S (4 * k' + 2) x (cfD fs fuel k' f) := by
    intro k
    induction k with
    | zero =>
      intro k' hk f x hf
      obtain rfl : k' = 0 := by omega
      have stuck : ∀ {ps : List Str} {vs : List V} {H : Hp} {Q : VK} {E : XK}, spF S ps.length (cfD fs fuel 0 f) vs H Q E → False := by
        rintro ps vs H Q E ⟨_, F, as, M, xs, _, _, w⟩
        simp only [cfD] at w
        exact w
      obtain ⟨fd, h1, h2⟩ := hD f x hf
      rcases h2 with ⟨⟨a, fdat, N, ps, qual, params, body, scope, kws, hNl, g1, g2, g3, g4, g5, g6, g7⟩, _⟩ | ⟨a, fdat, N, ps, qual, params, body, scope, kws, nr, st, rest, b, hNl, g1, g2, g3, g4, g5, g6⟩
      · exact ⟨a, fdat, ps, g1, g2.kp, g3, ⟨fun vs H Q E q => q.1, fun A outer s H args us vs Q E _ _ _ _ q => (stuck q).elim⟩, fun xs M _ => by simp only [cfD]⟩
      · exact ⟨a, fdat, ps, g1, g2.kp, g3, ⟨fun vs H Q E q => q.1, fun A outer s H args us vs Q E _ _ _ _ q => (stuck q).elim⟩, fun xs M _ => by simp only [cfD]⟩
    | succ k ih =>
      intro k' hk f x hf
      by_cases hkk : k' ≤ k
      · exact ih k' hkk f x hf
      · obtain rfl : k' = k + 1 := by omega
        obtain ⟨fd, h1, h2⟩ := hD f x hf
        have ec : cfD fs fuel (k + 1) f = callS (cfD fs fuel k) fuel fd := by
          funext xs M
          simp only [cfD, h1]
        have hlen : ∀ {ps : List Str}, ps.length = fd.np → ∀ xs M, xs.length ≠ ps.length → callS (cfD fs fuel k) fuel fd xs M = .stuck := fun g5 xs M hn => by
          unfold callS
          rw [if_neg (by rw [← g5]; exact hn)]
        rw [ec]
        rcases h2 with ⟨⟨a, fdat, N, ps, qual, params, body, scope, kws, hNl, g1, g2, g3, g4, g5, g6, g7⟩, hwz⟩ | ⟨a, fdat, N, ps, qual, params, body, scope, kws, nr, st, rest, b, hNl, g1, g2, g3, g4, g5, g6, g7, g8, g9, g10, g11, g12⟩
        · exact ⟨a, fdat, ps, g1, g2.kp, g3, fnOk_of hNl g2 g4 g5 g6 g7 (fun f x hf => ih k (Nat.le_refl _) f x hf) nums unt exc fun ht => wo (hwz ht), hlen g5⟩
        · exact ⟨a, fdat, ps, g1, g2.kp, g3, fnOk_ofN hNl g2 g4 g5 g6 g7 g8 g9 g10 g11 g12 (fun k' f x hk hf => ih k' hk f x hf) nums unt exc, hlen g5⟩
  exact fun k f x hf => key k k (Nat.le_refl _) f x hf
end
end Ev

/-! Top1: from the head's facts to the law's promise. -/
namespace Ev
open PySem PySem.Spec PyProof.Rows L2
open LamX (Tabs)
open He (Fa DefD SaysX ga cT codeOf fAd)

structure DRow where
  ix : Nat
  name : Str
  N : List Str
  fd : Fd
  st : Stmt
  /-- the def at its head -/
  nst : Option NRow
  /-- its class, where it is a method -/
  cls : Option Str
/-- a method's text -/
def methS (st : Stmt) (j : Nat) : Stmt := match st with
  | .ClassDef _ _ _ b _ _ _ _ _ _ _ => b.getD j (.Pass ⟨0, 0, 0, 0⟩)
  | _ => .Pass ⟨0, 0, 0, 0⟩
def DRow.qual (r : DRow) : Str := match r.cls with
  | none => r.name
  | some c => c ++ "." ++ r.name
def DRow.at_ (r : DRow) : Str × Option Str := match r.cls with
  | none => (r.name, none)
  | some c => (c, some r.name)
def DRow.tabn (r : DRow) : Str := match r.nst with
  | none => "<lambda>"
  | some n => n.name
def headD (l : List Stmt) : Stmt := match l with
  | st :: _ => st
  | [] => .Pass ⟨0, 0, 0, 0⟩
theorem noN {α : Type} {P : α → Prop} {o : Option α} (h : o = none) : ∀ n, o = some n → P n := fun n e => by rw [h] at e; cases e
theorem oneN {α : Type} {P : α → Prop} {o : Option α} {a : α} (h : o = some a) (p : P a) : ∀ n, o = some n → P n := fun n e => by rw [h] at e; cases e; exact p
/-- where each def stands among the defs -/
def AllF (fs : List Fd) : List DRow → Prop
  | [] => True
  | r :: l => (fs[r.ix]? = some r.fd ∧ ∀ n, r.nst = some n → fs[n.k]? = some n.fd) ∧ AllF fs l
theorem AllF.at {fs : List Fd} {l : List DRow} (h : AllF fs l) {r : DRow} (hr : r ∈ l) : fs[r.ix]? = some r.fd ∧ ∀ n, r.nst = some n → fs[n.k]? = some n.fd := by
  induction l with
  | nil => cases hr
  | cons a l ih =>
    rcases List.mem_cons.mp hr with e | hr
    · rw [e]; exact h.1
    · exact ih h.2 hr
def exL (G : Gf) : List Str := G.excs.map (·.2)
def BindsP (r : DRow) : Prop := ∀ (kV doc pm : Value) (an : Option Addr) (cdv ct : Value) (us : List Value), us.length = (r.N.take r.fd.np).length → bindArgs (PySem.W.fnOf r.name r.qual (defArgs r.st) (defBody r.st) (defScope r.st) .none kV doc pm an cdv ct) ⟨us, []⟩ = pure ((r.N.take r.fd.np).zip us)
def AllB : List DRow → Prop
  | [] => True
  | r :: l => (BindsP r ∧ ∀ n, r.nst = some n → BindsN n (headD (defBody r.st))) ∧ AllB l
theorem AllB.at {l : List DRow} (h : AllB l) {r : DRow} (hr : r ∈ l) : BindsP r ∧ ∀ n, r.nst = some n → BindsN n (headD (defBody r.st)) := by
  induction l with
  | nil => cases hr
  | cons a l ih =>
    rcases List.mem_cons.mp hr with e | hr
    · rw [e]; exact h.1
    · exact ih h.2 hr
def chkRow (G : Gf) (r : DRow) : Bool := C8.scC r.N (r.N.take r.fd.np) (defScope r.st) && decide (r.fd.np ≤ r.N.length) && decide (r.N.length = r.fd.n) && match r.nst with
  | none => chkSs G ⟨r.N, defScope r.st, fun _ => true, r.fd.tab, []⟩ r.fd.body (defBody r.st)
  | some n => r.fd.tab && match r.fd.body, defBody r.st with
    | .seq (.ndef i k) b, st :: rest => decide (i = n.i) && decide (k = n.k) && chkSs G ⟨r.N, defScope r.st, fun _ => true, false, [(n.i, n.k, n.js)]⟩ b rest && chkNd G ⟨r.N, defScope r.st, fun _ => true, false, [(n.i, n.k, n.js)]⟩ n st
    | _, _ => false
def dOf (r : DRow) : DefD := ⟨r.at_, r.name, r.qual, defArgs r.st, defBody r.st, defScope r.st, [], []⟩
def faR (r : DRow) : Fa := match r.cls with
  | none => .glo r.name
  | some c => .meth c r.name
theorem qual_none {r : DRow} (hc : r.cls = none) : r.qual = r.name := by unfold DRow.qual; rw [hc]
theorem BindsP.at0 {r : DRow} (h : BindsP r) (hc : r.cls = none) : ∀ (kV doc pm : Value) (an : Option Addr) (cdv ct : Value) (us : List Value), us.length = (r.N.take r.fd.np).length → bindArgs (PySem.W.fnOf r.name r.name (defArgs r.st) (defBody r.st) (defScope r.st) .none kV doc pm an cdv ct) ⟨us, []⟩ = pure ((r.N.take r.fd.np).zip us) := by
  unfold BindsP at h
  rw [qual_none hc] at h
  exact h
/-- the facts that the head is asked for; cs: the classes -/
def faOf (G : Gf) (rows : List DRow) (cs : List Str) : List Fa := rows.map faR ++ (cs.map .glo ++ (G.unt.map .free ++ (G.nums.map (fun q => .int q.1 q.2) ++ ((exL G).map .exc ++ (if G.words.isEmpty then [] else (exL G).map (fun x => .exm x "TooMany" false) ++ (exL G).map (fun x => .exm x "TermError" true))))))
def tfOf (rows : List DRow) : List He.Defn := (rows.filter fun r => r.fd.tab).map fun r => (r.name, none)
def TOf (K : PySem.W.Frag) (rows : List DRow) : List (Addr × Str) := (rows.filter fun r => r.fd.tab).map fun r => ((cT K (r.name, none)).2, qualIn r.name ++ r.tabn)
/-- the tables are apart -/
def tabsApart (K : PySem.W.Frag) (rows : List DRow) : Bool := decide ((TOf K rows).map (·.1)).Nodup
/-- the classes by their numbers -/
def cxOf (K : PySem.W.Frag) (G : Gf) (k : Nat) : Addr := ga K (((G.excs ++ G.xcls).lookup k).getD "")
theorem cxOf_exc {K : PySem.W.Frag} {G : Gf} {k : Nat} {y : Str} (e : G.excs.lookup k = some y) : cxOf K G k = ga K y := by
  unfold cxOf
  rw [List.lookup_append, e]
  rfl
def mkS (P : Program) (w : World) (K : PySem.W.Frag) (mg : Str → Option Value) (base : Heap) (G : Gf) (rows : List DRow) : Stat := ⟨P, w, koEx K (cxOf K G) (fun k => ((G.excs ++ G.xcls).lookup k).isSome), mg, base, TOf K rows, cxOf K G, fun _ => none⟩
section
variable {G : Gf} {rows spec : List DRow} {cs : List Str} {P : Program} {w : World} {K : PySem.W.Frag} {mg : Str → Option Value} {h base : Heap} {ex : PySem.W.Frag → Bool}
theorem lookup_mem' {β α : Type} [BEq β] [LawfulBEq β] : ∀ {l : List (β × α)} {x : β} {z : α}, l.lookup x = some z → (x, z) ∈ l
  | [], _, _, h => by cases h
  | (y, u) :: r, x, z, h => by
    rw [List.lookup_cons] at h
    cases hb : x == y with
    | true =>
      rw [hb] at h
      have e : x = y := by simpa using hb
      have e2 : u = z := Option.some.inj h
      rw [e, e2]
      exact List.mem_cons_self
    | false => rw [hb] at h; exact List.mem_cons_of_mem _ (lookup_mem' h)
variable (X : K.In h) (Gm : h.Ns mainGlobals mg) (c : SaysX (faOf G (rows ++ spec) cs) ((rows ++ spec).map dOf) [] (tfOf rows) ex w h K)
include X Gm c
theorem t_nums : ∀ x z, G.nums.lookup x = some z → ∃ t, mg x = some (.int z t) := fun x z e => by
  refine He.int_ok X Gm (c.t.d.facts ?_)
  unfold faOf
  exact List.mem_append_right _ (List.mem_append_right _ (List.mem_append_right _ (List.mem_append_left _ (List.mem_map.mpr ⟨(x, z), lookup_mem' e, rfl⟩))))
theorem t_unt : ∀ x, G.unt.contains x = true → mg x = none := fun x e => by
  refine He.free_ok X Gm (c.t.d.facts ?_)
  unfold faOf
  exact List.mem_append_right _ (List.mem_append_right _ (List.mem_append_left _ (List.mem_map.mpr ⟨x, by simpa using e, rfl⟩)))
theorem t_cls {x : Str} (hx : x ∈ cs) : mg x = some (.ref (ga K x)) := by
  refine He.glo_ok X Gm (c.t.d.facts ?_)
  unfold faOf
  exact List.mem_append_right _ (List.mem_append_left _ (List.mem_map.mpr ⟨x, hx, rfl⟩))
theorem t_fn {r : DRow} (hr : r ∈ rows ++ spec) (hc : r.cls = none) : mg r.name = some (.ref (ga K r.name)) := by
  refine He.glo_ok X Gm (c.t.d.facts ?_)
  unfold faOf
  exact List.mem_append_left _ (List.mem_map.mpr ⟨r, hr, by unfold faR; rw [hc]⟩)
omit X Gm in
/-- a method, from the class's side -/
theorem t_meth {r : DRow} {cl : Str} (hr : r ∈ rows ++ spec) (hc : r.cls = some cl) : PySem.W.findIn K (.ref (ga K cl)) r.name = some (some (.ref (fAd K (cl, some r.name)))) ∧ PySem.W.isFn K (.ref (fAd K (cl, some r.name))) = true ∧ PySem.W.keepIn K (.ref (fAd K (cl, some r.name))) = true := by
  have f : (Fa.meth cl r.name).ok K = true := c.t.d.facts (by
    unfold faOf
    exact List.mem_append_left _ (List.mem_map.mpr ⟨r, hr, by unfold faR; rw [hc]⟩))
  obtain ⟨h1, h⟩ := He.ba f
  obtain ⟨h2, h3⟩ := He.ba h
  exact ⟨He.eqO_ok h1, h2, h3⟩
omit X Gm in
theorem t_defA {r : DRow} (hr : r ∈ rows ++ spec) : ∃ fd, FunD K r.name r.qual (defArgs r.st) (defBody r.st) (defScope r.st) [] [] (fAd K r.at_) fd := by
  obtain ⟨fd, F⟩ := c.t.d.defs (d := dOf r) (List.mem_map.mpr ⟨r, hr, rfl⟩)
  exact ⟨fd, F⟩
omit X Gm in
theorem t_def {r : DRow} (hr : r ∈ rows ++ spec) (hc : r.cls = none) : ∃ fd, FunD K r.name r.name (defArgs r.st) (defBody r.st) (defScope r.st) [] [] (ga K r.name) fd := by
  have h := t_defA c hr
  unfold DRow.qual DRow.at_ at h
  rw [hc] at h
  exact h
theorem t_exc (hcs : ∀ x ∈ exL G, x ∈ cs) : ∀ (k : Nat) (y : Str), G.excs.lookup k = some y → ExF (mkS P w K mg base G rows) k y := fun k y e => by
  have hy : y ∈ exL G := List.mem_map.mpr ⟨(k, y), lookup_mem' e, rfl⟩
  have ey : cxOf K G k = ga K y := cxOf_exc e
  obtain ⟨q1, q2, q3, q4⟩ := He.exc_ok (x := y) (c.t.d.facts (by
    unfold faOf
    exact List.mem_append_right _ (List.mem_append_right _ (List.mem_append_right _ (List.mem_append_right _ (List.mem_append_left _ (List.mem_map.mpr ⟨y, hy, rfl⟩)))))))
  refine ⟨_, _, _, _, PySem.F.excBase_ValueError, ?_, ?_, ?_, fun Y hY => ?_⟩
  · show PySem.W.excIn K (cxOf K G k) _ _ = true
    rw [ey]; exact q1
  · show mg y = some (.ref (cxOf K G k))
    rw [ey]; exact t_cls X Gm c (hcs y hy)
  · show PySem.W.keepIn K (.ref (cxOf K G k)) = true
    rw [ey]; exact q2
  · show Raises Y (.ref (cxOf K G k))
    rw [ey]
    exact raises_own (by rw [hY]; exact q3) (by rw [hY]; exact q4)
end
end Ev

/-! Top2: the defs keep their promises; the law's end. -/
namespace Ev
open PySem PySem.Spec PyProof.Rows L2
open LamX (Tabs)
open He (Fa DefD SaysX ga cT codeOf fAd)

section
variable {G : Gf} {rows spec : List DRow} {cs : List Str} {P : Program} {w : World} {K : PySem.W.Frag} {mg : Str → Option Value} {h base : Heap} {ex : PySem.W.Frag → Bool}
theorem tab_mem {r : DRow} (hr : r ∈ rows) (ht : r.fd.tab = true) : ((cT K (r.name, none)).2, qualIn r.name ++ r.tabn) ∈ TOf K rows := List.mem_map.mpr ⟨r, List.mem_filter.mpr ⟨hr, ht⟩, rfl⟩
theorem nodup_fst {α β : Type} : ∀ {l : List (α × β)}, (l.map (·.1)).Nodup → ∀ {p q : α × β}, p ∈ l → q ∈ l → p.1 = q.1 → p = q
  | [], _, _, _, h, _, _ => by cases h
  | a :: l, hn, p, q, hp, hq, e => by
    rw [List.map_cons, List.nodup_cons] at hn
    rcases List.mem_cons.mp hp with h1 | h1 <;> rcases List.mem_cons.mp hq with h2 | h2
    · rw [h1, h2]
    · exact absurd (List.mem_map.mpr ⟨q, h2, by rw [← e, h1]⟩) hn.1
    · exact absurd (List.mem_map.mpr ⟨p, h1, by rw [e, h2]⟩) hn.1
    · exact nodup_fst hn.2 h1 h2 e
variable (X : K.In h) (Gm : h.Ns mainGlobals mg) (c : SaysX (faOf G (rows ++ spec) cs) ((rows ++ spec).map dOf) [] (tfOf rows) ex w h K)
omit X Gm in
/-- a def with lambdas: its code object -/
theorem t_code {r : DRow} (hr : r ∈ rows) {fd : FuncData} (F : FunD K r.name r.name (defArgs r.st) (defBody r.st) (defScope r.st) [] [] (ga K r.name) fd) (ap : tabsApart K rows = true)
    (TB : ∀ r ∈ rows, r.fd.tab = true → LamX.TabB base mg (cT K (r.name, none)).1 (cT K (r.name, none)).2) (ht : r.fd.tab = true) :
    ∃ c P, fd.code = .ref c ∧ LamX.TabB base mg c P ∧ (P, qualIn r.name ++ r.tabn) ∈ TOf K rows ∧ ∀ p ∈ TOf K rows, p.1 = P → p.2 = qualIn r.name ++ r.tabn := by
  obtain ⟨oc, od, dV, kV, doc, pm, an, cdv, ct, osl, e, lk, hcd, _, _⟩ := F.ex
  obtain ⟨cc, ec⟩ := He.codeIn_ref hcd
  have e1 : fd.code = .ref cc := by rw [e]; exact ec
  have e2 : codeOf K (r.name, none) = cc := He.codeOf_eq (p := (r.name, none)) lk e1
  have tb := TB r hr ht
  refine ⟨cc, (cT K (r.name, none)).2, e1, ?_, tab_mem hr ht, fun p hp hq => ?_⟩
  · have e3 : (cT K (r.name, none)).1 = cc := e2
    rw [e3] at tb
    exact tb
  · have := nodup_fst (of_decide_eq_true ap) hp (tab_mem hr ht) hq
    rw [this]
include X Gm c in
theorem t_defOk {r : DRow} {fs : List Fd} (hr : r ∈ rows) (hcl : r.cls = none) (hc : chkRow G r = true) (hb : BindsP r ∧ ∀ n, r.nst = some n → BindsN n (headD (defBody r.st))) (hfs : ∀ n, r.nst = some n → fs[n.k]? = some n.fd) (ap : tabsApart K rows = true)
    (TB : ∀ r ∈ rows, r.fd.tab = true → LamX.TabB base mg (cT K (r.name, none)).1 (cT K (r.name, none)).2) : (DefOk G (mkS P w K mg base G rows) r.name r.fd ∧ r.nst = none) ∨ DefOkN G (mkS P w K mg base G rows) r.name r.fd fs := by
  obtain ⟨fd, F⟩ := t_def c (r := r) (List.mem_append_left _ hr) hcl
  unfold chkRow at hc
  simp only [Bool.and_eq_true, decide_eq_true_eq] at hc
  obtain ⟨⟨⟨h1, h2⟩, hNl⟩, h3⟩ := hc
  have tc := t_code hr F ap TB
  unfold DRow.tabn at tc
  cases hn : r.nst with
  | none =>
    rw [hn] at h3 tc
    exact .inl ⟨⟨_, fd, r.N, r.N.take r.fd.np, r.name, defArgs r.st, defBody r.st, defScope r.st, [], hNl, t_fn X Gm c (List.mem_append_left _ hr) hcl, F, F.bindsN (hb.1.at0 hcl), C8.fnScope_by h1, by rw [List.length_take]; omega, h3, tc⟩, rfl⟩
  | some n =>
    rw [hn] at h3 tc
    have hbn := hb.2 n hn
    have hfn := hfs n hn
    simp only [Bool.and_eq_true] at h3
    obtain ⟨ht, h3⟩ := h3
    split at h3
    · rename_i i k b st rest ebody est
      simp only [Bool.and_eq_true, decide_eq_true_eq] at h3
      obtain ⟨⟨⟨rfl, rfl⟩, h4⟩, h5⟩ := h3
      rw [est] at hbn
      exact .inr ⟨_, fd, r.N, r.N.take r.fd.np, r.name, defArgs r.st, defBody r.st, defScope r.st, [], n, st, rest, b, hNl, t_fn X Gm c (List.mem_append_left _ hr) hcl, F, F.bindsN (hb.1.at0 hcl), C8.fnScope_by h1, by rw [List.length_take]; omega, est, ebody, h4, h5, hbn, hfn, tc ht⟩
    · cases h3
/-- the law, told by its row -/
theorem law_ok {l : PySem.W.OpenLaw} {D n : Nat} {rL : DRow} {hx : Str} (X : K.In h) (Gm : h.Ns mainGlobals mg) (c : SaysX (faOf G (rows ++ spec) cs) ((rows ++ spec).map dOf) [] (tfOf rows) ex w h K) (hfn : G.fns = rows.map fun r => (r.ix, r.name)) {fs : List Fd} (hfs : AllF fs rows) (hL : rows[n]? = some rL) (hnm : rL.name = "law") (hnn : rL.nst = none) (hp : rL.N.take rL.fd.np = [hx])
    (hrc : ∀ r ∈ rows, r.cls = none) (hck : ∀ r ∈ rows, chkRow G r = true) (hb : AllB rows) (ap : tabsApart K rows = true) (hcs : ∀ x ∈ exL G, x ∈ cs) (hgp : ∀ r ∈ rows, r.fd.tab = true → mainGlobals ≠ (cT K (r.name, none)).2)
    {wz : Prop} (hwz : ∀ r ∈ rows, r.nst = none → r.fd.tab = true → wz) (wo : wz → ∀ (base : Heap), K.In base → base.Ns mainGlobals mg → (∀ r ∈ rows, r.fd.tab = true → LamX.TabB base mg (cT K (r.name, none)).1 (cT K (r.name, none)).2) → WordsOk G (mkS l.prog w K mg base G rows)) (ob : G.xcls ≠ [] → ∀ (base : Heap), ObsOk G (mkS l.prog w K mg base G rows)) {fa : Addr} (hfa : mg "law" = some (.ref fa))
    (law : ∀ ns : List Int, ns.length ≤ 63 → (∀ z ∈ ns, Builtin.Int.intBits z ≤ 1048576) → ∃ fuel M, callS (cfD fs fuel D) fuel rL.fd [.d (.list (ns.map .int))] [] = .ok (.v (.d (.bool true))) M) :
    LamX.LawAtS l w K (L2N.CX l.prog w) (4 * (D + 1) + 2) 63 hx mg fa h := by
  have hr : rL ∈ rows := List.mem_of_getElem? hL
  obtain ⟨fd, F⟩ := t_def c (r := rL) (List.mem_append_left _ hr) (hrc _ hr)
  have efa : fa = ga K "law" := by
    have e := t_fn X Gm c (r := rL) (List.mem_append_left _ hr) (hrc _ hr)
    rw [hnm, hfa] at e
    exact Value.ref.inj (Option.some.inj e)
  have hcL := hck rL hr
  unfold chkRow at hcL
  simp only [Bool.and_eq_true, decide_eq_true_eq] at hcL
  obtain ⟨⟨⟨g1, g2⟩, gN⟩, g3⟩ := hcL
  rw [hnn] at g3
  have np1 : rL.fd.np = 1 := by
    have := congrArg List.length hp
    rw [List.length_take] at this
    simp at this
    omega
  have tfm : ∀ p ∈ tfOf rows, ∃ r ∈ rows, r.fd.tab = true ∧ p = (r.name, none) := fun p hp => by
    obtain ⟨r, h1, h2⟩ := List.mem_map.mp hp
    exact ⟨r, (List.mem_filter.mp h1).1, (List.mem_filter.mp h1).2, h2.symm⟩
  refine ⟨fd, (tfOf rows).map (cT K), fun vs H Q E => ∀ base : Heap, ∃ fuel, spF (mkS l.prog w K mg base G rows) 1 (callS (cfD fs fuel D) fuel rL.fd) vs H Q E, ?_, ?_, ?_, ?_, ?_, ?_⟩
  · intro p hp
    obtain ⟨q, hq, rfl⟩ := List.mem_map.mp hp
    exact c.empty q hq
  · intro p hp
    obtain ⟨q, hq, rfl⟩ := List.mem_map.mp hp
    exact c.out q hq
  · intro p hp
    obtain ⟨q, hq, rfl⟩ := List.mem_map.mp hp
    exact PySem.W.codeHd_of_K X (c.hd q hq)
  · have b := FunD.bindsA F ((hb.at hr).1.at0 (hrc _ hr))
    intro s u
    have := b s [u] (by rw [hp]; rfl)
    rw [hp] at this
    exact this
  · intro H a ns hl hbits hT hS base
    obtain ⟨fuel, M, e⟩ := law ns hl hbits
    refine ⟨fuel, rfl, fun b => match H b with | some (.tbl _) => none | o => o, [], [], [.d (.list (ns.map .int))], ?_, ?_, ?_⟩
    · refine ⟨fun b o hb => ?_, fun b ps hb => ?_, rfl, fun _ _ _ z => (by simp at z), fun _ _ z => (by simp at z), fun _ _ z => (by simp at z), fun _ _ z => (by simp at z), fun p hp => ?_⟩
      · split at hb
        · cases hb
        · exact hb
      · split at hb
        · cases hb
        · rename_i h1
          exact h1 ps hb
      · obtain ⟨r, h1, rfl⟩ := List.mem_map.mp hp
        exact LamX.TabS.nil (hT (cT K (r.name, none)) (List.mem_map.mpr ⟨(r.name, none), List.mem_map.mpr ⟨r, h1, rfl⟩, rfl⟩))
    · refine .cons ?_ .nil
      show Dp (mkS l.prog w K mg base G rows).K _ (.ref a) (.list (ns.map .int))
      have q : ∀ o : HO, (∀ ps, o ≠ .tbl ps) → H a = some o → (fun b => match H b with | some (.tbl _) => none | o => o) a = some o := fun o ho e => by
        show (match H a with | some (.tbl _) => none | o => o) = some o
        rw [e]
        cases o <;> first | rfl | exact absurd rfl (ho _)
      refine Dp.lst (xs := ns.map V.int) ?_ (dpAll_ints ns)
      rcases hS with (hS | ⟨o, hS⟩) | hS
      · exact .inl (.inl (q _ (fun ps z => by cases z) hS))
      · exact .inl (.inr ⟨o, q _ (fun ps z => by cases z) hS⟩)
      · exact .inr hS
    · rw [e]
      intro v F' H' as' nx s' tr
      have tr : Dp (mkS l.prog w K mg base G rows).K F' v (.bool true) := tr
      cases tr
      rfl
  · intro base Xb Gb TB
    have TB' : ∀ r ∈ rows, r.fd.tab = true → LamX.TabB base mg (cT K (r.name, none)).1 (cT K (r.name, none)).2 := fun r hr ht =>
      TB (cT K (r.name, none)) (List.mem_map.mpr ⟨(r.name, none), List.mem_map.mpr ⟨r, List.mem_filter.mpr ⟨hr, ht⟩, rfl⟩, rfl⟩)
    have hD : ∀ (f : Nat) (x : Str), G.fns.lookup f = some x → ∃ fd, fs[f]? = some fd ∧ ((DefOk G (mkS l.prog w K mg base G rows) x fd ∧ (fd.tab = true → wz)) ∨ DefOkN G (mkS l.prog w K mg base G rows) x fd fs) := fun f x e => by
      rw [hfn] at e
      obtain ⟨r, hr, q⟩ := List.mem_map.mp (lookup_mem' e)
      have q1 : r.ix = f := congrArg Prod.fst q
      have q2 : r.name = x := congrArg Prod.snd q
      subst q1 q2
      refine ⟨r.fd, (hfs.at hr).1, ?_⟩
      rcases t_defOk (fs := fs) X Gm c hr (hrc _ hr) (hck r hr) (hb.at hr) (hfs.at hr).2 ap TB' with ⟨q, hq⟩ | q
      · exact .inl ⟨q, fun ht => hwz r hr hq ht⟩
      · exact .inr q
    have fn : ∀ fuel, FnOk l.prog w K mg base (L2N.CX l.prog w) (4 * (D + 1) + 2) (ga K rL.name) fd (rL.N.take rL.fd.np) (spF (mkS l.prog w K mg base G rows) (rL.N.take rL.fd.np).length (callS (cfD fs fuel D) fuel rL.fd)) := fun fuel =>
      fnOk_of gN (S := mkS l.prog w K mg base G rows) F (C8.fnScope_by g1) (by rw [List.length_take]; omega) g3 (by have q := t_code hr F ap TB'; unfold DRow.tabn at q; rw [hnn] at q; exact q) (fun f x hf => fnT_allN (G := G) hD (t_nums X Gm c) (t_unt X Gm c) ⟨t_exc X Gm c hcs, fun h => ob h base⟩ (fun z => wo z base Xb Gb TB') D f x hf) (t_nums X Gm c) (t_unt X Gm c) ⟨t_exc X Gm c hcs, fun h => ob h base⟩ fun ht => wo (hwz rL hr hnn ht) base Xb Gb TB'
    rw [hp, hnm] at fn
    rw [efa]
    refine ⟨fun vs H Q E q => (q base).choose_spec.1, fun A outer s H args us vs Q E hr he hbd hv hs => ?_⟩
    obtain ⟨fuel, q⟩ := hs base
    exact (fn fuel).run A outer s H args us vs Q E hr he hbd hv q
end
end Ev

/-! Top0: the head's Hook, with the table of the interpreter's own statics in K (a class is read there). -/
namespace Ev
open PySem PySem.Spec L2
open He (Fa DefD SaysX AlX AlT Tab Defn asD frT frT_in frT_none obsT valT valX tabsB cT emptyTab emptyTab_eq ba)
def asS (g : Addr → Option Obj) (n : Nat) : List Addr := asD g n ++ [cStatics]
def obsS (n : Nat) (fa : List Fa) (fn : List DefD) (ts : List Tab) (tf : List Defn) (ex : PySem.W.Frag → Bool) (g : Addr → Option Obj) : AlX := (obsT fa fn ts (frT g (asS g n)), ex (frT g (asS g n)) && tabsB g tf (frT g (asS g n)))
theorem saysS_of {n : Nat} {fa : List Fa} {fn : List DefD} {ts : List Tab} {tf : List Defn} {ex : PySem.W.Frag → Bool} {w : World} {h : Heap} (e : obsS n fa fn ts tf ex h.get? = valX fn ts w) : SaysX fa fn ts tf ex w h (frT h.get? (asS h.get? n)) := by
  have e1 : obsT fa fn ts (frT h.get? (asS h.get? n)) = valT fn ts w := congrArg (fun z : AlX => z.1) e
  have e2 : (ex (frT h.get? (asS h.get? n)) && tabsB h.get? tf (frT h.get? (asS h.get? n))) = true := congrArg (fun z : AlX => z.2) e
  obtain ⟨h1, h2⟩ := ba e2
  have key : ∀ p ∈ tf, PySem.W.codeHdIn (frT h.get? (asS h.get? n)) (cT (frT h.get? (asS h.get? n)) p).1 (cT (frT h.get? (asS h.get? n)) p).2 = true ∧ ∃ o, h.get? (cT (frT h.get? (asS h.get? n)) p).2 = some o ∧ emptyTab o = true := fun p hp => by
    obtain ⟨h3, h4⟩ := ba (List.all_eq_true.mp h2 p hp)
    refine ⟨h3, ?_⟩
    cases q : h.get? (cT (frT h.get? (asS h.get? n)) p).2 with
    | none =>
      rw [q] at h4
      cases h4
    | some o =>
      rw [q] at h4
      exact ⟨o, rfl, h4⟩
  exact ⟨e1, h1, fun p hp => (key p hp).1, fun p hp => by
    obtain ⟨_, o, q, z⟩ := key p hp
    exact frT_none q z, fun p hp => by
    obtain ⟨_, o, q, z⟩ := key p hp
    rw [q, emptyTab_eq z]⟩
def hookS (n : Nat) (fa : List Fa) (fn : List DefD) (ts : List Tab) (tf : List Defn) (ex : PySem.W.Frag → Bool) : PySem.W.Hook where
  α := AlX
  obs := fun s => obsS n fa fn ts tf ex s.heap.get?
  val := fun w => valX fn ts w
  says := fun w h => ∃ K : PySem.W.Frag, K.In h ∧ SaysX fa fn ts tf ex w h K
  of := fun _ _ e => ⟨_, frT_in, saysS_of e⟩
  keeps := fun _ _ _ ⟨K, hK, c⟩ k => ⟨K, PySem.W.Frag.In.keeps hK k, ⟨c.t, c.more, c.hd, c.out, fun p hp => k _ _ (c.empty p hp)⟩⟩
theorem obsS_eq {n : Nat} {fa : List Fa} {fn : List DefD} {ts : List Tab} {tf : List Defn} {ex : PySem.W.Frag → Bool} {g : Addr → Option Obj} {s : Shared} (h : ∀ a, g a = s.heap.get? a) : obsS n fa fn ts tf ex g = (hookS n fa fn ts tf ex).obs s := by
  have e : g = s.heap.get? := funext h
  rw [e] <;> rfl
end Ev

/-! Top3: _law_word and _law_kind from the head's facts. -/
namespace Ev
open PySem PySem.Spec PyProof.Rows L2
open LamX (Tabs)
open He (Fa DefD SaysX ga cT codeOf fAd eqO eqO_ok)
open Hx (KFacts WFacts kBody wBody trueWords NW NK)

def excCB (K : PySem.W.Frag) (D : Addr) : Bool :=
  eqO (PySem.W.findIn K (.ref D) "__getattribute__") (some (some (.builtin "BaseException.__getattribute__"))) && (eqO (PySem.W.findIn K (.ref D) "__getattr__") (some none) && (decide (PySem.W.subIn K (.ref D) (.type "BaseException") = some true) && (PySem.W.hasDictIn K D && (eqO (PySem.W.findIn K (.ref D) "__class__") (some (some (.builtin "object.__class__"))) &&
    (eqO (PySem.W.specialIn K (.builtin "object.__class__") "__get__") (some (some (.builtin "getset_descriptor.__get__"))) && (decide (PySem.W.takesIn K (.builtin "object.__class__") = some true) && decide (PySem.W.mroIn K D (.type "object") = some true)))))))
theorem excCB_ok {K : PySem.W.Frag} {D : Addr} (h : excCB K D = true) : ExcC K D := by
  unfold excCB at h
  obtain ⟨h1, h⟩ := He.ba h
  obtain ⟨h2, h⟩ := He.ba h
  obtain ⟨h3, h⟩ := He.ba h
  obtain ⟨h4, h⟩ := He.ba h
  obtain ⟨h5, h⟩ := He.ba h
  obtain ⟨h6, h⟩ := He.ba h
  obtain ⟨h7, h8⟩ := He.ba h
  exact ⟨eqO_ok h1, eqO_ok h2, of_decide_eq_true h3, h4, eqO_ok h5, eqO_ok h6, of_decide_eq_true h7, of_decide_eq_true h8⟩
/-- errors as values: what is asked of K -/
def exFactB (K : PySem.W.Frag) (C : Addr) : Bool := excCB K C && ((["int", "bool", "tuple", "str", "list"] : List String).all (fun T => decide (PySem.W.kitOne K (.ref C) (.type T) = some false)) && (eqO (PySem.W.findIn K (.ref C) "__str__") (some (some (.builtin "BaseException.__str__"))) && eqO (PySem.W.findIn K (.ref C) "limit") (some none)))
theorem exFactB_ok {K : PySem.W.Frag} {C : Addr} (h : exFactB K C = true) : ExFact K C := by
  unfold exFactB at h
  obtain ⟨h1, h⟩ := He.ba h
  obtain ⟨h2, h⟩ := He.ba h
  obtain ⟨h3, h4⟩ := He.ba h
  refine ⟨excCB_ok h1, fun T hT => ?_, eqO_ok h3, eqO_ok h4⟩
  rw [List.all_eq_true] at h2
  exact of_decide_eq_true (h2 T (by simpa using hT))
def oexB (K : PySem.W.Frag) (C : Addr) : Bool := (match K.lookup C with
  | some ⟨.type "type", _, .cls cd, sl⟩ => (match cd.mro, sl.toList with
    | .ref C' :: bm, [_, _, _, _, some (.builtin n), _] => C' == C && n == "ValueError.__new__" && !cd.hasDel && cd.hasDict && PySem.HandSPX.refsVE bm
    | _, _ => false)
  | _ => false) && (eqO (PySem.W.findIn K (.ref C) "__setattr__") (some (some (.builtin "object.__setattr__"))) && (decide (PySem.W.subIn K (.ref C) (.type "BaseException") = some true) && (decide (PySem.W.typeIn K (.ref C) = some (.type "type")) && PySem.W.keepIn K (.ref C))))
theorem oexB_ok {K : PySem.W.Frag} {C : Addr} (h : oexB K C = true) : OexC K C := by
  unfold oexB at h
  obtain ⟨q, h⟩ := He.ba h
  obtain ⟨h2, h⟩ := He.ba h
  obtain ⟨h3, h⟩ := He.ba h
  obtain ⟨h4, h5⟩ := He.ba h
  refine ⟨?_, eqO_ok h2, of_decide_eq_true h3, of_decide_eq_true h4, h5⟩
  split at q
  · rename_i dd cd sl ho
    split at q
    · rename_i C' bm k0 k1 k2 k3 n k5 hm hs
      simp only [Bool.and_eq_true, beq_iff_eq, Bool.not_eq_true'] at q
      obtain ⟨⟨⟨⟨rfl, rfl⟩, hdel⟩, hdi⟩, ht⟩ := q
      obtain ⟨nm, bs, mro, ns, qn, hd, sn, sub, ab, col, del⟩ := cd
      dsimp only at hm hdel hdi
      subst hm hdel hdi
      have hsl : sl = #[k0, k1, k2, k3, some (.builtin "ValueError.__new__"), k5] := by
        obtain ⟨l⟩ := sl
        simp only at hs
        rw [hs]
      subst hsl
      exact ⟨nm, qn, ns, bs, bm, sn, sub, ab, col, dd, k0, k1, k2, k3, k5, ho, ht⟩
    · cases q
  · cases q
def baseB (K : PySem.W.Frag) (T : Addr) : Bool := eqO (PySem.W.specialIn K (.ref T) "__getattribute__") (some (some (.builtin "type.__getattribute__"))) && (PySem.W.readsIn K T (.type "type") && (match PySem.W.findCls K (.ref T) (.type "type") "__init__" with
  | some (.val (.builtin n)) => n == "ValueError.__init__"
  | _ => false))
theorem baseB_ok {K : PySem.W.Frag} {T : Addr} (h : baseB K T = true) : BaseI K T (.type "type") := by
  unfold baseB at h
  obtain ⟨h1, h⟩ := He.ba h
  obtain ⟨h2, h3⟩ := He.ba h
  refine ⟨eqO_ok h1, h2, ?_⟩
  split at h3
  · rename_i n e
    rw [e, beq_iff_eq.mp h3]
  · cases h3
def obB (G : Gf) (K : PySem.W.Frag) : Bool := G.xcls.isEmpty || (((G.excs ++ G.xcls).all fun p => exFactB K (cxOf K G p.1) && (((G.excs ++ G.xcls).all fun q => decide (PySem.W.kitOne K (.ref (cxOf K G p.1)) (.ref (cxOf K G q.1)) = some (exSub p.1 q.1))) && decide (PySem.W.kitOne K (.ref (cxOf K G p.1)) (.type "ValueError") = some (exSub p.1 18)))) &&
  (!decide (G.xcls.lookup 16 = some ("TooMany" : Str)) || (oexB K (cxOf K G 16) && baseB K (ga K "TermError"))))
/-- what is asked of K beside the head's own facts; r: the pairs of _law_kind's text -/
def exB (G : Gf) (rows : List DRow) (r : List (Str × Str)) (K : PySem.W.Frag) : Bool := tabsApart K rows && (rows.all fun q => !q.fd.tab || decide (mainGlobals ≠ (cT K (q.name, none)).2)) &&
  ((G.words.isEmpty || (exL G).all fun x => excCB K (ga K x) && r.all fun q => decide (PySem.W.kitOne K (.ref (ga K x)) (.ref (ga K q.2)) = some (x == q.2))) && obB G K)
/-- the words are the pairs' -/
def wordsB (G : Gf) (r : List (Str × Str)) : Bool := decide (G.words.length ≤ (exL G).length) && ((List.range G.words.length).all fun k => decide (G.excs.lookup k = (exL G)[k]?)) && (((exL G).zip G.words).all fun q => decide (PySem.Txt.join (" " : Str) (trueWords (fun c => q.1 == c) r) = q.2) && decide (((trueWords (fun c => q.1 == c) r).map (·.length)).sum + (trueWords (fun c => q.1 == c) r).length * 1 ≤ 16777216))
def rowW (st : Stmt) : DRow := ⟨0, "_law_word", NW, { n := NW.length, np := 1, body := .nil }, st, none, none⟩
def rowK (st : Stmt) : DRow := ⟨0, "_law_kind", NK, { n := NK.length, np := 1, body := .nil }, st, none, none⟩
/-- the texts of the two -/
def kindB (cs : List Str) (st : Stmt) (r : List (Str × Str)) : Bool := C8.scC NK ["_law_e"] (defScope st) && decide (kBody "_law_e" "_law_some" ⟨NK, defScope st, fun _ => true, false, []⟩ 1 2 3 (defBody st) = some r) && decide (r.length ≤ 1000) && isVis ⟨NK, defScope st, fun _ => true, false, []⟩ "_law_e" &&
  isGl ⟨NK, defScope st, fun _ => true, false, []⟩ "isinstance" && decide (kOf ⟨NK, defScope st, fun _ => true, false, []⟩ "_law_some" = some .local) && r.all fun q => isGl ⟨NK, defScope st, fun _ => true, false, []⟩ q.2 && plainName q.2 && cs.contains q.2
def wordB (st : Stmt) : Bool := C8.scC NW ["_law_call"] (defScope st) && wBody ⟨NW, defScope st, fun _ => true, false, []⟩ (defBody st) && isVis ⟨NW, defScope st, fun _ => true, false, []⟩ "_law_call"
section
variable {G : Gf} {rows : List DRow} {cs : List Str} {P : Program} {w : World} {K : PySem.W.Frag} {mg : Str → Option Value} {h base : Heap} {r : List (Str × Str)} {sW sK : Stmt}
theorem zip_at {α β : Type} : ∀ {l : List α} {m : List β} {k : Nat} {z : β}, m[k]? = some z → m.length ≤ l.length → ∃ x, l[k]? = some x ∧ (x, z) ∈ l.zip m
  | [], [], _, _, h, _ => by simp at h
  | [], _ :: _, _, _, _, h => by simp at h
  | x :: l, [], _, _, h, _ => by simp at h
  | x :: l, y :: m, 0, z, h, _ => ⟨x, rfl, by simp at h; rw [h]; exact List.mem_cons_self⟩
  | x :: l, y :: m, k + 1, z, h, hl => by
    obtain ⟨u, h1, h2⟩ := zip_at (l := l) (m := m) (k := k) (by simpa using h) (by simpa using hl)
    exact ⟨u, by simpa using h1, List.mem_cons_of_mem _ h2⟩
theorem wfacts (X : K.In h) (Gm : h.Ns mainGlobals mg) (c : SaysX (faOf G (rows ++ [rowW sW, rowK sK]) cs) ((rows ++ [rowW sW, rowK sK]).map dOf) [] (tfOf rows) (exB G rows r) w h K)
    (hw : wordsB G r = true) (hne : G.words.isEmpty = false) (hk : kindB cs sK r = true) (hwd : wordB sW = true) (hbW : BindsP (rowW sW)) (hbK : BindsP (rowK sK)) (hcs : ∀ x ∈ exL G, x ∈ cs) (hTM : ("TooMany" : Str) ∈ cs) (hTE : ("TermError" : Str) ∈ cs) (hin : G.unt.contains "isinstance" = true) : WFacts G (mkS P w K mg base G rows) := by
  have mW : rowW sW ∈ rows ++ [rowW sW, rowK sK] := by simp
  have mK : rowK sK ∈ rows ++ [rowW sW, rowK sK] := by simp
  obtain ⟨fW, FW⟩ := t_def c mW rfl
  obtain ⟨fK, FK⟩ := t_def c mK rfl
  have gW := t_fn X Gm c mW rfl
  have gK := t_fn X Gm c mK rfl
  have bW := FW.bindsN hbW
  have bK := FK.bindsN hbK
  have kpW := FW.kp
  have kpK := FK.kp
  obtain ⟨ocW, odW, dVW, kVW, docW, pmW, anW, cdvW, ctW, oslW, rfl, lkW, hcdW, _, _⟩ := FW.ex
  obtain ⟨ocK, odK, dVK, kVK, docK, pmK, anK, cdvK, ctK, oslK, rfl, lkK, hcdK, _, _⟩ := FK.ex
  unfold kindB at hk
  simp only [Bool.and_eq_true, decide_eq_true_eq, List.all_eq_true] at hk
  obtain ⟨⟨⟨⟨⟨⟨k1, k2⟩, k3⟩, k4⟩, k5⟩, k6⟩, k7⟩ := hk
  unfold wordB at hwd
  simp only [Bool.and_eq_true] at hwd
  obtain ⟨⟨w1, w2⟩, w3⟩ := hwd
  unfold wordsB at hw
  simp only [Bool.and_eq_true, decide_eq_true_eq, List.all_eq_true] at hw
  obtain ⟨⟨w4, w6⟩, w5⟩ := hw
  have em := c.more
  unfold exB at em
  simp only [Bool.and_eq_true, hne, Bool.false_or, List.all_eq_true, decide_eq_true_eq] at em
  obtain ⟨_, e2, _⟩ := em
  have ekx : ∀ (k : Nat) (z : Str), G.words[k]? = some z → ∃ x, G.excs.lookup k = some x ∧ (x, z) ∈ (exL G).zip G.words ∧ x ∈ exL G ∧ (mkS P w K mg base G rows).cx k = ga K x := fun k z hz => by
    obtain ⟨x, h1, h2⟩ := zip_at hz w4
    have hk : k < G.words.length := (List.getElem?_eq_some_iff.mp hz).1
    have h3 : G.excs.lookup k = some x := by rw [w6 k (List.mem_range.mpr hk)]; exact h1
    refine ⟨x, h3, h2, List.mem_of_getElem? h1, ?_⟩
    exact cxOf_exc h3
  refine ⟨⟨ga K "_law_kind", ocK, odK, dVK, kVK, docK, pmK, anK, cdvK, ctK, oslK, defArgs sK, defBody sK, defScope sK, r, lkK, hcdK, gK, kpK, bK, C8.fnScope_by k1, k2, k3, k4, k5, t_unt X Gm c "isinstance" hin, k6, fun k z hz => ?_⟩,
    ga K "_law_word", ocW, odW, dVW, kVW, docW, pmW, anW, cdvW, ctW, oslW, defArgs sW, defBody sW, defScope sW, ga K "TooMany", ga K "TermError", lkW, hcdW, gW, kpW, bW, C8.fnScope_by w1, w2, w3, t_cls X Gm c hTM, t_cls X Gm c hTE, fun k z hz => ?_⟩
  · obtain ⟨x, h1, h2, h3, h4⟩ := ekx k z hz
    obtain ⟨e3, e4⟩ := e2 x h3
    obtain ⟨q1, q2⟩ := w5 (x, z) h2
    rw [h4]
    refine ⟨excCB_ok e3, fun cc => x == cc, fun q hq => ?_, q2, q1⟩
    have kq := k7 q hq
    refine ⟨ga K q.2, kq.1.1, t_cls X Gm c (by simpa using kq.2), kq.1.2, e4 q hq⟩
  · obtain ⟨x, h1, h2, h3, h4⟩ := ekx k z hz
    rw [h4]
    have f1 : Fa.exm x "TooMany" false ∈ faOf G (rows ++ [rowW sW, rowK sK]) cs := by
      unfold faOf
      rw [hne]
      exact List.mem_append_right _ (List.mem_append_right _ (List.mem_append_right _ (List.mem_append_right _ (List.mem_append_right _ (List.mem_append_left _ (List.mem_map.mpr ⟨x, h3, rfl⟩))))))
    have f2 : Fa.exm x "TermError" true ∈ faOf G (rows ++ [rowW sW, rowK sK]) cs := by
      unfold faOf
      rw [hne]
      exact List.mem_append_right _ (List.mem_append_right _ (List.mem_append_right _ (List.mem_append_right _ (List.mem_append_right _ (List.mem_append_right _ (List.mem_map.mpr ⟨x, h3, rfl⟩))))))
    exact ⟨of_decide_eq_true (c.t.d.facts f1), of_decide_eq_true (c.t.d.facts f2)⟩
/-- errors as values, from the head -/
theorem obs_ok {rI : DRow} {NI : List Str} (X : K.In h) (Gm : h.Ns mainGlobals mg) {spec : List DRow} (c : SaysX (faOf G (rows ++ spec) cs) ((rows ++ spec).map dOf) [] (tfOf rows) (exB G rows r) w h K)
    (hne : G.xcls.isEmpty = false) (h16 : G.xcls.lookup 16 = some ("TooMany" : Str) → (G.excs ++ G.xcls).lookup 16 = some ("TooMany" : Str)) (hcs : ∀ p ∈ G.excs ++ G.xcls, p.2 ∈ cs) (hcs2 : ∀ x ∈ exL G, x ∈ cs) (hTE : ("TermError" : Str) ∈ cs) (hstr : G.unt.contains "str" = true)
    (hI : rI ∈ rows ++ spec) (hIc : rI.cls = some ("TooMany" : Str)) (hIn : rI.name = "__init__") (hIb : BindsP rI) (hIN : rI.N.take rI.fd.np = ([("self" : Str), ("limit" : Str)] : List Str)) (hIs : C8.scC ["self", "limit"] ["self", "limit"] (defScope rI.st) = true) (hIt : initB (defScope rI.st) (defBody rI.st) = true) (hIl : strLen (defBody rI.st) ≤ 1000) :
    ObsOk G (mkS P w K mg base G rows) := by
  have em := c.more
  unfold exB at em
  simp only [Bool.and_eq_true] at em
  have ob := em.2.2
  unfold obB at ob
  rw [hne, Bool.false_or, Bool.and_eq_true, List.all_eq_true] at ob
  obtain ⟨o1, o2⟩ := ob
  have mem : ∀ k y, (G.excs ++ G.xcls).lookup k = some y → (k, y) ∈ G.excs ++ G.xcls ∧ cxOf K G k = ga K y := fun k y e => ⟨lookup_mem' e, by unfold cxOf; rw [e]; rfl⟩
  have fact : ∀ k y, (G.excs ++ G.xcls).lookup k = some y → ExFact K (cxOf K G k) ∧ (∀ j z, (G.excs ++ G.xcls).lookup j = some z → PySem.W.kitOne K (.ref (cxOf K G k)) (.ref (cxOf K G j)) = some (exSub k j)) ∧ PySem.W.kitOne K (.ref (cxOf K G k)) (.type "ValueError") = some (exSub k 18) := fun k y e => by
    have q := o1 _ (mem k y e).1
    obtain ⟨q1, q⟩ := He.ba q
    obtain ⟨q2, q3⟩ := He.ba q
    rw [List.all_eq_true] at q2
    exact ⟨exFactB_ok q1, fun j z ej => of_decide_eq_true (q2 _ (mem j z ej).1), of_decide_eq_true q3⟩
  refine ⟨fun F v kvs => Iff.rfl, fun k y e => ⟨(fact k y e).1, ?_⟩, t_exc X Gm c hcs2, fun k j y z e ej => (fact k y e).2.1 j z ej, fun k y e => (fact k y e).2.2, fun ht => ?_⟩
  · show mg y = some (.ref (cxOf K G k))
    rw [(mem k y e).2]
    exact t_cls X Gm c (hcs _ (mem k y e).1)
  · rw [ht] at o2
    rw [decide_eq_true rfl, Bool.not_true, Bool.false_or, Bool.and_eq_true] at o2
    have e16 := (mem 16 _ (h16 ht)).2
    obtain ⟨fd, F⟩ := t_defA c hI
    have hq : rI.qual = "TooMany.__init__" := by unfold DRow.qual; rw [hIc, hIn]; decide +kernel
    have ha : rI.at_ = (("TooMany" : Str), some ("__init__" : Str)) := by unfold DRow.at_; rw [hIc, hIn]
    obtain ⟨m1, m2, m3⟩ := t_meth c hI hIc
    have bn := F.bindsN hIb
    rw [hq, ha, hIn] at F
    rw [hIn] at m1 m2
    rw [hIN] at bn
    refine ⟨⟨fAd K (("TooMany" : Str), some ("__init__" : Str)), fd, oexB_ok o2.1, ?_, beq_iff_eq.mp m2, init_ok F (C8.fnScope_by hIs) hIt hIl (t_cls X Gm c hTE) (t_unt X Gm c "str" hstr) (baseB_ok o2.2), bn, ?_⟩⟩
    · show PySem.W.findIn K (.ref (cxOf K G 16)) "__init__" = _
      rw [e16]
      exact m1
    · show mg "TooMany" = some (.ref (cxOf K G 16))
      rw [e16]
      exact t_cls X Gm c (hcs _ (mem 16 _ (h16 ht)).1)
end
end Ev

/-! C0: the defs that several laws share, in the small language. Printed by wip/gencom.py. -/
namespace C
open PySem Ev
def wds : List PySem.Str := [("table" : PySem.Str), ("base" : PySem.Str), ("sides" : PySem.Str), ("row" : PySem.Str), ("term" : PySem.Str), ("way" : PySem.Str), ("side" : PySem.Str), ("number" : PySem.Str), ("slices" : PySem.Str), ("open" : PySem.Str), ("facts" : PySem.Str), ("place" : PySem.Str), ("figure" : PySem.Str), ("text" : PySem.Str), ("unlike" : PySem.Str), ("undo" : PySem.Str)]
def f_is_int : Fd := ⟨3, 3, (.seq (.ret (.and_ (.isi (.v 0) .int) (.and_ (.not_ (.isi (.v 0) .bool)) (.chn .le .le (.v 1) (.v 0) (.v 2))))) .nil), false⟩
def f_size_of : Fd := ⟨1, 1, (.seq (.ret (.bin .mul (.bin .mul (.ix (.v 0) (.k (.int 0))) (.ix (.v 0) (.k (.int 1)))) (.ix (.v 0) (.k (.int 2))))) .nil), false⟩
def f_are_sides : Fd := ⟨3, 2, (.seq (.ite (.or_ (.not_ (.isi (.v 1) .tuple)) (.or_ (.cmp .ne (.bi .len (.cons (.v 1) .nil)) (.k (.int 3))) (.cmp .ne (.lc [2] (.cf (.nm 2) (.it .val (.cons (.v 1) .nil)) (.not_ (.call 0 (.cons (.v 2) (.cons (.k (.int 2)) (.cons (.k (.int 3)) .nil))))) (.cy (.v 2)))) (.lst .nil)))) (.seq (.ret (.k (.bool false))) .nil) .nil) (.seq (.ret (.ite (.cmp .eq (.v 0) (.k (.int 3))) (.cmp .eq (.v 1) (.tup (.cons (.k (.int 2)) (.cons (.k (.int 2)) (.cons (.k (.int 2)) .nil))))) (.cmp .le (.call 1 (.cons (.v 1) .nil)) (.g "MOST_ENTRIES" 18)))) .nil)), false⟩
def f_are_figures : Fd := ⟨4, 3, (.seq (.ite (.or_ (.not_ (.isi (.v 1) .tuple)) (.cmp .ne (.bi .len (.cons (.v 1) .nil)) (.v 2))) (.seq (.ret (.k (.bool false))) .nil) .nil) (.seq (.ret (.cmp .eq (.lc [3] (.cf (.nm 3) (.it .val (.cons (.v 1) .nil)) (.not_ (.call 0 (.cons (.v 3) (.cons (.k (.int 0)) (.cons (.bin .sub (.v 0) (.k (.int 1))) .nil))))) (.cy (.v 3)))) (.lst .nil))) .nil)), false⟩
def f_is_row : Fd := ⟨4, 3, (.seq (.ret (.and_ (.call 3 (.cons (.v 0) (.cons (.v 1) (.cons (.v 2) .nil)))) (.cmp .ne (.lc [3] (.cf (.nm 3) (.it .val (.cons (.v 1) .nil)) (.cmp .ne (.v 3) (.k (.int 0))) (.cy (.v 3)))) (.lst .nil)))) .nil), false⟩
def f_is_plain : Fd := ⟨2, 1, (.seq (.ret (.cmp .eq (.ix (.lc [1] (.cf (.nm 1) (.it .val (.cons (.v 0) .nil)) (.cmp .ne (.v 1) (.k (.int 0))) (.cy (.v 1)))) (.k (.int 0))) (.k (.int 1)))) .nil), false⟩
def f_is_table_so : Fd := ⟨1, 1, (.seq (.ite (.or_ (.not_ (.isi (.v 0) .tuple)) (.or_ (.cmp .ne (.bi .len (.cons (.v 0) .nil)) (.k (.int 3))) (.not_ (.call 0 (.cons (.ix (.v 0) (.k (.int 0))) (.cons (.k (.int 2)) (.cons (.k (.int 3)) .nil))))))) (.seq (.ret (.k (.bool false))) .nil) .nil) (.seq (.ret (.and_ (.call 2 (.cons (.ix (.v 0) (.k (.int 0))) (.cons (.ix (.v 0) (.k (.int 1))) .nil))) (.call 3 (.cons (.ix (.v 0) (.k (.int 0))) (.cons (.ix (.v 0) (.k (.int 2))) (.cons (.call 1 (.cons (.ix (.v 0) (.k (.int 1))) .nil)) .nil)))))) .nil)), false⟩
def f_are_rows : Fd := ⟨5, 3, (.seq (.ite (.or_ (.not_ (.isi (.v 2) .tuple)) (.cmp .ne (.bi .len (.cons (.v 2) .nil)) (.k (.int 3)))) (.seq (.ret (.k (.bool false))) .nil) .nil) (.seq (.ret (.cmp .eq (.lc [3, 4] (.cf (.tp (.cons (.nm 3) (.cons (.nm 4) .nil))) (.it .zip (.cons (.v 2) (.cons (.v 1) .nil))) (.not_ (.call 4 (.cons (.v 0) (.cons (.v 3) (.cons (.v 4) .nil))))) (.cy (.k (.int 1))))) (.lst .nil))) .nil)), false⟩
def f_is_term_so : Fd := ⟨3, 3, (.seq (.ret (.and_ (.call 7 (.cons (.v 0) (.cons (.v 1) (.cons (.v 2) .nil)))) (.and_ (.call 5 (.cons (.ix (.v 2) (.k (.int 0))) .nil)) (.call 5 (.cons (.ix (.v 2) (.k (.int 1))) .nil))))) .nil), false⟩
def f_need_base : Fd := ⟨1, 1, (.seq (.ite (.not_ (.call 0 (.cons (.v 0) (.cons (.k (.int 2)) (.cons (.k (.int 3)) .nil))))) (.seq (.rse 1) .nil) .nil) .nil), false⟩
def f_need_sides : Fd := ⟨2, 2, (.seq (.ite (.not_ (.call 2 (.cons (.v 0) (.cons (.v 1) .nil)))) (.seq (.rse 2) .nil) .nil) .nil), false⟩
def f_need_term : Fd := ⟨3, 3, (.seq (.ite (.not_ (.call 8 (.cons (.v 0) (.cons (.v 1) (.cons (.v 2) .nil))))) (.seq (.rse 4) .nil) .nil) .nil), false⟩
def f_rows_of : Fd := ⟨6, 2, (.seq (.set 2 (.lst (.cons (.tup .nil) .nil))) (.seq (.for_ (.nm 3) (.it .rng1 (.cons (.v 1) .nil)) (.seq (.set 2 (.lc [4, 5] (.cf (.nm 4) (.it .val (.cons (.v 2) .nil)) .nil (.cf (.nm 5) (.it .rng1 (.cons (.v 0) .nil)) .nil (.cy (.bin .add (.v 4) (.tup (.cons (.v 5) .nil)))))))) .nil)) (.seq (.ret (.sl (.v 2) (.k (.int 1)) .nil)) .nil))), false⟩
def f_terms_of : Fd := ⟨8, 2, (.seq (.set 2 (.lc [4] (.cf (.nm 4) (.it .val (.cons (.call 12 (.cons (.v 0) (.cons (.ix (.v 1) (.k (.int 0))) .nil))) .nil)) (.call 5 (.cons (.v 4) .nil)) (.cy (.v 4))))) (.seq (.set 3 (.lc [4] (.cf (.nm 4) (.it .val (.cons (.call 12 (.cons (.v 0) (.cons (.ix (.v 1) (.k (.int 1))) .nil))) .nil)) (.call 5 (.cons (.v 4) .nil)) (.cy (.v 4))))) (.seq (.ret (.lc [5, 6, 7] (.cf (.nm 5) (.it .val (.cons (.v 2) .nil)) .nil (.cf (.nm 6) (.it .val (.cons (.v 3) .nil)) .nil (.cf (.nm 7) (.it .val (.cons (.call 12 (.cons (.v 0) (.cons (.ix (.v 1) (.k (.int 2))) .nil))) .nil)) .nil (.cy (.tup (.cons (.v 5) (.cons (.v 6) (.cons (.v 7) .nil)))))))))) .nil))), false⟩
def f_entries_of : Fd := ⟨8, 2, (.seq (.tgt (.tp (.cons (.nm 2) (.cons (.nm 3) (.cons (.nm 4) .nil)))) (.v 1)) (.seq (.ret (.bi .tuple (.cons (.lc [5, 6, 7] (.cf (.nm 5) (.it .val (.cons (.v 2) .nil)) .nil (.cf (.nm 6) (.it .val (.cons (.v 3) .nil)) .nil (.cf (.nm 7) (.it .val (.cons (.v 4) .nil)) .nil (.cy (.bin .mod (.bin .mul (.bin .mul (.v 5) (.v 6)) (.v 7)) (.v 0))))))) .nil))) .nil)), false⟩
def f_plus : Fd := ⟨5, 3, (.seq (.ret (.bi .tuple (.cons (.lc [3, 4] (.cf (.tp (.cons (.nm 3) (.cons (.nm 4) .nil))) (.it .zip (.cons (.v 1) (.cons (.v 2) .nil))) .nil (.cy (.bin .mod (.bin .add (.v 3) (.v 4)) (.v 0))))) .nil))) .nil), false⟩
def f_sum_of : Fd := ⟨5, 3, (.seq (.set 3 (.bin .mul (.tup (.cons (.k (.int 0)) .nil)) (.call 1 (.cons (.v 1) .nil)))) (.seq (.for_ (.nm 4) (.it .val (.cons (.v 2) .nil)) (.seq (.set 3 (.call 15 (.cons (.v 0) (.cons (.v 3) (.cons (.call 14 (.cons (.v 0) (.cons (.v 4) .nil))) .nil))))) .nil)) (.seq (.ret (.v 3)) .nil))), false⟩
def f_is_table : Fd := ⟨1, 1, (.seq (.ret (.call 6 (.cons (.v 0) .nil))) .nil), false⟩
def f_is_term : Fd := ⟨3, 3, (.seq (.drop (.call 9 (.cons (.v 0) .nil))) (.seq (.drop (.call 10 (.cons (.v 0) (.cons (.v 1) .nil)))) (.seq (.ret (.call 8 (.cons (.v 0) (.cons (.v 1) (.cons (.v 2) .nil))))) .nil))), false⟩
def f_all_terms : Fd := ⟨2, 2, (.seq (.drop (.call 9 (.cons (.v 0) .nil))) (.seq (.drop (.call 10 (.cons (.v 0) (.cons (.v 1) .nil)))) (.seq (.ret (.call 13 (.cons (.v 0) (.cons (.v 1) .nil)))) .nil))), false⟩
def f_total : Fd := ⟨4, 3, (.seq (.drop (.call 9 (.cons (.v 0) .nil))) (.seq (.drop (.call 10 (.cons (.v 0) (.cons (.v 1) .nil)))) (.seq (.ite (.or_ (.not_ (.isi (.v 2) .tuple)) (.cmp .gt (.bi .len (.cons (.v 2) .nil)) (.k (.int 9)))) (.seq (.rse 4) .nil) .nil) (.seq (.for_ (.nm 3) (.it .val (.cons (.v 2) .nil)) (.seq (.drop (.call 11 (.cons (.v 0) (.cons (.v 1) (.cons (.v 3) .nil))))) .nil)) (.seq (.ret (.tup (.cons (.v 0) (.cons (.v 1) (.cons (.call 16 (.cons (.v 0) (.cons (.v 1) (.cons (.v 2) .nil)))) .nil))))) .nil))))), false⟩
def f_law_cup_of : Fd := ⟨3, 2, (.seq (.set 2 (.bin .add (.bin .mul (.k (.int 26681)) (.v 1)) (.k (.int 47)))) (.seq (.ite (.cmp .lt (.v 1) (.bi .len (.cons (.v 0) .nil))) (.seq (.set 2 (.bin .mod (.bi .abs (.cons (.bi .int (.cons (.ix (.v 0) (.v 1)) .nil)) .nil)) (.bin .mul (.bin .mul (.bin .mul (.bin .pow (.k (.int 10)) (.k (.int 60))) (.bin .pow (.k (.int 10)) (.k (.int 60)))) (.bin .pow (.k (.int 10)) (.k (.int 60)))) (.bin .pow (.k (.int 10)) (.k (.int 60)))))) .nil) (.seq (.ite (.cmp .gt (.bi .len (.cons (.v 0) .nil)) (.k (.int 0))) (.seq (.set 2 (.bin .add (.v 2) (.bin .mod (.bi .abs (.cons (.bi .int (.cons (.ix (.v 0) (.k (.int 0))) .nil)) .nil)) (.k (.int 1000193))))) .nil) .nil) .nil)) (.seq (.ret (.lst (.cons (.ite (.cmp .ge (.v 2) (.bin .pow (.k (.int 10)) (.k (.int 18)))) (.v 2) (.k (.int 0))) (.cons (.bin .add (.bin .mod (.bi .int (.cons (.bin .add (.bin .add (.bin .mul (.bin .mod (.v 2) (.k (.int 2147481673))) (.k (.int 53))) (.bin .mul (.k (.int 137)) (.v 1))) (.k (.int 89))) .nil)) (.k (.int 2147481673))) (.k (.int 1))) .nil)))) .nil))), false⟩
def f_law_sip : Fd := ⟨4, 2, (.seq (.ite (.cmp .gt (.ix (.v 0) (.k (.int 0))) (.k (.int 0))) (.seq (.set 2 (.bin .mod (.bi .int (.cons (.ix (.v 0) (.k (.int 0))) .nil)) (.v 1))) (.seq (.sti (.v 0) (.k (.int 0)) (.bin .fdiv (.ix (.v 0) (.k (.int 0))) (.v 1))) (.seq (.ret (.v 2)) .nil))) .nil) (.seq (.tgt (.tp (.cons (.nm 2) (.cons (.nm 3) .nil))) (.tup (.cons (.k (.int 0)) (.cons (.k (.int 1)) .nil)))) (.seq (.whl (.or_ (.cmp .lt (.v 3) (.v 1)) (.cmp .eq (.v 3) (.k (.int 1)))) (.seq (.sti (.v 0) (.k (.int 1)) (.bin .mod (.bi .int (.cons (.bin .add (.bin .mul (.ix (.v 0) (.k (.int 1))) (.k (.int 15787))) (.k (.int 149))) .nil)) (.k (.int 2147481673)))) (.seq (.set 2 (.bin .add (.bin .mul (.v 2) (.k (.int 8192))) (.bin .mod (.bi .int (.cons (.bin .fdiv (.ix (.v 0) (.k (.int 1))) (.k (.int 70001))) .nil)) (.k (.int 8192))))) (.seq (.set 3 (.bin .mul (.v 3) (.k (.int 8192)))) .nil)))) (.seq (.ret (.bin .mod (.bi .int (.cons (.v 2) .nil)) (.v 1))) .nil)))), false⟩
def f_law_any : Fd := ⟨2, 2, (.seq (.ret (.ix (.v 1) (.call 22 (.cons (.v 0) (.cons (.bi .len (.cons (.v 1) .nil)) .nil))))) .nil), false⟩
def f_law_shape : Fd := ⟨4, 2, (.seq (.set 2 (.lst (.cons (.tup (.cons (.k (.int 2)) (.cons (.tup (.cons (.k (.int 2)) (.cons (.k (.int 2)) (.cons (.k (.int 2)) .nil)))) .nil))) (.cons (.tup (.cons (.k (.int 2)) (.cons (.tup (.cons (.k (.int 2)) (.cons (.k (.int 2)) (.cons (.k (.int 2)) .nil)))) .nil))) (.cons (.tup (.cons (.k (.int 3)) (.cons (.tup (.cons (.k (.int 2)) (.cons (.k (.int 2)) (.cons (.k (.int 2)) .nil)))) .nil))) (.cons (.tup (.cons (.k (.int 2)) (.cons (.tup (.cons (.k (.int 2)) (.cons (.k (.int 2)) (.cons (.k (.int 3)) .nil)))) .nil))) (.cons (.tup (.cons (.k (.int 2)) (.cons (.tup (.cons (.k (.int 2)) (.cons (.k (.int 3)) (.cons (.k (.int 2)) .nil)))) .nil))) (.cons (.tup (.cons (.k (.int 2)) (.cons (.tup (.cons (.k (.int 3)) (.cons (.k (.int 2)) (.cons (.k (.int 2)) .nil)))) .nil))) .nil)))))))) (.seq (.set 3 (.lst (.cons (.tup (.cons (.k (.int 2)) (.cons (.tup (.cons (.k (.int 2)) (.cons (.k (.int 3)) (.cons (.k (.int 3)) .nil)))) .nil))) (.cons (.tup (.cons (.k (.int 2)) (.cons (.tup (.cons (.k (.int 3)) (.cons (.k (.int 2)) (.cons (.k (.int 3)) .nil)))) .nil))) (.cons (.tup (.cons (.k (.int 2)) (.cons (.tup (.cons (.k (.int 3)) (.cons (.k (.int 3)) (.cons (.k (.int 2)) .nil)))) .nil))) .nil))))) (.seq (.ret (.call 23 (.cons (.v 0) (.cons (.bin .add (.v 2) (.ite (.v 1) (.v 3) (.lst .nil))) .nil)))) .nil))), false⟩
def f_law_rows_for : Fd := ⟨8, 2, (.seq (.set 2 (.lst (.cons (.tup .nil) .nil))) (.seq (.for_ (.nm 3) (.it .rng1 (.cons (.v 1) .nil)) (.seq (.set 4 (.lst .nil)) (.seq (.for_ (.nm 5) (.it .val (.cons (.v 2) .nil)) (.seq (.set 4 (.bin .add (.v 4) (.lc [7] (.cf (.nm 7) (.it .rng1 (.cons (.v 0) .nil)) .nil (.cy (.bin .add (.v 5) (.tup (.cons (.v 7) .nil)))))))) .nil)) (.seq (.set 2 (.v 4)) .nil)))) (.seq (.ret (.lc [6] (.cf (.nm 6) (.it .val (.cons (.v 2) .nil)) (.cmp .gt (.bi .sum (.cons (.v 6) .nil)) (.k (.int 0))) (.cy (.v 6))))) .nil))), false⟩
def f_law_is_plain : Fd := ⟨2, 1, (.seq (.ret (.cmp .eq (.ix (.lc [1] (.cf (.nm 1) (.it .val (.cons (.v 0) .nil)) (.cmp .ne (.v 1) (.k (.int 0))) (.cy (.v 1)))) (.k (.int 0))) (.k (.int 1)))) .nil), false⟩
def f_law_spots : Fd := ⟨5, 1, (.seq (.set 1 (.lst .nil)) (.seq (.for_ (.nm 2) (.it .rng1 (.cons (.ix (.v 0) (.k (.int 0))) .nil)) (.seq (.for_ (.nm 3) (.it .rng1 (.cons (.ix (.v 0) (.k (.int 1))) .nil)) (.seq (.set 1 (.bin .add (.v 1) (.lc [4] (.cf (.nm 4) (.it .rng1 (.cons (.ix (.v 0) (.k (.int 2))) .nil)) .nil (.cy (.tup (.cons (.v 2) (.cons (.v 3) (.cons (.v 4) .nil))))))))) .nil)) .nil)) (.seq (.ret (.v 1)) .nil))), false⟩
def f_law_spread : Fd := ⟨7, 2, (.seq (.set 2 (.lc [3] (.cf (.nm 3) (.it .val (.cons (.v 1) .nil)) .nil (.cy (.bi .len (.cons (.v 3) .nil)))))) (.seq (.ret (.bi .tuple (.cons (.lc [4, 5, 6] (.cf (.tp (.cons (.nm 4) (.cons (.nm 5) (.cons (.nm 6) .nil)))) (.it .val (.cons (.call 27 (.cons (.v 2) .nil)) .nil)) .nil (.cy (.bin .mod (.bin .mul (.bin .mul (.ix (.ix (.v 1) (.k (.int 0))) (.v 4)) (.ix (.ix (.v 1) (.k (.int 1))) (.v 5))) (.ix (.ix (.v 1) (.k (.int 2))) (.v 6))) (.v 0))))) .nil))) .nil)), false⟩
def f_law_parts : Fd := ⟨9, 2, (.seq (.set 2 (.alc (.lst .nil))) (.seq (.set 3 (.lc [7] (.cf (.nm 7) (.it .val (.cons (.call 25 (.cons (.v 0) (.cons (.ix (.v 1) (.k (.int 0))) .nil))) .nil)) (.call 26 (.cons (.v 7) .nil)) (.cy (.v 7))))) (.seq (.set 4 (.lc [7] (.cf (.nm 7) (.it .val (.cons (.call 25 (.cons (.v 0) (.cons (.ix (.v 1) (.k (.int 1))) .nil))) .nil)) (.call 26 (.cons (.v 7) .nil)) (.cy (.v 7))))) (.seq (.for_ (.nm 5) (.it .val (.cons (.v 3) .nil)) (.seq (.for_ (.nm 6) (.it .val (.cons (.v 4) .nil)) (.seq (.for_ (.nm 8) (.it .val (.cons (.call 25 (.cons (.v 0) (.cons (.ix (.v 1) (.k (.int 2))) .nil))) .nil)) (.seq (.drop (.app (.v 2) (.cons (.tup (.cons (.tup (.cons (.v 5) (.cons (.v 6) (.cons (.v 8) .nil)))) (.cons (.call 28 (.cons (.v 0) (.cons (.tup (.cons (.v 5) (.cons (.v 6) (.cons (.v 8) .nil)))) .nil))) .nil))) .nil))) .nil)) .nil)) .nil)) (.seq (.frz 2) (.seq (.ret (.v 2)) .nil)))))), false⟩
def f_law_added : Fd := ⟨5, 3, (.seq (.ret (.bi .tuple (.cons (.lc [3, 4] (.cf (.tp (.cons (.nm 3) (.cons (.nm 4) .nil))) (.it .zip (.cons (.v 1) (.cons (.v 2) .nil))) .nil (.cy (.bin .mod (.bin .add (.v 3) (.v 4)) (.v 0))))) .nil))) .nil), false⟩
def f_law_nought : Fd := ⟨1, 1, (.seq (.ret (.bin .mul (.tup (.cons (.k (.int 0)) .nil)) (.bin .mul (.bin .mul (.ix (.v 0) (.k (.int 0))) (.ix (.v 0) (.k (.int 1)))) (.ix (.v 0) (.k (.int 2)))))) .nil), false⟩
def f_law_part : Fd := ⟨6, 3, (.seq (.set 3 (.lc [5] (.cf (.nm 5) (.it .val (.cons (.call 25 (.cons (.v 1) (.cons (.ix (.v 2) (.k (.int 0))) .nil))) .nil)) (.call 26 (.cons (.v 5) .nil)) (.cy (.v 5))))) (.seq (.set 4 (.lc [5] (.cf (.nm 5) (.it .val (.cons (.call 25 (.cons (.v 1) (.cons (.ix (.v 2) (.k (.int 1))) .nil))) .nil)) (.call 26 (.cons (.v 5) .nil)) (.cy (.v 5))))) (.seq (.ret (.tup (.cons (.call 23 (.cons (.v 0) (.cons (.v 3) .nil))) (.cons (.call 23 (.cons (.v 0) (.cons (.v 4) .nil))) (.cons (.call 23 (.cons (.v 0) (.cons (.call 25 (.cons (.v 1) (.cons (.ix (.v 2) (.k (.int 2))) .nil))) .nil))) .nil))))) .nil))), false⟩
def f_law_drawn : Fd := ⟨6, 3, (.seq (.ite (.cmp .eq (.call 22 (.cons (.v 0) (.cons (.k (.int 3)) .nil))) (.k (.int 0))) (.seq (.ret (.bi .tuple (.cons (.lc [5] (.cf (.nm 5) (.it .val (.cons (.call 27 (.cons (.v 2) .nil)) .nil)) .nil (.cy (.call 22 (.cons (.v 0) (.cons (.v 1) .nil)))))) .nil))) .nil) .nil) (.seq (.set 3 (.call 31 (.cons (.v 2) .nil))) (.seq (.for_ (.nm 4) (.it .rng1 (.cons (.call 22 (.cons (.v 0) (.cons (.k (.int 4)) .nil))) .nil)) (.seq (.set 3 (.call 30 (.cons (.v 1) (.cons (.v 3) (.cons (.call 28 (.cons (.v 1) (.cons (.call 32 (.cons (.v 0) (.cons (.v 1) (.cons (.v 2) .nil)))) .nil))) .nil))))) .nil)) (.seq (.ret (.v 3)) .nil)))), false⟩
def f_need_table : Fd := ⟨1, 1, (.seq (.ite (.not_ (.call 6 (.cons (.v 0) .nil))) (.seq (.rse 0) .nil) .nil) .nil), false⟩
def f_minus : Fd := ⟨5, 3, (.seq (.ret (.bi .tuple (.cons (.lc [3, 4] (.cf (.tp (.cons (.nm 3) (.cons (.nm 4) .nil))) (.it .zip (.cons (.v 1) (.cons (.v 2) .nil))) .nil (.cy (.bin .mod (.bin .sub (.v 3) (.v 4)) (.v 0))))) .nil))) .nil), false⟩
def f_singles_of : Fd := ⟨3, 2, .nil, false⟩
def f_pairs_of : Fd := ⟨11, 2, .nil, false⟩
def f_least_of : Fd := ⟨7, 1, .nil, false⟩
def f_twos : Fd := ⟨7, 3, .nil, false⟩
def f_threes : Fd := ⟨9, 3, .nil, false⟩
def f_fours : Fd := ⟨9, 3, .nil, false⟩
def f_ways_of : Fd := ⟨6, 2, (.seq (.tgt (.tp (.cons (.nm 3) (.cons (.nm 4) (.cons (.nm 5) .nil)))) (.v 0)) (.seq (.ite (.cmp .eq (.v 1) (.k (.int 0))) (.seq (.ret (.ite (.cmp .eq (.v 5) (.bin .mul (.tup (.cons (.k (.int 0)) .nil)) (.bi .len (.cons (.v 5) .nil)))) (.lst (.cons (.tup .nil) .nil)) (.lst .nil))) .nil) .nil) (.seq (.set 2 (.call 36 (.cons (.v 3) (.cons (.v 4) .nil)))) (.seq (.ite (.cmp .eq (.v 1) (.k (.int 1))) (.seq (.ret (.ite (.cmp .in_ (.v 5) (.v 2)) (.lst (.cons (.tup (.cons (.ix (.v 2) (.v 5)) .nil)) .nil)) (.lst .nil))) .nil) .nil) (.seq (.ite (.cmp .eq (.v 1) (.k (.int 2))) (.seq (.ret (.u1 .srt (.call 39 (.cons (.v 3) (.cons (.v 5) (.cons (.v 2) .nil)))))) .nil) .nil) (.seq (.ret (.u1 .srt (.ite (.cmp .eq (.v 1) (.k (.int 3))) (.call 40 (.cons (.v 3) (.cons (.v 5) (.cons (.v 2) .nil)))) (.call 41 (.cons (.v 3) (.cons (.v 5) (.cons (.v 2) .nil))))))) .nil)))))), false⟩
def f_is_way_so : Fd := ⟨8, 2, (.seq (.tgt (.tp (.cons (.nm 2) (.cons (.nm 3) (.cons (.nm 4) .nil)))) (.v 0)) (.seq (.ite (.or_ (.not_ (.isi (.v 1) .tuple)) (.cmp .gt (.bi .len (.cons (.v 1) .nil)) (.g "MOST_TERMS" 4))) (.seq (.ret (.k (.bool false))) .nil) .nil) (.seq (.ite (.cmp .ne (.lc [5] (.cf (.nm 5) (.it .val (.cons (.v 1) .nil)) (.not_ (.call 8 (.cons (.v 2) (.cons (.v 3) (.cons (.v 5) .nil))))) (.cy (.v 5)))) (.lst .nil)) (.seq (.ret (.k (.bool false))) .nil) .nil) (.seq (.ite (.cmp .ne (.lc [6, 7] (.cf (.tp (.cons (.nm 6) (.cons (.nm 7) .nil))) (.it .zip (.cons (.v 1) (.cons (.sl (.v 1) (.k (.int 1)) .nil) .nil))) (.not_ (.cmp .lt (.v 6) (.v 7))) (.cy (.k (.int 1))))) (.lst .nil)) (.seq (.ret (.k (.bool false))) .nil) .nil) (.seq (.ret (.cmp .eq (.call 16 (.cons (.v 2) (.cons (.v 3) (.cons (.v 1) .nil)))) (.v 4))) .nil))))), false⟩
def f_least : Fd := ⟨1, 1, (.seq (.drop (.call 34 (.cons (.v 0) .nil))) (.seq (.ret (.call 38 (.cons (.v 0) .nil))) .nil)), false⟩
def f_ways : Fd := ⟨2, 2, (.seq (.drop (.call 34 (.cons (.v 0) .nil))) (.seq (.ite (.not_ (.call 0 (.cons (.v 1) (.cons (.k (.int 0)) (.cons (.g "MOST_TERMS" 4) .nil))))) (.seq (.rse 7) .nil) .nil) (.seq (.ret (.call 42 (.cons (.v 0) (.cons (.v 1) .nil)))) .nil))), false⟩
def f_is_way : Fd := ⟨2, 2, (.seq (.drop (.call 34 (.cons (.v 0) .nil))) (.seq (.ret (.call 43 (.cons (.v 0) (.cons (.v 1) .nil)))) .nil)), false⟩
def f_law_less : Fd := ⟨5, 3, (.seq (.ret (.bi .tuple (.cons (.lc [3, 4] (.cf (.tp (.cons (.nm 3) (.cons (.nm 4) .nil))) (.it .zip (.cons (.v 1) (.cons (.v 2) .nil))) .nil (.cy (.bin .mod (.bin .sub (.v 3) (.v 4)) (.v 0))))) .nil))) .nil), false⟩
def f_law_twos : Fd := ⟨6, 2, .nil, false⟩
def f_law_ways_of : Fd := ⟨9, 5, .nil, false⟩
def f_law_least_of : Fd := ⟨7, 4, (.seq (.ite (.cmp .eq (.bi .sum (.cons (.v 3) .nil)) (.k (.int 0))) (.seq (.ret (.k (.int 0))) .nil) .nil) (.seq (.for_ (.nm 4) (.it .val (.cons (.tup (.cons (.k (.int 1)) (.cons (.k (.int 2)) (.cons (.k (.int 3)) .nil)))) .nil)) (.seq (.ite (.cmp .ne (.call 49 (.cons (.v 0) (.cons (.v 1) (.cons (.v 2) (.cons (.v 3) (.cons (.v 4) .nil)))))) (.lst .nil)) (.seq (.ret (.v 4)) .nil) .nil) .nil)) (.seq (.set 5 (.lc [6] (.cf (.nm 6) (.it .val (.cons (.v 2) .nil)) (.cmp .in_ (.call 47 (.cons (.v 0) (.cons (.v 3) (.cons (.v 6) .nil)))) (.v 2)) (.cy (.v 6))))) (.seq (.ret (.ite (.cmp .ne (.v 5) (.lst .nil)) (.k (.int 4)) (.k (.int 5)))) .nil)))), false⟩
def f_need_way : Fd := ⟨2, 2, (.seq (.ite (.not_ (.call 43 (.cons (.v 0) (.cons (.v 1) .nil)))) (.seq (.rse 5) .nil) .nil) .nil), false⟩
def f_only : Fd := ⟨3, 1, (.seq (.drop (.call 34 (.cons (.v 0) .nil))) (.seq (.set 1 (.call 38 (.cons (.v 0) .nil))) (.seq (.set 2 (.ite (.cmp .le (.v 1) (.g "MOST_TERMS" 4)) (.call 42 (.cons (.v 0) (.cons (.v 1) .nil))) (.lst .nil))) (.seq (.ret (.ite (.cmp .eq (.bi .len (.cons (.v 2) .nil)) (.k (.int 1))) (.ix (.v 2) (.k (.int 0))) (.k .none))) .nil)))), false⟩
def f_second : Fd := ⟨4, 2, (.seq (.drop (.call 34 (.cons (.v 0) .nil))) (.seq (.drop (.call 51 (.cons (.v 0) (.cons (.v 1) .nil)))) (.seq (.set 2 (.lc [3] (.cf (.nm 3) (.it .val (.cons (.call 42 (.cons (.v 0) (.cons (.bi .len (.cons (.v 1) .nil)) .nil))) .nil)) (.cmp .ne (.v 3) (.v 1)) (.cy (.v 3))))) (.seq (.ret (.ite (.cmp .ne (.v 2) (.lst .nil)) (.ix (.v 2) (.k (.int 0))) (.k .none))) .nil)))), false⟩
def f_figures_for : Fd := ⟨6, 2, (.seq (.set 2 (.lst (.cons (.tup (.cons (.k (.int 1)) .nil)) .nil))) (.seq (.for_ (.nm 3) (.it .rng1 (.cons (.bin .sub (.v 1) (.k (.int 1))) .nil)) (.seq (.set 2 (.lc [4, 5] (.cf (.nm 4) (.it .val (.cons (.v 2) .nil)) .nil (.cf (.nm 5) (.it .rng2 (.cons (.k (.int 1)) (.cons (.v 0) .nil))) .nil (.cy (.bin .add (.v 4) (.tup (.cons (.v 5) .nil)))))))) .nil)) (.seq (.ret (.v 2)) .nil))), false⟩
def f_mixed : Fd := ⟨6, 3, (.seq (.ret (.bi .tuple (.cons (.lc [3] (.cf (.nm 3) (.it .rng1 (.cons (.bi .len (.cons (.ix (.v 1) (.k (.int 0))) .nil)) .nil)) .nil (.cy (.bin .mod (.bi .sum (.cons (.lc [4, 5] (.cf (.tp (.cons (.nm 4) (.cons (.nm 5) .nil))) (.it .zip (.cons (.v 1) (.cons (.v 2) .nil))) .nil (.cy (.bin .mul (.ix (.v 4) (.v 3)) (.v 5))))) .nil)) (.v 0))))) .nil))) .nil), false⟩
def f_lots_of : Fd := ⟨5, 1, (.seq (.set 1 (.lst (.cons (.tup .nil) .nil))) (.seq (.for_ (.nm 2) (.it .rng1 (.cons (.v 0) .nil)) (.seq (.set 1 (.bin .add (.v 1) (.lc [4] (.cf (.nm 4) (.it .val (.cons (.v 1) .nil)) .nil (.cy (.bin .add (.v 4) (.tup (.cons (.v 2) .nil)))))))) .nil)) (.seq (.ret (.sl (.lc [3] (.cf (.nm 3) (.it .val (.cons (.u1 .srt (.lc [4] (.cf (.nm 4) (.it .val (.cons (.v 1) .nil)) .nil (.cy (.tup (.cons (.bi .len (.cons (.v 4) .nil)) (.cons (.v 4) .nil))))))) .nil)) .nil (.cy (.ix (.v 3) (.k (.int 1)))))) (.k (.int 1)) .nil)) .nil))), false⟩
def f_bond_of : Fd := ⟨9, 2, (.seq (.for_ (.nm 2) (.it .rng2 (.cons (.k (.int 1)) (.cons (.bin .add (.bi .len (.cons (.v 1) .nil)) (.k (.int 1))) .nil))) (.seq (.set 3 (.alc (.lst .nil))) (.seq (.for_ (.nm 4) (.it .val (.cons (.lc [4] (.cf (.nm 4) (.it .val (.cons (.call 56 (.cons (.bi .len (.cons (.v 1) .nil)) .nil)) .nil)) (.cmp .eq (.bi .len (.cons (.v 4) .nil)) (.v 2)) (.cy (.v 4)))) .nil)) (.seq (.set 5 (.lc [7] (.cf (.nm 7) (.it .val (.cons (.v 4) .nil)) .nil (.cy (.ix (.v 1) (.v 7)))))) (.seq (.for_ (.nm 6) (.it .val (.cons (.call 54 (.cons (.v 0) (.cons (.v 2) .nil))) .nil)) (.seq (.ite (.cmp .eq (.lc [8] (.cf (.nm 8) (.it .val (.cons (.call 55 (.cons (.v 0) (.cons (.v 5) (.cons (.v 6) .nil)))) .nil)) (.cmp .ne (.v 8) (.k (.int 0))) (.cy (.v 8)))) (.lst .nil)) (.seq (.drop (.app (.v 3) (.cons (.bi .tuple (.cons (.u2 .lzip (.v 4) (.v 6)) .nil)) .nil))) .nil) .nil) .nil)) .nil))) (.seq (.frz 3) (.seq (.ite (.cmp .ne (.v 3) (.lst .nil)) (.seq (.ret (.ix (.u1 .srt (.v 3)) (.k (.int 0)))) .nil) .nil) .nil))))) (.seq (.ret (.k .none)) .nil)), false⟩
def f_few_rank_of : Fd := ⟨3, 2, (.seq (.set 2 (.call 57 (.cons (.v 0) (.cons (.v 1) .nil)))) (.seq (.ret (.ite (.isN (.v 2)) (.bi .len (.cons (.v 1) .nil)) (.bin .sub (.bi .len (.cons (.v 2) .nil)) (.k (.int 1))))) .nil)), false⟩
def f_three_ranks : Fd := ⟨4, 2, (.seq (.ret (.bi .tuple (.cons (.lc [2] (.cf (.nm 2) (.it .rng1 (.cons (.k (.int 3)) .nil)) .nil (.cy (.call 58 (.cons (.v 0) (.cons (.bi .tuple (.cons (.lc [3] (.cf (.nm 3) (.it .val (.cons (.v 1) .nil)) .nil (.cy (.ix (.v 3) (.v 2))))) .nil)) .nil)))))) .nil))) .nil), false⟩
def f_sizes_of : Fd := ⟨2, 1, (.seq (.ite (.or_ (.not_ (.isi (.v 0) .tuple)) (.cmp .ne (.lc [1] (.cf (.nm 1) (.it .val (.cons (.v 0) .nil)) (.not_ (.isi (.v 1) .tuple)) (.cy (.v 1)))) (.lst .nil))) (.seq (.ret (.k .none)) .nil) .nil) (.seq (.ret (.bi .tuple (.cons (.lc [1] (.cf (.nm 1) (.it .val (.cons (.v 0) .nil)) .nil (.cy (.bi .len (.cons (.v 1) .nil))))) .nil))) .nil)), false⟩
def f_is_some_way : Fd := ⟨6, 2, (.seq (.ite (.or_ (.not_ (.isi (.v 1) .tuple)) (.not_ (.chn .le .le (.k (.int 1)) (.bi .len (.cons (.v 1) .nil)) (.g "MOST_ROWS" 4)))) (.seq (.ret (.k (.bool false))) .nil) .nil) (.seq (.set 2 (.call 60 (.cons (.ix (.v 1) (.k (.int 0))) .nil))) (.seq (.ite (.or_ (.not_ (.call 2 (.cons (.v 0) (.cons (.v 2) .nil)))) (.cmp .ne (.lc [3] (.cf (.nm 3) (.it .val (.cons (.v 1) .nil)) (.not_ (.call 8 (.cons (.v 0) (.cons (.v 2) (.cons (.v 3) .nil))))) (.cy (.v 3)))) (.lst .nil))) (.seq (.ret (.k (.bool false))) .nil) .nil) (.seq (.ret (.cmp .eq (.lc [4, 5] (.cf (.tp (.cons (.nm 4) (.cons (.nm 5) .nil))) (.it .zip (.cons (.v 1) (.cons (.sl (.v 1) (.k (.int 1)) .nil) .nil))) (.not_ (.cmp .lt (.v 4) (.v 5))) (.cy (.k (.int 1))))) (.lst .nil))) .nil)))), false⟩
def f_need_some_way : Fd := ⟨2, 2, (.seq (.ite (.not_ (.call 61 (.cons (.v 0) (.cons (.v 1) .nil)))) (.seq (.rse 5) .nil) .nil) .nil), false⟩
def f_assures : Fd := ⟨2, 2, (.seq (.drop (.call 9 (.cons (.v 0) .nil))) (.seq (.drop (.call 62 (.cons (.v 0) (.cons (.v 1) .nil)))) (.seq (.ret (.cmp .ge (.bi .sum (.cons (.call 59 (.cons (.v 0) (.cons (.v 1) .nil))) .nil)) (.bin .add (.bin .mul (.k (.int 2)) (.bi .len (.cons (.v 1) .nil))) (.k (.int 2))))) .nil))), false⟩
def f_few_ranks : Fd := ⟨2, 2, (.seq (.drop (.call 9 (.cons (.v 0) .nil))) (.seq (.drop (.call 62 (.cons (.v 0) (.cons (.v 1) .nil)))) (.seq (.ret (.call 59 (.cons (.v 0) (.cons (.v 1) .nil)))) .nil))), false⟩
def f_are_rows_so : Fd := ⟨4, 2, (.seq (.ite (.or_ (.not_ (.isi (.v 1) .tuple)) (.or_ (.not_ (.chn .le .le (.k (.int 1)) (.bi .len (.cons (.v 1) .nil)) (.g "MOST_ROWS" 4))) (.not_ (.isi (.ix (.v 1) (.k (.int 0))) .tuple)))) (.seq (.ret (.k (.bool false))) .nil) .nil) (.seq (.set 2 (.bi .len (.cons (.ix (.v 1) (.k (.int 0))) .nil))) (.seq (.ret (.and_ (.chn .le .le (.k (.int 2)) (.v 2) (.k (.int 3))) (.cmp .eq (.lc [3] (.cf (.nm 3) (.it .val (.cons (.v 1) .nil)) (.not_ (.call 4 (.cons (.v 0) (.cons (.v 3) (.cons (.v 2) .nil))))) (.cy (.v 3)))) (.lst .nil)))) .nil))), false⟩
def f_need_rows : Fd := ⟨2, 2, (.seq (.ite (.not_ (.call 65 (.cons (.v 0) (.cons (.v 1) .nil)))) (.seq (.rse 3) .nil) .nil) .nil), false⟩
def f_bond : Fd := ⟨2, 2, (.seq (.drop (.call 9 (.cons (.v 0) .nil))) (.seq (.drop (.call 66 (.cons (.v 0) (.cons (.v 1) .nil)))) (.seq (.ret (.call 57 (.cons (.v 0) (.cons (.v 1) .nil)))) .nil))), false⟩
def f_few_rank : Fd := ⟨2, 2, (.seq (.drop (.call 9 (.cons (.v 0) .nil))) (.seq (.drop (.call 66 (.cons (.v 0) (.cons (.v 1) .nil)))) (.seq (.ret (.call 58 (.cons (.v 0) (.cons (.v 1) .nil)))) .nil))), false⟩
def f_need_side : Fd := ⟨1, 1, (.seq (.ite (.not_ (.call 0 (.cons (.v 0) (.cons (.k (.int 0)) (.cons (.k (.int 2)) .nil))))) (.seq (.rse 6) .nil) .nil) .nil), false⟩
def f_need_row : Fd := ⟨3, 3, (.seq (.ite (.not_ (.call 4 (.cons (.v 0) (.cons (.v 1) (.cons (.v 2) .nil))))) (.seq (.rse 3) .nil) .nil) .nil), false⟩
def f_place_of : Fd := ⟨2, 2, (.seq (.ret (.bin .add (.bin .mul (.bin .add (.bin .mul (.ix (.v 1) (.k (.int 0))) (.ix (.v 0) (.k (.int 1)))) (.ix (.v 1) (.k (.int 1)))) (.ix (.v 0) (.k (.int 2)))) (.ix (.v 1) (.k (.int 2))))) .nil), false⟩
def f_spots_with : Fd := ⟨8, 3, (.seq (.set 3 (.lc [4, 5, 6] (.cf (.nm 4) (.it .rng1 (.cons (.ix (.v 0) (.k (.int 0))) .nil)) .nil (.cf (.nm 5) (.it .rng1 (.cons (.ix (.v 0) (.k (.int 1))) .nil)) .nil (.cf (.nm 6) (.it .rng1 (.cons (.ix (.v 0) (.k (.int 2))) .nil)) .nil (.cy (.tup (.cons (.v 4) (.cons (.v 5) (.cons (.v 6) .nil)))))))))) (.seq (.ret (.lc [7] (.cf (.nm 7) (.it .val (.cons (.v 3) .nil)) (.cmp .eq (.ix (.v 7) (.v 1)) (.v 2)) (.cy (.v 7))))) .nil)), false⟩
def f_flat_of : Fd := ⟨8, 2, (.seq (.tgt (.tp (.cons (.nm 4) (.cons (.nm 5) (.cons (.nm 6) .nil)))) (.v 0)) (.seq (.set 2 (.alc (.lst .nil))) (.seq (.for_ (.nm 3) (.it .rng1 (.cons (.ix (.v 5) (.v 1)) .nil)) (.seq (.drop (.app (.v 2) (.cons (.bi .tuple (.cons (.lc [7] (.cf (.nm 7) (.it .val (.cons (.call 72 (.cons (.v 5) (.cons (.v 1) (.cons (.v 3) .nil)))) .nil)) .nil (.cy (.ix (.v 6) (.call 71 (.cons (.v 5) (.cons (.v 7) .nil))))))) .nil)) .nil))) .nil)) (.seq (.frz 2) (.seq (.ret (.bi .tuple (.cons (.v 2) .nil))) .nil))))), false⟩
def f_rank_of : Fd := ⟨8, 2, .nil, false⟩
def f_cut_of : Fd := ⟨10, 3, (.seq (.tgt (.tp (.cons (.nm 5) (.cons (.nm 6) (.cons (.nm 7) .nil)))) (.v 0)) (.seq (.set 3 (.call 55 (.cons (.v 5) (.cons (.call 73 (.cons (.v 0) (.cons (.v 1) .nil))) (.cons (.v 2) .nil))))) (.seq (.set 4 (.lc [8, 9] (.cf (.tp (.cons (.nm 8) (.cons (.nm 9) .nil))) (.it .enum (.cons (.v 6) .nil)) (.cmp .ne (.v 8) (.v 1)) (.cy (.v 9))))) (.seq (.ret (.bi .tuple (.cons (.lc [8] (.cf (.nm 8) (.it .rng1 (.cons (.ix (.v 4) (.k (.int 0))) .nil)) .nil (.cy (.sl (.v 3) (.bin .mul (.v 8) (.ix (.v 4) (.k (.int 1)))) (.bin .add (.bin .mul (.v 8) (.ix (.v 4) (.k (.int 1)))) (.ix (.v 4) (.k (.int 1)))))))) .nil))) .nil)))), false⟩
def f_flat : Fd := ⟨2, 2, (.seq (.drop (.call 34 (.cons (.v 0) .nil))) (.seq (.drop (.call 69 (.cons (.v 1) .nil))) (.seq (.ret (.call 73 (.cons (.v 0) (.cons (.v 1) .nil)))) .nil))), false⟩
def f_flat_rank : Fd := ⟨2, 2, (.seq (.drop (.call 34 (.cons (.v 0) .nil))) (.seq (.drop (.call 69 (.cons (.v 1) .nil))) (.seq (.ret (.call 74 (.cons (.ix (.v 0) (.k (.int 0))) (.cons (.call 73 (.cons (.v 0) (.cons (.v 1) .nil))) .nil)))) .nil))), false⟩
def f_cut : Fd := ⟨3, 3, (.seq (.drop (.call 34 (.cons (.v 0) .nil))) (.seq (.drop (.call 69 (.cons (.v 1) .nil))) (.seq (.drop (.call 70 (.cons (.ix (.v 0) (.k (.int 0))) (.cons (.v 2) (.cons (.ix (.ix (.v 0) (.k (.int 1))) (.v 1)) .nil))))) (.seq (.ret (.call 75 (.cons (.v 0) (.cons (.v 1) (.cons (.v 2) .nil))))) .nil)))), false⟩
def f_cut_rank : Fd := ⟨3, 3, (.seq (.drop (.call 34 (.cons (.v 0) .nil))) (.seq (.drop (.call 69 (.cons (.v 1) .nil))) (.seq (.drop (.call 70 (.cons (.ix (.v 0) (.k (.int 0))) (.cons (.v 2) (.cons (.ix (.ix (.v 0) (.k (.int 1))) (.v 1)) .nil))))) (.seq (.ret (.call 74 (.cons (.ix (.v 0) (.k (.int 0))) (.cons (.call 75 (.cons (.v 0) (.cons (.v 1) (.cons (.v 2) .nil)))) .nil)))) .nil)))), false⟩
def f_bounds : Fd := ⟨6, 1, (.seq (.drop (.call 34 (.cons (.v 0) .nil))) (.seq (.set 1 (.lc [5] (.cf (.nm 5) (.it .rng1 (.cons (.k (.int 3)) .nil)) .nil (.cy (.call 74 (.cons (.ix (.v 0) (.k (.int 0))) (.cons (.call 73 (.cons (.v 0) (.cons (.v 5) .nil))) .nil))))))) (.seq (.tgt (.tp (.cons (.nm 2) (.cons (.nm 3) (.cons (.nm 4) .nil)))) (.u1 .srt (.v 1))) (.seq (.ret (.tup (.cons (.v 4) (.cons (.bin .mul (.v 2) (.v 3)) .nil)))) .nil)))), false⟩
def f_all_spots : Fd := ⟨4, 1, (.seq (.ret (.lc [1, 2, 3] (.cf (.nm 1) (.it .rng1 (.cons (.ix (.v 0) (.k (.int 0))) .nil)) .nil (.cf (.nm 2) (.it .rng1 (.cons (.ix (.v 0) (.k (.int 1))) .nil)) .nil (.cf (.nm 3) (.it .rng1 (.cons (.ix (.v 0) (.k (.int 2))) .nil)) .nil (.cy (.tup (.cons (.v 1) (.cons (.v 2) (.cons (.v 3) .nil)))))))))) .nil), false⟩
def f_put_back : Fd := ⟨11, 4, (.seq (.set 4 (.lst .nil)) (.seq (.for_ (.nm 5) (.it .val (.cons (.call 81 (.cons (.v 1) .nil)) .nil)) (.seq (.set 6 (.lc [8, 9] (.cf (.tp (.cons (.nm 8) (.cons (.nm 9) .nil))) (.it .enum (.cons (.v 5) .nil)) (.cmp .ne (.v 8) (.v 2)) (.cy (.v 9))))) (.seq (.set 7 (.ix (.lc [8, 10] (.cf (.tp (.cons (.nm 8) (.cons (.nm 10) .nil))) (.it .enum (.cons (.v 1) .nil)) (.cmp .ne (.v 8) (.v 2)) (.cy (.v 10)))) (.k (.int 1)))) (.seq (.set 4 (.bin .add (.v 4) (.lst (.cons (.ix (.ix (.v 3) (.ix (.v 5) (.v 2))) (.bin .add (.bin .mul (.ix (.v 6) (.k (.int 0))) (.v 7)) (.ix (.v 6) (.k (.int 1))))) .nil)))) .nil)))) (.seq (.ret (.tup (.cons (.v 0) (.cons (.v 1) (.cons (.bi .tuple (.cons (.v 4) .nil)) .nil))))) .nil))), false⟩
def f_moved_of : Fd := ⟨5, 3, (.seq (.set 3 (.call 73 (.cons (.v 0) (.cons (.v 1) .nil)))) (.seq (.ret (.call 82 (.cons (.ix (.v 0) (.k (.int 0))) (.cons (.ix (.v 0) (.k (.int 1))) (.cons (.v 1) (.cons (.lc [4] (.cf (.nm 4) (.it .val (.cons (.v 2) .nil)) .nil (.cy (.call 55 (.cons (.ix (.v 0) (.k (.int 0))) (.cons (.v 3) (.cons (.v 4) .nil))))))) .nil)))))) .nil)), false⟩
def f_turned_of : Fd := ⟨10, 2, .nil, false⟩
def f_are_free_rows : Fd := ⟨4, 3, (.seq (.ite (.or_ (.not_ (.isi (.v 1) .tuple)) (.cmp .ne (.bi .len (.cons (.v 1) .nil)) (.v 2))) (.seq (.ret (.k (.bool false))) .nil) .nil) (.seq (.ret (.and_ (.cmp .eq (.lc [3] (.cf (.nm 3) (.it .val (.cons (.v 1) .nil)) (.not_ (.call 4 (.cons (.v 0) (.cons (.v 3) (.cons (.v 2) .nil))))) (.cy (.v 3)))) (.lst .nil)) (.cmp .eq (.call 74 (.cons (.v 0) (.cons (.v 1) .nil))) (.v 2)))) .nil)), false⟩
def f_is_order : Fd := ⟨2, 1, (.seq (.ite (.or_ (.not_ (.isi (.v 0) .tuple)) (.cmp .ne (.lc [1] (.cf (.nm 1) (.it .val (.cons (.v 0) .nil)) (.not_ (.call 0 (.cons (.v 1) (.cons (.k (.int 0)) (.cons (.k (.int 2)) .nil))))) (.cy (.v 1)))) (.lst .nil))) (.seq (.ret (.k (.bool false))) .nil) .nil) (.seq (.ret (.cmp .eq (.u1 .srt (.v 0)) (.lst (.cons (.k (.int 0)) (.cons (.k (.int 1)) (.cons (.k (.int 2)) .nil)))))) .nil)), false⟩
def f_moved : Fd := ⟨3, 3, (.seq (.drop (.call 34 (.cons (.v 0) .nil))) (.seq (.drop (.call 69 (.cons (.v 1) .nil))) (.seq (.ite (.not_ (.call 85 (.cons (.ix (.v 0) (.k (.int 0))) (.cons (.v 2) (.cons (.ix (.ix (.v 0) (.k (.int 1))) (.v 1)) .nil))))) (.seq (.rse 3) .nil) .nil) (.seq (.ret (.call 83 (.cons (.v 0) (.cons (.v 1) (.cons (.v 2) .nil))))) .nil)))), false⟩
def f_turned : Fd := ⟨2, 2, (.seq (.drop (.call 34 (.cons (.v 0) .nil))) (.seq (.ite (.not_ (.call 86 (.cons (.v 1) .nil))) (.seq (.rse 2) .nil) .nil) (.seq (.ret (.call 84 (.cons (.v 0) (.cons (.v 1) .nil)))) .nil))), false⟩
def f_law_free : Fd := ⟨14, 3, (.seq (.par2 5 6 (.cons (.alc (.lst .nil)) (.cons (.alc (.lst .nil)) .nil))) (.seq (.for_ (.nm 3) (.it .rng1 (.cons (.v 2) .nil)) (.seq (.drop (.app (.v 5) (.cons (.lc [11] (.cf (.nm 11) (.it .rng1 (.cons (.v 2) .nil)) .nil (.cy (.bi .int (.cons (.cmp .eq (.v 3) (.v 11)) .nil))))) .nil))) (.seq (.drop (.app (.v 6) (.cons (.lc [11] (.cf (.nm 11) (.it .rng1 (.cons (.v 2) .nil)) .nil (.cy (.bi .int (.cons (.cmp .eq (.v 3) (.v 11)) .nil))))) .nil))) .nil))) (.seq (.frz 6) (.seq (.for_ (.nm 4) (.it .rng1 (.cons (.call 22 (.cons (.v 0) (.cons (.k (.int 6)) .nil))) .nil)) (.seq (.tgt (.tp (.cons (.nm 7) (.cons (.nm 8) (.cons (.nm 9) .nil)))) (.tup (.cons (.call 22 (.cons (.v 0) (.cons (.v 2) .nil))) (.cons (.call 22 (.cons (.v 0) (.cons (.v 2) .nil))) (.cons (.bin .add (.k (.int 1)) (.call 22 (.cons (.v 0) (.cons (.bin .sub (.v 1) (.k (.int 1))) .nil)))) .nil))))) (.seq (.ite (.cmp .ne (.v 7) (.v 8)) (.seq (.sti (.v 5) (.v 7) (.lc [12, 13] (.cf (.tp (.cons (.nm 12) (.cons (.nm 13) .nil))) (.it .zip (.cons (.ix (.v 5) (.v 7)) (.cons (.ix (.v 5) (.v 8)) .nil))) .nil (.cy (.bin .mod (.bin .add (.v 12) (.bin .mul (.v 9) (.v 13))) (.v 1)))))) (.seq (.for_ (.nm 10) (.it .val (.cons (.v 6) .nil)) (.seq (.sti (.v 10) (.v 8) (.bin .mod (.bin .sub (.ix (.v 10) (.v 8)) (.bin .mul (.v 9) (.ix (.v 10) (.v 7)))) (.v 1))) .nil)) .nil)) .nil) .nil))) (.seq (.frz 5) (.seq (.ret (.tup (.cons (.bi .tuple (.cons (.lc [10] (.cf (.nm 10) (.it .val (.cons (.v 5) .nil)) .nil (.cy (.bi .tuple (.cons (.v 10) .nil))))) .nil)) (.cons (.bi .tuple (.cons (.lc [10] (.cf (.nm 10) (.it .val (.cons (.v 6) .nil)) .nil (.cy (.bi .tuple (.cons (.v 10) .nil))))) .nil)) .nil)))) .nil)))))), false⟩
def f_are_slices : Fd := ⟨4, 2, (.seq (.ite (.or_ (.not_ (.isi (.v 0) .tuple)) (.cmp .ne (.bi .len (.cons (.v 0) .nil)) (.v 1))) (.seq (.ret (.k (.bool false))) .nil) .nil) (.seq (.for_ (.nm 2) (.it .val (.cons (.v 0) .nil)) (.seq (.ite (.or_ (.not_ (.isi (.v 2) .tuple)) (.cmp .ne (.bi .len (.cons (.v 2) .nil)) (.v 1))) (.seq (.ret (.k (.bool false))) .nil) .nil) (.seq (.ite (.cmp .ne (.lc [3] (.cf (.nm 3) (.it .val (.cons (.v 2) .nil)) (.not_ (.call 0 (.cons (.v 3) (.cons (.bin .sub (.k (.int 0)) (.g "MOST" 99)) (.cons (.g "MOST" 99) .nil))))) (.cy (.v 3)))) (.lst .nil)) (.seq (.ret (.k (.bool false))) .nil) .nil) .nil))) (.seq (.ret (.k (.bool true))) .nil))), false⟩
def f_need_slices : Fd := ⟨2, 2, (.seq (.ite (.and_ (.not_ (.call 90 (.cons (.v 0) (.cons (.k (.int 2)) .nil)))) (.not_ (.call 90 (.cons (.v 0) (.cons (.k (.int 3)) .nil))))) (.seq (.rse 8) .nil) .nil) (.seq (.ite (.not_ (.call 90 (.cons (.v 1) (.cons (.bi .len (.cons (.v 0) .nil)) .nil)))) (.seq (.rse 8) .nil) .nil) .nil)), false⟩
def f_common : Fd := ⟨2, 2, (.seq (.par2 0 1 (.cons (.bi .abs (.cons (.v 0) .nil)) (.cons (.bi .abs (.cons (.v 1) .nil)) .nil))) (.seq (.whl (.cmp .ne (.v 1) (.k (.int 0))) (.seq (.par2 0 1 (.cons (.v 1) (.cons (.bin .mod (.v 0) (.v 1)) .nil))) .nil)) (.seq (.ret (.v 0)) .nil))), false⟩
def f_fraction : Fd := ⟨3, 2, (.seq (.set 2 (.ite (.cmp .gt (.v 1) (.k (.int 0))) (.call 92 (.cons (.v 0) (.cons (.v 1) .nil))) (.bin .sub (.k (.int 0)) (.call 92 (.cons (.v 0) (.cons (.v 1) .nil)))))) (.seq (.ret (.tup (.cons (.bin .fdiv (.v 0) (.v 2)) (.cons (.bin .fdiv (.v 1) (.v 2)) .nil)))) .nil)), false⟩
def f_root_floor : Fd := ⟨4, 1, (.seq (.tgt (.tp (.cons (.nm 1) (.cons (.nm 2) .nil))) (.tup (.cons (.k (.int 0)) (.cons (.k (.int 1)) .nil)))) (.seq (.whl (.cmp .le (.bin .mul (.v 2) (.v 2)) (.v 0)) (.seq (.set 2 (.bin .mul (.k (.int 2)) (.v 2))) .nil)) (.seq (.whl (.cmp .gt (.bin .sub (.v 2) (.v 1)) (.k (.int 1))) (.seq (.set 3 (.bin .fdiv (.bin .add (.v 1) (.v 2)) (.k (.int 2)))) (.seq (.ite (.cmp .le (.bin .mul (.v 3) (.v 3)) (.v 0)) (.seq (.set 1 (.v 3)) .nil) (.seq (.set 2 (.v 3)) .nil)) .nil))) (.seq (.ret (.v 1)) .nil)))), false⟩
def f_blend : Fd := ⟨9, 4, (.seq (.set 4 (.alc (.lst .nil))) (.seq (.for_ (.tp (.cons (.nm 5) (.cons (.nm 6) .nil))) (.it .zip (.cons (.v 0) (.cons (.v 1) .nil))) (.seq (.drop (.app (.v 4) (.cons (.bi .tuple (.cons (.lc [7, 8] (.cf (.tp (.cons (.nm 7) (.cons (.nm 8) .nil))) (.it .zip (.cons (.v 5) (.cons (.v 6) .nil))) .nil (.cy (.bin .add (.bin .mul (.v 2) (.v 7)) (.bin .mul (.v 3) (.v 8)))))) .nil)) .nil))) .nil)) (.seq (.frz 4) (.seq (.ret (.bi .tuple (.cons (.v 4) .nil))) .nil)))), false⟩
def f_det : Fd := ⟨5, 1, (.seq (.ite (.cmp .eq (.bi .len (.cons (.v 0) .nil)) (.k (.int 2))) (.seq (.ret (.bin .sub (.bin .mul (.ix (.ix (.v 0) (.k (.int 0))) (.k (.int 0))) (.ix (.ix (.v 0) (.k (.int 1))) (.k (.int 1)))) (.bin .mul (.ix (.ix (.v 0) (.k (.int 0))) (.k (.int 1))) (.ix (.ix (.v 0) (.k (.int 1))) (.k (.int 0)))))) .nil) .nil) (.seq (.set 1 (.k (.int 0))) (.seq (.for_ (.nm 2) (.it .rng1 (.cons (.k (.int 3)) .nil)) (.seq (.par2 3 4 (.cons (.bin .mod (.bin .add (.v 2) (.k (.int 1))) (.k (.int 3))) (.cons (.bin .mod (.bin .add (.v 2) (.k (.int 2))) (.k (.int 3))) .nil))) (.seq (.set 1 (.bin .add (.v 1) (.bin .mul (.ix (.ix (.v 0) (.k (.int 0))) (.v 2)) (.bin .sub (.bin .mul (.ix (.ix (.v 0) (.k (.int 1))) (.v 3)) (.ix (.ix (.v 0) (.k (.int 2))) (.v 4))) (.bin .mul (.ix (.ix (.v 0) (.k (.int 1))) (.v 4)) (.ix (.ix (.v 0) (.k (.int 2))) (.v 3))))))) .nil))) (.seq (.ret (.v 1)) .nil)))), false⟩
def f_led : Fd := ⟨5, 2, (.seq (.ret (.bi .tuple (.cons (.lc [2] (.cf (.nm 2) (.it .val (.cons (.v 0) .nil)) .nil (.cy (.bi .sum (.cons (.lc [3, 4] (.cf (.tp (.cons (.nm 3) (.cons (.nm 4) .nil))) (.it .zip (.cons (.v 2) (.cons (.v 1) .nil))) .nil (.cy (.bin .mul (.v 3) (.v 4))))) .nil))))) .nil))) .nil), false⟩
def f_across : Fd := ⟨3, 1, (.seq (.ret (.bi .tuple (.cons (.lc [1] (.cf (.nm 1) (.it .rng1 (.cons (.bi .len (.cons (.v 0) .nil)) .nil)) .nil (.cy (.bi .tuple (.cons (.lc [2] (.cf (.nm 2) (.it .val (.cons (.v 0) .nil)) .nil (.cy (.ix (.v 2) (.v 1))))) .nil))))) .nil))) .nil), false⟩
def f_crossed : Fd := ⟨6, 2, (.seq (.set 2 (.alc (.lst .nil))) (.seq (.for_ (.nm 3) (.it .rng1 (.cons (.k (.int 3)) .nil)) (.seq (.par2 4 5 (.cons (.bin .mod (.bin .add (.v 3) (.k (.int 1))) (.k (.int 3))) (.cons (.bin .mod (.bin .add (.v 3) (.k (.int 2))) (.k (.int 3))) .nil))) (.seq (.drop (.app (.v 2) (.cons (.bin .sub (.bin .mul (.ix (.v 0) (.v 4)) (.ix (.v 1) (.v 5))) (.bin .mul (.ix (.v 0) (.v 5)) (.ix (.v 1) (.v 4)))) .nil))) .nil))) (.seq (.frz 2) (.seq (.ret (.bi .tuple (.cons (.v 2) .nil))) .nil)))), false⟩
def f_plain : Fd := ⟨3, 1, (.seq (.set 1 (.k (.int 0))) (.seq (.for_ (.nm 2) (.it .val (.cons (.v 0) .nil)) (.seq (.set 1 (.call 92 (.cons (.v 1) (.cons (.v 2) .nil)))) .nil)) (.seq (.ite (.cmp .lt (.ix (.lc [2] (.cf (.nm 2) (.it .val (.cons (.v 0) .nil)) (.cmp .ne (.v 2) (.k (.int 0))) (.cy (.v 2)))) (.k (.int 0))) (.k (.int 0))) (.seq (.set 1 (.bin .sub (.k (.int 0)) (.v 1))) .nil) .nil) (.seq (.ret (.bi .tuple (.cons (.lc [2] (.cf (.nm 2) (.it .val (.cons (.v 0) .nil)) .nil (.cy (.bin .fdiv (.v 2) (.v 1))))) .nil))) .nil)))), false⟩
def f_is_nought : Fd := ⟨2, 1, (.seq (.ret (.cmp .eq (.lc [1] (.cf (.nm 1) (.it .val (.cons (.v 0) .nil)) (.cmp .ne (.v 1) (.k (.int 0))) (.cy (.v 1)))) (.lst .nil))) .nil), false⟩
def f_lost : Fd := ⟨4, 1, (.seq (.ite (.cmp .eq (.bi .len (.cons (.v 0) .nil)) (.k (.int 2))) (.seq (.set 2 (.ite (.not_ (.call 101 (.cons (.ix (.v 0) (.k (.int 0))) .nil))) (.ix (.v 0) (.k (.int 0))) (.ix (.v 0) (.k (.int 1))))) (.seq (.ret (.call 100 (.cons (.tup (.cons (.bin .sub (.k (.int 0)) (.ix (.v 2) (.k (.int 1)))) (.cons (.ix (.v 2) (.k (.int 0))) .nil))) .nil))) .nil)) .nil) (.seq (.set 1 (.lst (.cons (.call 99 (.cons (.ix (.v 0) (.k (.int 0))) (.cons (.ix (.v 0) (.k (.int 1))) .nil))) (.cons (.call 99 (.cons (.ix (.v 0) (.k (.int 0))) (.cons (.ix (.v 0) (.k (.int 2))) .nil))) (.cons (.call 99 (.cons (.ix (.v 0) (.k (.int 1))) (.cons (.ix (.v 0) (.k (.int 2))) .nil))) .nil))))) (.seq (.ret (.call 100 (.cons (.ix (.lc [3] (.cf (.nm 3) (.it .val (.cons (.v 1) .nil)) (.not_ (.call 101 (.cons (.v 3) .nil))) (.cy (.v 3)))) (.k (.int 0))) .nil))) .nil))), false⟩
def f_whole_roots : Fd := ⟨8, 5, (.seq (.ndef 5 148) (.seq (.ite (.cmp .gt (.v 3) (.v 4)) (.seq (.ret (.lst .nil)) .nil) .nil) (.seq (.set 6 (.ite (.cmp .le (.calln 5 148 [0, 1, 2] (.cons (.v 3) .nil)) (.calln 5 148 [0, 1, 2] (.cons (.v 4) .nil))) (.k (.int 1)) (.neg (.k (.int 1))))) (.seq (.whl (.cmp .lt (.v 3) (.v 4)) (.seq (.set 7 (.bin .fdiv (.bin .add (.v 3) (.v 4)) (.k (.int 2)))) (.seq (.ite (.cmp .lt (.bin .mul (.v 6) (.calln 5 148 [0, 1, 2] (.cons (.v 7) .nil))) (.k (.int 0))) (.seq (.set 3 (.bin .add (.v 7) (.k (.int 1)))) .nil) (.seq (.set 4 (.v 7)) .nil)) .nil))) (.seq (.ret (.ite (.cmp .eq (.calln 5 148 [0, 1, 2] (.cons (.v 3) .nil)) (.k (.int 0))) (.lst (.cons (.v 3) .nil)) (.lst .nil))) .nil))))), true⟩
def f_cubic_roots : Fd := ⟨10, 3, (.seq (.set 3 (.bin .sub (.bin .mul (.v 0) (.v 0)) (.bin .mul (.k (.int 3)) (.v 1)))) (.seq (.ite (.cmp .le (.v 3) (.k (.int 0))) (.seq (.ret (.lst .nil)) .nil) .nil) (.seq (.set 4 (.call 94 (.cons (.v 3) .nil))) (.seq (.set 5 (.ite (.cmp .eq (.bin .mul (.v 4) (.v 4)) (.v 3)) (.v 4) (.bin .add (.v 4) (.k (.int 1))))) (.seq (.par2 8 9 (.cons (.bin .fdiv (.bin .sub (.bin .sub (.k (.int 0)) (.v 0)) (.v 5)) (.k (.int 3))) (.cons (.bin .fdiv (.bin .add (.bin .sub (.k (.int 0)) (.v 0)) (.v 4)) (.k (.int 3))) .nil))) (.seq (.set 6 (.bin .add (.bin .add (.bin .add (.k (.int 1)) (.bi .abs (.cons (.v 0) .nil))) (.bi .abs (.cons (.v 1) .nil))) (.bi .abs (.cons (.v 2) .nil)))) (.seq (.set 7 (.call 103 (.cons (.v 0) (.cons (.v 1) (.cons (.v 2) (.cons (.bin .sub (.k (.int 0)) (.v 6)) (.cons (.v 8) .nil))))))) (.seq (.set 7 (.bin .add (.v 7) (.call 103 (.cons (.v 0) (.cons (.v 1) (.cons (.v 2) (.cons (.bin .add (.v 8) (.k (.int 1))) (.cons (.v 9) .nil)))))))) (.seq (.ret (.bin .add (.v 7) (.call 103 (.cons (.v 0) (.cons (.v 1) (.cons (.v 2) (.cons (.bin .add (.v 9) (.k (.int 1))) (.cons (.v 6) .nil)))))))) .nil))))))))), false⟩
def f_square_roots : Fd := ⟨3, 2, (.seq (.set 2 (.bin .sub (.bin .mul (.v 0) (.v 0)) (.bin .mul (.k (.int 4)) (.v 1)))) (.seq (.ite (.or_ (.cmp .le (.v 2) (.k (.int 0))) (.cmp .ne (.bin .mul (.call 94 (.cons (.v 2) .nil)) (.call 94 (.cons (.v 2) .nil))) (.v 2))) (.seq (.ret (.lst .nil)) .nil) .nil) (.seq (.ret (.lst (.cons (.bin .fdiv (.bin .sub (.bin .sub (.k (.int 0)) (.v 0)) (.call 94 (.cons (.v 2) .nil))) (.k (.int 2))) (.cons (.bin .fdiv (.bin .add (.bin .sub (.k (.int 0)) (.v 0)) (.call 94 (.cons (.v 2) .nil))) (.k (.int 2))) .nil)))) .nil))), false⟩
def f_directions : Fd := ⟨10, 2, (.seq (.ite (.cmp .eq (.bi .len (.cons (.v 0) .nil)) (.k (.int 2))) (.seq (.tgt (.tp (.cons (.nm 4) (.cons (.nm 5) .nil))) (.tup (.cons (.call 96 (.cons (.v 0) .nil)) (.cons (.call 96 (.cons (.v 1) .nil)) .nil)))) (.seq (.set 2 (.bin .sub (.bin .sub (.call 96 (.cons (.call 95 (.cons (.v 1) (.cons (.v 0) (.cons (.k (.int 1)) (.cons (.neg (.k (.int 1))) .nil))))) .nil)) (.v 4)) (.v 5))) (.seq (.set 3 (.call 105 (.cons (.v 2) (.cons (.bin .mul (.v 4) (.v 5)) .nil)))) .nil))) (.seq (.tgt (.tp (.cons (.nm 4) (.cons (.nm 5) .nil))) (.tup (.cons (.bin .sub (.k (.int 0)) (.call 96 (.cons (.v 0) .nil))) (.cons (.call 96 (.cons (.v 1) .nil)) .nil)))) (.seq (.par2 6 7 (.cons (.call 96 (.cons (.call 95 (.cons (.v 1) (.cons (.v 0) (.cons (.k (.int 1)) (.cons (.neg (.k (.int 1))) .nil))))) .nil)) (.cons (.call 96 (.cons (.call 95 (.cons (.v 1) (.cons (.v 0) (.cons (.k (.int 1)) (.cons (.k (.int 1)) .nil))))) .nil)) .nil))) (.seq (.par2 8 2 (.cons (.bin .sub (.bin .fdiv (.bin .add (.v 6) (.v 7)) (.k (.int 2))) (.v 5)) (.cons (.bin .sub (.bin .fdiv (.bin .sub (.v 6) (.v 7)) (.k (.int 2))) (.v 4)) .nil))) (.seq (.set 3 (.call 104 (.cons (.v 8) (.cons (.bin .mul (.v 2) (.v 4)) (.cons (.bin .mul (.bin .mul (.v 5) (.v 4)) (.v 4)) .nil))))) .nil))))) (.seq (.ret (.ite (.cmp .eq (.bi .len (.cons (.v 3) .nil)) (.bi .len (.cons (.v 0) .nil))) (.u1 .srt (.lc [9] (.cf (.nm 9) (.it .val (.cons (.v 3) .nil)) .nil (.cy (.call 93 (.cons (.v 9) (.cons (.v 4) .nil))))))) (.lst .nil))) .nil)), false⟩
def f_base_of : Fd := ⟨4, 2, (.seq (.set 2 (.lc [3] (.cf (.nm 3) (.it .rng1 (.cons (.k (.int 4)) .nil)) (.cmp .ne (.call 96 (.cons (.call 95 (.cons (.v 0) (.cons (.v 1) (.cons (.k (.int 1)) (.cons (.v 3) .nil))))) .nil)) (.k (.int 0))) (.cy (.v 3))))) (.seq (.ret (.ite (.cmp .ne (.v 2) (.lst .nil)) (.ix (.v 2) (.k (.int 0))) (.k .none))) .nil)), false⟩
def f_term_by : Fd := ⟨16, 4, (.seq (.tgt (.tp (.cons (.nm 8) (.cons (.nm 9) .nil))) (.v 3)) (.seq (.set 4 (.call 95 (.cons (.v 2) (.cons (.v 0) (.cons (.v 9) (.cons (.bin .sub (.k (.int 0)) (.v 8)) .nil)))))) (.seq (.par2 10 11 (.cons (.call 102 (.cons (.v 4) .nil)) (.cons (.call 102 (.cons (.call 98 (.cons (.v 4) .nil)) .nil)) .nil))) (.seq (.par2 12 13 (.cons (.call 100 (.cons (.call 97 (.cons (.v 0) (.cons (.v 10) .nil))) .nil)) (.cons (.call 100 (.cons (.call 97 (.cons (.call 98 (.cons (.v 0) .nil)) (.cons (.v 11) .nil))) .nil)) .nil))) (.seq (.set 5 (.bi .sum (.cons (.lc [14, 15] (.cf (.tp (.cons (.nm 14) (.cons (.nm 15) .nil))) (.it .zip (.cons (.v 11) (.cons (.call 97 (.cons (.v 0) (.cons (.v 10) .nil))) .nil))) .nil (.cy (.bin .mul (.v 14) (.v 15))))) .nil))) (.seq (.set 6 (.bin .mul (.bi .sum (.cons (.lc [14, 15] (.cf (.tp (.cons (.nm 14) (.cons (.nm 15) .nil))) (.it .zip (.cons (.v 11) (.cons (.v 12) .nil))) .nil (.cy (.bin .mul (.v 14) (.v 15))))) .nil)) (.bi .sum (.cons (.lc [14, 15] (.cf (.tp (.cons (.nm 14) (.cons (.nm 15) .nil))) (.it .zip (.cons (.v 10) (.cons (.v 13) .nil))) .nil (.cy (.bin .mul (.v 14) (.v 15))))) .nil)))) (.seq (.set 7 (.call 93 (.cons (.bin .mul (.v 5) (.bin .sub (.v 9) (.bin .mul (.v 1) (.v 8)))) (.cons (.bin .mul (.v 6) (.v 9)) .nil)))) (.seq (.ret (.tup (.cons (.v 12) (.cons (.v 13) (.cons (.tup (.cons (.v 7) (.cons (.call 93 (.cons (.bin .mul (.v 5) (.v 8)) (.cons (.bin .mul (.v 6) (.v 9)) .nil))) .nil))) .nil))))) .nil)))))))), false⟩
def f_parted_by : Fd := ⟨6, 2, (.seq (.set 2 (.call 107 (.cons (.v 0) (.cons (.v 1) .nil)))) (.seq (.ite (.isN (.v 2)) (.seq (.ret (.k .none)) .nil) .nil) (.seq (.set 3 (.call 95 (.cons (.v 0) (.cons (.v 1) (.cons (.k (.int 1)) (.cons (.v 2) .nil)))))) (.seq (.set 4 (.call 106 (.cons (.v 3) (.cons (.v 1) .nil)))) (.seq (.ite (.cmp .eq (.v 4) (.lst .nil)) (.seq (.ret (.k .none)) .nil) .nil) (.seq (.ret (.bi .tuple (.cons (.u1 .srt (.lc [5] (.cf (.nm 5) (.it .val (.cons (.v 4) .nil)) .nil (.cy (.call 108 (.cons (.v 3) (.cons (.v 2) (.cons (.v 1) (.cons (.v 5) .nil))))))))) .nil))) .nil)))))), false⟩
def f_parted : Fd := ⟨2, 2, (.seq (.drop (.call 91 (.cons (.v 0) (.cons (.v 1) .nil)))) (.seq (.ret (.call 109 (.cons (.v 0) (.cons (.v 1) .nil)))) .nil)), false⟩
def f_is_parted : Fd := ⟨4, 3, (.seq (.drop (.call 91 (.cons (.v 0) (.cons (.v 1) .nil)))) (.seq (.set 3 (.call 109 (.cons (.v 0) (.cons (.v 1) .nil)))) (.seq (.ret (.and_ (.nsN (.v 3)) (.and_ (.isi (.v 2) .tuple) (.call 112 (.cons (.v 2) (.cons (.v 3) .nil)))))) .nil))), false⟩
def f_same : Fd := ⟨4, 2, (.seq (.ite (.and_ (.isi (.v 0) .tuple) (.isi (.v 1) .tuple)) (.seq (.ret (.and_ (.cmp .eq (.bi .len (.cons (.v 0) .nil)) (.bi .len (.cons (.v 1) .nil))) (.cmp .eq (.lc [2, 3] (.cf (.tp (.cons (.nm 2) (.cons (.nm 3) .nil))) (.it .zip (.cons (.v 0) (.cons (.v 1) .nil))) (.not_ (.call 112 (.cons (.v 2) (.cons (.v 3) .nil)))) (.cy (.k (.int 1))))) (.lst .nil)))) .nil) .nil) (.seq (.ret (.and_ (.isi (.v 0) .int) (.and_ (.not_ (.isi (.v 0) .bool)) (.cmp .eq (.v 0) (.v 1))))) .nil)), false⟩
def f_law_low : Fd := ⟨5, 2, (.seq (.par2 3 4 (.cons (.bi .abs (.cons (.v 0) .nil)) (.cons (.bi .abs (.cons (.v 1) .nil)) .nil))) (.seq (.whl (.cmp .gt (.v 4) (.k (.int 0))) (.seq (.par2 3 4 (.cons (.v 4) (.cons (.bin .mod (.v 3) (.v 4)) .nil))) .nil)) (.seq (.set 2 (.ite (.cmp .lt (.v 1) (.k (.int 0))) (.neg (.k (.int 1))) (.k (.int 1)))) (.seq (.ret (.tup (.cons (.bin .fdiv (.bin .mul (.v 2) (.v 0)) (.v 3)) (.cons (.bin .fdiv (.bin .mul (.v 2) (.v 1)) (.v 3)) .nil)))) .nil)))), false⟩
def f_law_det : Fd := ⟨7, 1, (.seq (.ite (.cmp .eq (.bi .len (.cons (.v 0) .nil)) (.k (.int 2))) (.seq (.ret (.bin .sub (.bin .mul (.ix (.ix (.v 0) (.k (.int 0))) (.k (.int 0))) (.ix (.ix (.v 0) (.k (.int 1))) (.k (.int 1)))) (.bin .mul (.ix (.ix (.v 0) (.k (.int 0))) (.k (.int 1))) (.ix (.ix (.v 0) (.k (.int 1))) (.k (.int 0)))))) .nil) .nil) (.seq (.set 1 (.k (.int 0))) (.seq (.for_ (.tp (.cons (.nm 2) (.cons (.nm 3) .nil))) (.it .val (.cons (.tup (.cons (.tup (.cons (.k (.int 0)) (.cons (.k (.int 1)) .nil))) (.cons (.tup (.cons (.k (.int 1)) (.cons (.neg (.k (.int 1))) .nil))) (.cons (.tup (.cons (.k (.int 2)) (.cons (.k (.int 1)) .nil))) .nil)))) .nil)) (.seq (.set 4 (.lc [6] (.cf (.nm 6) (.it .val (.cons (.sl (.v 0) (.k (.int 1)) .nil) .nil)) .nil (.cy (.bin .add (.sl (.v 6) .nil (.v 2)) (.sl (.v 6) (.bin .add (.v 2) (.k (.int 1))) .nil)))))) (.seq (.set 5 (.bin .sub (.bin .mul (.ix (.ix (.v 4) (.k (.int 0))) (.k (.int 0))) (.ix (.ix (.v 4) (.k (.int 1))) (.k (.int 1)))) (.bin .mul (.ix (.ix (.v 4) (.k (.int 0))) (.k (.int 1))) (.ix (.ix (.v 4) (.k (.int 1))) (.k (.int 0)))))) (.seq (.set 1 (.bin .add (.v 1) (.bin .mul (.bin .mul (.v 3) (.ix (.ix (.v 0) (.k (.int 0))) (.v 2))) (.v 5)))) .nil)))) (.seq (.ret (.v 1)) .nil)))), false⟩
def f_law_clean : Fd := ⟨5, 1, (.seq (.set 1 (.k (.int 0))) (.seq (.for_ (.nm 2) (.it .val (.cons (.v 0) .nil)) (.seq (.par2 1 4 (.cons (.bi .abs (.cons (.v 2) .nil)) (.cons (.v 1) .nil))) (.seq (.whl (.cmp .gt (.v 4) (.k (.int 0))) (.seq (.par2 1 4 (.cons (.v 4) (.cons (.bin .mod (.v 1) (.v 4)) .nil))) .nil)) .nil))) (.seq (.set 3 (.ite (.cmp .gt (.ix (.lc [2] (.cf (.nm 2) (.it .val (.cons (.v 0) .nil)) (.cmp .ne (.v 2) (.k (.int 0))) (.cy (.v 2)))) (.k (.int 0))) (.k (.int 0))) (.v 1) (.neg (.v 1)))) (.seq (.ret (.tup (.cons (.bi .tuple (.cons (.lc [2] (.cf (.nm 2) (.it .val (.cons (.v 0) .nil)) .nil (.cy (.bin .fdiv (.v 2) (.v 3))))) .nil)) (.cons (.v 3) .nil)))) .nil)))), false⟩
def f_is_open : Fd := ⟨2, 1, (.seq (.ite (.or_ (.not_ (.isi (.v 0) .tuple)) (.or_ (.cmp .ne (.bi .len (.cons (.v 0) .nil)) (.k (.int 3))) (.not_ (.call 0 (.cons (.ix (.v 0) (.k (.int 0))) (.cons (.k (.int 2)) (.cons (.k (.int 3)) .nil))))))) (.seq (.ret (.k (.bool false))) .nil) .nil) (.seq (.ite (.or_ (.not_ (.call 2 (.cons (.ix (.v 0) (.k (.int 0))) (.cons (.ix (.v 0) (.k (.int 1))) .nil)))) (.or_ (.not_ (.isi (.ix (.v 0) (.k (.int 2))) .tuple)) (.cmp .ne (.bi .len (.cons (.ix (.v 0) (.k (.int 2))) .nil)) (.call 1 (.cons (.ix (.v 0) (.k (.int 1))) .nil))))) (.seq (.ret (.k (.bool false))) .nil) .nil) (.seq (.ite (.cmp .ne (.lc [1] (.cf (.nm 1) (.it .val (.cons (.ix (.v 0) (.k (.int 2))) .nil)) (.and_ (.nsN (.v 1)) (.not_ (.call 0 (.cons (.v 1) (.cons (.k (.int 0)) (.cons (.bin .sub (.ix (.v 0) (.k (.int 0))) (.k (.int 1))) .nil)))))) (.cy (.v 1)))) (.lst .nil)) (.seq (.ret (.k (.bool false))) .nil) .nil) (.seq (.ret (.cmp .le (.bi .len (.cons (.lc [1] (.cf (.nm 1) (.it .val (.cons (.ix (.v 0) (.k (.int 2))) .nil)) (.isN (.v 1)) (.cy (.v 1)))) .nil)) (.g "MOST_OPEN" 4))) .nil)))), false⟩
def f_need_open : Fd := ⟨1, 1, (.seq (.ite (.not_ (.call 116 (.cons (.v 0) .nil))) (.seq (.rse 9) .nil) .nil) .nil), false⟩
def f_need_most : Fd := ⟨1, 1, (.seq (.ite (.not_ (.call 0 (.cons (.v 0) (.cons (.k (.int 0)) (.cons (.k (.int 9)) .nil))))) (.seq (.rse 7) .nil) .nil) .nil), false⟩
def f_all_fills : Fd := ⟨6, 1, .nil, false⟩
def f_fills_of : Fd := ⟨3, 2, (.seq (.ret (.lc [2] (.cf (.nm 2) (.it .val (.cons (.call 119 (.cons (.v 0) .nil)) .nil)) (.cmp .le (.call 38 (.cons (.v 2) .nil)) (.v 1)) (.cy (.v 2))))) .nil), false⟩
def f_fills : Fd := ⟨2, 2, (.seq (.drop (.call 117 (.cons (.v 0) .nil))) (.seq (.drop (.call 118 (.cons (.v 1) .nil))) (.seq (.ret (.call 120 (.cons (.v 0) (.cons (.v 1) .nil)))) .nil))), false⟩
def f_sure : Fd := ⟨8, 2, (.seq (.drop (.call 117 (.cons (.v 0) .nil))) (.seq (.drop (.call 118 (.cons (.v 1) .nil))) (.seq (.set 2 (.lc [6] (.cf (.nm 6) (.it .val (.cons (.call 120 (.cons (.v 0) (.cons (.v 1) .nil))) .nil)) .nil (.cy (.ix (.v 6) (.k (.int 2))))))) (.seq (.ite (.cmp .eq (.v 2) (.lst .nil)) (.seq (.ret (.k .none)) .nil) .nil) (.seq (.set 3 (.tup .nil)) (.seq (.for_ (.tp (.cons (.nm 4) (.cons (.nm 5) .nil))) (.it .enum (.cons (.ix (.v 2) (.k (.int 0))) .nil)) (.seq (.set 3 (.bin .add (.v 3) (.tup (.cons (.ite (.cmp .eq (.lc [7] (.cf (.nm 7) (.it .val (.cons (.v 2) .nil)) (.cmp .ne (.ix (.v 7) (.v 4)) (.v 5)) (.cy (.v 7)))) (.lst .nil)) (.v 5) (.k .none)) .nil)))) .nil)) (.seq (.ret (.v 3)) .nil))))))), false⟩
def f_fewest : Fd := ⟨2, 1, .nil, false⟩
def f_value_of : Fd := ⟨5, 3, (.seq (.ret (.bin .mod (.bi .sum (.cons (.lc [3, 4] (.cf (.tp (.cons (.nm 3) (.cons (.nm 4) .nil))) (.it .zip (.cons (.v 1) (.cons (.call 14 (.cons (.v 0) (.cons (.v 2) .nil))) .nil))) .nil (.cy (.bin .mul (.v 3) (.v 4))))) .nil)) (.v 0))) .nil), false⟩
def f_are_facts : Fd := ⟨4, 3, (.seq (.ite (.or_ (.not_ (.isi (.v 2) .tuple)) (.cmp .gt (.bi .len (.cons (.v 2) .nil)) (.g "MOST_FACTS" 6))) (.seq (.ret (.k (.bool false))) .nil) .nil) (.seq (.for_ (.nm 3) (.it .val (.cons (.v 2) .nil)) (.seq (.ite (.or_ (.not_ (.isi (.v 3) .tuple)) (.or_ (.cmp .ne (.bi .len (.cons (.v 3) .nil)) (.k (.int 2))) (.not_ (.call 7 (.cons (.v 0) (.cons (.v 1) (.cons (.ix (.v 3) (.k (.int 0))) .nil))))))) (.seq (.ret (.k (.bool false))) .nil) .nil) (.seq (.ite (.not_ (.call 0 (.cons (.ix (.v 3) (.k (.int 1))) (.cons (.k (.int 0)) (.cons (.bin .sub (.v 0) (.k (.int 1))) .nil))))) (.seq (.ret (.k (.bool false))) .nil) .nil) .nil))) (.seq (.ret (.k (.bool true))) .nil))), false⟩
def f_need_facts : Fd := ⟨3, 3, (.seq (.drop (.call 9 (.cons (.v 0) .nil))) (.seq (.drop (.call 10 (.cons (.v 0) (.cons (.v 1) .nil)))) (.seq (.ite (.not_ (.call 125 (.cons (.v 0) (.cons (.v 1) (.cons (.v 2) .nil))))) (.seq (.rse 10) .nil) .nil) .nil))), false⟩
def f_told_by : Fd := ⟨8, 3, (.seq (.set 3 (.lc [6] (.cf (.nm 6) (.it .val (.cons (.call 13 (.cons (.v 0) (.cons (.v 1) .nil))) .nil)) .nil (.cy (.tup (.cons (.v 6) (.cons (.call 14 (.cons (.v 0) (.cons (.v 6) .nil))) .nil))))))) (.seq (.for_ (.tp (.cons (.nm 4) (.cons (.nm 5) .nil))) (.it .val (.cons (.v 2) .nil)) (.seq (.set 3 (.lc [7] (.cf (.nm 7) (.it .val (.cons (.v 3) .nil)) (.cmp .eq (.call 124 (.cons (.v 0) (.cons (.ix (.v 7) (.k (.int 1))) (.cons (.v 4) .nil)))) (.v 5)) (.cy (.v 7))))) .nil)) (.seq (.ret (.lc [7] (.cf (.nm 7) (.it .val (.cons (.v 3) .nil)) .nil (.cy (.ix (.v 7) (.k (.int 0))))))) .nil))), false⟩
def f_need_asked : Fd := ⟨3, 3, (.seq (.ite (.not_ (.call 7 (.cons (.v 0) (.cons (.v 1) (.cons (.v 2) .nil))))) (.seq (.rse 3) .nil) .nil) .nil), false⟩
def f_value : Fd := ⟨2, 2, (.seq (.drop (.call 34 (.cons (.v 0) .nil))) (.seq (.drop (.call 128 (.cons (.ix (.v 0) (.k (.int 0))) (.cons (.ix (.v 0) (.k (.int 1))) (.cons (.v 1) .nil))))) (.seq (.ret (.call 124 (.cons (.ix (.v 0) (.k (.int 0))) (.cons (.ix (.v 0) (.k (.int 2))) (.cons (.v 1) .nil))))) .nil))), false⟩
def f_terms_told : Fd := ⟨3, 3, (.seq (.drop (.call 126 (.cons (.v 0) (.cons (.v 1) (.cons (.v 2) .nil))))) (.seq (.ret (.call 127 (.cons (.v 0) (.cons (.v 1) (.cons (.v 2) .nil))))) .nil)), false⟩
def f_surely : Fd := ⟨6, 4, (.seq (.drop (.call 126 (.cons (.v 0) (.cons (.v 1) (.cons (.v 2) .nil))))) (.seq (.drop (.call 128 (.cons (.v 0) (.cons (.v 1) (.cons (.v 3) .nil))))) (.seq (.set 4 (.u1 .sset (.lc [5] (.cf (.nm 5) (.it .val (.cons (.call 127 (.cons (.v 0) (.cons (.v 1) (.cons (.v 2) .nil)))) .nil)) .nil (.cy (.call 124 (.cons (.v 0) (.cons (.call 14 (.cons (.v 0) (.cons (.v 5) .nil))) (.cons (.v 3) .nil))))))))) (.seq (.ret (.ite (.cmp .eq (.bi .len (.cons (.v 4) .nil)) (.k (.int 1))) (.ix (.v 4) (.k (.int 0))) (.k .none))) .nil)))), false⟩
def f_law_lines_for : Fd := ⟨4, 3, (.seq (.ret (.bi .tuple (.cons (.lc [3] (.cf (.nm 3) (.it .val (.cons (.v 2) .nil)) .nil (.cy (.call 23 (.cons (.v 0) (.cons (.call 25 (.cons (.v 1) (.cons (.v 3) .nil))) .nil)))))) .nil))) .nil), false⟩
def f_text_of : Fd := ⟨4, 1, (.seq (.set 1 (.join (.k (.str ("x" : PySem.Str))) (.lc [2] (.cf (.nm 2) (.it .val (.cons (.ix (.v 0) (.k (.int 1))) .nil)) .nil (.cy (.bi .str (.cons (.v 2) .nil))))))) (.seq (.ret (.join (.k (.str (" " : PySem.Str))) (.lst (.cons (.bi .str (.cons (.ix (.v 0) (.k (.int 0))) .nil)) (.cons (.v 1) (.cons (.join (.k (.str ("" : PySem.Str))) (.lc [3] (.cf (.nm 3) (.it .val (.cons (.ix (.v 0) (.k (.int 2))) .nil)) .nil (.cy (.bi .str (.cons (.v 3) .nil)))))) .nil)))))) .nil)), false⟩
def f_figures_in : Fd := ⟨2, 1, (.seq (.ret (.ite (.cmp .eq (.lc [1] (.cf (.nm 1) (.it .val (.cons (.v 0) .nil)) (.cmp .nin (.v 1) (.k (.str ("0123" : PySem.Str)))) (.cy (.v 1)))) (.lst .nil)) (.bi .tuple (.cons (.lc [1] (.cf (.nm 1) (.it .val (.cons (.v 0) .nil)) .nil (.cy (.bi .int (.cons (.v 1) .nil))))) .nil)) (.k .none))) .nil), false⟩
def f_table_of : Fd := ⟨3, 1, (.seq (.set 1 (.ite (.isi (.v 0) .str) (.u1 (.split (" " : PySem.Str)) (.v 0)) (.lst .nil))) (.seq (.ite (.or_ (.cmp .ne (.bi .len (.cons (.v 1) .nil)) (.k (.int 3))) (.cmp .nin (.ix (.v 1) (.k (.int 0))) (.tup (.cons (.k (.str ("2" : PySem.Str))) (.cons (.k (.str ("3" : PySem.Str))) .nil))))) (.seq (.rse 13) .nil) .nil) (.seq (.set 2 (.tup (.cons (.bi .int (.cons (.ix (.v 1) (.k (.int 0))) .nil)) (.cons (.call 134 (.cons (.u1 (.repl 1 ("x" : PySem.Str) ("" : PySem.Str)) (.v 1)) .nil)) (.cons (.call 134 (.cons (.ix (.v 1) (.k (.int 2))) .nil)) .nil))))) (.seq (.ite (.or_ (.not_ (.call 6 (.cons (.v 2) .nil))) (.cmp .ne (.call 133 (.cons (.v 2) .nil)) (.v 0))) (.seq (.rse 13) .nil) .nil) (.seq (.ret (.v 2)) .nil))))), false⟩
def f_table_text : Fd := ⟨1, 1, (.seq (.drop (.call 34 (.cons (.v 0) .nil))) (.seq (.ret (.call 133 (.cons (.v 0) .nil))) .nil)), false⟩
def f_read_table : Fd := ⟨1, 1, (.seq (.ret (.call 135 (.cons (.v 0) .nil))) .nil), false⟩
def f_law_text : Fd := ⟨3, 1, (.seq (.set 1 (.join (.k (.str ("x" : PySem.Str))) (.lc [2] (.cf (.nm 2) (.it .val (.cons (.ix (.v 0) (.k (.int 1))) .nil)) .nil (.cy (.bi .str (.cons (.v 2) .nil))))))) (.seq (.ret (.bin .add (.bin .add (.bin .add (.bin .add (.bi .str (.cons (.ix (.v 0) (.k (.int 0))) .nil)) (.k (.str (" " : PySem.Str)))) (.v 1)) (.k (.str (" " : PySem.Str)))) (.join (.k (.str ("" : PySem.Str))) (.lc [2] (.cf (.nm 2) (.it .val (.cons (.ix (.v 0) (.k (.int 2))) .nil)) .nil (.cy (.bi .str (.cons (.v 2) .nil)))))))) .nil)), false⟩
def f_is_spot : Fd := ⟨4, 2, (.seq (.ite (.or_ (.not_ (.isi (.v 1) .tuple)) (.cmp .ne (.bi .len (.cons (.v 1) .nil)) (.k (.int 3)))) (.seq (.ret (.k (.bool false))) .nil) .nil) (.seq (.ret (.cmp .eq (.lc [2, 3] (.cf (.tp (.cons (.nm 2) (.cons (.nm 3) .nil))) (.it .zip (.cons (.v 1) (.cons (.v 0) .nil))) (.not_ (.call 0 (.cons (.v 2) (.cons (.k (.int 0)) (.cons (.bin .sub (.v 3) (.k (.int 1))) .nil))))) (.cy (.k (.int 1))))) (.lst .nil))) .nil)), false⟩
def f_wall : Fd := ⟨1, 1, .nil, false⟩
def f_law_step_at : Fd := ⟨14, 2, .nil, false⟩
def f_law_done : Fd := ⟨7, 2, .nil, false⟩
def f_law_call : Fd := ⟨9, 2, (.seq (.tgt (.tp (.cons (.nm 4) (.cons (.nm 5) (.cons (.nm 6) .nil)))) (.v 1)) (.seq (.set 2 (.call 23 (.cons (.v 0) (.cons (.lst (.cons (.k (.str ("put" : PySem.Str))) (.cons (.k (.str ("put" : PySem.Str))) (.cons (.k (.str ("add" : PySem.Str))) (.cons (.k (.str ("add" : PySem.Str))) (.cons (.k (.str ("all" : PySem.Str))) (.cons (.k (.str ("undo" : PySem.Str))) .nil))))))) .nil)))) (.seq (.ite (.cmp .eq (.v 2) (.k (.str ("put" : PySem.Str)))) (.seq (.set 7 (.call 23 (.cons (.v 0) (.cons (.bin .add (.call 27 (.cons (.v 5) .nil)) (.lst (.cons (.tup (.cons (.k (.int 0)) (.cons (.k (.int 0)) (.cons (.k (.int 7)) .nil)))) .nil))) .nil)))) (.seq (.ret (.tup (.cons (.v 2) (.cons (.tup (.cons (.v 7) (.cons (.call 23 (.cons (.v 0) (.cons (.lst (.cons (.k (.int 0)) (.cons (.k (.int 1)) (.cons (.bin .sub (.v 4) (.k (.int 1))) (.cons (.v 4) (.cons (.neg (.k (.int 1))) .nil)))))) .nil))) .nil))) .nil)))) .nil)) .nil) (.seq (.set 3 (.call 32 (.cons (.v 0) (.cons (.v 4) (.cons (.v 5) .nil))))) (.seq (.ite (.cmp .eq (.v 2) (.k (.str ("all" : PySem.Str)))) (.seq (.set 8 (.call 23 (.cons (.v 0) (.cons (.lst (.cons (.k (.int 0)) (.cons (.k (.int 1)) (.cons (.k (.int 2)) (.cons (.k (.int 3)) (.cons (.k (.int 9)) (.cons (.k (.int 10)) .nil))))))) .nil)))) (.seq (.ret (.tup (.cons (.v 2) (.cons (.ite (.cmp .gt (.call 22 (.cons (.v 0) (.cons (.k (.int 3)) .nil))) (.k (.int 0))) (.bin .mul (.tup (.cons (.v 3) .nil)) (.v 8)) (.tup (.cons (.v 3) (.cons (.tup (.cons (.tup (.cons (.k (.int 0)) (.cons (.k (.int 0)) .nil))) (.cons (.tup (.cons (.k (.int 1)) (.cons (.k (.int 0)) .nil))) (.cons (.tup (.cons (.k (.int 1)) (.cons (.k (.int 0)) .nil))) .nil)))) .nil)))) .nil)))) .nil)) .nil) (.seq (.ite (.cmp .eq (.call 22 (.cons (.v 0) (.cons (.k (.int 6)) .nil))) (.k (.int 0))) (.seq (.ret (.tup (.cons (.v 2) (.cons (.call 23 (.cons (.v 0) (.cons (.lst (.cons (.tup (.cons (.bin .mul (.tup (.cons (.k (.int 0)) .nil)) (.ix (.v 5) (.k (.int 0)))) (.cons (.ix (.v 3) (.k (.int 1))) (.cons (.ix (.v 3) (.k (.int 2))) .nil)))) (.cons (.tup (.cons (.ix (.v 3) (.k (.int 0))) (.cons (.ix (.v 3) (.k (.int 1))) .nil))) (.cons (.tup .nil) .nil)))) .nil))) .nil)))) .nil) .nil) (.seq (.ret (.tup (.cons (.v 2) (.cons (.v 3) .nil)))) .nil))))))), false⟩
def f_law_shows : Fd := ⟨10, 3, .nil, false⟩
def f_layers_of : Fd := ⟨12, 2, .nil, false⟩
def f_how_many : Fd := ⟨3, 2, .nil, false⟩
def f_greatest : Fd := ⟨2, 2, .nil, false⟩
def f_whole_roots_at : Fd := ⟨4, 4, (.seq (.ret (.bin .add (.bin .mul (.bin .add (.bin .mul (.bin .add (.v 0) (.v 1)) (.v 0)) (.v 2)) (.v 0)) (.v 3))) .nil), false⟩
def com : List Fd := [f_is_int, f_size_of, f_are_sides, f_are_figures, f_is_row, f_is_plain, f_is_table_so, f_are_rows, f_is_term_so, f_need_base, f_need_sides, f_need_term, f_rows_of, f_terms_of, f_entries_of, f_plus, f_sum_of, f_is_table, f_is_term, f_all_terms, f_total, f_law_cup_of, f_law_sip, f_law_any, f_law_shape, f_law_rows_for, f_law_is_plain, f_law_spots, f_law_spread, f_law_parts, f_law_added, f_law_nought, f_law_part, f_law_drawn, f_need_table, f_minus, f_singles_of, f_pairs_of, f_least_of, f_twos, f_threes, f_fours, f_ways_of, f_is_way_so, f_least, f_ways, f_is_way, f_law_less, f_law_twos, f_law_ways_of, f_law_least_of, f_need_way, f_only, f_second, f_figures_for, f_mixed, f_lots_of, f_bond_of, f_few_rank_of, f_three_ranks, f_sizes_of, f_is_some_way, f_need_some_way, f_assures, f_few_ranks, f_are_rows_so, f_need_rows, f_bond, f_few_rank, f_need_side, f_need_row, f_place_of, f_spots_with, f_flat_of, f_rank_of, f_cut_of, f_flat, f_flat_rank, f_cut, f_cut_rank, f_bounds, f_all_spots, f_put_back, f_moved_of, f_turned_of, f_are_free_rows, f_is_order, f_moved, f_turned, f_law_free, f_are_slices, f_need_slices, f_common, f_fraction, f_root_floor, f_blend, f_det, f_led, f_across, f_crossed, f_plain, f_is_nought, f_lost, f_whole_roots, f_cubic_roots, f_square_roots, f_directions, f_base_of, f_term_by, f_parted_by, f_parted, f_is_parted, f_same, f_law_low, f_law_det, f_law_clean, f_is_open, f_need_open, f_need_most, f_all_fills, f_fills_of, f_fills, f_sure, f_fewest, f_value_of, f_are_facts, f_need_facts, f_told_by, f_need_asked, f_value, f_terms_told, f_surely, f_law_lines_for, f_text_of, f_figures_in, f_table_of, f_table_text, f_read_table, f_law_text, f_is_spot, f_wall, f_law_step_at, f_law_done, f_law_call, f_law_shows, f_layers_of, f_how_many, f_greatest, f_whole_roots_at]
abbrev all (own : List Fd) : List Fd := com ++ own
@[simp] theorem cf_is_int (own : List Fd) (fuel d : Nat) : cfD (com ++ own) fuel (d + 1) 0 = callS (cfD (com ++ own) fuel d) fuel f_is_int := (rfl)
@[simp] theorem cf_size_of (own : List Fd) (fuel d : Nat) : cfD (com ++ own) fuel (d + 1) 1 = callS (cfD (com ++ own) fuel d) fuel f_size_of := (rfl)
@[simp] theorem cf_are_sides (own : List Fd) (fuel d : Nat) : cfD (com ++ own) fuel (d + 1) 2 = callS (cfD (com ++ own) fuel d) fuel f_are_sides := (rfl)
@[simp] theorem cf_are_figures (own : List Fd) (fuel d : Nat) : cfD (com ++ own) fuel (d + 1) 3 = callS (cfD (com ++ own) fuel d) fuel f_are_figures := (rfl)
@[simp] theorem cf_is_row (own : List Fd) (fuel d : Nat) : cfD (com ++ own) fuel (d + 1) 4 = callS (cfD (com ++ own) fuel d) fuel f_is_row := (rfl)
@[simp] theorem cf_is_plain (own : List Fd) (fuel d : Nat) : cfD (com ++ own) fuel (d + 1) 5 = callS (cfD (com ++ own) fuel d) fuel f_is_plain := (rfl)
@[simp] theorem cf_is_table_so (own : List Fd) (fuel d : Nat) : cfD (com ++ own) fuel (d + 1) 6 = callS (cfD (com ++ own) fuel d) fuel f_is_table_so := (rfl)
@[simp] theorem cf_are_rows (own : List Fd) (fuel d : Nat) : cfD (com ++ own) fuel (d + 1) 7 = callS (cfD (com ++ own) fuel d) fuel f_are_rows := (rfl)
@[simp] theorem cf_is_term_so (own : List Fd) (fuel d : Nat) : cfD (com ++ own) fuel (d + 1) 8 = callS (cfD (com ++ own) fuel d) fuel f_is_term_so := (rfl)
@[simp] theorem cf_need_base (own : List Fd) (fuel d : Nat) : cfD (com ++ own) fuel (d + 1) 9 = callS (cfD (com ++ own) fuel d) fuel f_need_base := (rfl)
@[simp] theorem cf_need_sides (own : List Fd) (fuel d : Nat) : cfD (com ++ own) fuel (d + 1) 10 = callS (cfD (com ++ own) fuel d) fuel f_need_sides := (rfl)
@[simp] theorem cf_need_term (own : List Fd) (fuel d : Nat) : cfD (com ++ own) fuel (d + 1) 11 = callS (cfD (com ++ own) fuel d) fuel f_need_term := (rfl)
@[simp] theorem cf_rows_of (own : List Fd) (fuel d : Nat) : cfD (com ++ own) fuel (d + 1) 12 = callS (cfD (com ++ own) fuel d) fuel f_rows_of := (rfl)
@[simp] theorem cf_terms_of (own : List Fd) (fuel d : Nat) : cfD (com ++ own) fuel (d + 1) 13 = callS (cfD (com ++ own) fuel d) fuel f_terms_of := (rfl)
@[simp] theorem cf_entries_of (own : List Fd) (fuel d : Nat) : cfD (com ++ own) fuel (d + 1) 14 = callS (cfD (com ++ own) fuel d) fuel f_entries_of := (rfl)
@[simp] theorem cf_plus (own : List Fd) (fuel d : Nat) : cfD (com ++ own) fuel (d + 1) 15 = callS (cfD (com ++ own) fuel d) fuel f_plus := (rfl)
@[simp] theorem cf_sum_of (own : List Fd) (fuel d : Nat) : cfD (com ++ own) fuel (d + 1) 16 = callS (cfD (com ++ own) fuel d) fuel f_sum_of := (rfl)
@[simp] theorem cf_is_table (own : List Fd) (fuel d : Nat) : cfD (com ++ own) fuel (d + 1) 17 = callS (cfD (com ++ own) fuel d) fuel f_is_table := (rfl)
@[simp] theorem cf_is_term (own : List Fd) (fuel d : Nat) : cfD (com ++ own) fuel (d + 1) 18 = callS (cfD (com ++ own) fuel d) fuel f_is_term := (rfl)
@[simp] theorem cf_all_terms (own : List Fd) (fuel d : Nat) : cfD (com ++ own) fuel (d + 1) 19 = callS (cfD (com ++ own) fuel d) fuel f_all_terms := (rfl)
@[simp] theorem cf_total (own : List Fd) (fuel d : Nat) : cfD (com ++ own) fuel (d + 1) 20 = callS (cfD (com ++ own) fuel d) fuel f_total := (rfl)
@[simp] theorem cf_law_cup_of (own : List Fd) (fuel d : Nat) : cfD (com ++ own) fuel (d + 1) 21 = callS (cfD (com ++ own) fuel d) fuel f_law_cup_of := (rfl)
@[simp] theorem cf_law_sip (own : List Fd) (fuel d : Nat) : cfD (com ++ own) fuel (d + 1) 22 = callS (cfD (com ++ own) fuel d) fuel f_law_sip := (rfl)
@[simp] theorem cf_law_any (own : List Fd) (fuel d : Nat) : cfD (com ++ own) fuel (d + 1) 23 = callS (cfD (com ++ own) fuel d) fuel f_law_any := (rfl)
@[simp] theorem cf_law_shape (own : List Fd) (fuel d : Nat) : cfD (com ++ own) fuel (d + 1) 24 = callS (cfD (com ++ own) fuel d) fuel f_law_shape := (rfl)
@[simp] theorem cf_law_rows_for (own : List Fd) (fuel d : Nat) : cfD (com ++ own) fuel (d + 1) 25 = callS (cfD (com ++ own) fuel d) fuel f_law_rows_for := (rfl)
@[simp] theorem cf_law_is_plain (own : List Fd) (fuel d : Nat) : cfD (com ++ own) fuel (d + 1) 26 = callS (cfD (com ++ own) fuel d) fuel f_law_is_plain := (rfl)
@[simp] theorem cf_law_spots (own : List Fd) (fuel d : Nat) : cfD (com ++ own) fuel (d + 1) 27 = callS (cfD (com ++ own) fuel d) fuel f_law_spots := (rfl)
@[simp] theorem cf_law_spread (own : List Fd) (fuel d : Nat) : cfD (com ++ own) fuel (d + 1) 28 = callS (cfD (com ++ own) fuel d) fuel f_law_spread := (rfl)
@[simp] theorem cf_law_parts (own : List Fd) (fuel d : Nat) : cfD (com ++ own) fuel (d + 1) 29 = callS (cfD (com ++ own) fuel d) fuel f_law_parts := (rfl)
@[simp] theorem cf_law_added (own : List Fd) (fuel d : Nat) : cfD (com ++ own) fuel (d + 1) 30 = callS (cfD (com ++ own) fuel d) fuel f_law_added := (rfl)
@[simp] theorem cf_law_nought (own : List Fd) (fuel d : Nat) : cfD (com ++ own) fuel (d + 1) 31 = callS (cfD (com ++ own) fuel d) fuel f_law_nought := (rfl)
@[simp] theorem cf_law_part (own : List Fd) (fuel d : Nat) : cfD (com ++ own) fuel (d + 1) 32 = callS (cfD (com ++ own) fuel d) fuel f_law_part := (rfl)
@[simp] theorem cf_law_drawn (own : List Fd) (fuel d : Nat) : cfD (com ++ own) fuel (d + 1) 33 = callS (cfD (com ++ own) fuel d) fuel f_law_drawn := (rfl)
@[simp] theorem cf_need_table (own : List Fd) (fuel d : Nat) : cfD (com ++ own) fuel (d + 1) 34 = callS (cfD (com ++ own) fuel d) fuel f_need_table := (rfl)
@[simp] theorem cf_minus (own : List Fd) (fuel d : Nat) : cfD (com ++ own) fuel (d + 1) 35 = callS (cfD (com ++ own) fuel d) fuel f_minus := (rfl)
@[simp] theorem cf_singles_of (own : List Fd) (fuel d : Nat) : cfD (com ++ own) fuel (d + 1) 36 = callS (cfD (com ++ own) fuel d) fuel f_singles_of := (rfl)
@[simp] theorem cf_pairs_of (own : List Fd) (fuel d : Nat) : cfD (com ++ own) fuel (d + 1) 37 = callS (cfD (com ++ own) fuel d) fuel f_pairs_of := (rfl)
@[simp] theorem cf_least_of (own : List Fd) (fuel d : Nat) : cfD (com ++ own) fuel (d + 1) 38 = callS (cfD (com ++ own) fuel d) fuel f_least_of := (rfl)
@[simp] theorem cf_twos (own : List Fd) (fuel d : Nat) : cfD (com ++ own) fuel (d + 1) 39 = callS (cfD (com ++ own) fuel d) fuel f_twos := (rfl)
@[simp] theorem cf_threes (own : List Fd) (fuel d : Nat) : cfD (com ++ own) fuel (d + 1) 40 = callS (cfD (com ++ own) fuel d) fuel f_threes := (rfl)
@[simp] theorem cf_fours (own : List Fd) (fuel d : Nat) : cfD (com ++ own) fuel (d + 1) 41 = callS (cfD (com ++ own) fuel d) fuel f_fours := (rfl)
@[simp] theorem cf_ways_of (own : List Fd) (fuel d : Nat) : cfD (com ++ own) fuel (d + 1) 42 = callS (cfD (com ++ own) fuel d) fuel f_ways_of := (rfl)
@[simp] theorem cf_is_way_so (own : List Fd) (fuel d : Nat) : cfD (com ++ own) fuel (d + 1) 43 = callS (cfD (com ++ own) fuel d) fuel f_is_way_so := (rfl)
@[simp] theorem cf_least (own : List Fd) (fuel d : Nat) : cfD (com ++ own) fuel (d + 1) 44 = callS (cfD (com ++ own) fuel d) fuel f_least := (rfl)
@[simp] theorem cf_ways (own : List Fd) (fuel d : Nat) : cfD (com ++ own) fuel (d + 1) 45 = callS (cfD (com ++ own) fuel d) fuel f_ways := (rfl)
@[simp] theorem cf_is_way (own : List Fd) (fuel d : Nat) : cfD (com ++ own) fuel (d + 1) 46 = callS (cfD (com ++ own) fuel d) fuel f_is_way := (rfl)
@[simp] theorem cf_law_less (own : List Fd) (fuel d : Nat) : cfD (com ++ own) fuel (d + 1) 47 = callS (cfD (com ++ own) fuel d) fuel f_law_less := (rfl)
@[simp] theorem cf_law_twos (own : List Fd) (fuel d : Nat) : cfD (com ++ own) fuel (d + 1) 48 = callS (cfD (com ++ own) fuel d) fuel f_law_twos := (rfl)
@[simp] theorem cf_law_ways_of (own : List Fd) (fuel d : Nat) : cfD (com ++ own) fuel (d + 1) 49 = callS (cfD (com ++ own) fuel d) fuel f_law_ways_of := (rfl)
@[simp] theorem cf_law_least_of (own : List Fd) (fuel d : Nat) : cfD (com ++ own) fuel (d + 1) 50 = callS (cfD (com ++ own) fuel d) fuel f_law_least_of := (rfl)
@[simp] theorem cf_need_way (own : List Fd) (fuel d : Nat) : cfD (com ++ own) fuel (d + 1) 51 = callS (cfD (com ++ own) fuel d) fuel f_need_way := (rfl)
@[simp] theorem cf_only (own : List Fd) (fuel d : Nat) : cfD (com ++ own) fuel (d + 1) 52 = callS (cfD (com ++ own) fuel d) fuel f_only := (rfl)
@[simp] theorem cf_second (own : List Fd) (fuel d : Nat) : cfD (com ++ own) fuel (d + 1) 53 = callS (cfD (com ++ own) fuel d) fuel f_second := (rfl)
@[simp] theorem cf_figures_for (own : List Fd) (fuel d : Nat) : cfD (com ++ own) fuel (d + 1) 54 = callS (cfD (com ++ own) fuel d) fuel f_figures_for := (rfl)
@[simp] theorem cf_mixed (own : List Fd) (fuel d : Nat) : cfD (com ++ own) fuel (d + 1) 55 = callS (cfD (com ++ own) fuel d) fuel f_mixed := (rfl)
@[simp] theorem cf_lots_of (own : List Fd) (fuel d : Nat) : cfD (com ++ own) fuel (d + 1) 56 = callS (cfD (com ++ own) fuel d) fuel f_lots_of := (rfl)
@[simp] theorem cf_bond_of (own : List Fd) (fuel d : Nat) : cfD (com ++ own) fuel (d + 1) 57 = callS (cfD (com ++ own) fuel d) fuel f_bond_of := (rfl)
@[simp] theorem cf_few_rank_of (own : List Fd) (fuel d : Nat) : cfD (com ++ own) fuel (d + 1) 58 = callS (cfD (com ++ own) fuel d) fuel f_few_rank_of := (rfl)
@[simp] theorem cf_three_ranks (own : List Fd) (fuel d : Nat) : cfD (com ++ own) fuel (d + 1) 59 = callS (cfD (com ++ own) fuel d) fuel f_three_ranks := (rfl)
@[simp] theorem cf_sizes_of (own : List Fd) (fuel d : Nat) : cfD (com ++ own) fuel (d + 1) 60 = callS (cfD (com ++ own) fuel d) fuel f_sizes_of := (rfl)
@[simp] theorem cf_is_some_way (own : List Fd) (fuel d : Nat) : cfD (com ++ own) fuel (d + 1) 61 = callS (cfD (com ++ own) fuel d) fuel f_is_some_way := (rfl)
@[simp] theorem cf_need_some_way (own : List Fd) (fuel d : Nat) : cfD (com ++ own) fuel (d + 1) 62 = callS (cfD (com ++ own) fuel d) fuel f_need_some_way := (rfl)
@[simp] theorem cf_assures (own : List Fd) (fuel d : Nat) : cfD (com ++ own) fuel (d + 1) 63 = callS (cfD (com ++ own) fuel d) fuel f_assures := (rfl)
@[simp] theorem cf_few_ranks (own : List Fd) (fuel d : Nat) : cfD (com ++ own) fuel (d + 1) 64 = callS (cfD (com ++ own) fuel d) fuel f_few_ranks := (rfl)
@[simp] theorem cf_are_rows_so (own : List Fd) (fuel d : Nat) : cfD (com ++ own) fuel (d + 1) 65 = callS (cfD (com ++ own) fuel d) fuel f_are_rows_so := (rfl)
@[simp] theorem cf_need_rows (own : List Fd) (fuel d : Nat) : cfD (com ++ own) fuel (d + 1) 66 = callS (cfD (com ++ own) fuel d) fuel f_need_rows := (rfl)
@[simp] theorem cf_bond (own : List Fd) (fuel d : Nat) : cfD (com ++ own) fuel (d + 1) 67 = callS (cfD (com ++ own) fuel d) fuel f_bond := (rfl)
@[simp] theorem cf_few_rank (own : List Fd) (fuel d : Nat) : cfD (com ++ own) fuel (d + 1) 68 = callS (cfD (com ++ own) fuel d) fuel f_few_rank := (rfl)
@[simp] theorem cf_need_side (own : List Fd) (fuel d : Nat) : cfD (com ++ own) fuel (d + 1) 69 = callS (cfD (com ++ own) fuel d) fuel f_need_side := (rfl)
@[simp] theorem cf_need_row (own : List Fd) (fuel d : Nat) : cfD (com ++ own) fuel (d + 1) 70 = callS (cfD (com ++ own) fuel d) fuel f_need_row := (rfl)
@[simp] theorem cf_place_of (own : List Fd) (fuel d : Nat) : cfD (com ++ own) fuel (d + 1) 71 = callS (cfD (com ++ own) fuel d) fuel f_place_of := (rfl)
@[simp] theorem cf_spots_with (own : List Fd) (fuel d : Nat) : cfD (com ++ own) fuel (d + 1) 72 = callS (cfD (com ++ own) fuel d) fuel f_spots_with := (rfl)
@[simp] theorem cf_flat_of (own : List Fd) (fuel d : Nat) : cfD (com ++ own) fuel (d + 1) 73 = callS (cfD (com ++ own) fuel d) fuel f_flat_of := (rfl)
@[simp] theorem cf_rank_of (own : List Fd) (fuel d : Nat) : cfD (com ++ own) fuel (d + 1) 74 = callS (cfD (com ++ own) fuel d) fuel f_rank_of := (rfl)
@[simp] theorem cf_cut_of (own : List Fd) (fuel d : Nat) : cfD (com ++ own) fuel (d + 1) 75 = callS (cfD (com ++ own) fuel d) fuel f_cut_of := (rfl)
@[simp] theorem cf_flat (own : List Fd) (fuel d : Nat) : cfD (com ++ own) fuel (d + 1) 76 = callS (cfD (com ++ own) fuel d) fuel f_flat := (rfl)
@[simp] theorem cf_flat_rank (own : List Fd) (fuel d : Nat) : cfD (com ++ own) fuel (d + 1) 77 = callS (cfD (com ++ own) fuel d) fuel f_flat_rank := (rfl)
@[simp] theorem cf_cut (own : List Fd) (fuel d : Nat) : cfD (com ++ own) fuel (d + 1) 78 = callS (cfD (com ++ own) fuel d) fuel f_cut := (rfl)
@[simp] theorem cf_cut_rank (own : List Fd) (fuel d : Nat) : cfD (com ++ own) fuel (d + 1) 79 = callS (cfD (com ++ own) fuel d) fuel f_cut_rank := (rfl)
@[simp] theorem cf_bounds (own : List Fd) (fuel d : Nat) : cfD (com ++ own) fuel (d + 1) 80 = callS (cfD (com ++ own) fuel d) fuel f_bounds := (rfl)
@[simp] theorem cf_all_spots (own : List Fd) (fuel d : Nat) : cfD (com ++ own) fuel (d + 1) 81 = callS (cfD (com ++ own) fuel d) fuel f_all_spots := (rfl)
@[simp] theorem cf_put_back (own : List Fd) (fuel d : Nat) : cfD (com ++ own) fuel (d + 1) 82 = callS (cfD (com ++ own) fuel d) fuel f_put_back := (rfl)
@[simp] theorem cf_moved_of (own : List Fd) (fuel d : Nat) : cfD (com ++ own) fuel (d + 1) 83 = callS (cfD (com ++ own) fuel d) fuel f_moved_of := (rfl)
@[simp] theorem cf_turned_of (own : List Fd) (fuel d : Nat) : cfD (com ++ own) fuel (d + 1) 84 = callS (cfD (com ++ own) fuel d) fuel f_turned_of := (rfl)
@[simp] theorem cf_are_free_rows (own : List Fd) (fuel d : Nat) : cfD (com ++ own) fuel (d + 1) 85 = callS (cfD (com ++ own) fuel d) fuel f_are_free_rows := (rfl)
@[simp] theorem cf_is_order (own : List Fd) (fuel d : Nat) : cfD (com ++ own) fuel (d + 1) 86 = callS (cfD (com ++ own) fuel d) fuel f_is_order := (rfl)
@[simp] theorem cf_moved (own : List Fd) (fuel d : Nat) : cfD (com ++ own) fuel (d + 1) 87 = callS (cfD (com ++ own) fuel d) fuel f_moved := (rfl)
@[simp] theorem cf_turned (own : List Fd) (fuel d : Nat) : cfD (com ++ own) fuel (d + 1) 88 = callS (cfD (com ++ own) fuel d) fuel f_turned := (rfl)
@[simp] theorem cf_law_free (own : List Fd) (fuel d : Nat) : cfD (com ++ own) fuel (d + 1) 89 = callS (cfD (com ++ own) fuel d) fuel f_law_free := (rfl)
@[simp] theorem cf_are_slices (own : List Fd) (fuel d : Nat) : cfD (com ++ own) fuel (d + 1) 90 = callS (cfD (com ++ own) fuel d) fuel f_are_slices := (rfl)
@[simp] theorem cf_need_slices (own : List Fd) (fuel d : Nat) : cfD (com ++ own) fuel (d + 1) 91 = callS (cfD (com ++ own) fuel d) fuel f_need_slices := (rfl)
@[simp] theorem cf_common (own : List Fd) (fuel d : Nat) : cfD (com ++ own) fuel (d + 1) 92 = callS (cfD (com ++ own) fuel d) fuel f_common := (rfl)
@[simp] theorem cf_fraction (own : List Fd) (fuel d : Nat) : cfD (com ++ own) fuel (d + 1) 93 = callS (cfD (com ++ own) fuel d) fuel f_fraction := (rfl)
@[simp] theorem cf_root_floor (own : List Fd) (fuel d : Nat) : cfD (com ++ own) fuel (d + 1) 94 = callS (cfD (com ++ own) fuel d) fuel f_root_floor := (rfl)
@[simp] theorem cf_blend (own : List Fd) (fuel d : Nat) : cfD (com ++ own) fuel (d + 1) 95 = callS (cfD (com ++ own) fuel d) fuel f_blend := (rfl)
@[simp] theorem cf_det (own : List Fd) (fuel d : Nat) : cfD (com ++ own) fuel (d + 1) 96 = callS (cfD (com ++ own) fuel d) fuel f_det := (rfl)
@[simp] theorem cf_led (own : List Fd) (fuel d : Nat) : cfD (com ++ own) fuel (d + 1) 97 = callS (cfD (com ++ own) fuel d) fuel f_led := (rfl)
@[simp] theorem cf_across (own : List Fd) (fuel d : Nat) : cfD (com ++ own) fuel (d + 1) 98 = callS (cfD (com ++ own) fuel d) fuel f_across := (rfl)
@[simp] theorem cf_crossed (own : List Fd) (fuel d : Nat) : cfD (com ++ own) fuel (d + 1) 99 = callS (cfD (com ++ own) fuel d) fuel f_crossed := (rfl)
@[simp] theorem cf_plain (own : List Fd) (fuel d : Nat) : cfD (com ++ own) fuel (d + 1) 100 = callS (cfD (com ++ own) fuel d) fuel f_plain := (rfl)
@[simp] theorem cf_is_nought (own : List Fd) (fuel d : Nat) : cfD (com ++ own) fuel (d + 1) 101 = callS (cfD (com ++ own) fuel d) fuel f_is_nought := (rfl)
@[simp] theorem cf_lost (own : List Fd) (fuel d : Nat) : cfD (com ++ own) fuel (d + 1) 102 = callS (cfD (com ++ own) fuel d) fuel f_lost := (rfl)
@[simp] theorem cf_whole_roots (own : List Fd) (fuel d : Nat) : cfD (com ++ own) fuel (d + 1) 103 = callS (cfD (com ++ own) fuel d) fuel f_whole_roots := (rfl)
@[simp] theorem cf_cubic_roots (own : List Fd) (fuel d : Nat) : cfD (com ++ own) fuel (d + 1) 104 = callS (cfD (com ++ own) fuel d) fuel f_cubic_roots := (rfl)
@[simp] theorem cf_square_roots (own : List Fd) (fuel d : Nat) : cfD (com ++ own) fuel (d + 1) 105 = callS (cfD (com ++ own) fuel d) fuel f_square_roots := (rfl)
@[simp] theorem cf_directions (own : List Fd) (fuel d : Nat) : cfD (com ++ own) fuel (d + 1) 106 = callS (cfD (com ++ own) fuel d) fuel f_directions := (rfl)
@[simp] theorem cf_base_of (own : List Fd) (fuel d : Nat) : cfD (com ++ own) fuel (d + 1) 107 = callS (cfD (com ++ own) fuel d) fuel f_base_of := (rfl)
@[simp] theorem cf_term_by (own : List Fd) (fuel d : Nat) : cfD (com ++ own) fuel (d + 1) 108 = callS (cfD (com ++ own) fuel d) fuel f_term_by := (rfl)
@[simp] theorem cf_parted_by (own : List Fd) (fuel d : Nat) : cfD (com ++ own) fuel (d + 1) 109 = callS (cfD (com ++ own) fuel d) fuel f_parted_by := (rfl)
@[simp] theorem cf_parted (own : List Fd) (fuel d : Nat) : cfD (com ++ own) fuel (d + 1) 110 = callS (cfD (com ++ own) fuel d) fuel f_parted := (rfl)
@[simp] theorem cf_is_parted (own : List Fd) (fuel d : Nat) : cfD (com ++ own) fuel (d + 1) 111 = callS (cfD (com ++ own) fuel d) fuel f_is_parted := (rfl)
@[simp] theorem cf_same (own : List Fd) (fuel d : Nat) : cfD (com ++ own) fuel (d + 1) 112 = callS (cfD (com ++ own) fuel d) fuel f_same := (rfl)
@[simp] theorem cf_law_low (own : List Fd) (fuel d : Nat) : cfD (com ++ own) fuel (d + 1) 113 = callS (cfD (com ++ own) fuel d) fuel f_law_low := (rfl)
@[simp] theorem cf_law_det (own : List Fd) (fuel d : Nat) : cfD (com ++ own) fuel (d + 1) 114 = callS (cfD (com ++ own) fuel d) fuel f_law_det := (rfl)
@[simp] theorem cf_law_clean (own : List Fd) (fuel d : Nat) : cfD (com ++ own) fuel (d + 1) 115 = callS (cfD (com ++ own) fuel d) fuel f_law_clean := (rfl)
@[simp] theorem cf_is_open (own : List Fd) (fuel d : Nat) : cfD (com ++ own) fuel (d + 1) 116 = callS (cfD (com ++ own) fuel d) fuel f_is_open := (rfl)
@[simp] theorem cf_need_open (own : List Fd) (fuel d : Nat) : cfD (com ++ own) fuel (d + 1) 117 = callS (cfD (com ++ own) fuel d) fuel f_need_open := (rfl)
@[simp] theorem cf_need_most (own : List Fd) (fuel d : Nat) : cfD (com ++ own) fuel (d + 1) 118 = callS (cfD (com ++ own) fuel d) fuel f_need_most := (rfl)
@[simp] theorem cf_all_fills (own : List Fd) (fuel d : Nat) : cfD (com ++ own) fuel (d + 1) 119 = callS (cfD (com ++ own) fuel d) fuel f_all_fills := (rfl)
@[simp] theorem cf_fills_of (own : List Fd) (fuel d : Nat) : cfD (com ++ own) fuel (d + 1) 120 = callS (cfD (com ++ own) fuel d) fuel f_fills_of := (rfl)
@[simp] theorem cf_fills (own : List Fd) (fuel d : Nat) : cfD (com ++ own) fuel (d + 1) 121 = callS (cfD (com ++ own) fuel d) fuel f_fills := (rfl)
@[simp] theorem cf_sure (own : List Fd) (fuel d : Nat) : cfD (com ++ own) fuel (d + 1) 122 = callS (cfD (com ++ own) fuel d) fuel f_sure := (rfl)
@[simp] theorem cf_fewest (own : List Fd) (fuel d : Nat) : cfD (com ++ own) fuel (d + 1) 123 = callS (cfD (com ++ own) fuel d) fuel f_fewest := (rfl)
@[simp] theorem cf_value_of (own : List Fd) (fuel d : Nat) : cfD (com ++ own) fuel (d + 1) 124 = callS (cfD (com ++ own) fuel d) fuel f_value_of := (rfl)
@[simp] theorem cf_are_facts (own : List Fd) (fuel d : Nat) : cfD (com ++ own) fuel (d + 1) 125 = callS (cfD (com ++ own) fuel d) fuel f_are_facts := (rfl)
@[simp] theorem cf_need_facts (own : List Fd) (fuel d : Nat) : cfD (com ++ own) fuel (d + 1) 126 = callS (cfD (com ++ own) fuel d) fuel f_need_facts := (rfl)
@[simp] theorem cf_told_by (own : List Fd) (fuel d : Nat) : cfD (com ++ own) fuel (d + 1) 127 = callS (cfD (com ++ own) fuel d) fuel f_told_by := (rfl)
@[simp] theorem cf_need_asked (own : List Fd) (fuel d : Nat) : cfD (com ++ own) fuel (d + 1) 128 = callS (cfD (com ++ own) fuel d) fuel f_need_asked := (rfl)
@[simp] theorem cf_value (own : List Fd) (fuel d : Nat) : cfD (com ++ own) fuel (d + 1) 129 = callS (cfD (com ++ own) fuel d) fuel f_value := (rfl)
@[simp] theorem cf_terms_told (own : List Fd) (fuel d : Nat) : cfD (com ++ own) fuel (d + 1) 130 = callS (cfD (com ++ own) fuel d) fuel f_terms_told := (rfl)
@[simp] theorem cf_surely (own : List Fd) (fuel d : Nat) : cfD (com ++ own) fuel (d + 1) 131 = callS (cfD (com ++ own) fuel d) fuel f_surely := (rfl)
@[simp] theorem cf_law_lines_for (own : List Fd) (fuel d : Nat) : cfD (com ++ own) fuel (d + 1) 132 = callS (cfD (com ++ own) fuel d) fuel f_law_lines_for := (rfl)
@[simp] theorem cf_text_of (own : List Fd) (fuel d : Nat) : cfD (com ++ own) fuel (d + 1) 133 = callS (cfD (com ++ own) fuel d) fuel f_text_of := (rfl)
@[simp] theorem cf_figures_in (own : List Fd) (fuel d : Nat) : cfD (com ++ own) fuel (d + 1) 134 = callS (cfD (com ++ own) fuel d) fuel f_figures_in := (rfl)
@[simp] theorem cf_table_of (own : List Fd) (fuel d : Nat) : cfD (com ++ own) fuel (d + 1) 135 = callS (cfD (com ++ own) fuel d) fuel f_table_of := (rfl)
@[simp] theorem cf_table_text (own : List Fd) (fuel d : Nat) : cfD (com ++ own) fuel (d + 1) 136 = callS (cfD (com ++ own) fuel d) fuel f_table_text := (rfl)
@[simp] theorem cf_read_table (own : List Fd) (fuel d : Nat) : cfD (com ++ own) fuel (d + 1) 137 = callS (cfD (com ++ own) fuel d) fuel f_read_table := (rfl)
@[simp] theorem cf_law_text (own : List Fd) (fuel d : Nat) : cfD (com ++ own) fuel (d + 1) 138 = callS (cfD (com ++ own) fuel d) fuel f_law_text := (rfl)
@[simp] theorem cf_is_spot (own : List Fd) (fuel d : Nat) : cfD (com ++ own) fuel (d + 1) 139 = callS (cfD (com ++ own) fuel d) fuel f_is_spot := (rfl)
@[simp] theorem cf_wall (own : List Fd) (fuel d : Nat) : cfD (com ++ own) fuel (d + 1) 140 = callS (cfD (com ++ own) fuel d) fuel f_wall := (rfl)
@[simp] theorem cf_law_step_at (own : List Fd) (fuel d : Nat) : cfD (com ++ own) fuel (d + 1) 141 = callS (cfD (com ++ own) fuel d) fuel f_law_step_at := (rfl)
@[simp] theorem cf_law_done (own : List Fd) (fuel d : Nat) : cfD (com ++ own) fuel (d + 1) 142 = callS (cfD (com ++ own) fuel d) fuel f_law_done := (rfl)
@[simp] theorem cf_law_call (own : List Fd) (fuel d : Nat) : cfD (com ++ own) fuel (d + 1) 143 = callS (cfD (com ++ own) fuel d) fuel f_law_call := (rfl)
@[simp] theorem cf_law_shows (own : List Fd) (fuel d : Nat) : cfD (com ++ own) fuel (d + 1) 144 = callS (cfD (com ++ own) fuel d) fuel f_law_shows := (rfl)
@[simp] theorem cf_layers_of (own : List Fd) (fuel d : Nat) : cfD (com ++ own) fuel (d + 1) 145 = callS (cfD (com ++ own) fuel d) fuel f_layers_of := (rfl)
@[simp] theorem cf_how_many (own : List Fd) (fuel d : Nat) : cfD (com ++ own) fuel (d + 1) 146 = callS (cfD (com ++ own) fuel d) fuel f_how_many := (rfl)
@[simp] theorem cf_greatest (own : List Fd) (fuel d : Nat) : cfD (com ++ own) fuel (d + 1) 147 = callS (cfD (com ++ own) fuel d) fuel f_greatest := (rfl)
@[simp] theorem cf_whole_roots_at (own : List Fd) (fuel d : Nat) : cfD (com ++ own) fuel (d + 1) 148 = callS (cfD (com ++ own) fuel d) fuel f_whole_roots_at := (rfl)
end C

/-! L18: the law's own defs, in the small language. Printed by wip/genlaw.py. -/
namespace L18
open PySem Ev C
def f_law_made : Fd := ⟨1, 0, (.seq (.set 0 (.lst (.cons (.u1 (.exc 0) (.k (.str ("one" : PySem.Str)))) (.cons (.u1 (.exc 1) (.k (.str ("one" : PySem.Str)))) (.cons (.u1 (.exc 2) (.k (.str ("one" : PySem.Str)))) (.cons (.u1 (.exc 3) (.k (.str ("one" : PySem.Str)))) (.cons (.u1 (.exc 4) (.k (.str ("one" : PySem.Str)))) .nil))))))) (.seq (.set 0 (.bin .add (.v 0) (.lst (.cons (.u1 (.exc 5) (.k (.str ("one" : PySem.Str)))) (.cons (.u1 (.exc 6) (.k (.str ("one" : PySem.Str)))) (.cons (.u1 (.exc 7) (.k (.str ("one" : PySem.Str)))) (.cons (.u1 (.exc 8) (.k (.str ("one" : PySem.Str)))) .nil))))))) (.seq (.set 0 (.bin .add (.v 0) (.lst (.cons (.u1 (.exc 9) (.k (.str ("one" : PySem.Str)))) (.cons (.u1 (.exc 10) (.k (.str ("one" : PySem.Str)))) (.cons (.u1 (.exc 11) (.k (.str ("one" : PySem.Str)))) (.cons (.u1 (.exc 12) (.k (.str ("one" : PySem.Str)))) .nil))))))) (.seq (.ret (.bin .add (.v 0) (.lst (.cons (.u1 (.exc 13) (.k (.str ("one" : PySem.Str)))) (.cons (.u1 (.exc 14) (.k (.str ("one" : PySem.Str)))) (.cons (.u1 (.exc 15) (.k (.str ("one" : PySem.Str)))) .nil)))))) .nil)))), false⟩
def f_law_is : Fd := ⟨2, 1, (.seq (.set 1 (.lst (.cons (.u1 (.isx 0) (.v 0)) (.cons (.u1 (.isx 1) (.v 0)) (.cons (.u1 (.isx 2) (.v 0)) .nil))))) (.seq (.set 1 (.bin .add (.v 1) (.lst (.cons (.u1 (.isx 3) (.v 0)) (.cons (.u1 (.isx 4) (.v 0)) (.cons (.u1 (.isx 5) (.v 0)) .nil)))))) (.seq (.set 1 (.bin .add (.v 1) (.lst (.cons (.u1 (.isx 6) (.v 0)) (.cons (.u1 (.isx 7) (.v 0)) (.cons (.u1 (.isx 8) (.v 0)) .nil)))))) (.seq (.set 1 (.bin .add (.v 1) (.lst (.cons (.u1 (.isx 9) (.v 0)) (.cons (.u1 (.isx 10) (.v 0)) (.cons (.u1 (.isx 11) (.v 0)) .nil)))))) (.seq (.set 1 (.bin .add (.v 1) (.lst (.cons (.u1 (.isx 12) (.v 0)) (.cons (.u1 (.isx 13) (.v 0)) (.cons (.u1 (.isx 14) (.v 0)) .nil)))))) (.seq (.ret (.bin .add (.v 1) (.lst (.cons (.u1 (.isx 15) (.v 0)) (.cons (.u1 (.isx 16) (.v 0)) .nil))))) .nil)))))), false⟩
def f_law : Fd := ⟨7, 1, (.seq (.for_ (.nm 1) (.it .rng1 (.cons (.bin .add (.k (.int 1)) (.bi .min2 (.cons (.bi .len (.cons (.v 0) .nil)) (.cons (.k (.int 4)) .nil)))) .nil)) (.seq (.set 2 (.call 22 (.cons (.alc (.call 21 (.cons (.v 0) (.cons (.v 1) .nil)))) (.cons (.k (.int 99)) .nil)))) (.seq (.set 3 (.bin .add (.call 149 .nil) (.lst (.cons (.u1 .tm (.v 2)) .nil)))) (.seq (.for_ (.nm 4) (.it .rng1 (.cons (.bi .len (.cons (.v 3) .nil)) .nil)) (.seq (.set 5 (.ix (.v 3) (.v 4))) (.seq (.ite (.or_ (.not_ (.u1 (.isx 17) (.v 5))) (.not_ (.u1 (.isx 18) (.v 5)))) (.seq (.ret (.k (.bool false))) .nil) .nil) (.seq (.ite (.or_ (.cmp .ne (.call 150 (.cons (.v 5) .nil)) (.lc [6] (.cf (.nm 6) (.it .rng1 (.cons (.k (.int 17)) .nil)) .nil (.cy (.cmp .eq (.v 6) (.v 4)))))) (.and_ (.cmp .lt (.v 4) (.k (.int 16))) (.cmp .ne (.u1 .strx (.v 5)) (.k (.str ("one" : PySem.Str)))))) (.seq (.ret (.k (.bool false))) .nil) .nil) .nil)))) (.seq (.ite (.cmp .ne (.u1 .lim (.ix (.v 3) (.k (.int 16)))) (.v 2)) (.seq (.ret (.k (.bool false))) .nil) .nil) .nil))))) (.seq (.ret (.cmp .eq (.call 150 (.cons (.u1 (.exc 17) (.k (.str ("base" : PySem.Str)))) .nil)) (.rep (.lst (.cons (.k (.bool false)) .nil)) (.k (.int 17))))) .nil)), false⟩
def own : List Fd := [f_law_made, f_law_is, f_law]
abbrev fds : List Fd := com ++ own
@[simp] theorem cf_law_made (fuel d : Nat) : cfD (com ++ own) fuel (d + 1) 149 = callS (cfD (com ++ own) fuel d) fuel f_law_made := (rfl)
@[simp] theorem cf_law_is (fuel d : Nat) : cfD (com ++ own) fuel (d + 1) 150 = callS (cfD (com ++ own) fuel d) fuel f_law_is := (rfl)
@[simp] theorem cf_law (fuel d : Nat) : cfD (com ++ own) fuel (d + 1) 151 = callS (cfD (com ++ own) fuel d) fuel f_law := (rfl)
def G : Gf := { fns := [(21, ("_law_cup_of" : PySem.Str)), (22, ("_law_sip" : PySem.Str)), (149, ("_law_made" : PySem.Str)), (150, ("_law_is" : PySem.Str)), (151, ("law" : PySem.Str))], nums := [], unt := [("ValueError" : PySem.Str), ("abs" : PySem.Str), ("int" : PySem.Str), ("isinstance" : PySem.Str), ("len" : PySem.Str), ("min" : PySem.Str), ("range" : PySem.Str), ("str" : PySem.Str)], excs := [(0, ("InvalidTable" : PySem.Str)), (1, ("InvalidBase" : PySem.Str)), (2, ("InvalidSides" : PySem.Str)), (3, ("InvalidRow" : PySem.Str)), (4, ("InvalidTerm" : PySem.Str)), (5, ("InvalidWay" : PySem.Str)), (6, ("InvalidSide" : PySem.Str)), (7, ("InvalidNumber" : PySem.Str)), (8, ("InvalidSlices" : PySem.Str)), (9, ("InvalidOpen" : PySem.Str)), (10, ("InvalidFacts" : PySem.Str)), (11, ("InvalidPlace" : PySem.Str)), (12, ("InvalidFigure" : PySem.Str)), (13, ("InvalidText" : PySem.Str)), (14, ("Unlike" : PySem.Str)), (15, ("NothingToUndo" : PySem.Str)), (17, ("TermError" : PySem.Str))], words := [], xcls := [(16, ("TooMany" : PySem.Str))] }
end L18

/-! L18: the texts pass the checker. -/
namespace L18
open PySem PySem.Spec PyProof.Rows L2 Ev
def top (i : Nat) : Stmt := PySem.Challenge.pw_onlyterms_k18_error_classes.main.body.getD i (.Pass ⟨0, 0, 0, 0⟩)
def r_law_cup_of : DRow := ⟨21, "_law_cup_of", [("_law_script" : PySem.Str), ("_law_k" : PySem.Str), ("_law_cell" : PySem.Str)], C.f_law_cup_of, top 20, none, none⟩
def r_law_sip : DRow := ⟨22, "_law_sip", [("_law_cup" : PySem.Str), ("_law_many" : PySem.Str), ("_law_found" : PySem.Str), ("_law_wide" : PySem.Str)], C.f_law_sip, top 21, none, none⟩
def r_law_made : DRow := ⟨149, "_law_made", [("_law_found" : PySem.Str)], f_law_made, top 22, none, none⟩
def r_law_is : DRow := ⟨150, "_law_is", [("_law_one" : PySem.Str), ("_law_found" : PySem.Str)], f_law_is, top 23, none, none⟩
def r_law : DRow := ⟨151, "law", [("_law_script" : PySem.Str), ("_law_k" : PySem.Str), ("_law_limit" : PySem.Str), ("_law_every" : PySem.Str), ("_law_at" : PySem.Str), ("_law_one" : PySem.Str), ("_law_place" : PySem.Str)], f_law, top 24, none, none⟩
def rows : List DRow := [r_law_cup_of, r_law_sip, r_law_made, r_law_is, r_law]
theorem c_law_cup_of : chkRow G r_law_cup_of = true := by kernel_rfl
theorem c_law_sip : chkRow G r_law_sip = true := by kernel_rfl
theorem c_law_made : chkRow G r_law_made = true := by kernel_rfl
theorem c_law_is : chkRow G r_law_is = true := by kernel_rfl
theorem c_law : chkRow G r_law = true := by kernel_rfl
theorem chk_rows : ∀ r ∈ rows, chkRow G r = true := by
  intro r hr
  unfold rows at hr
  simp only [List.mem_cons, List.not_mem_nil, or_false] at hr
  rcases hr with h | h | h | h | h
  · rw [h]; exact c_law_cup_of
  · rw [h]; exact c_law_sip
  · rw [h]; exact c_law_made
  · rw [h]; exact c_law_is
  · rw [h]; exact c_law
theorem hbs : AllB rows := ⟨⟨fun _ _ _ _ _ _ us hl => match us, hl with | [_, _], _ => rfl, noN rfl⟩, ⟨fun _ _ _ _ _ _ us hl => match us, hl with | [_, _], _ => rfl, noN rfl⟩, ⟨fun _ _ _ _ _ _ us hl => match us, hl with | [], _ => rfl, noN rfl⟩, ⟨fun _ _ _ _ _ _ us hl => match us, hl with | [_], _ => rfl, noN rfl⟩, ⟨fun _ _ _ _ _ _ us hl => match us, hl with | [_], _ => rfl, noN rfl⟩, trivial⟩
theorem hfs : AllF fds rows := ⟨⟨rfl, noN rfl⟩, ⟨rfl, noN rfl⟩, ⟨rfl, noN rfl⟩, ⟨rfl, noN rfl⟩, ⟨rfl, noN rfl⟩, trivial⟩
def prs : List (PySem.Str × PySem.Str) := []
def rI : DRow := ⟨0, "__init__", [("self" : PySem.Str), ("limit" : PySem.Str)], { n := 2, np := 2, body := .nil }, methS (top 18) 0, none, some ("TooMany" : PySem.Str)⟩
theorem hbI : BindsP rI := fun _ _ _ _ _ _ us hl => match us, hl with | [_, _], _ => rfl
def cs : List PySem.Str := [("TermError" : PySem.Str), ("InvalidTable" : PySem.Str), ("InvalidBase" : PySem.Str), ("InvalidSides" : PySem.Str), ("InvalidRow" : PySem.Str), ("InvalidTerm" : PySem.Str), ("InvalidWay" : PySem.Str), ("InvalidSide" : PySem.Str), ("InvalidNumber" : PySem.Str), ("InvalidSlices" : PySem.Str), ("InvalidOpen" : PySem.Str), ("InvalidFacts" : PySem.Str), ("InvalidPlace" : PySem.Str), ("InvalidFigure" : PySem.Str), ("InvalidText" : PySem.Str), ("Unlike" : PySem.Str), ("NothingToUndo" : PySem.Str), ("TooMany" : PySem.Str)]
end L18

/-! L18: the head. -/
namespace L18
open PySem PySem.Spec PyProof.Rows L2 Ev
def loose : List PySem.Str := [("_law_cup_of" : PySem.Str), ("_law_sip" : PySem.Str), ("_law_made" : PySem.Str), ("_law_is" : PySem.Str), ("TermError" : PySem.Str), ("InvalidTable" : PySem.Str), ("InvalidBase" : PySem.Str), ("InvalidSides" : PySem.Str), ("InvalidRow" : PySem.Str), ("InvalidTerm" : PySem.Str), ("InvalidWay" : PySem.Str), ("InvalidSide" : PySem.Str), ("InvalidNumber" : PySem.Str), ("InvalidSlices" : PySem.Str), ("InvalidOpen" : PySem.Str), ("InvalidFacts" : PySem.Str), ("InvalidPlace" : PySem.Str), ("InvalidFigure" : PySem.Str), ("InvalidText" : PySem.Str), ("Unlike" : PySem.Str), ("NothingToUndo" : PySem.Str), ("TooMany" : PySem.Str)]
abbrev R : PySem.W.OpenRow := PySem.W.OpenLaw.row PySem.Challenge.rw_onlyterms_k18_error_classes
abbrev spec : List DRow := [rI]
abbrev hk : PySem.W.Hook := hookS 5 (faOf G (rows ++ spec) cs) ((rows ++ spec).map dOf) [] (tfOf rows) (exB G rows prs)
def ob (s : PySem.W.SharedT) : He.AlX := obsS 5 (faOf G (rows ++ spec) cs) ((rows ++ spec).map dOf) [] (tfOf rows) (exB G rows prs) (HandSHeadRun.getT s)
theorem ob_eq (s : PySem.W.SharedT) : ob s = hk.obs s.abs := obsS_eq (HandSHeadRun.getT_eq s)
theorem run (w : World) : HandSHeadRun.RunEq R (PySem.W.view R.prog [24]) hk ob 20000 loose w := by
  intro os
  kernel_rfl
end L18

/-! P1: tools for the plain laws. -/
namespace Ev
open PySem PySem.Spec PyProof.Rows L2

/-- a clause over a list, where each step only lists -/
theorem loopC_pure {g : PyData → List PyData} {step : PyData → Sto → Res (List PyData)} {M : Sto} : ∀ (xs : List PyData), (∀ x ∈ xs, step x M = .ok (g x) M) → loopC step xs M = .ok (xs.flatMap g) M
  | [], _ => rfl
  | x :: xs, h => by
    rw [loopC, h x List.mem_cons_self]
    simp only [loopC_pure xs fun y hy => h y (List.mem_cons_of_mem _ hy), Res.bind_ok, List.flatMap_cons]
theorem flatMap_test (p : PyData → Bool) : ∀ xs : List PyData, (xs.flatMap fun x => if p x = true then [x] else []) = xs.filter p
  | [] => rfl
  | x :: xs => by
    rw [List.flatMap_cons, flatMap_test p xs, List.filter_cons]
    split <;> rfl
theorem flatMap_one {α β : Type} (f : α → β) : ∀ xs : List α, (xs.flatMap fun x => [f x]) = xs.map f
  | [] => rfl
  | x :: xs => by rw [List.flatMap_cons, flatMap_one f xs, List.map_cons]; rfl
theorem eqvAll_nil (xs : List PyData) : PyData.eqvAll xs [] = xs.isEmpty := by cases xs <;> simp [PyData.eqvAll]
theorem okD_up : ∀ (n : Nat) (x : PyData), okD n x = true → okD (n + 1) x = true
  | 0, x, h => by cases x <;> simp_all [okD]
  | n + 1, .list xs, h => by
    rw [okD, List.all_eq_true] at h ⊢
    exact fun x hx => okD_up n x (h x hx)
  | n + 1, .tuple xs, h => by
    rw [okD, List.all_eq_true] at h ⊢
    exact fun x hx => okD_up n x (h x hx)
  | n + 1, .none, _ => by simp [okD]
  | n + 1, .bool _, _ => by simp [okD]
  | n + 1, .int _, _ => by simp [okD]
  | n + 1, .str s, h => by simpa [okD] using h
  | n + 1, .dict _, h => by simp [okD] at h
theorem okD_le {n m : Nat} {x : PyData} (h : okD n x = true) (hm : n ≤ m) : okD m x = true := by
  induction hm with
  | refl => exact h
  | step _ ih => exact okD_up _ _ ih
theorem okD_int (n : Nat) (i : Int) : okD n (.int i) = true := by cases n <;> simp [okD]
theorem eqC_nil {xs : List PyData} (h : ∀ x ∈ xs, okD 7 x = true) : eqC (.list xs) (.list []) = some xs.isEmpty := by
  unfold eqC
  have h1 : okD 8 (.list xs) = true := by rw [okD, List.all_eq_true]; exact h
  have h2 : okD 8 (.list []) = true := by simp [okD]
  simp [h1, h2, PyData.eqv, eqvAll_nil]
theorem eqC_int (i j : Int) : eqC (.int i) (.int j) = some (decide (i = j)) := by
  unfold eqC
  simp [scalD, PyData.eqv]
  rfl
theorem lenOk_of {n : Nat} (h : n ≤ 16777216) : lenOk n = true := by
  unfold lenOk
  rw [decide_eq_true_eq]
  exact Nat.le_trans h (by decide)
theorem take_same (M : Sto) : M.take M.length = M := List.take_length
theorem mulOk_of {i j : Int} (h : i.natAbs < 2 ^ 64 ∨ j.natAbs < 2 ^ 64) : mulOk i j = true := by
  unfold mulOk
  rcases h with h | h <;> simp [h]
theorem divOk_of {j : Int} (h : 0 < j) (h2 : j < 1073741824) : divOk j = true := by
  unfold divOk
  have h1 : j ≠ 0 := by omega
  have h3 : j.natAbs < 1073741824 := by omega
  simp [h1, h3]
/-- a chained comparison behind its first test -/
def chnK (r : Option Bool) (k : Sto → Res TV) (M : Sto) : Res TV := match r with
  | some true => k M
  | some false => .ok (.v (.d (.bool false))) M
  | none => .stuck
@[simp] theorem chnK_some (b : Bool) (k : Sto → Res TV) (M : Sto) : chnK (some b) k M = if b = true then k M else .ok (.v (.d (.bool false))) M := by cases b <;> rfl
section
set_option autoImplicit true
variable (cf : Nat → List VV → Sto → Res TV) (fuel : Nat) (ρ : Env') (M : Sto)
@[simp] theorem evalE_1 : evalE cf (.k d) ρ M = .ok (.v (.d d)) M := by rw [evalE]
@[simp] theorem evalE_2 : evalE cf (.v i) ρ M = varK i ρ M := by rw [evalE]
@[simp] theorem evalE_3 : evalE cf (.g x0 z) ρ M = .ok (.v (.d (.int z))) M := by rw [evalE]
@[simp] theorem evalE_4 : evalE cf (.bin o a b) ρ M = (evalE cf a ρ M).bind fun ta M1 => (evalE cf b ρ M1).bind (binK o ta) := by rw [evalE]
@[simp] theorem evalE_5 : evalE cf (.neg a) ρ M = (evalE cf a ρ M).bind negK := by rw [evalE]
@[simp] theorem evalE_6 : evalE cf (.rep a b) ρ M = (evalE cf a ρ M).bind fun ta M1 => (evalE cf b ρ M1).bind (repK ta) := by rw [evalE]
@[simp] theorem evalE_7 : evalE cf (.cmp o a b) ρ M = (evalE cf a ρ M).bind fun ta M1 => (evalE cf b ρ M1).bind (cmpK o ta) := by rw [evalE]
@[simp] theorem evalE_8 : evalE cf (.chn o p a b c) ρ M = (evalE cf a ρ M).bind fun ta M1 => (evalE cf b ρ M1).bind fun tb M2 => chnK (cmpB o ta tb M2) (fun M => (evalE cf c ρ M).bind (cmpK p tb)) M2 := by
  rw [evalE]
  rfl
@[simp] theorem evalE_9 : evalE cf (.isN a) ρ M = (evalE cf a ρ M).bind (isNK true) := by rw [evalE]
@[simp] theorem evalE_10 : evalE cf (.nsN a) ρ M = (evalE cf a ρ M).bind (isNK false) := by rw [evalE]
@[simp] theorem evalE_11 : evalE cf (.and_ a b) ρ M = (evalE cf a ρ M).bind fun ta M1 => (asB ta M1).bind fun c M1 => if c = true then evalE cf b ρ M1 else .ok (.v (.d (.bool false))) M1 := by rw [evalE]
@[simp] theorem evalE_12 : evalE cf (.or_ a b) ρ M = (evalE cf a ρ M).bind fun ta M1 => (asB ta M1).bind fun c M1 => if c = true then .ok (.v (.d (.bool true))) M1 else evalE cf b ρ M1 := by rw [evalE]
@[simp] theorem evalE_13 : evalE cf (.not_ a) ρ M = (evalE cf a ρ M).bind fun ta M1 => (asB ta M1).bind fun c M1 => .ok (.v (.d (.bool (!c)))) M1 := by rw [evalE]
@[simp] theorem evalE_14 : evalE cf (.ite c a b) ρ M = (evalE cf c ρ M).bind fun tc M1 => (asB tc M1).bind fun c M1 => if c = true then evalE cf a ρ M1 else evalE cf b ρ M1 := by rw [evalE]
@[simp] theorem evalE_15 : evalE cf (.tup es) ρ M = (evalL cf es ρ M).bind tupK := by rw [evalE]
@[simp] theorem evalE_16 : evalE cf (.lst es) ρ M = (evalL cf es ρ M).bind lstK := by rw [evalE]
@[simp] theorem evalE_lrefs : evalE cf (.lrefs es) ρ M = (evalL cf es ρ M).bind lrefsK := by rw [evalE]
@[simp] theorem evalE_17 : evalE cf (.ix a b) ρ M = (evalE cf a ρ M).bind fun ta M1 => (evalE cf b ρ M1).bind (ixK ta) := by rw [evalE]
@[simp] theorem evalE_18 : evalE cf (.sl a l1 h1) ρ M = (evalE cf a ρ M).bind fun ta M1 => (if isNil l1 then .ok none M1 else (evalE cf l1 ρ M1).bind partK).bind fun l M2 => (if isNil h1 then .ok none M2 else (evalE cf h1 ρ M2).bind partK).bind (slK ta l) := by rw [evalE]
@[simp] theorem evalE_19 : evalE cf (.call f es) ρ M = (evalL cf es ρ M).bind (cf f) := by rw [evalE]
@[simp] theorem evalE_20 : evalE cf (.bi b es) ρ M = (evalT cf es ρ M).bind (biK b) := by rw [evalE]
@[simp] theorem evalE_21 : evalE cf (.isi a t) ρ M = (evalE cf a ρ M).bind (isiK t) := by rw [evalE]
@[simp] theorem evalE_22 : evalE cf (.lc own b) ρ M = lcK (evalC cf b (wipeE ρ own) M) := by rw [evalE]
@[simp] theorem evalE_23 : evalE cf (.alc a) ρ M = (evalE cf a ρ M).bind alcK := by rw [evalE]
@[simp] theorem evalE_24 : evalE cf (.app o es) ρ M = (evalE cf o ρ M).bind fun ta M1 => if isRef ta M1 = true then (evalL cf es ρ M1).bind (appK ta) else .stuck := by rw [evalE]
@[simp] theorem evalE_25 : evalE cf (.join a b) ρ M = (evalE cf a ρ M).bind fun ta M1 => if isStr ta = true then (evalE cf b ρ M1).bind (joinK ta) else .stuck := by rw [evalE]
@[simp] theorem evalE_26 : evalE cf (.word ws f es) ρ M = wordK ws ((evalL cf es ρ M).bind (cf f)) := by rw [evalE]
@[simp] theorem evalE_calln (js : List Nat) (k : Nat) : evalE cf (.calln i k js es) ρ M = if fnAt ρ i k = true then (evalL cf es ρ M).bind (callnK (cf k) (capt ρ js)) else .stuck := by rw [evalE]
@[simp] theorem evalL_27 : evalL cf (.nil) ρ M = .ok [] M := by rw [evalL]
@[simp] theorem evalL_28 : evalL cf (.cons a b) ρ M = (evalE cf a ρ M).bind fun t M1 => (evalL cf b ρ M1).bind fun xs M2 => .ok (freezes t :: xs) M2 := by rw [evalL]
@[simp] theorem evalT_29 : evalT cf (.nil) ρ M = .ok [] M := by rw [evalT]
@[simp] theorem evalT_30 : evalT cf (.cons a b) ρ M = (evalE cf a ρ M).bind fun t M1 => (evalT cf b ρ M1).bind fun xs M2 => .ok (t :: xs) M2 := by rw [evalT]
@[simp] theorem evalC_31 : evalC cf (.cy e) ρ M = (evalE cf e ρ M).bind cyK := by rw [evalC]
@[simp] theorem evalC_32 : evalC cf (.cf t i c b) ρ M = (evalI cf i ρ M).bind fun xs M1 => loopC (itemK t ρ (fun ρ M => if isNil c then .ok true M else (evalE cf c ρ M).bind asB) (fun ρ M => evalC cf b ρ M)) xs M1 := by rw [evalC]
@[simp] theorem evalI_33 : evalI cf (.it .val (.cons e .nil)) ρ M = (evalE cf e ρ M).bind seqK := by rw [evalI]
@[simp] theorem evalI_34 : evalI cf (.it .rng1 es) ρ M = (evalT cf es ρ M).bind rng1K := by rw [evalI]
@[simp] theorem evalI_35 : evalI cf (.it .rng2 es) ρ M = (evalT cf es ρ M).bind rng2K := by rw [evalI]
@[simp] theorem evalI_36 : evalI cf (.it .enum es) ρ M = (evalL cf es ρ M).bind enumK := by rw [evalI]
@[simp] theorem evalI_37 : evalI cf (.it .zip es) ρ M = (evalL cf es ρ M).bind zipK := by rw [evalI]
@[simp] theorem evalS_38 : evalS cf fuel (.nil) ρ M = .ok (.nx ρ) M := by rw [evalS]
@[simp] theorem evalS_39 : evalS cf fuel (.seq a b) ρ M = (evalS cf fuel a ρ M).bind (seqF fun ρ M => evalS cf fuel b ρ M) := by rw [evalS]
@[simp] theorem evalS_40 : evalS cf fuel (.set i e) ρ M = (evalE cf e ρ M).bind (setK i ρ) := by rw [evalS]
@[simp] theorem evalS_41 : evalS cf fuel (.tgt t e) ρ M = (evalE cf e ρ M).bind (tgtK t ρ) := by rw [evalS]
@[simp] theorem evalS_42 : evalS cf fuel (.par2 i j es) ρ M = (evalL cf es ρ M).bind (par2K i j ρ) := by rw [evalS]
@[simp] theorem evalS_43 : evalS cf fuel (.par3 i j l es) ρ M = (evalL cf es ρ M).bind (par3K i j l ρ) := by rw [evalS]
@[simp] theorem evalS_44 : evalS cf fuel (.sti o ix e) ρ M = (evalE cf e ρ M).bind fun u M1 => (evalE cf o ρ M1).bind fun to M2 => (evalE cf ix ρ M2).bind fun ti M3 => (stiK (freezes u) to ti M3).bind fun _ M4 => .ok (.nx ρ) M4 := by rw [evalS]
@[simp] theorem evalS_45 : evalS cf fuel (.drop e) ρ M = (evalE cf e ρ M).bind fun _ M1 => .ok (.nx ρ) M1 := by rw [evalS]
@[simp] theorem evalS_46 : evalS cf fuel (.ret e) ρ M = (evalE cf e ρ M).bind fun t M1 => .ok (.ret t) M1 := by rw [evalS]
@[simp] theorem evalS_47 : evalS cf fuel (.ite c a b) ρ M = ((evalE cf c ρ M).bind asB).bind fun c M1 => if c = true then evalS cf fuel a ρ M1 else evalS cf fuel b ρ M1 := by rw [evalS]
@[simp] theorem evalS_48 : evalS cf fuel (.whl c b) ρ M = whlF (fun ρ M => (evalE cf c ρ M).bind asB) (fun ρ M => evalS cf fuel b ρ M) fuel ρ M := by rw [evalS]
@[simp] theorem evalS_49 : evalS cf fuel (.for_ t it b) ρ M = (evalI cf it ρ M).bind fun xs M1 => forF t (fun ρ M => evalS cf fuel b ρ M) xs ρ M1 := by rw [evalS]
@[simp] theorem evalS_50 : evalS cf fuel (.rse k) ρ M = .err k M := by rw [evalS]
@[simp] theorem evalS_ndef (k : Nat) : evalS cf fuel (.ndef i k) ρ M = .ok (.nx (ρ.set i (some (.fn k)))) M := by rw [evalS]
@[simp] theorem evalS_51 : evalS cf fuel (.frz i) ρ M = frzK i ρ M := by rw [evalS]

@[simp] theorem asB_bool (b : Bool) : asB (.v (.d (.bool b))) M = .ok b M := (rfl)
@[simp] theorem peek_d (x : PyData) : peek M (.v (.d x)) = some x := (rfl)
@[simp] theorem peek_own (x : List PyData) : peek M (.own x) = some (.list x) := (rfl)
@[simp] theorem frees_v (x : VV) : freezes (.v x) = x := (rfl)
@[simp] theorem frees_own (x : List PyData) : freezes (.own x) = .d (.list x) := (rfl)
@[simp] theorem seqF_nx (k : Env' → Sto → Res Fl) : seqF k (.nx ρ) M = k ρ M := (rfl)
@[simp] theorem seqF_ret (k : Env' → Sto → Res Fl) (t : TV) : seqF k (.ret t) M = .ok (.ret t) M := (rfl)
@[simp] theorem exitR_nx (n : Nat) : exitR n (.ok (.nx ρ) M) = .ok (.v (.d .none)) (M.take n) := (rfl)
@[simp] theorem exitR_own (n : Nat) (x : List PyData) : exitR n (.ok (.ret (.own x)) M) = .ok (.own x) (M.take n) := (rfl)
@[simp] theorem exitR_d (n : Nat) (x : PyData) : exitR n (.ok (.ret (.v (.d x))) M) = .ok (.v (.d x)) (M.take n) := (rfl)
@[simp] theorem exitR_err (n : Nat) (x : Nat) : exitR n (.err x M) = .err x (M.take n) := (rfl)
@[simp] theorem take_same' : List.take M.length M = M := List.take_length
@[simp] theorem binK_d (o : BOp) (x y : PyData) : binK o (.v (.d x)) (.v (.d y)) M = lift (binD o x y) M := (rfl)
@[simp] theorem negK_d (i : Int) : negK (.v (.d (.int i))) M = .ok (.v (.d (.int (-i)))) M := (rfl)
@[simp] theorem cmpB_d (o : COp) (x y : PyData) : cmpB o (.v (.d x)) (.v (.d y)) M = cmpD o x y := (rfl)
@[simp] theorem cmpB_own (o : COp) (x : List PyData) (y : PyData) : cmpB o (.own x) (.v (.d y)) M = cmpD o (.list x) y := (rfl)
@[simp] theorem cmpB_own2 (o : COp) (x : PyData) (y : List PyData) : cmpB o (.v (.d x)) (.own y) M = cmpD o x (.list y) := (rfl)
@[simp] theorem cmpB_own3 (o : COp) (x y : List PyData) : cmpB o (.own x) (.own y) M = cmpD o (.list x) (.list y) := (rfl)
@[simp] theorem cmpK_eq (o : COp) (s t : TV) : cmpK o s t M = lift ((cmpB o s t M).map fun b => .v (.d (.bool b))) M := (rfl)
@[simp] theorem cmpD_le (i j : Int) : cmpD .le (.int i) (.int j) = some (decide (i ≤ j)) := (rfl)
@[simp] theorem cmpD_lt (i j : Int) : cmpD .lt (.int i) (.int j) = some (decide (i < j)) := (rfl)
@[simp] theorem cmpD_ge (i j : Int) : cmpD .ge (.int i) (.int j) = some (decide (j ≤ i)) := (rfl)
@[simp] theorem cmpD_gt (i j : Int) : cmpD .gt (.int i) (.int j) = some (decide (j < i)) := (rfl)
@[simp] theorem cmpD_eq (x y : PyData) : cmpD .eq x y = eqC x y := by cases x <;> rfl
@[simp] theorem cmpD_ne (x y : PyData) : cmpD .ne x y = (eqC x y).map (!·) := by cases x <;> rfl
@[simp] theorem isNK_d (n : Bool) (x : PyData) : isNK n (.v (.d x)) M = .ok (.v (.d (.bool (isNone x == n)))) M := (rfl)
@[simp] theorem ixK_d (x : PyData) (i : PyData) : ixK (.v (.d x)) (.v (.d i)) M = lift ((ixD x i).map fun z => .v (.d z)) M := (rfl)
@[simp] theorem ixK_own (x : List PyData) (i : PyData) : ixK (.own x) (.v (.d i)) M = lift ((ixD (.list x) i).map fun z => .v (.d z)) M := (rfl)
@[simp] theorem isiK_d (t : Ty) (x : PyData) : isiK t (.v (.d x)) M = .ok (.v (.d (.bool (isiD t x)))) M := (rfl)
@[simp] theorem partK_d (i : Int) : partK (.v (.d (.int i))) M = .ok (some i) M := (rfl)
@[simp] theorem slK_d (x : PyData) (l h : Option Int) : slK (.v (.d x)) l h M = lift (slD x l h) M := (rfl)
@[simp] theorem slK_own (x : List PyData) (l h : Option Int) : slK (.own x) l h M = lift (slD (.list x) l h) M := (rfl)
@[simp] theorem slD_tuple (x : List PyData) (l h : Option Int) : slD (.tuple x) l h = some (.v (.d (.tuple (cutD x l h)))) := (rfl)
@[simp] theorem slD_list (x : List PyData) (l h : Option Int) : slD (.list x) l h = some (.own (cutD x l h)) := (rfl)
@[simp] theorem datL_nil : datL [] = some [] := (rfl)
@[simp] theorem datL_d (x : PyData) (r : List VV) : datL (.d x :: r) = (datL r).map (x :: ·) := (rfl)
@[simp] theorem peeks_nil : peeks M [] = some [] := (rfl)
@[simp] theorem peeks_cons (t : TV) (r : List TV) : peeks M (t :: r) = (peek M t).bind fun x => (peeks M r).map (x :: ·) := (rfl)
@[simp] theorem biK_eq (b : BI) (ts : List TV) : biK b ts M = match peeks M ts with
  | some xs => lift (biD b xs) M
  | none => .stuck := rfl
@[simp] theorem cyK_d (x : PyData) : cyK (.v (.d x)) M = .ok [x] M := (rfl)
@[simp] theorem cyK_own (x : List PyData) : cyK (.own x) M = .ok [.list x] M := (rfl)
@[simp] theorem seqK_t (x : List PyData) : seqK (.v (.d (.tuple x))) M = .ok x M := (rfl)
@[simp] theorem seqK_l (x : List PyData) : seqK (.v (.d (.list x))) M = .ok x M := (rfl)
@[simp] theorem seqK_own (x : List PyData) : seqK (.own x) M = .ok x M := (rfl)
@[simp] theorem zipK_t (x y : List PyData) : zipK [.d (.tuple x), .d (.tuple y)] M = .ok (zipD x y) M := (rfl)
@[simp] theorem zipK_m1 (x y : List PyData) : zipK [.d (.list x), .d (.tuple y)] M = .ok (zipD x y) M := (rfl)
@[simp] theorem zipK_m2 (x y : List PyData) : zipK [.d (.tuple x), .d (.list y)] M = .ok (zipD x y) M := (rfl)
@[simp] theorem zipK_l (x y : List PyData) : zipK [.d (.list x), .d (.list y)] M = .ok (zipD x y) M := (rfl)
@[simp] theorem setK_eq (i : Nat) (t : TV) : setK i ρ t M = .ok (.nx (ρ.set i (some (freezes t)))) M := (rfl)
@[simp] theorem varK_some {i : Nat} {x : PyData} (h : ρ[i]? = some (some (.d x))) : varK i ρ M = .ok (.v (.d x)) M := by unfold varK; rw [h]
@[simp] theorem varK_ref {i : Nat} {x : Nat} (h : ρ[i]? = some (some (.ref x))) : varK i ρ M = .ok (.v (.ref x)) M := by unfold varK; rw [h]
theorem itemK_nm (i : Nat) (f : Env' → Sto → Res Bool) (r : Env' → Sto → Res (List PyData)) (x : PyData) : itemK (.nm i) ρ f r x M = (f (ρ.set i (some (.d x))) M).bind fun k M1 => if k = true then r (ρ.set i (some (.d x))) M1 else .ok [] M1 := (rfl)
@[simp] theorem isNil_nil : isNil .nil = true := (rfl)
end
theorem ok_inj {α : Type} {a b : α} {M N : Sto} (h : a = b) : Res.ok a M = Res.ok b M := by rw [h]
theorem lcK_ok {ds : List PyData} {M : Sto} (h : ds.length ≤ 16777216) : lcK (.ok ds M) = .ok (.own ds) M := by
  show (if lenOk ds.length = true then _ else _) = _
  rw [if_pos (lenOk_of h)]
theorem lc_filter {p : PyData → Bool} {f : PyData → PyData} {i : Nat} {ρ : Env'} {M : Sto} {test : Env' → Sto → Res Bool} {rest : Env' → Sto → Res (List PyData)} {xs : List PyData} (h : ∀ x ∈ xs, test (ρ.set i (some (.d x))) M = .ok (p x) M) (hr : ∀ x ∈ xs, rest (ρ.set i (some (.d x))) M = .ok [f x] M) :
    loopC (itemK (.nm i) ρ test rest) xs M = .ok ((xs.filter p).map f) M := by
  rw [loopC_pure (g := fun x => if p x = true then [f x] else []) xs]
  · congr 1
    induction xs with
    | nil => rfl
    | cons x xs ih =>
      rw [List.flatMap_cons, ih (fun y hy => h y (List.mem_cons_of_mem _ hy)) (fun y hy => hr y (List.mem_cons_of_mem _ hy)), List.filter_cons]
      split <;> simp
  · intro x hx
    rw [itemK_nm, h x hx, Res.bind_ok, hr x hx]
    split <;> rfl
theorem callS_eq {cf : Nat → List VV → Sto → Res TV} {fuel : Nat} {fd : Fd} {xs : List VV} {M : Sto} (h : xs.length = fd.np) : callS cf fuel fd xs M = exitR M.length (evalS cf fuel fd.body (xs.map some ++ List.replicate (fd.n - fd.np) none) M) := by
  unfold callS
  rw [if_pos h]
@[simp] theorem biD_len_t (xs : List PyData) : biD .len [.tuple xs] = some (.v (.d (.int xs.length))) := (rfl)
@[simp] theorem biD_len_l (xs : List PyData) : biD .len [.list xs] = some (.v (.d (.int xs.length))) := (rfl)
@[simp] theorem biD_tup_l (xs : List PyData) : biD .tuple [.list xs] = some (.v (.d (.tuple xs))) := (rfl)
@[simp] theorem biD_lst_t (xs : List PyData) : biD .list [.tuple xs] = some (.own xs) := (rfl)
@[simp] theorem binD_add (i j : Int) : binD .add (.int i) (.int j) = some (.v (.d (.int (i + j)))) := (rfl)
@[simp] theorem binD_sub (i j : Int) : binD .sub (.int i) (.int j) = some (.v (.d (.int (i - j)))) := (rfl)
theorem binD_mul {i j : Int} (h : i.natAbs < 2 ^ 64 ∨ j.natAbs < 2 ^ 64) : binD .mul (.int i) (.int j) = some (.v (.d (.int (i * j)))) := by
  show (if mulOk i j then _ else _) = _
  rw [if_pos (mulOk_of h)]
theorem binD_mod {i j : Int} (h : j ≠ 0) : binD .mod (.int i) (.int j) = some (.v (.d (.int (i.fmod j)))) := by
  show (if decide (j ≠ 0) then _ else _) = _
  rw [if_pos (decide_eq_true h)]
theorem binD_div {i j : Int} (h : 0 < j) (h2 : j < 1073741824) : binD .fdiv (.int i) (.int j) = some (.v (.d (.int (i.fdiv j)))) := by
  show (if divOk j then _ else _) = _
  rw [if_pos (divOk_of h h2)]
@[simp] theorem eqC_int' (i j : Int) : eqC (.int i) (.int j) = some (decide (i = j)) := eqC_int i j
section
variable (a b c : E) (i : Nat) (x : PyData) (o : BOp) (p q : COp) (M : Sto) (ρ : Env')
@[simp] theorem nl_call : isNil (.call i a) = false := (rfl)
@[simp] theorem nl_not : isNil (.not_ a) = false := (rfl)
@[simp] theorem nl_cmp : isNil (.cmp p a b) = false := (rfl)
@[simp] theorem nl_chn : isNil (.chn p q a b c) = false := (rfl)
@[simp] theorem nl_and : isNil (.and_ a b) = false := (rfl)
@[simp] theorem nl_or : isNil (.or_ a b) = false := (rfl)
@[simp] theorem nl_v : isNil (.v i) = false := (rfl)
@[simp] theorem nl_k : isNil (.k x) = false := (rfl)
@[simp] theorem nl_bin : isNil (.bin o a b) = false := (rfl)
@[simp] theorem nl_ix : isNil (.ix a b) = false := (rfl)
@[simp] theorem wipe_nil : wipeE ρ [] = ρ := (rfl)
@[simp] theorem wipe_cons (l : List Nat) : wipeE ρ (i :: l) = (wipeE ρ l).set i none := (rfl)
@[simp] theorem lenOk_of' {n : Nat} (h : n ≤ 16777216) : lenOk n = true := lenOk_of h
@[simp] theorem tupK_eq (xs : List VV) : tupK xs M = lift ((datL xs).bind fun ds => if lenOk ds.length then some (.v (.d (.tuple ds))) else none) M := (rfl)
@[simp] theorem lstK_eq (xs : List VV) : lstK xs M = lift ((datL xs).bind fun ds => if lenOk ds.length then some (.own ds) else none) M := (rfl)
@[simp] theorem ixD_t (xs : List PyData) (i : Int) : ixD (.tuple xs) (.int i) = L2.atI xs i := (rfl)
@[simp] theorem ixD_l (xs : List PyData) (i : Int) : ixD (.list xs) (.int i) = L2.atI xs i := (rfl)
@[simp] theorem at0 {α : Type} (x : α) (xs : List α) : L2.atI (x :: xs) 0 = some x := by simp [L2.atI, L2.ixN]
@[simp] theorem at1 {α : Type} (x y : α) (xs : List α) : L2.atI (x :: y :: xs) 1 = some y := by
  have h : (1 : Int) < ↑xs.length + 1 + 1 := by omega
  simp [L2.atI, L2.ixN, h]
@[simp] theorem at2 {α : Type} (x y z : α) (xs : List α) : L2.atI (x :: y :: z :: xs) 2 = some z := by
  have h : (2 : Int) < ↑xs.length + 1 + 1 + 1 := by omega
  simp [L2.atI, L2.ixN, h]
end
theorem eqC_ok {x y : PyData} (h1 : okD 8 x = true) (h2 : okD 8 y = true) : eqC x y = some (PyData.eqv x y) := by
  unfold eqC
  simp [h1, h2]
@[simp] theorem okD_int' (n : Nat) (i : Int) : okD n (.int i) = true := okD_int n i
@[simp] theorem okD_tup' (n : Nat) (xs : List PyData) : okD (n + 1) (.tuple xs) = xs.all (okD n) := (rfl)
@[simp] theorem okD_lst' (n : Nat) (xs : List PyData) : okD (n + 1) (.list xs) = xs.all (okD n) := (rfl)
@[simp] theorem eqv_int (i j : Int) : PyData.eqv (.int i) (.int j) = decide (i = j) := by rw [PyData.eqv]; rfl
@[simp] theorem eqv_tup (x y : List PyData) : PyData.eqv (.tuple x) (.tuple y) = PyData.eqvAll x y := by rw [PyData.eqv]
@[simp] theorem eqv_lst (x y : List PyData) : PyData.eqv (.list x) (.list y) = PyData.eqvAll x y := by rw [PyData.eqv]
@[simp] theorem eqvAll_cons (x y : PyData) (xs ys : List PyData) : PyData.eqvAll (x :: xs) (y :: ys) = (PyData.eqv x y && PyData.eqvAll xs ys) := by rw [PyData.eqvAll]
@[simp] theorem eqvAll_nils : PyData.eqvAll [] [] = true := by rw [PyData.eqvAll]
theorem filter_empty (p : PyData → Bool) : ∀ xs : List PyData, (xs.filter fun x => !p x).isEmpty = xs.all p
  | [] => rfl
  | x :: xs => by
    rw [List.filter_cons, List.all_cons, ← filter_empty p xs]
    cases p x <;> simp
theorem filter_some (p : PyData → Bool) : ∀ xs : List PyData, (xs.filter p).isEmpty = !xs.any p
  | [] => rfl
  | x :: xs => by
    rw [List.filter_cons, List.any_cons, Bool.not_or, ← filter_some p xs]
    cases p x <;> simp
theorem itemK_tp2 (i j : Nat) (ρ : Env') (f : Env' → Sto → Res Bool) (r : Env' → Sto → Res (List PyData)) (x y : PyData) (M : Sto) : itemK (.tp (.cons (.nm i) (.cons (.nm j) .nil))) ρ f r (.tuple [x, y]) M = (f ((ρ.set i (some (.d x))).set j (some (.d y))) M).bind fun k M1 => if k = true then r ((ρ.set i (some (.d x))).set j (some (.d y))) M1 else .ok [] M1 := (rfl)
theorem intsOfP : ∀ ns : List Int, intsOf (ns.map .int) = some ns
  | [] => rfl
  | n :: ns => by
    show (intsOf (ns.map .int)).map (n :: ·) = _
    rw [intsOfP ns]; rfl
@[simp] theorem forF_nil (t : Tg) (fb : Env' → Sto → Res Fl) (ρ : Env') (M : Sto) : forF t fb [] ρ M = .ok (.nx ρ) M := (rfl)
theorem forF_nm (i : Nat) (fb : Env' → Sto → Res Fl) (x : PyData) (xs : List PyData) (ρ : Env') (M : Sto) : forF (.nm i) fb (x :: xs) ρ M = (fb (ρ.set i (some (.d x))) M).bind (seqF (forF (.nm i) fb xs)) := (rfl)
theorem forF_tp2 (i j : Nat) (fb : Env' → Sto → Res Fl) (x y : PyData) (xs : List PyData) (ρ : Env') (M : Sto) : forF (.tp (.cons (.nm i) (.cons (.nm j) .nil))) fb (.tuple [x, y] :: xs) ρ M = (fb ((ρ.set i (some (.d x))).set j (some (.d y))) M).bind (seqF (forF (.tp (.cons (.nm i) (.cons (.nm j) .nil))) fb xs)) := (rfl)
@[simp] theorem zipD_cons (x y : PyData) (xs ys : List PyData) : zipD (x :: xs) (y :: ys) = .tuple [x, y] :: zipD xs ys := (rfl)
@[simp] theorem zipD_nil (ys : List PyData) : zipD [] ys = [] := (rfl)
theorem flatMap_len {α β : Type} {k : Nat} {f : α → List β} : ∀ {l : List α}, (∀ x ∈ l, (f x).length ≤ k) → (l.flatMap f).length ≤ l.length * k
  | [], _ => by simp
  | x :: l, h => by
    have h1 := h x List.mem_cons_self
    have h2 := flatMap_len (f := f) (l := l) fun y hy => h y (List.mem_cons_of_mem _ hy)
    rw [List.flatMap_cons, List.length_append, List.length_cons, Nat.succ_mul]
    omega
section
variable (ρ : Env') (M : Sto)
@[simp] theorem tgD_nm (i : Nat) (x : PyData) : tgD (.nm i) x ρ = some (ρ.set i (some (.d x))) := (rfl)
@[simp] theorem tgD_tp (l : Tg) (ys : List PyData) : tgD (.tp l) (.tuple ys) ρ = tgL l ys ρ := (rfl)
@[simp] theorem tgL_nil : tgL .nil [] ρ = some ρ := (rfl)
@[simp] theorem tgL_nm (i : Nat) (r : Tg) (x : PyData) (xs : List PyData) : tgL (.cons (.nm i) r) (x :: xs) ρ = tgL r xs (ρ.set i (some (.d x))) := (rfl)
@[simp] theorem tgL_tp (l r : Tg) (ys xs : List PyData) : tgL (.cons (.tp l) r) (.tuple ys :: xs) ρ = (tgL l ys ρ).bind fun ρ' => tgL r xs ρ' := (rfl)
@[simp] theorem itemK_some {t : Tg} {x : PyData} {ρ1 : Env'} (h : tgD t x ρ = some ρ1) (f : Env' → Sto → Res Bool) (r : Env' → Sto → Res (List PyData)) : itemK t ρ f r x M = (f ρ1 M).bind fun k M1 => if k = true then r ρ1 M1 else .ok [] M1 := by
  unfold itemK
  rw [h]
@[simp] theorem forF_cons {t : Tg} {x : PyData} {xs : List PyData} {ρ1 : Env'} (h : tgD t x ρ = some ρ1) (fb : Env' → Sto → Res Fl) : forF t fb (x :: xs) ρ M = (fb ρ1 M).bind (seqF (forF t fb xs)) := by
  rw [forF, h]
@[simp] theorem tgtK_some {t : Tg} {x : PyData} {ρ1 : Env'} (h : tgD t x ρ = some ρ1) : tgtK t ρ (.v (.d x)) M = .ok (.nx ρ1) M := by
  unfold tgtK
  show (match tgD t x ρ with | some ρ' => _ | none => _) = _
  rw [h]
@[simp] theorem par2K_eq (i j : Nat) (u v : VV) : par2K i j ρ [u, v] M = .ok (.nx ((ρ.set i (some u)).set j (some v))) M := (rfl)
@[simp] theorem par3K_eq (i j l : Nat) (u v w : VV) : par3K i j l ρ [u, v, w] M = .ok (.nx (((ρ.set i (some u)).set j (some v)).set l (some w))) M := (rfl)
@[simp] theorem alcK_own (ds : List PyData) : alcK (.own ds) M = .ok (.v (.ref M.length)) (M ++ [.lst ds]) := (rfl)
theorem appK_ok {n : Nat} {x : PyData} {ds : List PyData} (h : M[n]? = some (.lst ds)) (hl : ds.length < 16777216) : appK (.v (.ref n)) [.d x] M = .ok (.v (.d .none)) (M.set n (.lst (ds ++ [x]))) := by
  unfold appK
  simp only [h]
  rw [if_pos (lenOk_of (by omega))]
theorem isRef_ok {n : Nat} {ds : List PyData} (h : M[n]? = some (.lst ds)) : isRef (.v (.ref n)) M = true := by
  unfold isRef
  simp only [h]
theorem stiK_ok {n j : Nat} {k : Int} {x : PyData} {ds : List PyData} (h : M[n]? = some (.lst ds)) (hj : L2.ixN ds.length k = some j) : stiK (.d x) (.v (.ref n)) (.v (.d (.int k))) M = .ok () (M.set n (.lst (ds.set j x))) := by
  unfold stiK
  simp only [h, hj]
theorem frzK_ok {i n : Nat} {ds : List PyData} (hi : ρ[i]? = some (some (.ref n))) (h : M[n]? = some (.lst ds)) : frzK i ρ M = .ok (.nx (ρ.set i (some (.d (.list ds))))) (M.set n .gone) := by
  unfold frzK
  simp only [hi, h]
@[simp] theorem rng1K_eq {j : Int} (h : within62 j = true) : rng1K [.v (.d (.int j))] M = .ok (rngD 0 j.toNat) M := by
  show (if within62 j then _ else _) = _
  rw [if_pos h]
@[simp] theorem rng2K_eq {i j : Int} (h : within62 i = true) (h2 : within62 j = true) : rng2K [.v (.d (.int i)), .v (.d (.int j))] M = .ok (rngD i (j - i).toNat) M := by
  show (if within62 i && within62 j then _ else _) = _
  rw [if_pos (by rw [h, h2]; rfl)]
theorem within62_of {i : Int} (h : -(2 ^ 62) ≤ i) (h2 : i < 2 ^ 62) : within62 i = true := by
  unfold within62
  rw [Bool.and_eq_true, decide_eq_true_eq, decide_eq_true_eq]
  exact ⟨h, h2⟩
/-- a loop whose body goes on: an invariant -/
theorem forF_inv {t : Tg} {fb : Env' → Sto → Res Fl} (Pv : Env' → Sto → Prop) : ∀ (xs : List PyData) (ρ : Env') (M : Sto), Pv ρ M → (∀ x ∈ xs, ∀ ρ M, Pv ρ M → ∃ ρ1, tgD t x ρ = some ρ1 ∧ ∃ ρ2 M2, fb ρ1 M = .ok (.nx ρ2) M2 ∧ Pv ρ2 M2) → ∃ ρ2 M2, forF t fb xs ρ M = .ok (.nx ρ2) M2 ∧ Pv ρ2 M2
  | [], ρ, M, h, _ => ⟨ρ, M, rfl, h⟩
  | x :: xs, ρ, M, h, hs => by
    obtain ⟨ρ1, e1, ρ2, M2, e2, h2⟩ := hs x List.mem_cons_self ρ M h
    obtain ⟨ρ3, M3, e3, h3⟩ := forF_inv Pv xs ρ2 M2 h2 fun y hy => hs y (List.mem_cons_of_mem _ hy)
    exact ⟨ρ3, M3, by rw [forF_cons ρ M e1, e2, Res.bind_ok, seqF_nx, e3], h3⟩
/-- a target is set, then the body -/
def tgF {α : Type} (t : Tg) (x : PyData) (ρ : Env') (M : Sto) (fb : Env' → Sto → Res α) : Res α := match tgD t x ρ with
  | some ρ1 => fb ρ1 M
  | none => .stuck
@[simp] theorem tgF_some {α : Type} {t : Tg} {x : PyData} {ρ1 : Env'} (h : tgD t x ρ = some ρ1) (fb : Env' → Sto → Res α) : tgF t x ρ M fb = fb ρ1 M := by
  unfold tgF
  rw [h]
theorem forF_cons' {t : Tg} {fb : Env' → Sto → Res Fl} {x : PyData} {xs : List PyData} : forF t fb (x :: xs) ρ M = (tgF t x ρ M fb).bind (seqF (forF t fb xs)) := by
  rw [forF]
  unfold tgF
  cases tgD t x ρ <;> rfl
/-- a loop whose body goes on: the state told by a fold over typed items; o: the target's slots and what else the turns leave -/
theorem forF_fold {α β ω : Type} {t : Tg} {fb : Env' → Sto → Res Fl} {enc : α → PyData} (st : ω → β → Env') (sm : ω → β → Sto) (f : β → α → β) (I : ω → β → Prop) : ∀ (ys : List α) (o : ω) (s : β), I o s →
    (∀ y ∈ ys, ∀ o s, I o s → ∃ o', I o' (f s y) ∧ tgF t (enc y) (st o s) (sm o s) fb = .ok (.nx (st o' (f s y))) (sm o' (f s y))) → ∃ o', I o' (ys.foldl f s) ∧ forF t fb (ys.map enc) (st o s) (sm o s) = .ok (.nx (st o' (ys.foldl f s))) (sm o' (ys.foldl f s))
  | [], o, s, hI, _ => ⟨o, hI, rfl⟩
  | y :: ys, o, s, hI, h => by
    obtain ⟨o1, hI2, e2⟩ := h y List.mem_cons_self o s hI
    obtain ⟨o', hI3, e3⟩ := forF_fold st sm f I ys o1 (f s y) hI2 fun z hz => h z (List.mem_cons_of_mem _ hz)
    exact ⟨o', hI3, by rw [List.map_cons, forF_cons', e2, Res.bind_ok, seqF_nx, e3]; rfl⟩
/-- the same, at the goal: simple loops that change no store; I: what holds of the state -/
theorem loop_bind {α β γ : Type} {t : Tg} {fb : Env' → Sto → Res Fl} {enc : α → PyData} {k : Fl → Sto → Res γ} {R : Res γ} {ys : List α} {ρ : Env'} {M : Sto} (st : Option VV → β → Env') (f : β → α → β) (I : β → Prop) (o : Option VV) (s : β) (hρ : ρ = st o s) (hI : I s)
    (hs : ∀ y ∈ ys, ∀ o s, I s → I (f s y) ∧ tgF t (enc y) (st o s) M fb = .ok (.nx (st (some (.d (enc y))) (f s y))) M) (hk : ∀ o, I (ys.foldl f s) → k (.nx (st o (ys.foldl f s))) M = R) : (forF t fb (ys.map enc) ρ M).bind k = R := by
  subst hρ
  obtain ⟨o', h1, e⟩ := forF_fold (t := t) (fb := fb) (enc := enc) st (fun _ _ => M) f (fun _ => I) ys o s hI fun y hy o s h => ⟨_, hs y hy o s h⟩
  rw [e]
  exact hk o' h1
theorem loop_exit {α β : Type} {t : Tg} {fb : Env' → Sto → Res Fl} {enc : α → PyData} {k : Fl → Sto → Res Fl} {R : Res TV} {n : Nat} {ys : List α} {ρ : Env'} {M : Sto} (st : Option VV → β → Env') (f : β → α → β) (I : β → Prop) (o : Option VV) (s : β) (hρ : ρ = st o s) (hI : I s)
    (hs : ∀ y ∈ ys, ∀ o s, I s → I (f s y) ∧ tgF t (enc y) (st o s) M fb = .ok (.nx (st (some (.d (enc y))) (f s y))) M) (hk : ∀ o, I (ys.foldl f s) → exitR n (k (.nx (st o (ys.foldl f s))) M) = R) : exitR n ((forF t fb (ys.map enc) ρ M).bind k) = R := by
  subst hρ
  obtain ⟨o', h1, e⟩ := forF_fold (t := t) (fb := fb) (enc := enc) st (fun _ _ => M) f (fun _ => I) ys o s hI fun y hy o s h => ⟨_, hs y hy o s h⟩
  rw [e]
  exact hk o' h1
/-- the same with what holds by the items done so far -/
theorem forF_pre {α β ω : Type} {t : Tg} {fb : Env' → Sto → Res Fl} {enc : α → PyData} (st : ω → β → Env') (sm : ω → β → Sto) (f : β → α → β) (I : List α → ω → β → Prop) (N : Nat) : ∀ (ys pre : List α) (o : ω) (s : β), pre.length + ys.length = N → I pre o s →
    (∀ y ∈ ys, ∀ pre o s, pre.length < N → I pre o s → ∃ o', I (pre ++ [y]) o' (f s y) ∧ tgF t (enc y) (st o s) (sm o s) fb = .ok (.nx (st o' (f s y))) (sm o' (f s y))) → ∃ o', I (pre ++ ys) o' (ys.foldl f s) ∧ forF t fb (ys.map enc) (st o s) (sm o s) = .ok (.nx (st o' (ys.foldl f s))) (sm o' (ys.foldl f s))
  | [], pre, o, s, _, hI, _ => ⟨o, by rw [List.append_nil]; exact hI, rfl⟩
  | y :: ys, pre, o, s, hN, hI, h => by
    rw [List.length_cons] at hN
    obtain ⟨o1, hI2, e2⟩ := h y List.mem_cons_self pre o s (by omega) hI
    obtain ⟨o', hI3, e3⟩ := forF_pre st sm f I N ys (pre ++ [y]) o1 (f s y) (by rw [List.length_append, List.length_cons, List.length_nil]; omega) hI2 fun z hz => h z (List.mem_cons_of_mem _ hz)
    rw [List.append_assoc] at hI3
    exact ⟨o', hI3, by rw [List.map_cons, forF_cons', e2, Res.bind_ok, seqF_nx, e3]; rfl⟩
/-- what a turn must show -/
def StepOk {β ω : Type} (J : ω → β → Prop) (st : ω → β → Env') (sm : ω → β → Sto) (s' : β) (X : Res Fl) : Prop := ∃ o', J o' s' ∧ X = .ok (.nx (st o' s')) (sm o' s')
/-- a loop of the goal: `generalize hX : forF _ _ _ _ _ = X`, then this -/
theorem loop_of {α β ω : Type} {t : Tg} {fb : Env' → Sto → Res Fl} {enc : α → PyData} {X : Res Fl} {ys : List α} {ρ : Env'} {M : Sto} (hX : forF t fb (ys.map enc) ρ M = X) (st : ω → β → Env') (sm : ω → β → Sto) (f : β → α → β) (I : List α → ω → β → Prop) (o : ω) (s : β) (hρ : ρ = st o s) (hM : M = sm o s) (hI : I [] o s)
    (hs : ∀ y ∈ ys, ∀ pre o s, pre.length < ys.length → I pre o s → StepOk (I (pre ++ [y])) st sm (f s y) (tgF t (enc y) (st o s) (sm o s) fb)) : ∃ o', I ys o' (ys.foldl f s) ∧ X = .ok (.nx (st o' (ys.foldl f s))) (sm o' (ys.foldl f s)) := by
  subst hρ hM hX
  exact forF_pre (t := t) (fb := fb) (enc := enc) st sm f I ys.length ys [] o s (by simp) hI hs
/-- a turn that goes on, and Pv holds behind it -/
def StepEx (Pv : Env' → Sto → Prop) (X : Res Fl) : Prop := ∃ ρ2 M2, X = .ok (.nx ρ2) M2 ∧ Pv ρ2 M2
/-- a loop of the goal with an invariant -/
theorem inv_of {t : Tg} {fb : Env' → Sto → Res Fl} {X : Res Fl} {xs : List PyData} {ρ : Env'} {M : Sto} (hX : forF t fb xs ρ M = X) (Pv : Env' → Sto → Prop) (h0 : Pv ρ M) (hs : ∀ x ∈ xs, ∀ ρ M, Pv ρ M → StepEx Pv (tgF t x ρ M fb)) : ∃ ρ2 M2, X = .ok (.nx ρ2) M2 ∧ Pv ρ2 M2 := by
  subst hX
  induction xs generalizing ρ M with
  | nil => exact ⟨ρ, M, rfl, h0⟩
  | cons x xs ih =>
    obtain ⟨ρ1, M1, e1, h1⟩ := hs x List.mem_cons_self ρ M h0
    obtain ⟨ρ2, M2, e2, h2⟩ := ih h1 fun y hy => hs y (List.mem_cons_of_mem _ hy)
    exact ⟨ρ2, M2, by rw [forF_cons', e1, Res.bind_ok, seqF_nx, e2], h2⟩
/-- the same, with the turn's number -/
theorem inv_n {t : Tg} {fb : Env' → Sto → Res Fl} {X : Res Fl} {xs : List PyData} {ρ : Env'} {M : Sto} (hX : forF t fb xs ρ M = X) (Pv : Nat → Env' → Sto → Prop) (h0 : Pv 0 ρ M) (hs : ∀ i x, xs[i]? = some x → ∀ ρ M, Pv i ρ M → StepEx (Pv (i + 1)) (tgF t x ρ M fb)) : ∃ ρ2 M2, X = .ok (.nx ρ2) M2 ∧ Pv xs.length ρ2 M2 := by
  subst hX
  have key : ∀ (ys : List PyData) (i : Nat) (ρ : Env') (M : Sto), (∀ j x, ys[j]? = some x → xs[i + j]? = some x) → Pv i ρ M → ∃ ρ2 M2, forF t fb ys ρ M = .ok (.nx ρ2) M2 ∧ Pv (i + ys.length) ρ2 M2 := by
    intro ys
    induction ys with
    | nil => exact fun i ρ M _ h => ⟨ρ, M, rfl, h⟩
    | cons y ys ih =>
      intro i ρ M hy h
      obtain ⟨ρ1, M1, e1, h1⟩ := hs i y (by simpa using hy 0 y rfl) ρ M h
      obtain ⟨ρ2, M2, e2, h2⟩ := ih (i + 1) ρ1 M1 (fun j x hj => by rw [Nat.add_assoc, Nat.add_comm 1]; exact hy (j + 1) x (by simpa using hj)) h1
      exact ⟨ρ2, M2, by rw [forF_cons', e1, Res.bind_ok, seqF_nx, e2], by rw [List.length_cons, ← Nat.add_assoc, Nat.add_right_comm]; exact h2⟩
  obtain ⟨ρ2, M2, e, h⟩ := key xs 0 ρ M (fun j x h => by rwa [Nat.zero_add]) h0
  exact ⟨ρ2, M2, e, by rwa [Nat.zero_add] at h⟩
@[simp] theorem eqC_bool (a b : Bool) : eqC (.bool a) (.bool b) = some (a == b) := by
  cases a <;> cases b <;> rfl
@[simp] theorem wordK_err {ws : List PySem.Str} {k : Nat} {z : PySem.Str} (h : ws[k]? = some z) : wordK ws (.err k M) = .ok (.v (.d (.str z))) M := by
  unfold wordK
  simp only [h]
@[simp] theorem wordK_ok {ws : List PySem.Str} (t : TV) : wordK ws (.ok t M) = .ok (.v (.d (.str (Str.ofString "")))) M := (rfl)
@[simp] theorem binK_own2 (o : BOp) (x : PyData) (y : List PyData) : binK o (.v (.d x)) (.own y) M = lift (binD o x (.list y)) M := (rfl)
@[simp] theorem binK_own1 (o : BOp) (x : List PyData) (y : PyData) : binK o (.own x) (.v (.d y)) M = lift (binD o (.list x) y) M := (rfl)
@[simp] theorem binK_own3 (o : BOp) (x y : List PyData) : binK o (.own x) (.own y) M = lift (binD o (.list x) (.list y)) M := (rfl)
theorem binD_addL {x y : List PyData} (h : x.length + y.length ≤ 16777216) : binD .add (.list x) (.list y) = some (.own (x ++ y)) := by
  show (if lenOk _ then _ else _) = _
  rw [if_pos (lenOk_of h)]
theorem binD_addT {x y : List PyData} (h : x.length + y.length ≤ 16777216) : binD .add (.tuple x) (.tuple y) = some (.v (.d (.tuple (x ++ y)))) := by
  show (if lenOk _ then _ else _) = _
  rw [if_pos (lenOk_of h)]
@[simp] theorem get_last (M : Sto) (x : OB) : (M ++ [x])[M.length]? = some x := by simp
@[simp] theorem set_last (M : Sto) (x y : OB) : (M ++ [x]).set M.length y = M ++ [y] := by simp
theorem take_last (M : Sto) (x : OB) : (M ++ [x]).take M.length = M := by simp
end
theorem zipD_map {α β : Type} (f : α → PyData) (g : β → PyData) : ∀ (u : List α) (v : List β), zipD (u.map f) (v.map g) = (u.zip v).map fun p => .tuple [f p.1, g p.2]
  | [], _ => rfl
  | _ :: _, [] => rfl
  | x :: u, y :: v => by
    rw [List.map_cons, List.map_cons, zipD_cons, zipD_map f g u v]
    rfl
end Ev

/-! S1: what the shared defs compute: the checks of values, rows. -/
namespace C
open PySem PySem.Spec PyProof.Rows Ev
section
variable {own : List Fd} {fuel d : Nat} {M : Sto}
def isI (x : PyData) (lo hi : Int) : Bool := match x with
  | .int i => decide (lo ≤ i) && decide (i ≤ hi)
  | _ => false
theorem is_int_spec (x : PyData) (lo hi : Int) : callS (cfD (com ++ own) fuel d) fuel f_is_int [.d x, .d (.int lo), .d (.int hi)] M = .ok (.v (.d (.bool (isI x lo hi)))) M := by
  cases x with
  | int i => by_cases h1 : lo ≤ i <;> simp [callS, f_is_int, isiD, isI, h1]
  | _ => simp [callS, f_is_int, isiD, isI]
/-- sides that a base may have -/
def sideB (b : Int) (x : PyData) : Bool := match x with
  | .tuple [p, q, r] => isI p 2 3 && isI q 2 3 && isI r 2 3 && (if b = 3 then PyData.eqv x (.tuple [.int 2, .int 2, .int 2]) else !PyData.eqv x (.tuple [.int 3, .int 3, .int 3]))
  | _ => false
theorem size_spec {p q r : Int} (hp : p.natAbs < 2 ^ 64) (hq : q.natAbs < 2 ^ 64) (hr : r.natAbs < 2 ^ 64) : callS (cfD (com ++ own) fuel d) fuel f_size_of [.d (.tuple [.int p, .int q, .int r])] M = .ok (.v (.d (.int (p * q * r)))) M := by
  rw [callS_eq rfl]
  simp [f_size_of, binD_mul (Or.inl hp), binD_mul (Or.inr hr)]
theorem isI_int {x : PyData} {lo hi : Int} (h : isI x lo hi = true) : ∃ i, x = .int i ∧ lo ≤ i ∧ i ≤ hi := by
  cases x with
  | int i => exact ⟨i, rfl, by simpa [isI] using h⟩
  | _ => simp [isI] at h
theorem three {xs : List PyData} (h : xs.length = 3) : ∃ p q r, xs = [p, q, r] := by
  match xs, h with
  | [p, q, r], _ => exact ⟨p, q, r, rfl⟩
theorem sideB_len {b : Int} {xs : List PyData} (h : xs.length ≠ 3) : sideB b (.tuple xs) = false := by
  unfold sideB
  split
  · rename_i e; cases e; simp at h
  · rfl
theorem are_sides_spec (b : Int) (x : PyData) (hx : okD 8 x = true) : callS (cfD (com ++ own) fuel (d + 1)) fuel f_are_sides [.d (.int b), .d x] M = .ok (.v (.d (.bool (sideB b x)))) M := by
  rw [callS_eq rfl]
  cases x with
  | tuple xs =>
    rw [okD_tuple, List.all_eq_true] at hx
    by_cases h3 : xs.length = 3
    · obtain ⟨p, q, r, rfl⟩ := three h3
      simp [f_are_sides, isiD]
      rw [lc_filter (p := fun x => !isI x 2 3) (f := id)]
      rw [lcK_ok (by simp; exact Nat.le_trans (List.length_filter_le _ _) (by simp))]
      simp
      · rw [eqC_nil (fun x h => hx x (List.mem_filter.mp h).1)]
        by_cases hall : isI p 2 3 = true ∧ isI q 2 3 = true ∧ isI r 2 3 = true
        · obtain ⟨h1, h2, h4⟩ := hall
          obtain ⟨i, rfl, i1, i2⟩ := isI_int h1
          obtain ⟨j, rfl, j1, j2⟩ := isI_int h2
          obtain ⟨k, rfl, k1, k2⟩ := isI_int h4
          have e : List.filter (fun x => !isI x 2 3) [.int i, .int j, .int k] = [] := by simp [h1, h2, h4]
          rw [e]
          by_cases hb : b = 3
          · simp [sideB, h1, h2, h4, hb, eqC_ok]
          · simp [sideB, h1, h2, h4, hb]
            rw [size_spec (by omega) (by omega) (by omega)]
            simp
            obtain rfl | rfl : i = 2 ∨ i = 3 := by omega
            all_goals obtain rfl | rfl : j = 2 ∨ j = 3 := by omega
            all_goals obtain rfl | rfl : k = 2 ∨ k = 3 := by omega
            all_goals simp
        · have e : List.filter (fun x => !isI x 2 3) [p, q, r] ≠ [] := by
            intro e
            rw [List.filter_eq_nil_iff] at e
            exact hall ⟨by simpa using e p (by simp), by simpa using e q (by simp), by simpa using e r (by simp)⟩
          have e2 : sideB b (.tuple [p, q, r]) = false := by
            unfold sideB
            simp
            intro h1 h2 h3
            exact absurd ⟨h1, h2, h3⟩ hall
          have e3 : (List.filter (fun x => !isI x 2 3) [p, q, r]).isEmpty = false := by simpa using e
          simp only [e3]
          simp [e2]
      · intro x hx
        simp [is_int_spec]
      · intro x hx
        simp
    · have h4 : ¬ ((xs.length : Int) = 3) := by omega
      simp [f_are_sides, isiD, h4, sideB_len h3]
  | _ => simp [f_are_sides, isiD, sideB]
/-- figures of a base, so many -/
def figB (b : Int) (x : PyData) (m : Int) : Bool := match x with
  | .tuple xs => decide ((xs.length : Int) = m) && xs.all fun x => isI x 0 (b - 1)
  | _ => false
theorem are_figures_spec (b : Int) (x : PyData) (m : Int) (hx : okD 8 x = true) (hl : ∀ xs, x = .tuple xs → xs.length ≤ 1000) : callS (cfD (com ++ own) fuel (d + 1)) fuel f_are_figures [.d (.int b), .d x, .d (.int m)] M = .ok (.v (.d (.bool (figB b x m)))) M := by
  rw [callS_eq rfl]
  cases x with
  | tuple xs =>
    rw [okD_tuple, List.all_eq_true] at hx
    by_cases h3 : (xs.length : Int) = m
    · simp [f_are_figures, isiD, h3]
      rw [lc_filter (p := fun x => !isI x 0 (b - 1)) (f := id)]
      rw [lcK_ok (by simp; exact Nat.le_trans (List.length_filter_le _ _) (Nat.le_trans (hl xs rfl) (by decide)))]
      simp
      · rw [eqC_nil (fun x h => hx x (List.mem_filter.mp h).1), filter_empty]
        simp [figB, h3]
      · intro x hx
        simp [is_int_spec]
      · intro x hx
        simp
    · simp [f_are_figures, isiD, h3, figB]
  | _ => simp [f_are_figures, isiD, figB]
/-- not nought -/
def nz (x : PyData) : Bool := !PyData.eqv x (.int 0)
def rowB (b : Int) (x : PyData) (m : Int) : Bool := figB b x m && match x with
  | .tuple xs => xs.any nz
  | _ => false
theorem is_row_spec (b : Int) (x : PyData) (m : Int) (hx : okD 8 x = true) (hl : ∀ xs, x = .tuple xs → xs.length ≤ 1000) : callS (cfD (com ++ own) fuel (d + 2)) fuel f_is_row [.d (.int b), .d x, .d (.int m)] M = .ok (.v (.d (.bool (rowB b x m)))) M := by
  rw [callS_eq rfl]
  simp [f_is_row, are_figures_spec b x m hx hl]
  by_cases hf : figB b x m = true
  · simp [hf]
    cases x with
    | tuple xs =>
      have hx' := hx
      rw [okD_tuple, List.all_eq_true] at hx
      simp
      rw [lc_filter (p := nz) (f := id)]
      rw [lcK_ok (by simp; exact Nat.le_trans (List.length_filter_le _ _) (Nat.le_trans (hl xs rfl) (by decide)))]
      simp
      · rw [eqC_nil (fun x h => hx x (List.mem_filter.mp h).1), filter_some]
        simp [rowB, hf]
      · intro x h
        simp
        rw [eqC_ok (okD_up _ _ (hx x h)) (okD_int _ _)]
        simp [nz]
      · intro x hx
        simp
    | _ => simp [figB] at hf
  · simp [hf, rowB]
/-- its first figure that is not nought is one -/
def plainB (x : PyData) : Bool := match x with
  | .tuple xs => match xs.filter nz with
    | y :: _ => PyData.eqv y (.int 1)
    | [] => false
  | _ => false
theorem nz_test {x : PyData} (h : okD 8 x = true) : cmpD .ne x (.int 0) = some (nz x) := by
  rw [cmpD_ne, eqC_ok h (okD_int _ _)]
  rfl
theorem is_plain_spec (xs : List PyData) (hx : okD 8 (.tuple xs) = true) (hl : xs.length ≤ 1000) (hn : xs.any nz = true) : callS (cfD (com ++ own) fuel d) fuel f_is_plain [.d (.tuple xs)] M = .ok (.v (.d (.bool (plainB (.tuple xs))))) M := by
  rw [callS_eq rfl]
  rw [okD_tuple, List.all_eq_true] at hx
  simp [f_is_plain]
  rw [lc_filter (p := nz) (f := id)]
  rw [lcK_ok (by simp; exact Nat.le_trans (List.length_filter_le _ _) (Nat.le_trans hl (by decide)))]
  · have e : xs.filter nz ≠ [] := by
      intro e
      have := filter_some nz xs
      rw [e, hn] at this
      cases this
    cases h : xs.filter nz with
    | nil => exact absurd h e
    | cons y ys =>
      have hy : y ∈ xs := (List.mem_filter.mp (by rw [h]; exact List.mem_cons_self : y ∈ xs.filter nz)).1
      simp [plainB, h, eqC_ok (okD_up _ _ (hx y hy)) (okD_int 8 1)]
  · intro x h
    simp
    rw [eqC_ok (okD_up _ _ (hx x h)) (okD_int _ _)]
    simp [nz]
  · intro x hx
    simp
theorem law_is_plain_spec (xs : List PyData) (hx : okD 8 (.tuple xs) = true) (hl : xs.length ≤ 1000) (hn : xs.any nz = true) : callS (cfD (com ++ own) fuel d) fuel f_law_is_plain [.d (.tuple xs)] M = .ok (.v (.d (.bool (plainB (.tuple xs))))) M := is_plain_spec xs hx hl hn
/-- a table -/
def sizeD : PyData → Int
  | .tuple [.int p, .int q, .int r] => p * q * r
  | _ => 0
def tabB (x : PyData) : Bool := match x with
  | .tuple [.int b, s, f] => isI (.int b) 2 3 && sideB b s && figB b f (sizeD s)
  | _ => false
theorem sideB_sh {b : Int} {x : PyData} (h : sideB b x = true) : ∃ p q r, x = .tuple [.int p, .int q, .int r] ∧ 2 ≤ p ∧ p ≤ 3 ∧ 2 ≤ q ∧ q ≤ 3 ∧ 2 ≤ r ∧ r ≤ 3 := by
  unfold sideB at h
  split at h
  · rename_i p q r
    simp only [Bool.and_eq_true] at h
    obtain ⟨i, rfl, i1, i2⟩ := isI_int h.1.1.1
    obtain ⟨j, rfl, j1, j2⟩ := isI_int h.1.1.2
    obtain ⟨k, rfl, k1, k2⟩ := isI_int h.1.2
    exact ⟨i, j, k, rfl, i1, i2, j1, j2, k1, k2⟩
  · cases h
/-- data that the laws hold against: not too deep, tuples not too long -/
def fine (x : PyData) : Prop := okD 8 x = true ∧ ∀ xs, x = .tuple xs → xs.length ≤ 1000 ∧ ∀ y ∈ xs, okD 8 y = true ∧ ∀ ys, y = .tuple ys → ys.length ≤ 1000
theorem is_table_so_spec (x : PyData) (hx : fine x) : callS (cfD (com ++ own) fuel (d + 2)) fuel f_is_table_so [.d x] M = .ok (.v (.d (.bool (tabB x)))) M := by
  rw [callS_eq rfl]
  obtain ⟨hx, hf⟩ := hx
  cases x with
  | tuple xs =>
    by_cases h3 : xs.length = 3
    · obtain ⟨p, q, r, rfl⟩ := three h3
      obtain ⟨-, hf⟩ := hf _ rfl
      have hq := hf q (by simp)
      have hr := hf r (by simp)
      simp [f_is_table_so, isiD, is_int_spec]
      by_cases hp : isI p 2 3 = true
      · obtain ⟨i, rfl, i1, i2⟩ := isI_int hp
        simp [hp, are_sides_spec i q hq.1]
        by_cases hs : sideB i q = true
        · obtain ⟨a, b, c, rfl, h1, h2, h3, h4, h5, h6⟩ := sideB_sh hs
          simp [hs, size_spec (show a.natAbs < 2 ^ 64 by omega) (show b.natAbs < 2 ^ 64 by omega) (show c.natAbs < 2 ^ 64 by omega), are_figures_spec i r (a * b * c) hr.1 hr.2, tabB, hp, sizeD]
        · simp [hs, tabB]
      · have : tabB (.tuple [p, q, r]) = false := by
          unfold tabB
          split
          · rename_i e; cases e; simp [hp]
          · rfl
        simp [hp, this]
    · have h4 : ¬ ((xs.length : Int) = 3) := by omega
      have : tabB (.tuple xs) = false := by
        unfold tabB
        split
        · rename_i e; cases e; simp at h3
        · rfl
      simp [f_is_table_so, isiD, h4, this]
  | _ => simp [f_is_table_so, isiD, tabB]
theorem is_table_spec (x : PyData) (hx : fine x) : callS (cfD (com ++ own) fuel (d + 3)) fuel f_is_table [.d x] M = .ok (.v (.d (.bool (tabB x)))) M := by
  rw [callS_eq rfl]
  simp [f_is_table, is_table_so_spec x hx]
def short (x : PyData) : Prop := okD 8 x = true ∧ ∀ xs, x = .tuple xs → xs.length ≤ 1000
def termB (b : Int) (s x : PyData) : Bool := match s, x with
  | .tuple [.int p, .int q, .int r], .tuple [u, v, w] => rowB b u p && rowB b v q && rowB b w r && plainB u && plainB v
  | _, _ => false
theorem rowB_sh {b : Int} {x : PyData} {m : Int} (h : rowB b x m = true) : ∃ xs, x = .tuple xs ∧ xs.any nz = true := by
  cases x with
  | tuple xs => exact ⟨xs, rfl, by simp only [rowB, Bool.and_eq_true] at h; exact h.2⟩
  | _ => simp [rowB] at h
theorem are_rows_spec (b p q r : Int) (u v w : PyData) (hu : short u) (hv : short v) (hw : short w) : callS (cfD (com ++ own) fuel (d + 3)) fuel f_are_rows [.d (.int b), .d (.tuple [.int p, .int q, .int r]), .d (.tuple [u, v, w])] M = .ok (.v (.d (.bool (rowB b u p && rowB b v q && rowB b w r)))) M := by
  rw [callS_eq rfl]
  simp [f_are_rows, isiD]
  rw [loopC_pure (g := fun x => match x with | .tuple [y, .int m] => if rowB b y m = true then [] else [.int 1] | _ => [])]
  · by_cases h1 : rowB b u p = true <;> by_cases h2 : rowB b v q = true <;> by_cases h3 : rowB b w r = true <;> simp [h1, h2, h3, lcK_ok, eqC_nil]
  · intro x hx
    simp at hx
    rcases hx with rfl | rfl | rfl
    · simp [is_row_spec b u p hu.1 hu.2]
      by_cases h : rowB b u p = true <;> simp [h]
    · simp [is_row_spec b v q hv.1 hv.2]
      by_cases h : rowB b v q = true <;> simp [h]
    · simp [is_row_spec b w r hw.1 hw.2]
      by_cases h : rowB b w r = true <;> simp [h]
theorem are_rows_no (b : Int) (s x : PyData) (h : ∀ u v w, x ≠ .tuple [u, v, w]) : callS (cfD (com ++ own) fuel d) fuel f_are_rows [.d (.int b), .d s, .d x] M = .ok (.v (.d (.bool false))) M := by
  rw [callS_eq rfl]
  cases x with
  | tuple xs =>
    have h4 : ¬ ((xs.length : Int) = 3) := fun e => by
      obtain ⟨u, v, w, rfl⟩ := three (show xs.length = 3 by omega)
      exact h u v w rfl
    simp [f_are_rows, isiD, h4]
  | _ => simp [f_are_rows, isiD]
theorem termB_no (b : Int) (s x : PyData) (h : ∀ u v w, x ≠ .tuple [u, v, w]) : termB b s x = false := by
  unfold termB
  split
  · exact absurd rfl (h _ _ _)
  · rfl
/-- data for a term -/
def fineT (x : PyData) : Prop := ∀ u v w, x = .tuple [u, v, w] → short u ∧ short v ∧ short w
theorem is_term_so_spec (b p q r : Int) (x : PyData) (hx : fineT x) : callS (cfD (com ++ own) fuel (d + 4)) fuel f_is_term_so [.d (.int b), .d (.tuple [.int p, .int q, .int r]), .d x] M = .ok (.v (.d (.bool (termB b (.tuple [.int p, .int q, .int r]) x)))) M := by
  rw [callS_eq rfl]
  by_cases h : ∃ u v w, x = .tuple [u, v, w]
  · obtain ⟨u, v, w, rfl⟩ := h
    obtain ⟨hu, hv, hw⟩ := hx u v w rfl
    simp [f_is_term_so, are_rows_spec b p q r u v w hu hv hw, termB]
    by_cases h1 : rowB b u p = true <;> by_cases h2 : rowB b v q = true <;> by_cases h3 : rowB b w r = true <;> simp [h1, h2, h3]
    obtain ⟨us, rfl, nu⟩ := rowB_sh h1
    obtain ⟨vs, rfl, nv⟩ := rowB_sh h2
    rw [is_plain_spec us hu.1 (hu.2 us rfl) nu]
    simp
    by_cases h4 : plainB (.tuple us) = true <;> simp [h4]
    rw [is_plain_spec vs hv.1 (hv.2 vs rfl) nv]
    simp
  · have h : ∀ u v w, x ≠ .tuple [u, v, w] := fun u v w e => h ⟨u, v, w, e⟩
    simp [f_is_term_so, are_rows_no b _ x h, termB_no b _ x h]
theorem figs_int {b : Int} : ∀ {xs : List PyData}, xs.all (fun x => isI x 0 b) = true → ∃ ns : List Int, xs = ns.map .int ∧ ∀ n ∈ ns, 0 ≤ n ∧ n ≤ b
  | [], _ => ⟨[], rfl, by simp⟩
  | x :: xs, h => by
    simp only [List.all_cons, Bool.and_eq_true] at h
    obtain ⟨i, rfl, i1, i2⟩ := isI_int h.1
    obtain ⟨ns, rfl, hn⟩ := figs_int h.2
    exact ⟨i :: ns, rfl, by simpa using ⟨⟨i1, i2⟩, hn⟩⟩
theorem sum_nz : ∀ ns : List Int, (∀ n ∈ ns, 0 ≤ n) → 0 ≤ ns.sum ∧ (ns.sum = 0 ↔ (ns.map PyData.int).any nz = false)
  | [], _ => by simp
  | n :: ns, h => by
    obtain ⟨h1, h2⟩ := sum_nz ns fun m hm => h m (List.mem_cons_of_mem _ hm)
    have h3 := h n List.mem_cons_self
    simp only [List.sum_cons, List.map_cons, List.any_cons, Bool.or_eq_false_iff]
    refine ⟨by omega, ?_⟩
    rw [← h2]
    have : nz (.int n) = false ↔ n = 0 := by simp [nz]
    rw [this]
    omega
theorem line_sum {b : Int} {x : PyData} {m : Int} (h : figB b x m = true) : ∃ s, biD .sum [x] = some (.v (.d (.int s))) ∧ decide (s = 0) = !rowB b x m := by
  cases x with
  | tuple xs =>
    have hf := h
    simp only [figB, Bool.and_eq_true] at h
    obtain ⟨ns, rfl, hn⟩ := figs_int h.2
    refine ⟨ns.sum, by simp [biD, intsOfP], ?_⟩
    have := (sum_nz ns fun n hm => (hn n hm).1).2
    simp only [rowB, hf, Bool.true_and]
    cases e : (ns.map PyData.int).any nz with
    | true => rw [e] at this; simpa using this
    | false => rw [e] at this; simpa using this
  | _ => simp [figB] at h
def longer (b : Nat) (l : List (List Int)) : List (List Int) := l.flatMap fun r => (List.range b).map fun (i : Nat) => r ++ [Int.ofNat i]
def rowsN (b : Nat) : Nat → List (List Int)
  | 0 => [[]]
  | m + 1 => longer b (rowsN b m)
/-- the rows of a base, not all nought -/
def rowsI (b m : Nat) : List (List Int) := (rowsN b m).drop 1
def tupI (ns : List Int) : PyData := .tuple (ns.map .int)
def rowsD (b m : Nat) : List PyData := (rowsI b m).map tupI
theorem rows_of_in (b m : Nat) (h : (b = 2 ∨ b = 3) ∧ (m = 2 ∨ m = 3)) : evalS (cfD (com ++ own) fuel d) fuel f_rows_of.body [some (.d (.int b)), some (.d (.int m)), none, none, none, none] M = .ok (.ret (.own (rowsD b m))) M := by
  obtain ⟨rfl | rfl, rfl | rfl⟩ := h <;> rfl
theorem rows_of_spec (b m : Nat) (h : (b = 2 ∨ b = 3) ∧ (m = 2 ∨ m = 3)) : callS (cfD (com ++ own) fuel d) fuel f_rows_of [.d (.int b), .d (.int m)] M = .ok (.own (rowsD b m)) M := by
  rw [callS_eq rfl]
  have e := rows_of_in (own := own) (fuel := fuel) (d := d) (M := M) b m h
  show exitR M.length (evalS (cfD (com ++ own) fuel d) fuel f_rows_of.body [some (.d (.int b)), some (.d (.int m)), none, none, none, none] M) = _
  rw [e]
  simp
theorem law_rows_in (b m : Nat) (h : (b = 2 ∨ b = 3) ∧ (m = 2 ∨ m = 3)) : evalS (cfD (com ++ own) fuel d) fuel f_law_rows_for.body [some (.d (.int b)), some (.d (.int m)), none, none, none, none, none, none] M = .ok (.ret (.own (rowsD b m))) M := by
  obtain ⟨rfl | rfl, rfl | rfl⟩ := h <;> rfl
theorem law_rows_spec (b m : Nat) (h : (b = 2 ∨ b = 3) ∧ (m = 2 ∨ m = 3)) : callS (cfD (com ++ own) fuel d) fuel f_law_rows_for [.d (.int b), .d (.int m)] M = .ok (.own (rowsD b m)) M := by
  rw [callS_eq rfl]
  have e := law_rows_in (own := own) (fuel := fuel) (d := d) (M := M) b m h
  show exitR M.length (evalS (cfD (com ++ own) fuel d) fuel f_law_rows_for.body [some (.d (.int b)), some (.d (.int m)), none, none, none, none, none, none] M) = _
  rw [e]
  simp
end
end C

/-! T1: rows, terms, entries as lists of integers; how data stands for them; tools for typed lists. -/
namespace C
open PySem PySem.Spec PyProof.Rows Ev
abbrev Row := List Int
abbrev Term := Row × Row × Row
def plainR (r : Row) : Bool := match r.filter (fun x => !decide (x = 0)) with | y :: _ => decide (y = 1) | [] => false
def firsts (b m : Nat) : List Row := (rowsI b m).filter plainR
def terms (b p q r : Nat) : List Term := (firsts b p).flatMap fun x => (firsts b q).flatMap fun y => (rowsI b r).map fun z => (x, y, z)
def tD (t : Term) : PyData := .tuple [tupI t.1, tupI t.2.1, tupI t.2.2]
def ents (b : Nat) (t : Term) : Row := t.1.flatMap fun x => t.2.1.flatMap fun y => t.2.2.map fun z => x * y * z % (b : Int)
def addE (b : Nat) (u v : Row) : Row := List.zipWith (fun x y => (x + y) % (b : Int)) u v
def subE (b : Nat) (u v : Row) : Row := List.zipWith (fun x y => (x - y) % (b : Int)) u v
def zeroE (n : Nat) : Row := List.replicate n 0
def sumE (b n : Nat) (ts : List Term) : Row := ts.foldl (fun u t => addE b u (ents b t)) (zeroE n)
abbrev two3 (n : Nat) : Prop := n = 2 ∨ n = 3
/-- b, p, q, r: base and sides of a shape -/
def Sh (b p q r : Nat) : Prop := (b = 2 ∧ two3 p ∧ two3 q ∧ two3 r ∧ ¬ (p = 3 ∧ q = 3 ∧ r = 3)) ∨ (b = 3 ∧ p = 2 ∧ q = 2 ∧ r = 2)
theorem Sh.b {b p q r : Nat} (h : Sh b p q r) : two3 b := by rcases h with h | h <;> simp [two3, h.1]
theorem Sh.p {b p q r : Nat} (h : Sh b p q r) : two3 p := by rcases h with h | h <;> simp [two3, h]
theorem Sh.q {b p q r : Nat} (h : Sh b p q r) : two3 q := by rcases h with h | h <;> simp [two3, h]
theorem Sh.r {b p q r : Nat} (h : Sh b p q r) : two3 r := by rcases h with h | h <;> simp [two3, h]
/-- the figures of a row are below the base -/
def FigR (b : Nat) (l : Row) : Prop := ∀ x ∈ l, 0 ≤ x ∧ x < (b : Int)
def RowOk (b m : Nat) (l : Row) : Prop := l.length = m ∧ FigR b l ∧ ∃ x ∈ l, x ≠ 0
/-- checks of finite lists, by the kernel -/
def rowOkB (b m : Nat) (l : Row) : Bool := decide (l.length = m) && (l.all (fun x => decide (0 ≤ x) && decide (x < (b : Int))) && l.any fun x => !decide (x = 0))
theorem rowOkB_ok {b m : Nat} {l : Row} (h : rowOkB b m l = true) : RowOk b m l := by
  simp only [rowOkB, Bool.and_eq_true, decide_eq_true_eq, List.all_eq_true, List.any_eq_true, Bool.not_eq_true', decide_eq_false_iff_not] at h
  exact ⟨h.1, fun x hx => h.2.1 x hx, h.2.2⟩
theorem rowsI_allB {b m : Nat} (h : two3 b ∧ two3 m) : (rowsI b m).all (rowOkB b m) = true ∧ (rowsI b m).length ≤ 26 := by
  obtain ⟨rfl | rfl, rfl | rfl⟩ := h <;> exact ⟨by decide +kernel, by decide +kernel⟩
theorem rowsI_ok {b m : Nat} (h : two3 b ∧ two3 m) {l : Row} (hl : l ∈ rowsI b m) : RowOk b m l := rowOkB_ok (List.all_eq_true.mp (rowsI_allB h).1 l hl)
theorem rowsI_len {b m : Nat} (h : two3 b ∧ two3 m) : (rowsI b m).length ≤ 26 := (rowsI_allB h).2
theorem firsts_ok {b m : Nat} (h : two3 b ∧ two3 m) {l : Row} (hl : l ∈ firsts b m) : RowOk b m l ∧ plainR l = true := by
  obtain ⟨h1, h2⟩ := List.mem_filter.mp hl
  exact ⟨rowsI_ok h h1, h2⟩
theorem firsts_len {b m : Nat} (h : two3 b ∧ two3 m) : (firsts b m).length ≤ 26 := Nat.le_trans (List.length_filter_le _ _) (rowsI_len h)
def TermOk (b p q r : Nat) (t : Term) : Prop := (RowOk b p t.1 ∧ plainR t.1 = true) ∧ (RowOk b q t.2.1 ∧ plainR t.2.1 = true) ∧ RowOk b r t.2.2
theorem terms_ok {b p q r : Nat} (h : Sh b p q r) {t : Term} (ht : t ∈ terms b p q r) : TermOk b p q r t := by
  unfold terms at ht
  simp only [List.mem_flatMap, List.mem_map] at ht
  obtain ⟨x, hx, y, hy, z, hz, rfl⟩ := ht
  exact ⟨firsts_ok ⟨h.b, h.p⟩ hx, firsts_ok ⟨h.b, h.q⟩ hy, rowsI_ok ⟨h.b, h.r⟩ hz⟩
theorem terms_len {b p q r : Nat} (h : Sh b p q r) : (terms b p q r).length ≤ 17576 := by
  have h1 := firsts_len (b := b) (m := p) ⟨h.b, h.p⟩
  have h2 := firsts_len (b := b) (m := q) ⟨h.b, h.q⟩
  have h3 := rowsI_len (b := b) (m := r) ⟨h.b, h.r⟩
  unfold terms
  refine Nat.le_trans (flatMap_len (k := 676) fun x _ => Nat.le_trans (flatMap_len (k := 26) fun y _ => ?_) ?_) ?_
  · rw [List.length_map]; omega
  · omega
  · omega

/-! ### the data -/
@[simp] theorem tupI_ok (n : Nat) (l : Row) : okD (n + 1) (tupI l) = true := by simp [tupI]
theorem tD_ok (n : Nat) (t : Term) : okD (n + 2) (tD t) = true := by simp [tD]
theorem nz_int (i : Int) : nz (.int i) = !decide (i = 0) := by simp [nz]
theorem any_nz (l : Row) : (l.map PyData.int).any nz = l.any (fun x => !decide (x = 0)) := by
  rw [List.any_map]
  congr 1
theorem plainB_tup (l : Row) : plainB (tupI l) = plainR l := by
  unfold plainB tupI plainR
  have : (l.map PyData.int).filter nz = (l.filter (fun x => !decide (x = 0))).map PyData.int := by
    rw [List.filter_map]
    congr 2
  simp only [this]
  cases h : l.filter (fun x => !decide (x = 0)) with
  | nil => rfl
  | cons y ys => simp
theorem RowOk.any {b m : Nat} {l : Row} (h : RowOk b m l) : (l.map PyData.int).any nz = true := by
  rw [any_nz, List.any_eq_true]
  obtain ⟨x, hx, hn⟩ := h.2.2
  exact ⟨x, hx, by simpa using hn⟩
theorem eqv_ints : ∀ (u v : Row), PyData.eqvAll (u.map .int) (v.map .int) = decide (u = v)
  | [], [] => by simp
  | [], _ :: _ => by simp [PyData.eqvAll]
  | _ :: _, [] => by simp [PyData.eqvAll]
  | x :: u, y :: v => by
    simp only [List.map_cons, eqvAll_cons, eqv_int, eqv_ints u v, List.cons.injEq]
    by_cases h : x = y <;> simp [h]
@[simp] theorem eqv_tupI (u v : Row) : PyData.eqv (tupI u) (tupI v) = decide (u = v) := by rw [tupI, tupI, eqv_tup, eqv_ints]
theorem eqv_tD (s t : Term) : PyData.eqv (tD s) (tD t) = decide (s = t) := by
  obtain ⟨a, b, c⟩ := s
  obtain ⟨x, y, z⟩ := t
  simp only [tD, eqv_tup, eqvAll_cons, eqv_tupI, eqvAll_nils, Prod.mk.injEq]
  by_cases h1 : a = x <;> by_cases h2 : b = y <;> by_cases h3 : c = z <;> simp [h1, h2, h3]
theorem eqvAll_map {α : Type} [DecidableEq α] {f : α → PyData} (h : ∀ s t, PyData.eqv (f s) (f t) = decide (s = t)) : ∀ (u v : List α), PyData.eqvAll (u.map f) (v.map f) = decide (u = v)
  | [], [] => by simp
  | [], _ :: _ => by simp [PyData.eqvAll]
  | _ :: _, [] => by simp [PyData.eqvAll]
  | x :: u, y :: v => by
    simp only [List.map_cons, eqvAll_cons, h, eqvAll_map h u v, List.cons.injEq]
    by_cases e : x = y <;> simp [e]

/-! ### comprehensions over typed lists -/
section
variable {α : Type} {M : Sto} {t : Tg} {ρ : Env'} {test : Env' → Sto → Res Bool} {rest : Env' → Sto → Res (List PyData)}
theorem lc_map {enc h : α → PyData} (ys : List α) (e : ∀ y ∈ ys, itemK t ρ test rest (enc y) M = .ok [h y] M) : loopC (itemK t ρ test rest) (ys.map enc) M = .ok (ys.map h) M := by
  induction ys with
  | nil => rfl
  | cons y ys ih =>
    rw [List.map_cons, loopC, e y List.mem_cons_self]
    simp only [ih fun z hz => e z (List.mem_cons_of_mem _ hz), Res.bind_ok, List.map_cons, List.cons_append, List.nil_append]
theorem lc_flat {enc : α → PyData} {g : α → List PyData} (ys : List α) (e : ∀ y ∈ ys, itemK t ρ test rest (enc y) M = .ok (g y) M) : loopC (itemK t ρ test rest) (ys.map enc) M = .ok (ys.flatMap g) M := by
  induction ys with
  | nil => rfl
  | cons y ys ih =>
    rw [List.map_cons, loopC, e y List.mem_cons_self]
    simp only [ih fun z hz => e z (List.mem_cons_of_mem _ hz), Res.bind_ok, List.flatMap_cons]
theorem lc_filt {enc : α → PyData} {p : α → Bool} (ys : List α) (e : ∀ y ∈ ys, itemK t ρ test rest (enc y) M = .ok (if p y = true then [enc y] else []) M) : loopC (itemK t ρ test rest) (ys.map enc) M = .ok ((ys.filter p).map enc) M := by
  induction ys with
  | nil => rfl
  | cons y ys ih =>
    rw [List.map_cons, loopC, e y List.mem_cons_self]
    simp only [ih fun z hz => e z (List.mem_cons_of_mem _ hz), Res.bind_ok, List.filter_cons]
    by_cases hp : p y = true <;> simp [hp]
end
theorem emod_fmod (i : Int) (b : Nat) : i.fmod (b : Int) = i % (b : Int) := Int.fmod_eq_emod_of_nonneg _ (by omega)
end C

/-! S2: what the shared defs compute: needs, terms, entries, sums. -/
namespace C
open PySem PySem.Spec PyProof.Rows Ev
section
variable {own : List Fd} {fuel d : Nat} {M : Sto}
/-- sides as data -/
abbrev sD (p q r : Nat) : PyData := .tuple [.int p, .int q, .int r]
theorem isI_b {b : Nat} (h : two3 b) : isI (.int b) 2 3 = true := by rcases h with rfl | rfl <;> rfl
theorem need_base_spec {b : Nat} (h : two3 b) : callS (cfD (com ++ own) fuel (d + 1)) fuel f_need_base [.d (.int b)] M = .ok (.v (.d .none)) M := by
  rw [callS_eq rfl]
  simp [f_need_base, is_int_spec, isI_b h]
theorem sideB_sh2 {b p q r : Nat} (h : Sh b p q r) : sideB b (sD p q r) = true := by
  rcases h with ⟨rfl, h1 | h1, h2 | h2, h3 | h3, h4⟩ | ⟨rfl, rfl, rfl, rfl⟩ <;> first | (subst h1 h2 h3; revert h4; decide) | decide
theorem need_sides_spec {b p q r : Nat} (h : Sh b p q r) : callS (cfD (com ++ own) fuel (d + 2)) fuel f_need_sides [.d (.int b), .d (sD p q r)] M = .ok (.v (.d .none)) M := by
  rw [callS_eq rfl]
  have h1 : okD 8 (sD p q r) = true := rfl
  simp [f_need_sides, are_sides_spec _ _ h1, sideB_sh2 h]
theorem lcOk {α : Type} {l : List α} {f : α → PyData} {n : Nat} (h : l.length ≤ n) (hn : n ≤ 16777216) : lcK (.ok (l.map f) M) = .ok (.own (l.map f)) M := lcK_ok (by rw [List.length_map]; omega)
theorem plain_spec (l : Row) (hl : l.length ≤ 1000) (hn : (l.map PyData.int).any nz = true) : callS (cfD (com ++ own) fuel d) fuel f_is_plain [.d (tupI l)] M = .ok (.v (.d (.bool (plainR l)))) M := by
  rw [← plainB_tup]
  exact is_plain_spec _ (by simp) (by simpa using hl) hn
theorem law_plain_spec (l : Row) (hl : l.length ≤ 1000) (hn : (l.map PyData.int).any nz = true) : callS (cfD (com ++ own) fuel d) fuel f_law_is_plain [.d (tupI l)] M = .ok (.v (.d (.bool (plainR l)))) M := plain_spec l hl hn
theorem rowsOf (b m : Nat) (h : two3 b ∧ two3 m) : callS (cfD (com ++ own) fuel d) fuel f_rows_of [.d (.int b), .d (.int m)] M = .ok (.own ((rowsI b m).map tupI)) M := rows_of_spec b m h
theorem lawRowsOf (b m : Nat) (h : two3 b ∧ two3 m) : callS (cfD (com ++ own) fuel d) fuel f_law_rows_for [.d (.int b), .d (.int m)] M = .ok (.own ((rowsI b m).map tupI)) M := law_rows_spec b m h
theorem rowLen {b m : Nat} (h : two3 b ∧ two3 m) {l : Row} (hl : RowOk b m l) : l.length ≤ 1000 := by
  have := hl.1
  rcases h.2 with e | e <;> omega
theorem terms_of_spec {b p q r : Nat} (h : Sh b p q r) : callS (cfD (com ++ own) fuel (d + 1)) fuel f_terms_of [.d (.int b), .d (sD p q r)] M = .ok (.own ((terms b p q r).map tD)) M := by
  rw [callS_eq rfl]
  have k1 : ∀ m, two3 m → ∀ l ∈ rowsI b m, callS (cfD (com ++ own) fuel d) fuel f_is_plain [.d (tupI l)] M = .ok (.v (.d (.bool (plainR l)))) M := fun m hm l hl =>
    plain_spec l (rowLen ⟨h.b, hm⟩ (rowsI_ok ⟨h.b, hm⟩ hl)) (rowsI_ok ⟨h.b, hm⟩ hl).any
  simp [f_terms_of, rowsOf b p ⟨h.b, h.p⟩]
  rw [lc_filt (p := plainR)]
  rw [show (rowsI b p).filter plainR = firsts b p from rfl, lcOk (firsts_len ⟨h.b, h.p⟩) (by decide)]
  simp [rowsOf b q ⟨h.b, h.q⟩]
  rw [lc_filt (p := plainR)]
  rw [show (rowsI b q).filter plainR = firsts b q from rfl, lcOk (firsts_len ⟨h.b, h.q⟩) (by decide)]
  simp
  rw [lc_flat (g := fun x => (firsts b q).flatMap fun y => (rowsI b r).map fun z => tD (x, y, z))]
  · have e : ((firsts b p).flatMap fun x => (firsts b q).flatMap fun y => (rowsI b r).map fun z => tD (x, y, z)) = (terms b p q r).map tD := by
      simp [terms, List.map_flatMap, Function.comp_def]
    rw [e, lcOk (terms_len h) (by decide)]
    simp
  · intro x hx
    simp
    rw [lc_flat (g := fun y => (rowsI b r).map fun z => tD (x, y, z))]
    intro y hy
    simp [rowsOf b r ⟨h.b, h.r⟩]
    rw [lc_map (h := fun z => tD (x, y, z))]
    intro z hz
    simp [tD]
  · intro x hx
    simp [k1 q h.q x hx]
    by_cases hp : plainR x = true <;> simp [hp]
  · intro x hx
    simp [k1 p h.p x hx]
    by_cases hp : plainR x = true <;> simp [hp]
end
end C

/-! S3: entries, sums. -/
namespace C
open PySem PySem.Spec PyProof.Rows Ev
section
variable {own : List Fd} {fuel d : Nat} {M : Sto}
/-- rows that entries are made of -/
def RowsOk (b : Nat) (t : Term) : Prop := (FigR b t.1 ∧ t.1.length ≤ 3) ∧ (FigR b t.2.1 ∧ t.2.1.length ≤ 3) ∧ (FigR b t.2.2 ∧ t.2.2.length ≤ 3)
theorem RowOk.rows {b m : Nat} {l : Row} (h : RowOk b m l) (hm : two3 m) : FigR b l ∧ l.length ≤ 3 := ⟨h.2.1, by rw [h.1]; rcases hm with rfl | rfl <;> omega⟩
theorem TermOk.rows {b p q r : Nat} {t : Term} (h : TermOk b p q r t) (hs : Sh b p q r) : RowsOk b t := ⟨h.1.1.rows hs.p, h.2.1.1.rows hs.q, h.2.2.rows hs.r⟩
theorem flatMap_length {α β : Type} {f : α → List β} {k : Nat} : ∀ {l : List α}, (∀ x ∈ l, (f x).length = k) → (l.flatMap f).length = l.length * k
  | [], _ => by simp
  | x :: l, h => by
    rw [List.flatMap_cons, List.length_append, h x List.mem_cons_self, flatMap_length (fun y hy => h y (List.mem_cons_of_mem _ hy)), List.length_cons, Nat.succ_mul]
    omega
theorem ents_length (b : Nat) (t : Term) : (ents b t).length = t.1.length * (t.2.1.length * t.2.2.length) := by
  unfold ents
  exact flatMap_length fun x _ => flatMap_length fun y _ => by rw [List.length_map]
theorem ents_len27 {b : Nat} {t : Term} (h : RowsOk b t) : (ents b t).length ≤ 27 := by
  rw [ents_length]
  have h1 := h.1.2
  have h2 := h.2.1.2
  have h3 := h.2.2.2
  exact Nat.mul_le_mul h1 (Nat.mul_le_mul h2 h3)
theorem fig_abs {b : Nat} {l : Row} (h : FigR b l) (hb : two3 b) {x : Int} (hx : x ∈ l) : x.natAbs < 2 ^ 64 := by
  have := h x hx
  rcases hb with rfl | rfl <;> omega
theorem bne {b : Nat} (hb : two3 b) : (b : Int) ≠ 0 := by rcases hb with rfl | rfl <;> decide
theorem ents_map (b : Nat) (t : Term) : (ents b t).map PyData.int = t.1.flatMap fun x => t.2.1.flatMap fun y => t.2.2.map fun z => PyData.int (x * y * z % (b : Int)) := by
  simp [ents, List.map_flatMap, Function.comp_def]
@[simp] theorem seqK_tupI (l : Row) : seqK (.v (.d (tupI l))) M = .ok (l.map .int) M := rfl
theorem entries_of_spec {b : Nat} {t : Term} (hb : two3 b) (h : RowsOk b t) : callS (cfD (com ++ own) fuel d) fuel f_entries_of [.d (.int b), .d (tD t)] M = .ok (.v (.d (tupI (ents b t)))) M := by
  rw [callS_eq rfl]
  obtain ⟨⟨f1, l1⟩, ⟨f2, l2⟩, f3, l3⟩ := h
  simp [f_entries_of, tD]
  rw [lc_flat (g := fun x => t.2.1.flatMap fun y => t.2.2.map fun z => PyData.int (x * y * z % (b : Int)))]
  · rw [← ents_map, lcOk (ents_len27 ⟨⟨f1, l1⟩, ⟨f2, l2⟩, f3, l3⟩) (by decide)]
    simp [tupI]
  · intro x hx
    simp
    rw [lc_flat (g := fun y => t.2.2.map fun z => PyData.int (x * y * z % (b : Int)))]
    intro y hy
    simp
    rw [lc_map (h := fun z => PyData.int (x * y * z % (b : Int)))]
    intro z hz
    simp [binD_mul (Or.inl (fig_abs f1 hb hx)), binD_mul (Or.inr (fig_abs f3 hb hz)), binD_mod (bne hb), emod_fmod]
theorem zipI (u v : Row) : zipD (u.map .int) (v.map .int) = (u.zip v).map fun p => .tuple [.int p.1, .int p.2] := zipD_map _ _ u v
theorem addE_map (b : Nat) (u v : Row) : (addE b u v).map PyData.int = (u.zip v).map fun p => .int ((p.1 + p.2) % (b : Int)) := by
  unfold addE
  rw [List.zip, List.map_zipWith, List.map_zipWith]
theorem subE_map (b : Nat) (u v : Row) : (subE b u v).map PyData.int = (u.zip v).map fun p => .int ((p.1 - p.2) % (b : Int)) := by
  unfold subE
  rw [List.zip, List.map_zipWith, List.map_zipWith]
theorem plus_spec {b : Nat} {u v : Row} (hb : two3 b) (hu : u.length ≤ 1000) : callS (cfD (com ++ own) fuel d) fuel f_plus [.d (.int b), .d (tupI u), .d (tupI v)] M = .ok (.v (.d (tupI (addE b u v)))) M := by
  rw [callS_eq rfl]
  simp [f_plus, tupI, zipI]
  rw [lc_map (h := fun p => .int ((p.1 + p.2) % (b : Int)))]
  · rw [lcOk (n := 1000) (by rw [List.length_zip]; omega) (by decide)]
    simp [addE_map]
  · intro y hy
    simp [binD_mod (bne hb), emod_fmod]
theorem minus_spec {b : Nat} {u v : Row} (hb : two3 b) (hu : u.length ≤ 1000) : callS (cfD (com ++ own) fuel d) fuel f_minus [.d (.int b), .d (tupI u), .d (tupI v)] M = .ok (.v (.d (tupI (subE b u v)))) M := by
  rw [callS_eq rfl]
  simp [f_minus, tupI, zipI]
  rw [lc_map (h := fun p => .int ((p.1 - p.2) % (b : Int)))]
  · rw [lcOk (n := 1000) (by rw [List.length_zip]; omega) (by decide)]
    simp [subE_map]
  · intro y hy
    simp [binD_mod (bne hb), emod_fmod]
theorem law_added_spec {b : Nat} {u v : Row} (hb : two3 b) (hu : u.length ≤ 1000) : callS (cfD (com ++ own) fuel d) fuel f_law_added [.d (.int b), .d (tupI u), .d (tupI v)] M = .ok (.v (.d (tupI (addE b u v)))) M := plus_spec hb hu
theorem law_less_spec {b : Nat} {u v : Row} (hb : two3 b) (hu : u.length ≤ 1000) : callS (cfD (com ++ own) fuel d) fuel f_law_less [.d (.int b), .d (tupI u), .d (tupI v)] M = .ok (.v (.d (tupI (subE b u v)))) M := minus_spec hb hu
theorem sh_size {b p q r : Nat} (h : Sh b p q r) : 8 ≤ p * q * r ∧ p * q * r ≤ 18 := by
  rcases h with ⟨rfl, h1 | h1, h2 | h2, h3 | h3, h4⟩ | ⟨rfl, rfl, rfl, rfl⟩ <;> first | (subst h1 h2 h3; revert h4; decide) | decide
theorem two3_abs {n : Nat} (h : two3 n) : (n : Int).natAbs < 2 ^ 64 := by rcases h with rfl | rfl <;> decide
theorem rep_zero (n : Nat) : (List.replicate n [PyData.int 0]).flatten = (zeroE n).map .int := by
  unfold zeroE
  induction n with
  | zero => rfl
  | succ n ih => rw [List.replicate_succ, List.flatten_cons, ih, List.replicate_succ]; rfl
theorem zeros {n : Nat} {k : Int} (e : k = n) (h : 2 ≤ n) (h2 : n ≤ 1000) : binD .mul (.tuple [.int 0]) (.int k) = some (.v (.d (tupI (zeroE n)))) := by
  subst e
  show (if _ then _ else _) = _
  rw [if_pos (by simp; omega)]
  simp only [Int.toNat_natCast, rep_zero, tupI]
theorem size_of_spec {p q r : Nat} (hp : two3 p) (hq : two3 q) (hr : two3 r) : callS (cfD (com ++ own) fuel d) fuel f_size_of [.d (sD p q r)] M = .ok (.v (.d (.int ((p * q * r : Nat) : Int)))) M := by
  rw [size_spec (two3_abs hp) (two3_abs hq) (two3_abs hr)]
  simp
theorem law_nought_spec {b p q r : Nat} (h : Sh b p q r) : callS (cfD (com ++ own) fuel d) fuel f_law_nought [.d (sD p q r)] M = .ok (.v (.d (tupI (zeroE (p * q * r))))) M := by
  rw [callS_eq rfl]
  have := sh_size h
  simp [f_law_nought, binD_mul (Or.inl (two3_abs h.p)), binD_mul (Or.inr (two3_abs h.r)), zeros (n := p * q * r) (k := (p : Int) * q * r) (by simp) (by omega) (by omega)]
theorem addE_length {b : Nat} {u v : Row} (h : u.length = v.length) : (addE b u v).length = u.length := by
  unfold addE
  rw [List.length_zipWith, h, Nat.min_self]
theorem zeroE_length (n : Nat) : (zeroE n).length = n := List.length_replicate
/-- the sum of terms whose rows have the sides' lengths -/
def SidesOf (p q r : Nat) (t : Term) : Prop := t.1.length = p ∧ t.2.1.length = q ∧ t.2.2.length = r
theorem TermOk.sides {b p q r : Nat} {t : Term} (h : TermOk b p q r t) : SidesOf p q r t := ⟨h.1.1.1, h.2.1.1.1, h.2.2.1⟩
theorem SidesOf.ents {b p q r : Nat} {t : Term} (h : SidesOf p q r t) : (ents b t).length = p * q * r := by
  rw [ents_length, h.1, h.2.1, h.2.2, Nat.mul_assoc]
theorem sum_of_spec {b p q r : Nat} (hs : Sh b p q r) {ts : List Term} (ht : ∀ t ∈ ts, TermOk b p q r t) : callS (cfD (com ++ own) fuel (d + 1)) fuel f_sum_of [.d (.int b), .d (sD p q r), .d (.tuple (ts.map tD))] M = .ok (.v (.d (tupI (sumE b (p * q * r) ts)))) M := by
  rw [callS_eq rfl]
  have hz := sh_size hs
  simp [f_sum_of, size_of_spec hs.p hs.q hs.r, zeros (n := p * q * r) (k := (p : Int) * q * r) (by simp) (by omega) (by omega)]
  refine loop_exit (fun o u => [some (.d (.int b)), some (.d (sD p q r)), some (.d (.tuple (ts.map tD))), some (.d (tupI u)), o]) (fun u t => addE b u (ents b t)) (fun u => u.length = p * q * r) none (zeroE (p * q * r)) rfl (zeroE_length _) (fun t h o u hu => ⟨?_, ?_⟩) (fun o h => ?_)
  · rw [addE_length (by rw [hu, (ht t h).sides.ents]), hu]
  · have q := (ht t h).rows hs
    simp [entries_of_spec hs.b q, plus_spec hs.b (u := u) (v := ents b t) (by omega)]
  · simp [sumE]
theorem figB_tup {b : Nat} {l : Row} {m : Nat} (h : FigR b l) (hl : l.length = m) : figB b (tupI l) m = true := by
  simp only [tupI, figB, List.length_map, hl, decide_true, Bool.true_and, List.all_eq_true, List.mem_map]
  rintro x ⟨i, hi, rfl⟩
  have := h i hi
  simp only [isI, Bool.and_eq_true, decide_eq_true_eq]
  omega
theorem rowB_tup {b : Nat} {l : Row} {m : Nat} (h : RowOk b m l) : rowB b (tupI l) m = true := by
  unfold rowB
  rw [figB_tup h.2.1 h.1]
  simp only [tupI, Bool.true_and]
  exact h.any
theorem termB_tD {b p q r : Nat} {t : Term} (h : TermOk b p q r t) : termB b (sD p q r) (tD t) = true := by
  simp only [termB, tD, rowB_tup h.1.1, rowB_tup h.2.1.1, rowB_tup h.2.2, plainB_tup, h.1.2, h.2.1.2, Bool.and_self]
theorem short_tup {l : Row} (h : l.length ≤ 1000) : short (tupI l) := ⟨tupI_ok 7 l, fun xs e => by
  have : xs = l.map .int := (PyData.tuple.inj e).symm
  rw [this, List.length_map]; exact h⟩
theorem fineT_tD {t : Term} (h1 : t.1.length ≤ 1000) (h2 : t.2.1.length ≤ 1000) (h3 : t.2.2.length ≤ 1000) : fineT (tD t) := fun u v w e => by
  have e := PyData.tuple.inj e
  simp only [List.cons.injEq] at e
  obtain ⟨rfl, rfl, rfl, -⟩ := e
  exact ⟨short_tup h1, short_tup h2, short_tup h3⟩
theorem TermOk.fine {b p q r : Nat} (hs : Sh b p q r) {t : Term} (h : TermOk b p q r t) : fineT (tD t) :=
  fineT_tD (rowLen ⟨hs.b, hs.p⟩ h.1.1) (rowLen ⟨hs.b, hs.q⟩ h.2.1.1) (rowLen ⟨hs.b, hs.r⟩ h.2.2)
theorem need_term_spec {b p q r : Nat} (hs : Sh b p q r) {t : Term} (ht : TermOk b p q r t) : callS (cfD (com ++ own) fuel (d + 5)) fuel f_need_term [.d (.int b), .d (sD p q r), .d (tD t)] M = .ok (.v (.d .none)) M := by
  rw [callS_eq rfl]
  simp [f_need_term, is_term_so_spec b p q r (tD t) (ht.fine hs), termB_tD ht]
theorem total_spec {b p q r : Nat} (hs : Sh b p q r) {ts : List Term} (ht : ∀ t ∈ ts, TermOk b p q r t) (hl : ts.length ≤ 9) : callS (cfD (com ++ own) fuel (d + 6)) fuel f_total [.d (.int b), .d (sD p q r), .d (.tuple (ts.map tD))] M = .ok (.v (.d (.tuple [.int b, sD p q r, tupI (sumE b (p * q * r) ts)]))) M := by
  rw [callS_eq rfl]
  have hl' : ¬ (9 : Int) < ts.length := by omega
  simp [f_total, need_base_spec hs.b, need_sides_spec hs, isiD, hl']
  refine loop_exit (fun o u => [some (.d (.int b)), some (.d (sD p q r)), some (.d (.tuple (ts.map tD))), o]) (fun (u : Unit) t => u) (fun _ => True) none () rfl trivial (fun t h o u hu => ⟨trivial, ?_⟩) (fun o h => ?_)
  · simp [need_term_spec hs (ht t h)]
  · simp [sum_of_spec hs ht]
theorem all_terms_spec {b p q r : Nat} (h : Sh b p q r) : callS (cfD (com ++ own) fuel (d + 3)) fuel f_all_terms [.d (.int b), .d (sD p q r)] M = .ok (.own ((terms b p q r).map tD)) M := by
  rw [callS_eq rfl]
  simp [f_all_terms, need_base_spec h.b, need_sides_spec h, terms_of_spec h]
theorem is_term_spec {b p q r : Nat} (hs : Sh b p q r) (x : PyData) (hx : fineT x) : callS (cfD (com ++ own) fuel (d + 5)) fuel f_is_term [.d (.int b), .d (sD p q r), .d x] M = .ok (.v (.d (.bool (termB b (sD p q r) x)))) M := by
  rw [callS_eq rfl]
  simp [f_is_term, need_base_spec hs.b, need_sides_spec hs, is_term_so_spec b p q r x hx]
end
end C

/-! S4: places, spread entries, all terms with their entries. -/
namespace C
open PySem PySem.Spec PyProof.Rows Ev
section
variable {own : List Fd} {fuel d : Nat} {M : Sto}
abbrev Spot := Nat × Nat × Nat
def spots (p q r : Nat) : List Spot := (List.range p).flatMap fun i => (List.range q).flatMap fun j => (List.range r).map fun k => (i, j, k)
def spotD (s : Spot) : PyData := .tuple [.int (s.1 : Nat), .int (s.2.1 : Nat), .int (s.2.2 : Nat)]
theorem law_spots_inT (p q r : Nat) (hp : two3 p) (hq : two3 q) (hr : two3 r) : evalS (cfD (com ++ own) fuel d) fuel f_law_spots.body [some (.d (sD p q r)), none, none, none, none] M = .ok (.ret (.v (.d (.list ((spots p q r).map spotD))))) M := by
  rcases hp with rfl | rfl <;> rcases hq with rfl | rfl <;> rcases hr with rfl | rfl <;> kernel_rfl
theorem law_spots_inL (p q r : Nat) (hp : two3 p) (hq : two3 q) (hr : two3 r) : evalS (cfD (com ++ own) fuel d) fuel f_law_spots.body [some (.d (.list [.int p, .int q, .int r])), none, none, none, none] M = .ok (.ret (.v (.d (.list ((spots p q r).map spotD))))) M := by
  rcases hp with rfl | rfl <;> rcases hq with rfl | rfl <;> rcases hr with rfl | rfl <;> kernel_rfl
theorem law_spots_spec {p q r : Nat} (hp : two3 p) (hq : two3 q) (hr : two3 r) : callS (cfD (com ++ own) fuel d) fuel f_law_spots [.d (sD p q r)] M = .ok (.v (.d (.list ((spots p q r).map spotD)))) M := by
  rw [callS_eq rfl]
  show exitR M.length (evalS (cfD (com ++ own) fuel d) fuel f_law_spots.body [some (.d (sD p q r)), none, none, none, none] M) = _
  rw [law_spots_inT p q r hp hq hr]
  simp
theorem law_spots_specL {p q r : Nat} (hp : two3 p) (hq : two3 q) (hr : two3 r) : callS (cfD (com ++ own) fuel d) fuel f_law_spots [.d (.list [.int p, .int q, .int r])] M = .ok (.v (.d (.list ((spots p q r).map spotD)))) M := by
  rw [callS_eq rfl]
  show exitR M.length (evalS (cfD (com ++ own) fuel d) fuel f_law_spots.body [some (.d (.list [.int p, .int q, .int r])), none, none, none, none] M) = _
  rw [law_spots_inL p q r hp hq hr]
  simp
theorem spots_mem {p q r : Nat} {s : Spot} (h : s ∈ spots p q r) : s.1 < p ∧ s.2.1 < q ∧ s.2.2 < r := by
  unfold spots at h
  simp only [List.mem_flatMap, List.mem_map, List.mem_range] at h
  obtain ⟨i, hi, j, hj, k, hk, rfl⟩ := h
  exact ⟨hi, hj, hk⟩
theorem spots_len {p q r : Nat} : (spots p q r).length = p * (q * r) := by
  unfold spots
  rw [flatMap_length (k := q * r) fun i _ => by rw [flatMap_length (k := r) fun j _ => by rw [List.length_map, List.length_range], List.length_range], List.length_range]
/-- an item of a row, by its place -/
def gx (l : Row) (i : Nat) : Int := l.getD i 0
theorem at_nat {l : Row} {i : Nat} (h : i < l.length) : L2.atI (l.map PyData.int) (i : Int) = some (.int (gx l i)) := by
  unfold L2.atI L2.ixN gx
  simp [h]
theorem gx_mem {l : Row} {i : Nat} (h : i < l.length) : gx l i ∈ l := by
  unfold gx
  rw [List.getD_eq_getElem?_getD, List.getElem?_eq_getElem h]
  exact List.getElem_mem h
@[simp] theorem ixD_tupI (l : Row) (i : Int) : ixD (tupI l) (.int i) = L2.atI (l.map .int) i := rfl
@[simp] theorem biD_len_tupI (l : Row) : biD .len [tupI l] = some (.v (.d (.int l.length))) := by
  unfold tupI
  rw [biD_len_t, List.length_map]
theorem spread_eq (b : Nat) (t : Term) {p q r : Nat} (hs : SidesOf p q r t) : (spots p q r).map (fun s => PyData.int (gx t.1 s.1 * gx t.2.1 s.2.1 * gx t.2.2 s.2.2 % (b : Int))) = (ents b t).map .int := by
  obtain ⟨h1, h2, h3⟩ := hs
  have key : ∀ (l : Row) {β : Type} (f : Int → List β), (List.range l.length).flatMap (fun i => f (gx l i)) = l.flatMap f := by
    intro l β f
    induction l with
    | nil => rfl
    | cons x l ih =>
      rw [List.length_cons, List.range_succ_eq_map, List.flatMap_cons, List.flatMap_map, List.flatMap_cons]
      congr 1
  have key2 : ∀ (l : Row) {β : Type} (f : Int → β), (List.range l.length).map (fun i => f (gx l i)) = l.map f := by
    intro l β f
    induction l with
    | nil => rfl
    | cons x l ih =>
      rw [List.length_cons, List.range_succ_eq_map, List.map_cons, List.map_map, List.map_cons]
      congr 1
  rw [ents_map]
  unfold spots
  rw [List.map_flatMap, ← h1]
  rw [← key t.1 fun x => t.2.1.flatMap fun y => t.2.2.map fun z => PyData.int (x * y * z % (b : Int))]
  congr 1
  funext i
  rw [List.map_flatMap, ← h2, ← key t.2.1 fun y => t.2.2.map fun z => PyData.int (gx t.1 i * y * z % (b : Int))]
  congr 1
  funext j
  rw [List.map_map, ← h3, ← key2 t.2.2 fun z => PyData.int (gx t.1 i * gx t.2.1 j * z % (b : Int))]
  rfl
theorem law_spread_spec {b p q r : Nat} {t : Term} (hb : two3 b) (h : RowsOk b t) (hs : SidesOf p q r t) (hp : two3 p) (hq : two3 q) (hr : two3 r) : callS (cfD (com ++ own) fuel (d + 1)) fuel f_law_spread [.d (.int b), .d (tD t)] M = .ok (.v (.d (tupI (ents b t)))) M := by
  rw [callS_eq rfl]
  obtain ⟨⟨f1, l1⟩, ⟨f2, l2⟩, f3, l3⟩ := h
  have hs' := hs
  obtain ⟨s1, s2, s3⟩ := hs
  have hl : (spots p q r).length ≤ 27 := by
    rw [spots_len]
    rcases hp with rfl | rfl <;> rcases hq with rfl | rfl <;> rcases hr with rfl | rfl <;> decide
  simp [f_law_spread, tD, loopC, lcK_ok, s1, s2, s3, law_spots_specL hp hq hr]
  rw [lc_map (h := fun s => PyData.int (gx t.1 s.1 * gx t.2.1 s.2.1 * gx t.2.2 s.2.2 % (b : Int)))]
  · rw [spread_eq b t hs', lcOk (ents_len27 ⟨⟨f1, l1⟩, ⟨f2, l2⟩, f3, l3⟩) (by decide)]
    simp [tupI]
  · intro s hs
    obtain ⟨m1, m2, m3⟩ := spots_mem hs
    rw [← s1] at m1
    rw [← s2] at m2
    rw [← s3] at m3
    simp [spotD, at_nat m1, at_nat m2, at_nat m3, binD_mul (Or.inl (fig_abs f1 hb (gx_mem m1))), binD_mul (Or.inr (fig_abs f3 hb (gx_mem m3))), binD_mod (bne hb), emod_fmod]
def partD (b : Nat) (t : Term) : PyData := .tuple [tD t, tupI (ents b t)]
theorem foldl_append {α β : Type} (f : α → β) : ∀ (l : List α) (a : List β), l.foldl (fun a x => a ++ [f x]) a = a ++ l.map f
  | [], a => by simp
  | x :: l, a => by rw [List.foldl_cons, foldl_append f l, List.map_cons, List.append_assoc]; rfl
theorem foldl_flat {α β : Type} (f : α → List β) : ∀ (l : List α) (a : List β), l.foldl (fun a x => a ++ f x) a = a ++ l.flatMap f
  | [], a => by simp
  | x :: l, a => by rw [List.foldl_cons, foldl_flat f l, List.flatMap_cons, List.append_assoc]
theorem first_lc {b m : Nat} {t : Tg} {ρ : Env'} {test : Env' → Sto → Res Bool} {rest : Env' → Sto → Res (List PyData)} (h : two3 b ∧ two3 m) (e : ∀ l : Row, l.length ≤ 1000 → (l.map PyData.int).any nz = true → itemK t ρ test rest (tupI l) M = .ok (if plainR l = true then [tupI l] else []) M) :
    lcK (loopC (itemK t ρ test rest) ((rowsI b m).map tupI) M) = .ok (.own ((firsts b m).map tupI)) M := by
  rw [lc_filt (p := plainR) _ fun l hl => e l (rowLen h (rowsI_ok h hl)) (rowsI_ok h hl).any, show (rowsI b m).filter plainR = firsts b m from rfl, lcOk (firsts_len h) (by decide)]
theorem if_list {c : Bool} {x : PyData} {M : Sto} : (if c = true then Res.ok [x] M else Res.ok [] M) = .ok (if c = true then [x] else []) M := by cases c <;> rfl
theorem law_parts_spec {b p q r : Nat} (h : Sh b p q r) : callS (cfD (com ++ own) fuel (d + 2)) fuel f_law_parts [.d (.int b), .d (sD p q r)] M = .ok (.v (.d (.list ((terms b p q r).map (partD b))))) M := by
  rw [callS_eq rfl]
  simp [f_law_parts, lawRowsOf b p ⟨h.b, h.p⟩]
  rw [first_lc ⟨h.b, h.p⟩ fun l h1 h2 => by simp [law_plain_spec l h1 (M := M ++ [OB.lst []]) (by simpa using h2), if_list]]
  simp [lawRowsOf b q ⟨h.b, h.q⟩]
  rw [first_lc ⟨h.b, h.q⟩ fun l h1 h2 => by simp [law_plain_spec l h1 (M := M ++ [OB.lst []]) (by simpa using h2), if_list]]
  simp
  have hb3 := rowsI_len (b := b) (m := r) ⟨h.b, h.r⟩
  have hb2 := firsts_len (b := b) (m := q) ⟨h.b, h.q⟩
  have hb1 := firsts_len (b := b) (m := p) ⟨h.b, h.p⟩
  let st : Option VV × Option VV × Option VV → List Term → Env' := fun o acc => [some (.d (.int b)), some (.d (sD p q r)), some (.ref M.length), some (.d (.list ((firsts b p).map tupI))), some (.d (.list ((firsts b q).map tupI))), o.1, o.2.1, none, o.2.2]
  let sm : Option VV × Option VV × Option VV → List Term → Sto := fun _ acc => M ++ [.lst (acc.map (partD b))]
  have key3 : ∀ x ∈ firsts b p, ∀ y ∈ firsts b q, ∀ z ∈ rowsI b r, ∀ o acc, acc.length ≤ 20000 → tgF (.nm 8) (tupI z) (st (some (.d (tupI x)), some (.d (tupI y)), o) acc) (sm (o, o, o) acc) (fun ρ M => evalS (cfD (com ++ own) fuel (d + 2)) fuel (.seq (.drop (.app (.v 2) (.cons (.tup (.cons (.tup (.cons (.v 5) (.cons (.v 6) (.cons (.v 8) .nil)))) (.cons (.call 28 (.cons (.v 0) (.cons (.tup (.cons (.v 5) (.cons (.v 6) (.cons (.v 8) .nil)))) .nil))) .nil))) .nil))) .nil) ρ M) = .ok (.nx (st (some (.d (tupI x)), some (.d (tupI y)), some (.d (tupI z))) (acc ++ [(x, y, z)]))) (sm (o, o, o) (acc ++ [(x, y, z)])) := by
    intro x hx y hy z hz o acc hl
    have ok : TermOk b p q r (x, y, z) := ⟨firsts_ok ⟨h.b, h.p⟩ hx, firsts_ok ⟨h.b, h.q⟩ hy, rowsI_ok ⟨h.b, h.r⟩ hz⟩
    have e1 := law_spread_spec (own := own) (fuel := fuel) (d := d) (M := sm (o, o, o) acc) h.b (ok.rows h) ok.sides h.p h.q h.r
    simp only [tD, sm] at e1
    simp [st, sm, isRef_ok, e1]
    rw [appK_ok _ (ds := acc.map (partD b)) (by simp) (by simp; omega)]
    simp [partD, tD]
  let f2 : Row → List Term → Row → List Term := fun x acc y => (rowsI b r).foldl (fun acc z => acc ++ [(x, y, z)]) acc
  let f1 : List Term → Row → List Term := fun acc x => (firsts b q).foldl (f2 x) acc
  generalize hX : forF _ _ _ _ _ = X
  obtain ⟨o1, hI, rfl⟩ := loop_of hX st sm f1 (fun pre _ acc => acc.length ≤ pre.length * 676) (none, none, none) [] rfl rfl (Nat.zero_le _) (fun x hx pre o acc hpre hacc => by
    simp [st, sm]
    generalize hX : forF _ _ _ _ _ = X
    obtain ⟨o1, hI, rfl⟩ := loop_of hX (fun o acc => st (some (.d (tupI x)), o.1, o.2) acc) (fun o acc => sm (o.1, o) acc) (f2 x) (fun pre2 _ acc2 => acc2.length ≤ acc.length + pre2.length * 26) (o.2.1, o.2.2) acc rfl rfl (by simp) (fun y hy pre2 o acc2 hpre2 hacc2 => by
      simp [st, sm, lawRowsOf b r ⟨h.b, h.r⟩]
      generalize hX : forF _ _ _ _ _ = X
      obtain ⟨o1, hI, rfl⟩ := loop_of hX (fun o acc => st (some (.d (tupI x)), some (.d (tupI y)), o) acc) (fun o acc => sm (o, o, o) acc) (fun acc z => acc ++ [(x, y, z)]) (fun pre3 _ acc3 => acc3.length = acc2.length + pre3.length) o.2 acc2 rfl rfl (by simp) (fun z hz pre3 o acc3 hpre3 hacc3 => ⟨some (.d (tupI z)), by simp [hacc3]; omega, by
        have := key3 x hx y hy z hz o acc3 (by omega)
        simpa using this⟩)
      refine ⟨(some (.d (tupI y)), o1), ?_, ?_⟩
      · show (f2 x acc2 y).length ≤ acc.length + (pre2.length + 1) * 26
        have : (f2 x acc2 y).length = acc2.length + (rowsI b r).length := hI
        omega
      · simp [st, sm, f2])
    refine ⟨(some (.d (tupI x)), o1.1, o1.2), ?_, ?_⟩
    · have : (f1 acc x).length ≤ acc.length + (firsts b q).length * 26 := hI
      show (f1 acc x).length ≤ (pre.length + 1) * 676
      omega
    · simp [st, sm, f1])
  have eT : List.foldl f1 [] (firsts b p) = terms b p q r := by
    simp only [f1, f2]
    simp only [foldl_append (fun z => (_, _, z)), foldl_flat]
    simp [terms]
  simp only [eT]
  simp [st, sm]
  rw [frzK_ok (n := M.length) (ds := (terms b p q r).map (partD b)) _ _ (by simp) (by simp)]
  simp
end
end C

/-! S5: cups, draws. -/
namespace C
open PySem PySem.Spec PyProof.Rows Ev
/-- a cup stands at n -/
def HasCup (M : Sto) (n : Nat) : Prop := ∃ a c : Int, M[n]? = some (.lst [.int a, .int c])
/-- from M to M' only the cup at n changed -/
def Cup (n : Nat) (M M' : Sto) : Prop := n < M.length ∧ ∃ a c : Int, M' = M.set n (.lst [.int a, .int c])
theorem HasCup.lt {M : Sto} {n : Nat} (h : HasCup M n) : n < M.length := by
  obtain ⟨a, c, e⟩ := h
  exact (List.getElem?_eq_some_iff.mp e).1
theorem Cup.has {n : Nat} {M M' : Sto} (h : Cup n M M') : HasCup M' n := by
  obtain ⟨hl, a, c, rfl⟩ := h
  exact ⟨a, c, by simp [hl]⟩
theorem Cup.trans {n : Nat} {M M1 M2 : Sto} (h : Cup n M M1) (h2 : Cup n M1 M2) : Cup n M M2 := by
  obtain ⟨hl, a, c, rfl⟩ := h
  obtain ⟨-, a2, c2, rfl⟩ := h2
  exact ⟨hl, a2, c2, by rw [List.set_set]⟩
theorem Cup.refl {n : Nat} {M : Sto} (h : HasCup M n) : Cup n M M := by
  obtain ⟨a, c, e⟩ := h
  obtain ⟨hl, e⟩ := List.getElem?_eq_some_iff.mp e
  exact ⟨hl, a, c, by rw [← e, List.set_getElem_self]⟩
theorem Cup.len {n : Nat} {M M' : Sto} (h : Cup n M M') : M'.length = M.length := by
  obtain ⟨hl, a, c, rfl⟩ := h
  rw [List.length_set]
theorem Cup.take {n : Nat} {M M' : Sto} (h : Cup n M M') : M'.take M.length = M' := by
  rw [← h.len, List.take_length]
theorem Cup.other {n m : Nat} {M M' : Sto} (h : Cup n M M') (hm : m ≠ n) : M'[m]? = M[m]? := by
  obtain ⟨hl, a, c, rfl⟩ := h
  rw [List.getElem?_set_ne (Ne.symm hm)]
section
variable {own : List Fd} {fuel d : Nat} {M : Sto}
theorem fmod_range {v m : Int} (h : 0 < m) : 0 ≤ v.fmod m ∧ v.fmod m < m := by
  rw [Int.fmod_eq_emod_of_nonneg _ (by omega)]
  exact ⟨Int.emod_nonneg _ (by omega), Int.emod_lt_of_pos _ h⟩
@[simp] theorem biD_int_i (i : Int) : biD .int [.int i] = some (.v (.d (.int i))) := (rfl)
@[simp] theorem biD_abs_i (i : Int) : biD .abs [.int i] = some (.v (.d (.int (if i < 0 then -i else i)))) := (rfl)
theorem peek_ref {n : Nat} {ds : List PyData} (h : M[n]? = some (.lst ds)) : peek M (.v (.ref n)) = some (.list ds) := by
  unfold peek
  simp only [h]
theorem ixK_ref {n : Nat} {ds : List PyData} {i : PyData} (h : M[n]? = some (.lst ds)) : ixK (.v (.ref n)) (.v (.d i)) M = lift ((ixD (.list ds) i).map fun z => .v (.d z)) M := by
  have hv : vlsOf M (.v (.ref n)) = none := by
    unfold vlsOf
    simp only [h]
  unfold ixK
  rw [hv, peek_ref h]
  rfl
theorem binD_divW {i j : Int} (h : 0 < j) (h2 : j < 1073741824) : binD .fdiv (.int i) (.int j) = some (.v (.d (.int (i.fdiv j)))) := binD_div h h2
@[simp] theorem whlF_succ (fc : Env' → Sto → Res Bool) (fb : Env' → Sto → Res Fl) (n : Nat) (ρ : Env') : whlF fc fb (n + 1) ρ M = (fc ρ M).bind fun c M1 => if c = true then (fb ρ M1).bind (seqF (whlF fc fb n)) else .ok (.nx ρ) M1 := by rw [whlF]
theorem law_sip_spec {n : Nat} {many : Int} (hf : 2 ≤ fuel) (h : HasCup M n) (h0 : 0 < many) (h1 : many ≤ 8192) : ∃ v M', callS (cfD (com ++ own) fuel d) fuel f_law_sip [.ref n, .d (.int many)] M = .ok (.v (.d (.int v))) M' ∧ Cup n M M' ∧ 0 ≤ v ∧ v < many := by
  obtain ⟨f, rfl⟩ : ∃ f, fuel = f + 2 := ⟨fuel - 2, by omega⟩
  obtain ⟨a, c, e⟩ := h
  have hl := (List.getElem?_eq_some_iff.mp e).1
  have hm0 : many ≠ 0 := by omega
  rw [callS_eq rfl]
  simp [f_law_sip, ixK_ref e, -exists_and_left]
  by_cases ha : 0 < a
  · simp [ha, ixK_ref e, binD_mod hm0, binD_div h0 (show many < 1073741824 by omega), -exists_and_left]
    rw [stiK_ok (ds := [.int a, .int c]) (j := 0) _ e rfl]
    simp [-exists_and_left]
    exact ⟨_, _, ⟨rfl, rfl⟩, ⟨hl, _, _, by rw [← List.length_set (i := n) (a := OB.lst [PyData.int (a.fdiv many), PyData.int c]), List.take_length]⟩, fmod_range h0⟩
  · have h3 : (1 : Int) < many ∨ many = 1 := by omega
    have hw : ¬ (8192 : Int) < many := by omega
    simp [ha, binD_mul, binD_mod, binD_div, ixK_ref e, -exists_and_left]
    rw [stiK_ok (ds := [.int a, .int c]) (j := 1) _ e rfl]
    have e2 : (M.set n (.lst [.int a, .int ((c * 15787 + 149).fmod 2147481673)]))[n]? = some (.lst [.int a, .int ((c * 15787 + 149).fmod 2147481673)]) := by simp [hl]
    simp [binD_mul, binD_mod hm0, binD_mod (show (8192 : Int) ≠ 0 by decide), binD_div, ixK_ref e2, hw, -exists_and_left]
    exact ⟨_, _, ⟨rfl, rfl⟩, ⟨hl, _, _, by rw [← List.length_set (i := n) (a := OB.lst [PyData.int a, PyData.int ((c * 15787 + 149).fmod 2147481673)]), List.take_length]⟩, fmod_range h0⟩
theorem atI_get {α : Type} {xs : List α} {v : Int} (h0 : 0 ≤ v) (h : v < xs.length) : ∃ x ∈ xs, L2.atI xs v = some x := by
  obtain ⟨k, rfl⟩ := Int.eq_ofNat_of_zero_le h0
  have hk : k < xs.length := by omega
  refine ⟨xs[k], List.getElem_mem hk, ?_⟩
  unfold L2.atI L2.ixN
  simp [hk]
theorem law_any_spec {n : Nat} {xs : List PyData} (hf : 2 ≤ fuel) (h : HasCup M n) (h0 : xs ≠ []) (h1 : xs.length ≤ 8192) : ∃ x ∈ xs, ∃ M', callS (cfD (com ++ own) fuel (d + 1)) fuel f_law_any [.ref n, .d (.list xs)] M = .ok (.v (.d x)) M' ∧ Cup n M M' := by
  have hp : 0 < xs.length := List.length_pos_iff.mpr h0
  obtain ⟨v, M', e, hc, v0, v1⟩ := law_sip_spec (own := own) (d := d) hf h (many := xs.length) (by omega) (by omega)
  obtain ⟨x, hx, ex⟩ := atI_get v0 v1
  refine ⟨x, hx, M', ?_, hc⟩
  rw [callS_eq rfl]
  simp [f_law_any, e, ex, hc.take]
/-- any of some typed things -/
theorem law_any_map {α : Type} {f : α → PyData} {n : Nat} {xs : List α} (hf : 2 ≤ fuel) (h : HasCup M n) (h0 : xs ≠ []) (h1 : xs.length ≤ 8192) : ∃ x ∈ xs, ∃ M', callS (cfD (com ++ own) fuel (d + 1)) fuel f_law_any [.ref n, .d (.list (xs.map f))] M = .ok (.v (.d (f x))) M' ∧ Cup n M M' := by
  obtain ⟨y, hy, M', e, hc⟩ := law_any_spec (own := own) (d := d) hf h (xs := xs.map f) (by simpa using h0) (by simpa using h1)
  obtain ⟨x, hx, rfl⟩ := List.mem_map.mp hy
  exact ⟨x, hx, M', e, hc⟩
def shapesS : List (Nat × Nat × Nat × Nat) := [(2, 2, 2, 2), (2, 2, 2, 2), (3, 2, 2, 2), (2, 2, 2, 3), (2, 2, 3, 2), (2, 3, 2, 2)]
def shapesG : List (Nat × Nat × Nat × Nat) := [(2, 2, 3, 3), (2, 3, 2, 3), (2, 3, 3, 2)]
def shpD (s : Nat × Nat × Nat × Nat) : PyData := .tuple [.int s.1, sD s.2.1 s.2.2.1 s.2.2.2]
theorem law_shape_spec {n : Nat} {wide : Bool} (hf : 2 ≤ fuel) (h : HasCup M n) : ∃ s ∈ shapesS ++ (if wide then shapesG else []), ∃ M', callS (cfD (com ++ own) fuel (d + 2)) fuel f_law_shape [.ref n, .d (.bool wide)] M = .ok (.v (.d (shpD s))) M' ∧ Cup n M M' := by
  obtain ⟨x, hx, M', e, hc⟩ := law_any_map (own := own) (d := d) (f := shpD) hf h (xs := shapesS ++ (if wide then shapesG else [])) (by simp [shapesS]) (by cases wide <;> decide)
  refine ⟨x, hx, M', ?_, hc⟩
  rw [callS_eq rfl]
  cases wide
  · simp [shapesS, shpD, sD] at e
    simp [f_law_shape, binD_addL, e, hc.take]
    simp [shpD, sD]
  · simp [shapesS, shapesG, shpD, sD] at e
    simp [f_law_shape, binD_addL, e, hc.take]
    simp [shpD, sD]
theorem shapes_sh {s : Nat × Nat × Nat × Nat} (h : s ∈ shapesS ++ shapesG) : Sh s.1 s.2.1 s.2.2.1 s.2.2.2 := by
  simp only [shapesS, shapesG, List.cons_append, List.nil_append, List.mem_cons, List.not_mem_nil, or_false] at h
  rcases h with rfl | rfl | rfl | rfl | rfl | rfl | rfl | rfl | rfl <;> simp [Sh, two3]
theorem shapes_shS {s : Nat × Nat × Nat × Nat} (h : s ∈ shapesS) : Sh s.1 s.2.1 s.2.2.1 s.2.2.2 := shapes_sh (List.mem_append_left _ h)
theorem ne_nil_of_len {α : Type} {l : List α} (h : 0 < l.length) : l ≠ [] := List.ne_nil_of_length_pos h
theorem rowsI_pos {b m : Nat} (h : two3 b ∧ two3 m) : rowsI b m ≠ [] ∧ firsts b m ≠ [] := by
  obtain ⟨rfl | rfl, rfl | rfl⟩ := h <;> exact ⟨by decide +kernel, by decide +kernel⟩
theorem law_part_spec {n : Nat} {b p q r : Nat} (hs : Sh b p q r) (hf : 2 ≤ fuel) (h : HasCup M n) : ∃ t ∈ terms b p q r, ∃ M', callS (cfD (com ++ own) fuel (d + 2)) fuel f_law_part [.ref n, .d (.int b), .d (sD p q r)] M = .ok (.v (.d (tD t))) M' ∧ Cup n M M' := by
  obtain ⟨x, hx, M1, e1, c1⟩ := law_any_map (own := own) (d := d) (f := tupI) hf h (rowsI_pos ⟨hs.b, hs.p⟩).2 (Nat.le_trans (firsts_len ⟨hs.b, hs.p⟩) (by decide))
  obtain ⟨y, hy, M2, e2, c2⟩ := law_any_map (own := own) (d := d) (f := tupI) hf c1.has (rowsI_pos ⟨hs.b, hs.q⟩).2 (Nat.le_trans (firsts_len ⟨hs.b, hs.q⟩) (by decide))
  obtain ⟨z, hz, M3, e3, c3⟩ := law_any_map (own := own) (d := d) (f := tupI) hf c2.has (rowsI_pos ⟨hs.b, hs.r⟩).1 (Nat.le_trans (rowsI_len ⟨hs.b, hs.r⟩) (by decide))
  refine ⟨(x, y, z), List.mem_flatMap.mpr ⟨x, hx, List.mem_flatMap.mpr ⟨y, hy, List.mem_map.mpr ⟨z, hz, rfl⟩⟩⟩, M3, ?_, (c1.trans c2).trans c3⟩
  rw [callS_eq rfl]
  simp [f_law_part, lawRowsOf b p ⟨hs.b, hs.p⟩]
  rw [first_lc ⟨hs.b, hs.p⟩ fun l h1 h2 => by simp [law_plain_spec l h1 (M := M) (by simpa using h2), if_list]]
  simp [lawRowsOf b q ⟨hs.b, hs.q⟩]
  rw [first_lc ⟨hs.b, hs.q⟩ fun l h1 h2 => by simp [law_plain_spec l h1 (M := M) (by simpa using h2), if_list]]
  simp [e1, e2, lawRowsOf b r ⟨hs.b, hs.r⟩, e3, tD, ((c1.trans c2).trans c3).take]
/-- a comprehension that draws -/
theorem lc_draw {n : Nat} {t : Tg} {ρ : Env'} {test : Env' → Sto → Res Bool} {rest : Env' → Sto → Res (List PyData)} {P : Int → Prop} : ∀ (xs : List PyData) (M : Sto), HasCup M n → (∀ x ∈ xs, ∀ M, HasCup M n → ∃ v M', itemK t ρ test rest x M = .ok [.int v] M' ∧ Cup n M M' ∧ P v) →
    ∃ (vs : Row) (M' : Sto), loopC (itemK t ρ test rest) xs M = .ok (vs.map .int) M' ∧ Cup n M M' ∧ vs.length = xs.length ∧ ∀ v ∈ vs, P v
  | [], M, h, _ => ⟨[], M, rfl, Cup.refl h, rfl, by simp⟩
  | x :: xs, M, h, hs => by
    obtain ⟨v, M1, e1, c1, p1⟩ := hs x List.mem_cons_self M h
    obtain ⟨vs, M2, e2, c2, l2, p2⟩ := lc_draw xs M1 c1.has fun y hy => hs y (List.mem_cons_of_mem _ hy)
    refine ⟨v :: vs, M2, ?_, c1.trans c2, by simp [l2], by simpa using ⟨p1, p2⟩⟩
    rw [loopC, e1]
    simp [e2]
/-- the entries of a table -/
def GridOk (b n : Nat) (e : Row) : Prop := e.length = n ∧ FigR b e
theorem emod_fig {b : Nat} (hb : two3 b) (x : Int) : 0 ≤ x % (b : Int) ∧ x % (b : Int) < b := by
  rcases hb with rfl | rfl <;> exact ⟨Int.emod_nonneg _ (by decide), Int.emod_lt_of_pos _ (by decide)⟩
theorem addE_fig {b : Nat} (hb : two3 b) (u v : Row) : FigR b (addE b u v) := by
  intro x hx
  unfold addE at hx
  rw [← List.map_uncurry_zip_eq_zipWith, List.mem_map] at hx
  obtain ⟨y, _, rfl⟩ := hx
  exact emod_fig hb _
theorem subE_fig {b : Nat} (hb : two3 b) (u v : Row) : FigR b (subE b u v) := by
  intro x hx
  unfold subE at hx
  rw [← List.map_uncurry_zip_eq_zipWith, List.mem_map] at hx
  obtain ⟨y, _, rfl⟩ := hx
  exact emod_fig hb _
theorem ents_fig {b : Nat} (hb : two3 b) (t : Term) : FigR b (ents b t) := by
  intro x hx
  simp only [ents, List.mem_flatMap, List.mem_map] at hx
  obtain ⟨_, _, _, _, _, _, rfl⟩ := hx
  exact emod_fig hb _
theorem zeroE_fig {b : Nat} (hb : two3 b) (n : Nat) : FigR b (zeroE n) := by
  intro x hx
  rw [List.eq_of_mem_replicate hx]
  rcases hb with rfl | rfl <;> decide
theorem law_drawn_spec {n : Nat} {b p q r : Nat} (hs : Sh b p q r) (hf : 2 ≤ fuel) (h : HasCup M n) : ∃ e M', callS (cfD (com ++ own) fuel (d + 3)) fuel f_law_drawn [.ref n, .d (.int b), .d (sD p q r)] M = .ok (.v (.d (tupI e))) M' ∧ Cup n M M' ∧ GridOk b (p * q * r) e := by
  obtain ⟨v, M1, e1, c1, v0, v1⟩ := law_sip_spec (own := own) (d := d + 2) hf h (many := 3) (by decide) (by decide)
  rw [callS_eq rfl]
  have hb0 : (0 : Int) < b ∧ (b : Int) ≤ 8192 := by rcases hs.b with e | e <;> subst e <;> decide
  have sz := sh_size hs
  by_cases hv : v = 0
  · obtain ⟨vs, M2, e2, c2, l2, p2⟩ := lc_draw (n := n) (t := .nm 5) (ρ := [some (.ref n), some (.d (.int b)), some (.d (sD p q r)), none, none, none]) (test := fun ρ M => .ok true M) (rest := fun ρ M => (evalE (cfD (com ++ own) fuel (d + 3)) (.call 22 (.cons (.v 0) (.cons (.v 1) .nil))) ρ M).bind cyK)
      (P := fun v => 0 ≤ v ∧ v < (b : Int)) ((spots p q r).map spotD) M1 c1.has (fun x _ M h => by
        obtain ⟨w, M', e, c, w0, w1⟩ := law_sip_spec (own := own) (d := d + 2) hf h (many := b) hb0.1 hb0.2
        exact ⟨w, M', by simp [e], c, w0, w1⟩)
    refine ⟨vs, M2, ?_, c1.trans c2, by rw [l2, List.length_map, spots_len, Nat.mul_assoc], p2⟩
    simp at e2
    simp [f_law_drawn, e1, hv, law_spots_spec hs.p hs.q hs.r]
    rw [e2, lcOk (n := 18) (by rw [l2, List.length_map, spots_len, ← Nat.mul_assoc]; omega) (by decide)]
    simp [tupI, (c1.trans c2).take]
  · obtain ⟨m, M2, e2, c2, m0, m1⟩ := law_sip_spec (own := own) (d := d + 2) hf c1.has (many := 4) (by decide) (by decide)
    have hw : within62 m = true := within62_of (by omega) (by omega)
    simp [f_law_drawn, e1, hv, law_nought_spec hs, e2, hw, -exists_and_left]
    generalize hX : forF _ _ _ _ _ = X
    obtain ⟨ρ', M3, rfl, c3, e, x, rfl, hg⟩ := inv_of hX (fun ρ M' => Cup n M2 M' ∧ ∃ e x, ρ = [some (.ref n), some (.d (.int b)), some (.d (sD p q r)), some (.d (tupI e)), x, none] ∧ GridOk b (p * q * r) e) ⟨Cup.refl c2.has, _, _, rfl, zeroE_length _, zeroE_fig hs.b _⟩ (by
      rintro x hx ρ M' ⟨cM, e, y, rfl, hg⟩
      obtain ⟨t, ht, M4, e4, c4⟩ := law_part_spec (own := own) (d := d) hs hf cM.has
      have ok := terms_ok hs ht
      simp [e4, law_spread_spec hs.b (ok.rows hs) ok.sides hs.p hs.q hs.r, law_added_spec hs.b (u := e) (v := ents b t) (by rw [hg.1]; omega)]
      exact ⟨_, M4, rfl, cM.trans c4, addE b e (ents b t), ⟨_, rfl⟩, by rw [addE_length (by rw [hg.1, ok.sides.ents]), hg.1], addE_fig hs.b _ _⟩)
    have cc := (c1.trans c2).trans c3
    simp [cc.take, -exists_and_left]
    exact ⟨e, M3, ⟨rfl, rfl⟩, cc, hg⟩
def big1 : Int := 10 ^ 60
def big2 : Int := big1 * big1
def big3 : Int := big2 * big1
def big4 : Int := big3 * big1
theorem e_big1 : binD .pow (.int 10) (.int 60) = some (.v (.d (.int big1))) := by kernel_rfl
theorem e_big2 : binD .mul (.int big1) (.int big1) = some (.v (.d (.int big2))) := by kernel_rfl
theorem e_big3 : binD .mul (.int big2) (.int big1) = some (.v (.d (.int big3))) := by kernel_rfl
theorem e_big4 : binD .mul (.int big3) (.int big1) = some (.v (.d (.int big4))) := by kernel_rfl
theorem e_b18 : binD .pow (.int 10) (.int 18) = some (.v (.d (.int 1000000000000000000))) := by kernel_rfl
theorem big4_ne : big4 ≠ 0 := by decide +kernel
theorem law_cup_of_spec (ns : Row) (k : Nat) : ∃ a c : Int, callS (cfD (com ++ own) fuel d) fuel f_law_cup_of [.d (.list (ns.map .int)), .d (.int k)] M = .ok (.own [.int a, .int c]) M := by
  rw [callS_eq rfl]
  have key : ∀ x : Int, ∃ a c : Int, exitR M.length (evalS (cfD (com ++ own) fuel d) fuel (.ret (.lst (.cons (.ite (.cmp .ge (.v 2) (.bin .pow (.k (.int 10)) (.k (.int 18)))) (.v 2) (.k (.int 0))) (.cons (.bin .add (.bin .mod (.bi .int (.cons (.bin .add (.bin .add (.bin .mul (.bin .mod (.v 2) (.k (.int 2147481673))) (.k (.int 53))) (.bin .mul (.k (.int 137)) (.v 1))) (.k (.int 89))) .nil)) (.k (.int 2147481673))) (.k (.int 1))) .nil)))) [some (.d (.list (ns.map .int))), some (.d (.int k)), some (.d (.int x))] M) = .ok (.own [.int a, .int c]) M := by
    intro x
    by_cases hx : 1000000000000000000 ≤ x
    · simp [e_b18, hx, binD_mul, binD_mod (show (2147481673 : Int) ≠ 0 by decide)]
    · simp [e_b18, hx, binD_mul, binD_mod (show (2147481673 : Int) ≠ 0 by decide)]
  have h47 : binD .mul (.int 26681) (.int k) = some (.v (.d (.int (26681 * k)))) := binD_mul (Or.inl (by decide))
  by_cases h1 : k < ns.length
  · have h1' : (k : Int) < ns.length := by omega
    obtain ⟨a, c, e⟩ := key ((if gx ns k < 0 then -gx ns k else gx ns k).fmod big4)
    refine ⟨a, c, ?_⟩
    rw [← e]
    simp [f_law_cup_of, h47, h1', at_nat h1, e_big1, e_big2, e_big3, e_big4, binD_mod big4_ne]
    by_cases hx : 1000000000000000000 ≤ (if gx ns k < 0 then -gx ns k else gx ns k).fmod big4 <;> simp [e_b18, hx, binD_mul, binD_mod (show (2147481673 : Int) ≠ 0 by decide)]
  · have h1' : ¬ (k : Int) < ns.length := by omega
    by_cases h2 : 0 < ns.length
    · have h2' : 0 < (ns.length : Int) := by omega
      have e0 : L2.atI (ns.map PyData.int) 0 = some (.int (gx ns 0)) := at_nat (i := 0) h2
      obtain ⟨a, c, e⟩ := key (26681 * k + 47 + (if gx ns 0 < 0 then -gx ns 0 else gx ns 0).fmod 1000193)
      refine ⟨a, c, ?_⟩
      rw [← e]
      simp [f_law_cup_of, h47, h1', h2, h2', e0, binD_mod (show (1000193 : Int) ≠ 0 by decide)]
      by_cases hx : 1000000000000000000 ≤ 26681 * (k : Int) + 47 + (if gx ns 0 < 0 then -gx ns 0 else gx ns 0).fmod 1000193 <;> simp [e_b18, hx, binD_mul, binD_mod (show (2147481673 : Int) ≠ 0 by decide)]
    · have h2' : ¬ 0 < (ns.length : Int) := by omega
      obtain ⟨a, c, e⟩ := key (26681 * k + 47)
      refine ⟨a, c, ?_⟩
      rw [← e]
      simp [f_law_cup_of, h47, h1', h2, h2']
      by_cases hx : 1000000000000000000 ≤ 26681 * (k : Int) + 47 <;> simp [e_b18, hx, binD_mul, binD_mod (show (2147481673 : Int) ≠ 0 by decide)]
end
end C

/-! S6: errors of total; words. -/
namespace C
open PySem PySem.Spec PyProof.Rows Ev
section
variable {own : List Fd} {fuel d : Nat} {M : Sto}
theorem total_err {b p q r : Nat} (hs : Sh b p q r) {x : PyData} (hx : (∀ ts, x ≠ .tuple ts) ∨ ∃ ts, x = .tuple ts ∧ (9 < ts.length ∨ ∃ y r', ts = y :: r' ∧ fineT y ∧ termB b (sD p q r) y = false)) :
    callS (cfD (com ++ own) fuel (d + 6)) fuel f_total [.d (.int b), .d (sD p q r), .d x] M = .err 4 M := by
  rw [callS_eq rfl]
  rcases hx with hx | ⟨ts, rfl, hx⟩
  · have h1 : isiD .tuple x = false := by
      cases x with
      | tuple ts => exact absurd rfl (hx ts)
      | _ => rfl
    simp [f_total, need_base_spec hs.b, need_sides_spec hs, h1]
  · by_cases h9 : 9 < ts.length
    · have h9' : (9 : Int) < ts.length := by omega
      simp [f_total, need_base_spec hs.b, need_sides_spec hs, isiD, h9']
    · have h9' : ¬ (9 : Int) < ts.length := by omega
      obtain ⟨y, r', rfl, hy, hf⟩ := hx.resolve_left h9
      have e : callS (cfD (com ++ own) fuel (d + 5)) fuel f_need_term [.d (.int b), .d (sD p q r), .d y] M = .err 4 M := by
        rw [callS_eq rfl]
        simp [f_need_term, is_term_so_spec b p q r y hy, hf]
      rw [List.length_cons] at h9'
      have h9'' : ¬ (9 : Int) < (r'.length : Int) + 1 := by omega
      simp [f_total, need_base_spec hs.b, need_sides_spec hs, isiD, h9'', e]
theorem okD_all {α : Type} {f : α → PyData} {n : Nat} (h : ∀ x, okD n (f x) = true) (l : List α) : okD (n + 1) (.list (l.map f)) = true := by
  simp [h]
theorem eqC_terms (u v : List Term) : eqC (.list (u.map tD)) (.list (v.map tD)) = some (decide (u = v)) := by
  rw [eqC_ok (okD_all (n := 7) (fun t => tD_ok 5 t) u) (okD_all (n := 7) (fun t => tD_ok 5 t) v), eqv_lst, eqvAll_map eqv_tD]
theorem eqC_str (a b : PySem.Str) : eqC (.str a) (.str b) = some (a == b) := by
  unfold eqC
  simp [scalD, PyData.eqv]
theorem wds_4 : wds[4]? = some ("term" : PySem.Str) := rfl
@[simp] theorem ixD_tD0 (t : Term) : ixD (tD t) (.int 0) = some (tupI t.1) := (rfl)
@[simp] theorem ixD_tD1 (t : Term) : ixD (tD t) (.int 1) = some (tupI t.2.1) := (rfl)
@[simp] theorem ixD_tD2 (t : Term) : ixD (tD t) (.int 2) = some (tupI t.2.2) := (rfl)
theorem short_int (i : Int) : short (.int i) := ⟨rfl, fun xs e => by cases e⟩
theorem fineT_row (l : Row) : fineT (tupI l) := fun u v w e => by
  have e := PyData.tuple.inj e
  match l, e with
  | [x, y, z], e =>
    simp only [List.map_cons, List.map_nil, List.cons.injEq, and_true] at e
    obtain ⟨rfl, rfl, rfl⟩ := e
    exact ⟨short_int _, short_int _, short_int _⟩
theorem termB_row (b : Int) (s : PyData) (l : Row) : termB b s (tupI l) = false := by
  unfold termB
  split
  · rename_i e
    have e := PyData.tuple.inj e
    match l, e with
    | [x, y, z], e =>
      simp only [List.map_cons, List.map_nil, List.cons.injEq, and_true] at e
      obtain ⟨rfl, rfl, rfl⟩ := e
      simp [rowB, figB]
  · rfl
theorem rowB_zero (b : Int) (n : Nat) (m : Int) : rowB b (tupI (zeroE n)) m = false := by
  have : ((zeroE n).map PyData.int).any nz = false := by
    rw [List.any_eq_false]
    intro x hx
    obtain ⟨i, hi, rfl⟩ := List.mem_map.mp hx
    rw [List.eq_of_mem_replicate hi]
    decide
  simp only [rowB, tupI, this, Bool.and_false]
theorem termB_zero (b : Int) (p q r n : Nat) (x y : PyData) : termB b (sD p q r) (.tuple [x, y, tupI (zeroE n)]) = false := by
  simp [termB, rowB_zero]
end
end C

/-! S7: telling. -/
namespace C
open PySem PySem.Spec PyProof.Rows Ev
/-- the figure of entries with rows -/
def vfig (b : Nat) (e : Row) (t : Term) : Int := (List.zipWith (· * ·) e (ents b t)).sum % (b : Int)
def LinesOk (b p q r : Nat) (t : Term) : Prop := RowOk b p t.1 ∧ RowOk b q t.2.1 ∧ RowOk b r t.2.2
theorem LinesOk.rows {b p q r : Nat} {t : Term} (h : LinesOk b p q r t) (hs : Sh b p q r) : RowsOk b t := ⟨h.1.rows hs.p, h.2.1.rows hs.q, h.2.2.rows hs.r⟩
theorem LinesOk.sides {b p q r : Nat} {t : Term} (h : LinesOk b p q r t) : SidesOf p q r t := ⟨h.1.1, h.2.1.1, h.2.2.1⟩
theorem TermOk.lines {b p q r : Nat} {t : Term} (h : TermOk b p q r t) : LinesOk b p q r t := ⟨h.1.1, h.2.1.1, h.2.2⟩
def linesB (b : Int) (s x : PyData) : Bool := match s, x with
  | .tuple [.int p, .int q, .int r], .tuple [u, v, w] => rowB b u p && rowB b v q && rowB b w r
  | _, _ => false
theorem linesB_tD {b p q r : Nat} {t : Term} (h : LinesOk b p q r t) : linesB b (sD p q r) (tD t) = true := by
  simp only [linesB, tD, rowB_tup h.1, rowB_tup h.2.1, rowB_tup h.2.2, Bool.and_self]
section
variable {own : List Fd} {fuel d : Nat} {M : Sto}
theorem are_rows_gen (b p q r : Int) (x : PyData) (hx : fineT x) : callS (cfD (com ++ own) fuel (d + 3)) fuel f_are_rows [.d (.int b), .d (.tuple [.int p, .int q, .int r]), .d x] M = .ok (.v (.d (.bool (linesB b (.tuple [.int p, .int q, .int r]) x)))) M := by
  by_cases h : ∃ u v w, x = .tuple [u, v, w]
  · obtain ⟨u, v, w, rfl⟩ := h
    obtain ⟨hu, hv, hw⟩ := hx u v w rfl
    rw [are_rows_spec b p q r u v w hu hv hw]
    rfl
  · have h : ∀ u v w, x ≠ .tuple [u, v, w] := fun u v w e => h ⟨u, v, w, e⟩
    rw [are_rows_no b _ x h]
    have : linesB b (.tuple [.int p, .int q, .int r]) x = false := by
      unfold linesB
      split
      · exact absurd rfl (h _ _ _)
      · rfl
    rw [this]
theorem biD_sum_map {α : Type} (l : List α) (f : α → Int) : biD .sum [.list (l.map fun p => .int (f p))] = some (.v (.d (.int (l.map f).sum))) := by
  have : (l.map fun p => PyData.int (f p)) = (l.map f).map .int := by simp
  rw [this]
  show (intsOf ((l.map f).map .int)).map _ = _
  rw [intsOfP]
  rfl
theorem zip_sum (u v : Row) : ((u.zip v).map fun p => p.1 * p.2).sum = (List.zipWith (· * ·) u v).sum := by
  rw [List.zip, List.map_zipWith]
theorem value_of_spec {b : Nat} {e : Row} {t : Term} (hb : two3 b) (he : FigR b e) (hl : e.length ≤ 1000) (ht : RowsOk b t) : callS (cfD (com ++ own) fuel (d + 1)) fuel f_value_of [.d (.int b), .d (tupI e), .d (tD t)] M = .ok (.v (.d (.int (vfig b e t)))) M := by
  rw [callS_eq rfl]
  simp [f_value_of, entries_of_spec hb ht]
  rw [show zipK [VV.d (tupI e), VV.d (tupI (ents b t))] M = .ok (zipD (e.map .int) ((ents b t).map .int)) M from rfl]
  simp [zipI]
  rw [lc_map (h := fun p => .int (p.1 * p.2))]
  · rw [lcOk (n := 1000) (by rw [List.length_zip]; omega) (by decide)]
    simp [biD_sum_map, zip_sum, binD_mod (bne hb), emod_fmod, vfig]
  · intro y hy
    have h1 := (List.of_mem_zip hy).1
    simp [binD_mul (Or.inl (fig_abs he hb h1))]
theorem need_asked_spec {b p q r : Nat} {t : Term} (hs : Sh b p q r) (ht : LinesOk b p q r t) : callS (cfD (com ++ own) fuel (d + 4)) fuel f_need_asked [.d (.int b), .d (sD p q r), .d (tD t)] M = .ok (.v (.d .none)) M := by
  rw [callS_eq rfl]
  simp [f_need_asked, are_rows_gen _ _ _ _ _ (fineT_tD (rowLen ⟨hs.b, hs.p⟩ ht.1) (rowLen ⟨hs.b, hs.q⟩ ht.2.1) (rowLen ⟨hs.b, hs.r⟩ ht.2.2)), linesB_tD ht]
theorem need_asked_err {b p q r : Nat} {x : PyData} (hx : fineT x) (h : linesB b (sD p q r) x = false) : callS (cfD (com ++ own) fuel (d + 4)) fuel f_need_asked [.d (.int b), .d (sD p q r), .d x] M = .err 3 M := by
  rw [callS_eq rfl]
  simp [f_need_asked, are_rows_gen _ _ _ _ _ hx, h]
/-- a fact -/
abbrev Fact := Term × Int
def factD (f : Fact) : PyData := .tuple [tD f.1, .int f.2]
def FactOk (b p q r : Nat) (f : Fact) : Prop := LinesOk b p q r f.1 ∧ 0 ≤ f.2 ∧ f.2 < (b : Int)
def factB (b : Int) (s y : PyData) : Bool := match y with
  | .tuple [l, v] => linesB b s l && isI v 0 (b - 1)
  | _ => false
theorem are_facts_spec {b p q r : Nat} (hs : Sh b p q r) {fs : List Fact} (hf : ∀ f ∈ fs, FactOk b p q r f) (hl : fs.length ≤ 6) : callS (cfD (com ++ own) fuel (d + 4)) fuel f_are_facts [.d (.int b), .d (sD p q r), .d (.tuple (fs.map factD))] M = .ok (.v (.d (.bool true))) M := by
  rw [callS_eq rfl]
  have hl' : ¬ (6 : Int) < fs.length := by omega
  simp [f_are_facts, isiD, hl']
  let P : Env' → Sto → Prop := fun ρ M' => M' = M ∧ ∃ x, ρ = [some (.d (.int b)), some (.d (sD p q r)), some (.d (.tuple (fs.map factD))), x]
  generalize hX : forF _ _ _ _ _ = X
  obtain ⟨ρ', M2, rfl, rfl, x, rfl⟩ := inv_of hX P ⟨rfl, _, rfl⟩ (by
    rintro y hy ρ M' ⟨rfl, x, rfl⟩
    obtain ⟨f, hfm, rfl⟩ := List.mem_map.mp hy
    have ok := hf f hfm
    have hi : isI (.int f.2) 0 (b - 1) = true := by
      simp only [isI, Bool.and_eq_true, decide_eq_true_eq]
      have := ok.2
      omega
    simp [factD, isiD, are_rows_gen _ _ _ _ _ (fineT_tD (rowLen ⟨hs.b, hs.p⟩ ok.1.1) (rowLen ⟨hs.b, hs.q⟩ ok.1.2.1) (rowLen ⟨hs.b, hs.r⟩ ok.1.2.2)), linesB_tD ok.1, is_int_spec, hi]
    exact ⟨_, _, rfl, rfl, _, rfl⟩)
  simp
theorem are_facts_no {b p q r : Nat} {x : PyData} (hx : (∀ ts, x ≠ .tuple ts) ∨ ∃ ts, x = .tuple ts ∧ (6 < ts.length ∨ ∃ y r', ts = y :: r' ∧ (∀ l v, y = .tuple [l, v] → fineT l) ∧ factB b (sD p q r) y = false)) :
    callS (cfD (com ++ own) fuel (d + 4)) fuel f_are_facts [.d (.int b), .d (sD p q r), .d x] M = .ok (.v (.d (.bool false))) M := by
  rw [callS_eq rfl]
  rcases hx with hx | ⟨ts, rfl, hx⟩
  · have h1 : isiD .tuple x = false := by
      cases x with
      | tuple ts => exact absurd rfl (hx ts)
      | _ => rfl
    simp [f_are_facts, h1]
  · by_cases h6 : 6 < ts.length
    · have h6' : (6 : Int) < ts.length := by omega
      simp [f_are_facts, isiD, h6']
    · obtain ⟨y, r', rfl, hy, hf⟩ := hx.resolve_left h6
      rw [List.length_cons] at h6
      have h6' : ¬ (6 : Int) < (r'.length : Int) + 1 := by omega
      simp [f_are_facts, isiD, h6']
      cases y with
      | tuple ys =>
        by_cases h2 : ys.length = 2
        · match ys, h2 with
          | [l, v], _ =>
            simp only [factB, Bool.and_eq_false_iff] at hf
            simp [are_rows_gen _ _ _ _ _ (hy l v rfl), is_int_spec]
            by_cases h7 : linesB b (sD p q r) l = true
            · have h8 : isI v 0 (b - 1) = false := hf.resolve_left (by rw [h7]; simp)
              simp [h7, h8, is_int_spec]
            · simp [h7]
        · have h2' : ¬ (ys.length : Int) = 2 := by omega
          simp [h2']
      | _ => simp
theorem need_facts_spec {b p q r : Nat} (hs : Sh b p q r) {fs : List Fact} (hf : ∀ f ∈ fs, FactOk b p q r f) (hl : fs.length ≤ 6) : callS (cfD (com ++ own) fuel (d + 5)) fuel f_need_facts [.d (.int b), .d (sD p q r), .d (.tuple (fs.map factD))] M = .ok (.v (.d .none)) M := by
  rw [callS_eq rfl]
  simp [f_need_facts, need_base_spec hs.b, need_sides_spec hs, are_facts_spec hs hf hl]
theorem need_facts_err {b p q r : Nat} (hs : Sh b p q r) {x : PyData} (hx : (∀ ts, x ≠ .tuple ts) ∨ ∃ ts, x = .tuple ts ∧ (6 < ts.length ∨ ∃ y r', ts = y :: r' ∧ (∀ l v, y = .tuple [l, v] → fineT l) ∧ factB b (sD p q r) y = false)) :
    callS (cfD (com ++ own) fuel (d + 5)) fuel f_need_facts [.d (.int b), .d (sD p q r), .d x] M = .err 10 M := by
  rw [callS_eq rfl]
  simp [f_need_facts, need_base_spec hs.b, need_sides_spec hs, are_facts_no hx]
/-- the terms by which facts are so -/
def toldBy (b : Nat) (fs : List Fact) (ts : List Term) : List Term := fs.foldl (fun l f => l.filter fun t => decide (vfig b (ents b t) f.1 = f.2)) ts
theorem toldBy_sub (b : Nat) : ∀ (fs : List Fact) (ts : List Term), (∀ t ∈ toldBy b fs ts, t ∈ ts) ∧ (toldBy b fs ts).length ≤ ts.length
  | [], ts => ⟨fun t h => h, Nat.le_refl _⟩
  | f :: fs, ts => by
    obtain ⟨h1, h2⟩ := toldBy_sub b fs (ts.filter fun t => decide (vfig b (ents b t) f.1 = f.2))
    exact ⟨fun t h => (List.mem_filter.mp (h1 t h)).1, Nat.le_trans h2 (List.length_filter_le _ _)⟩
theorem told_by_spec {b p q r : Nat} (hs : Sh b p q r) {fs : List Fact} (hf : ∀ f ∈ fs, FactOk b p q r f) : callS (cfD (com ++ own) fuel (d + 2)) fuel f_told_by [.d (.int b), .d (sD p q r), .d (.tuple (fs.map factD))] M = .ok (.own ((toldBy b fs (terms b p q r)).map tD)) M := by
  rw [callS_eq rfl]
  have sz := sh_size hs
  simp [f_told_by, terms_of_spec hs]
  rw [lc_map (h := partD b) _ fun t ht => by simp [entries_of_spec hs.b ((terms_ok hs ht).rows hs), partD], lcOk (terms_len hs) (by decide)]
  simp
  generalize hX : forF _ _ _ _ _ = X
  obtain ⟨o, ⟨-, hl⟩, rfl⟩ := loop_of hX (fun (o : Option VV × Option VV) (l : List Term) => [some (.d (.int b)), some (.d (sD p q r)), some (.d (.tuple (fs.map factD))), some (.d (.list (l.map (partD b)))), o.1, o.2, none, none]) (fun _ _ => M)
    (fun l f => l.filter fun t => decide (vfig b (ents b t) f.1 = f.2)) (fun _ _ l => (∀ t ∈ l, t ∈ terms b p q r) ∧ l.length ≤ 17576) (none, none) (terms b p q r) rfl rfl ⟨fun _ h => h, terms_len hs⟩ (fun f hfm pre o l _ hl => by
      have ok := hf f hfm
      simp [-Prod.forall, factD]
      rw [lc_filt (enc := partD b) (p := fun (t : Term) => decide (vfig b (ents b t) f.1 = f.2)) _ fun (t : Term) ht => by
        have tok := terms_ok hs (hl.1 t ht)
        simp [partD, value_of_spec hs.b (ents_fig hs.b t) (by rw [tok.sides.ents]; omega) (ok.1.rows hs), if_list], lcOk (Nat.le_trans (List.length_filter_le _ _) hl.2) (by decide)]
      have inv' : (∀ t ∈ l.filter fun t => decide (vfig b (ents b t) f.1 = f.2), t ∈ terms b p q r) ∧ (l.filter fun t => decide (vfig b (ents b t) f.1 = f.2)).length ≤ 17576 := ⟨fun t ht => hl.1 t (List.mem_filter.mp ht).1, Nat.le_trans (List.length_filter_le _ _) hl.2⟩
      generalize (l.filter fun t => decide (vfig b (ents b t) f.1 = f.2)) = l2 at inv' ⊢
      simp [-Prod.forall]
      exact ⟨(_, _), inv', rfl⟩)
  simp
  rw [lc_map (h := tD) _ fun t ht => by simp [partD], lcOk hl (by decide)]
  simp [toldBy]
end
end C

/-! S8: values of tables, what is told, surely. -/
namespace C
open PySem PySem.Spec PyProof.Rows Ev
theorem all_snoc {α : Type} {P : α → Prop} {l : List α} {x : α} (h : ∀ y ∈ l, P y) (hx : P x) : ∀ y ∈ l ++ [x], P y := by
  intro y hy
  rcases List.mem_append.mp hy with hy | hy
  · exact h y hy
  · rw [List.mem_singleton.mp hy]; exact hx
/-- a table as data -/
def gridD (b p q r : Nat) (e : Row) : PyData := .tuple [.int b, sD p q r, tupI e]
@[simp] theorem ixD_grid0 (b p q r : Nat) (e : Row) : ixD (gridD b p q r e) (.int 0) = some (.int b) := (rfl)
@[simp] theorem ixD_grid1 (b p q r : Nat) (e : Row) : ixD (gridD b p q r e) (.int 1) = some (sD p q r) := (rfl)
@[simp] theorem ixD_grid2 (b p q r : Nat) (e : Row) : ixD (gridD b p q r e) (.int 2) = some (tupI e) := (rfl)
theorem grid_fine (b p q r : Nat) {e : Row} (h : e.length ≤ 18) : fine (gridD b p q r e) := by
  refine ⟨by simp [gridD, sD, tupI], fun xs hx => ?_⟩
  have hx := (PyData.tuple.inj hx).symm
  subst hx
  refine ⟨by simp, fun y hy => ?_⟩
  simp only [List.mem_cons, List.not_mem_nil, or_false] at hy
  rcases hy with rfl | rfl | rfl
  · exact ⟨rfl, fun ys e => by cases e⟩
  · exact ⟨rfl, fun ys e => by
      have e := (PyData.tuple.inj e).symm
      subst e
      simp⟩
  · exact short_tup (by omega)
theorem sizeD_sD (p q r : Nat) : sizeD (sD p q r) = ((p * q * r : Nat) : Int) := by
  simp [sizeD, sD]
theorem sh_side {b p q r : Nat} (hs : Sh b p q r) : sideB b (sD p q r) = true ∧ isI (.int b) 2 3 = true := by
  rcases hs with ⟨rfl, hp, hq, hr, h⟩ | ⟨rfl, rfl, rfl, rfl⟩
  · rcases hp with rfl | rfl <;> rcases hq with rfl | rfl <;> rcases hr with rfl | rfl <;> first | decide | (exfalso; revert h; decide)
  · decide
theorem tabB_grid {b p q r : Nat} (hs : Sh b p q r) {e : Row} (he : GridOk b (p * q * r) e) : tabB (gridD b p q r e) = true := by
  obtain ⟨h1, h2⟩ := sh_side hs
  simp only [tabB, gridD, h1, h2, sizeD_sD, figB_tup he.2 (show e.length = p * q * r from he.1), Bool.and_self]
theorem terms_few {b p q r : Nat} (hs : Sh b p q r) : (terms b p q r).length ≤ 4000 := by
  rcases hs with ⟨rfl, hp, hq, hr, -⟩ | ⟨rfl, rfl, rfl, rfl⟩
  · rcases hp with rfl | rfl <;> rcases hq with rfl | rfl <;> rcases hr with rfl | rfl <;> decide +kernel
  · decide +kernel
theorem vfig_range {b : Nat} (hb : two3 b) (e : Row) (t : Term) : 0 ≤ vfig b e t ∧ vfig b e t < b := emod_fig hb _
theorem sdI_few {b : Nat} (hb : two3 b) {ns : List Int} (h : ∀ z ∈ ns, 0 ≤ z ∧ z < (b : Int)) : (sdI ns).length < 64 := by
  have nd : (sdI ns).Nodup := (sdI_up ns).imp fun h => Int.ne_of_lt h
  have := nodup_len (m := [0, 1, 2]) nd fun z hz => by
    have := h z ((sdI_mem z ns).mp hz)
    have hb3 : (b : Int) ≤ 3 := by rcases hb with rfl | rfl <;> decide
    simp only [List.mem_cons, List.not_mem_nil, or_false]
    omega
  exact Nat.lt_of_le_of_lt this (by decide)
/-- the only one, or nothing -/
def oneD (ns : List Int) : PyData := match ns with
  | [z] => .int z
  | _ => .none
def sureL (b : Nat) (ts : List Term) (t : Term) : List Int := sdI (ts.map fun u => vfig b (ents b u) t)
@[simp] theorem evalE_u1 (cf : Nat → List VV → Sto → Res TV) (u : U1) (a : E) (ρ : Env') (M : Sto) : evalE cf (.u1 u a) ρ M = (evalE cf a ρ M).bind (u1K u) := by rw [evalE]
section
variable {own : List Fd} {fuel d : Nat} {M : Sto}
theorem need_table_spec {b p q r : Nat} (hs : Sh b p q r) {e : Row} (he : GridOk b (p * q * r) e) : callS (cfD (com ++ own) fuel (d + 3)) fuel f_need_table [.d (gridD b p q r e)] M = .ok (.v (.d .none)) M := by
  have sz := sh_size hs
  rw [callS_eq rfl]
  simp [f_need_table, is_table_so_spec _ (grid_fine b p q r (show e.length ≤ 18 by rw [he.1]; omega)), tabB_grid hs he]
theorem value_spec {b p q r : Nat} (hs : Sh b p q r) {e : Row} (he : GridOk b (p * q * r) e) {t : Term} (ht : LinesOk b p q r t) : callS (cfD (com ++ own) fuel (d + 5)) fuel f_value [.d (gridD b p q r e), .d (tD t)] M = .ok (.v (.d (.int (vfig b e t)))) M := by
  have sz := sh_size hs
  rw [callS_eq rfl]
  simp [f_value, need_table_spec (d := d + 1) hs he, need_asked_spec (d := d) hs ht, value_of_spec hs.b he.2 (show e.length ≤ 1000 by rw [he.1]; omega) (ht.rows hs)]
theorem value_err {b p q r : Nat} (hs : Sh b p q r) {e : Row} (he : GridOk b (p * q * r) e) {x : PyData} (hx : fineT x) (h : linesB b (sD p q r) x = false) : callS (cfD (com ++ own) fuel (d + 5)) fuel f_value [.d (gridD b p q r e), .d x] M = .err 3 M := by
  rw [callS_eq rfl]
  simp [f_value, need_table_spec (d := d + 1) hs he, need_asked_err (d := d) hx h]
theorem terms_told_spec {b p q r : Nat} (hs : Sh b p q r) {fs : List Fact} (hf : ∀ f ∈ fs, FactOk b p q r f) (hl : fs.length ≤ 6) : callS (cfD (com ++ own) fuel (d + 6)) fuel f_terms_told [.d (.int b), .d (sD p q r), .d (.tuple (fs.map factD))] M = .ok (.own ((toldBy b fs (terms b p q r)).map tD)) M := by
  rw [callS_eq rfl]
  simp [f_terms_told, need_facts_spec (d := d) hs hf hl, told_by_spec (d := d + 3) hs hf]
def badF (b p q r : Nat) (x : PyData) : Prop := (∀ ts, x ≠ .tuple ts) ∨ ∃ ts, x = .tuple ts ∧ (6 < ts.length ∨ ∃ y r', ts = y :: r' ∧ (∀ l v, y = .tuple [l, v] → fineT l) ∧ factB b (sD p q r) y = false)
theorem terms_told_err {b p q r : Nat} (hs : Sh b p q r) {x : PyData} (hx : badF b p q r x) : callS (cfD (com ++ own) fuel (d + 6)) fuel f_terms_told [.d (.int b), .d (sD p q r), .d x] M = .err 10 M := by
  rw [callS_eq rfl]
  simp [f_terms_told, need_facts_err (d := d) hs hx]
theorem surely_err {b p q r : Nat} (hs : Sh b p q r) {x y : PyData} (hx : badF b p q r x) : callS (cfD (com ++ own) fuel (d + 6)) fuel f_surely [.d (.int b), .d (sD p q r), .d x, .d y] M = .err 10 M := by
  rw [callS_eq rfl]
  simp [f_surely, need_facts_err (d := d) hs hx]
theorem surely_row {b p q r : Nat} (hs : Sh b p q r) {fs : List Fact} (hf : ∀ f ∈ fs, FactOk b p q r f) (hl : fs.length ≤ 6) {y : PyData} (hy : fineT y) (h : linesB b (sD p q r) y = false) : callS (cfD (com ++ own) fuel (d + 6)) fuel f_surely [.d (.int b), .d (sD p q r), .d (.tuple (fs.map factD)), .d y] M = .err 3 M := by
  rw [callS_eq rfl]
  simp [f_surely, need_facts_spec (d := d) hs hf hl, need_asked_err (d := d + 1) hy h]
theorem ssetK_ok {ns : List Int} (h1 : ns.length ≤ 4000) (h2 : (sdI ns).length < 64) : u1K .sset (.own (ns.map .int)) M = .ok (.own ((sdI ns).map .int)) M := by
  simp only [u1K, ssetK, peek, intsOfP]
  rw [if_pos (by simp [h1, h2])]
theorem one_of (ns : List Int) : ((cmpK .eq (.v (.d (.int ns.length))) (.v (.d (.int 1))) M).bind asB : Res Bool) = .ok (decide (ns.length = 1)) M := by
  have : ((ns.length : Int) = 1) ↔ ns.length = 1 := by omega
  simp [this]
theorem surely_spec {b p q r : Nat} (hs : Sh b p q r) {fs : List Fact} (hf : ∀ f ∈ fs, FactOk b p q r f) (hl : fs.length ≤ 6) {t : Term} (ht : LinesOk b p q r t) : callS (cfD (com ++ own) fuel (d + 6)) fuel f_surely [.d (.int b), .d (sD p q r), .d (.tuple (fs.map factD)), .d (tD t)] M = .ok (.v (.d (oneD (sureL b (toldBy b fs (terms b p q r)) t)))) M := by
  have sub := toldBy_sub b fs (terms b p q r)
  rw [callS_eq rfl]
  simp [f_surely, need_facts_spec (d := d) hs hf hl, need_asked_spec (d := d + 1) hs ht, told_by_spec (d := d + 3) hs hf]
  rw [lc_map (h := fun u => .int (vfig b (ents b u) t)) _ fun u hu => by
    have ok := terms_ok hs (sub.1 u hu)
    simp [entries_of_spec hs.b (ok.rows hs), value_of_spec hs.b (ents_fig hs.b u) (show (ents b u).length ≤ 1000 by have := ents_len27 (ok.rows hs); omega) (ht.rows hs)], lcOk (Nat.le_trans sub.2 (terms_len hs)) (by decide)]
  rw [show ((toldBy b fs (terms b p q r)).map fun u => PyData.int (vfig b (ents b u) t)) = ((toldBy b fs (terms b p q r)).map fun u => vfig b (ents b u) t).map .int by rw [List.map_map]; rfl]
  simp only [Res.bind_ok]
  rw [ssetK_ok (by rw [List.length_map]; exact Nat.le_trans sub.2 (terms_few hs)) (sdI_few hs.b fun z hz => by
    obtain ⟨u, -, rfl⟩ := List.mem_map.mp hz
    exact vfig_range hs.b _ _)]
  show _ = Res.ok (TV.v (VV.d (oneD (sdI _)))) M
  generalize sdI _ = l
  match l with
  | [] => simp [oneD]
  | [z] => simp [oneD]
  | z :: w :: l =>
    have : ¬ ((l.length : Int) + 1 + 1 = 1) := by omega
    simp [oneD, this]
theorem loopC_three {f : PyData → Sto → Res (List PyData)} {x y z : PyData} {M M1 M2 M3 : Sto} {a b c : List PyData} (h1 : f x M = .ok a M1) (h2 : f y M1 = .ok b M2) (h3 : f z M2 = .ok c M3) : loopC f [x, y, z] M = .ok (a ++ (b ++ c)) M3 := by
  simp [loopC, h1, h2, h3]
theorem law_lines_for_spec {n : Nat} {b p q r : Nat} (hs : Sh b p q r) (hf : 2 ≤ fuel) (h : HasCup M n) : ∃ t M', callS (cfD (com ++ own) fuel (d + 2)) fuel f_law_lines_for [.ref n, .d (.int b), .d (sD p q r)] M = .ok (.v (.d (tD t))) M' ∧ Cup n M M' ∧ LinesOk b p q r t := by
  obtain ⟨x, hx, M1, e1, c1⟩ := law_any_map (own := own) (d := d) (f := tupI) hf h (rowsI_pos ⟨hs.b, hs.p⟩).1 (Nat.le_trans (rowsI_len ⟨hs.b, hs.p⟩) (by decide))
  obtain ⟨y, hy, M2, e2, c2⟩ := law_any_map (own := own) (d := d) (f := tupI) hf c1.has (rowsI_pos ⟨hs.b, hs.q⟩).1 (Nat.le_trans (rowsI_len ⟨hs.b, hs.q⟩) (by decide))
  obtain ⟨z, hz, M3, e3, c3⟩ := law_any_map (own := own) (d := d) (f := tupI) hf c2.has (rowsI_pos ⟨hs.b, hs.r⟩).1 (Nat.le_trans (rowsI_len ⟨hs.b, hs.r⟩) (by decide))
  refine ⟨(x, y, z), M3, ?_, (c1.trans c2).trans c3, rowsI_ok ⟨hs.b, hs.p⟩ hx, rowsI_ok ⟨hs.b, hs.q⟩ hy, rowsI_ok ⟨hs.b, hs.r⟩ hz⟩
  rw [callS_eq rfl]
  have e0 : seqK (.v (.d (sD p q r))) M = .ok [.int p, .int q, .int r] M := rfl
  simp [f_law_lines_for, e0]
  rw [loopC_three (a := [tupI x]) (b := [tupI y]) (c := [tupI z]) (M1 := M1) (M2 := M2) (M3 := M3) (by simp [lawRowsOf b p ⟨hs.b, hs.p⟩, e1]) (by simp [lawRowsOf b q ⟨hs.b, hs.q⟩, e2]) (by simp [lawRowsOf b r ⟨hs.b, hs.r⟩, e3])]
  simp only [List.cons_append, List.nil_append]
  rw [lcK_ok (ds := [tupI x, tupI y, tupI z]) (show 3 ≤ 16777216 by decide)]
  simp [tD, ((c1.trans c2).trans c3).take]
end
end C

/-! L18: the law. -/
namespace L18
open PySem PySem.Spec PyProof.Rows Ev C
def one1 : PyData := .str ("one" : PySem.Str)
def blD (k : Nat) : List PyData := (List.range 17).map fun j => .bool (exSub k j)
def madeD : List PyData := (List.range 16).map fun k => .dict (exk k one1)
def everyD (n : Int) : List PyData := madeD ++ [.dict (exk 16 (.int n))]
section
variable {fuel d : Nat} {M : Sto}
theorem excK_str (k : Nat) (m : PySem.Str) : excK k (.v (.d (.str m))) M = .ok (.v (.d (.dict (exk k (.str m))))) M := rfl
theorem isxK_exk (j k : Nat) (x : PyData) : isxK j (.v (.d (.dict (exk k x)))) M = .ok (.v (.d (.bool (exSub k j)))) M := rfl
theorem strxK_exk (k : Nat) (m : PySem.Str) : strxK (.v (.d (.dict (exk k (.str m))))) M = .ok (.v (.d (.str m))) M := rfl
theorem limK_exk (k : Nat) (n : Int) : limK (.v (.d (.dict (exk k (.int n))))) M = .ok (.v (.d (.int n))) M := rfl
theorem tmK_int {n : Int} (h0 : 0 ≤ n) (h1 : n < 128) : tmK (.v (.d (.int n))) M = .ok (.v (.d (.dict (exk 16 (.int n))))) M := by
  unfold tmK
  simp [h0, h1]
theorem made_spec : callS (cfD (com ++ own) fuel (d + 1)) fuel f_law_made [] M = .ok (.own madeD) M := by
  rw [callS_eq rfl]
  simp [f_law_made, u1K, excK_str, binD_addL]
  rfl
theorem is_spec (k : Nat) (x : PyData) : callS (cfD (com ++ own) fuel (d + 1)) fuel f_law_is [.d (.dict (exk k x))] M = .ok (.own (blD k)) M := by
  rw [callS_eq rfl]
  simp [f_law_is, u1K, isxK_exk, binD_addL]
  rfl
theorem atN {α : Type} {l : List α} {i : Nat} {x : α} (h : l[i]? = some x) : L2.atI l (i : Int) = some x := by
  have hi := (List.getElem?_eq_some_iff.mp h).1
  unfold L2.atI L2.ixN
  simp [hi]
  exact (List.getElem?_eq_some_iff.mp h).2
def rowV (s : Nat) (g : Nat → Int) : List PyData := (List.range s).map fun j => .int (g j)
theorem repK_own (x : List PyData) (k : Nat) (hk : k ≤ 1000) (hx : x.length ≤ 1000) : repK (.own x) (.v (.d (.int k))) M = .ok (.own (List.replicate k x).flatten) M := by
  show (if decide ((0 : Int) ≤ (k : Int)) && decide ((k : Int) ≤ 1000) && decide (x.length ≤ 1000) then Res.ok (TV.own (List.replicate (k : Int).toNat x).flatten) M else Res.stuck) = _
  rw [if_pos (by simp [hx]; omega)]
  simp
theorem every_at {n : Int} {i : Nat} (hi : i < 17) : ∃ x, (everyD n)[i]? = some (.dict (exk i x)) ∧ (i < 16 → x = one1) := by
  by_cases h : i < 16
  · refine ⟨one1, ?_, fun _ => rfl⟩
    unfold everyD madeD
    rw [List.getElem?_append_left (by simpa using h)]
    simp [h]
  · obtain rfl : i = 16 := by omega
    exact ⟨.int n, rfl, fun z => absurd z (by omega)⟩
theorem blD_eq {i : Nat} (hi : i < 17) : blD i = (List.range 17).map fun j : Nat => .bool (decide ((j : Int) = (i : Int))) := by
  unfold blD
  refine List.map_congr_left fun j hj => ?_
  have hj := List.mem_range.mp hj
  have h1 : (j == 17) = false := by simp; omega
  have h2 : (j == 18) = false := by simp; omega
  have e : exSub i j = decide ((j : Int) = (i : Int)) := by
    unfold exSub
    rw [h1, h2, Bool.or_false, Bool.or_false]
    by_cases h : i = j
    · subst h; simp
    · have : ¬ (j : Int) = (i : Int) := fun z => h (by omega)
      simp [h, this]
  rw [e]
theorem eqC_bl (l : List Bool) : eqC (.list (l.map .bool)) (.list (l.map .bool)) = some true := by
  have ok : ∀ n, (l.map PyData.bool).all (okD n) = true := fun n => by
    rw [List.all_eq_true]
    intro x hx
    obtain ⟨b, -, rfl⟩ := List.mem_map.mp hx
    cases n <;> simp [okD]
  have o8 : okD 8 (.list (l.map .bool)) = true := by rw [okD_lst']; exact ok 7
  rw [eqC_ok o8 o8, eqv_lst]
  clear ok o8
  congr 1
  induction l with
  | nil => simp
  | cons b l ih =>
    have e : PyData.eqv (.bool b) (.bool b) = true := by cases b <;> decide +kernel
    simp only [List.map_cons, eqvAll_cons, e, Bool.true_and]
    exact ih
theorem eqC_one : eqC one1 one1 = some true := by decide +kernel
theorem law_spec (hf : 2 ≤ fuel) (ns : C.Row) (hl : ns.length ≤ 63) : ∃ M', callS (cfD (com ++ own) fuel (d + 2)) fuel f_law [.d (.list (ns.map .int))] M = .ok (.v (.d (.bool true))) M' := by
  rw [callS_eq rfl]
  have hw : within62 (1 + (if (4 : Int) < ns.length then 4 else (ns.length : Int))) = true := within62_of (by split <;> omega) (by split <;> omega)
  let P : Env' → Sto → Prop := fun ρ M => ∃ a1 a2 a3 a4 a5 a6, ρ = [some (.d (.list (ns.map .int))), a1, a2, a3, a4, a5, a6]
  simp [f_law, biD, hw]
  generalize hX : forF _ _ _ _ _ = X
  obtain ⟨ρ', M2, rfl, a1, a2, a3, a4, a5, a6, rfl⟩ := inv_of hX P ⟨_, _, _, _, _, _, rfl⟩ (by
    rintro x hx ρ M ⟨a1, a2, a3, a4, a5, a6, rfl⟩
    obtain ⟨k, hk, rfl⟩ := List.mem_map.mp hx
    clear hX hx
    obtain ⟨ca, cb, e1⟩ := law_cup_of_spec (own := own) (fuel := fuel) (d := d + 1) (M := M) ns k
    have hc : HasCup (M ++ [.lst [.int ca, .int cb]]) M.length := ⟨ca, cb, by simp⟩
    obtain ⟨v, M1, e2, c2, v0, v1⟩ := law_sip_spec (own := own) (fuel := fuel) (d := d + 1) hf hc (many := 99) (by decide) (by decide)
    simp [e1, e2, made_spec, u1K, tmK_int v0 (show v < 128 by omega), binD_addL, show madeD.length + 1 ≤ 16777216 by decide]
    have e17 : (madeD ++ [PyData.dict (exk 16 (.int v))]) = everyD v := rfl
    have l17 : (everyD v).length = 17 := rfl
    rw [e17]
    simp [show ((madeD.length : Int) + 1) = 17 from rfl, show within62 17 = true from by decide +kernel]
    generalize hX : forF _ _ _ _ _ = X
    let P2 : Nat → Env' → Sto → Prop := fun i ρ M' => M' = M1 ∧ ∃ x4 x5 x6, ρ = [some (.d (.list (ns.map .int))), some (.d (.int k)), some (.d (.int v)), some (.d (.list (everyD v))), x4, x5, x6]
    obtain ⟨ρ', M5, rfl, rfl, x4, x5, x6, rfl⟩ := inv_n hX P2 ⟨rfl, _, _, _, rfl⟩ (by
      rintro i x hx ρ M' ⟨rfl, x4, x5, x6, rfl⟩
      clear hX
      have hi : i < 17 := by
        have := (List.getElem?_eq_some_iff.mp hx).1
        simpa [rngD] using this
      obtain rfl : x = .int i := by
        have e : (rngD 0 17)[i]? = some (.int ((0 : Int) + i)) := by simp [rngD, hi]
        rw [Int.zero_add] at e
        exact Option.some.inj (hx.symm.trans e)
      clear hx
      obtain ⟨x, ex, hx1⟩ := every_at (n := v) hi
      have ea : L2.atI (everyD v) (i : Int) = some (.dict (exk i x)) := atN ex
      simp [ea, isxK_exk, is_spec, show exSub i 17 = true from by simp [exSub], show exSub i 18 = true from by simp [exSub]]
      rw [show rngD 0 17 = (List.range 17).map fun j : Nat => PyData.int j from by simp [rngD], lc_map (enc := fun j : Nat => PyData.int j) (h := fun j : Nat => .bool (decide ((j : Int) = (i : Int)))) _ fun j _ => by simp, lcOk (n := 17) (by simp) (by decide)]
      rw [blD_eq hi]
      have eb := eqC_bl ((List.range 17).map fun j : Nat => decide ((j : Int) = (i : Int)))
      rw [List.map_map] at eb
      simp only [Function.comp_def] at eb
      simp [eb]
      by_cases h16 : i < 16
      · have h16' : (i : Int) < 16 := by omega
        obtain rfl := hx1 h16
        simp [h16', one1, strxK_exk, show eqC (.str (Str.ofString "one")) (.str (Str.ofString "one")) = some true from eqC_one]
        exact ⟨_, _, rfl, rfl, _, _, _, rfl⟩
      · have h16' : ¬ (i : Int) < 16 := by omega
        simp [h16']
        exact ⟨_, _, rfl, rfl, _, _, _, rfl⟩)
    clear hX
    simp [show L2.atI (everyD v) 16 = some (.dict (exk 16 (.int v))) from rfl, limK_exk]
    exact ⟨_, _, rfl, _, _, _, _, _, _, rfl⟩)
  clear hX
  simp [u1K, excK_str, is_spec]
  rw [show repK (TV.own [PyData.bool false]) (TV.v (VV.d (PyData.int 17))) M2 = .ok (.own (List.replicate 17 [PyData.bool false]).flatten) M2 from repK_own [PyData.bool false] 17 (by decide) (by decide)]
  have e17 : eqC (.list (blD 17)) (.list (List.replicate 17 [PyData.bool false]).flatten) = some true := by decide +kernel
  revert e17
  generalize (List.replicate 17 [PyData.bool false]).flatten = z
  intro e17
  simp [e17]
end
end L18

namespace L18
open PySem Ev
def depth : Nat := 2
theorem plain : ∀ ns : List Int, ns.length ≤ 63 → (∀ z ∈ ns, Builtin.Int.intBits z ≤ 1048576) → ∃ fuel M, callS (cfD fds fuel depth) fuel f_law [.d (.list (ns.map .int))] [] = .ok (.v (.d (.bool true))) M := fun ns hl _ =>
  let ⟨M', e⟩ := law_spec (fuel := 2 ^ 2000) (d := 0) (by decide) ns hl
  ⟨2 ^ 2000, M', e⟩
end L18

/-! L18: the law holds. -/
namespace L18
open PySem PySem.Spec PyProof.Rows L2 Ev
theorem at_head (w : World) (mg : PySem.Str → Option Value) (fa : Addr) (h : Heap) (K : PySem.W.Frag) (X : K.In h) (c : He.SaysX (faOf G (rows ++ spec) cs) ((rows ++ spec).map dOf) [] (tfOf rows) (exB G rows prs) w h K) (Gm : h.Ns mainGlobals mg) (hfa : mg ("law" : PySem.Str) = some (.ref fa)) :
    LamX.LawAtS PySem.Challenge.rw_onlyterms_k18_error_classes w K (L2N.CX PySem.Challenge.rw_onlyterms_k18_error_classes.prog w) (4 * (depth + 1) + 2) 63 "_law_script" mg fa h := by
  have em := c.more
  unfold exB at em
  simp only [Bool.and_eq_true, List.all_eq_true, Bool.or_eq_true, Bool.not_eq_true', decide_eq_true_eq] at em
  refine law_ok (l := PySem.Challenge.rw_onlyterms_k18_error_classes) (n := 4) (rL := r_law) X Gm c rfl hfs rfl rfl rfl rfl (by intro r hr; have z := List.all_eq_true.mp (show rows.all (fun r => r.cls.isNone) = true by decide +kernel) r hr; exact Option.isNone_iff_eq_none.mp z) chk_rows hbs em.1.1 (by decide +kernel) (fun r hr ht => (em.1.2 r hr).resolve_left (by rw [ht]; exact Bool.noConfusion)) (wz := False) (fun r hr hn ht => (by have z := List.all_eq_true.mp (show rows.all (fun r => r.nst.isSome || !r.fd.tab) = true by decide +kernel) r hr; rw [hn, ht] at z; cases z)) (fun z => z.elim) (fun _ base => obs_ok (rI := rI) (NI := []) X Gm c rfl (fun _ => rfl) (by decide +kernel) (by decide +kernel) (by decide +kernel) (by decide +kernel) (by simp) rfl rfl hbI rfl (by decide +kernel) (by decide +kernel) (by decide +kernel)) hfa plain
end L18
open PySem PySem.W PySem.Calls PyProof.Rows
set_option maxRecDepth 100000 in
set_option maxHeartbeats 0 in
theorem PySem.Challenge.cw_onlyterms_k18_error_classes_holds : PySem.Challenge.rw_onlyterms_k18_error_classes.Holds := by
  w_on; o_law
  refine HandSHeadRun.head_any (r := OpenLaw.row PySem.Challenge.rw_onlyterms_k18_error_classes) (q := view (OpenLaw.row PySem.Challenge.rw_onlyterms_k18_error_classes).prog [24]) (H := L18.hk) (ob := L18.ob) (M := 20000) (loose := L18.loose) (d := HandSHeadRun.topDef (OpenLaw.row PySem.Challenge.rw_onlyterms_k18_error_classes).prog 24) (kwd := []) L18.ob_eq
    (by kernel_rfl) (fun s => by kernel_rfl) L18.run (by kernel_rfl) (by kernel_rfl) (by kernel_rfl) (by rfl) (by first | assumption | decide +kernel) (by decide +kernel) ⟨rfl, rfl, rfl, rfl, rfl, by decide +kernel⟩ ?hw ?hc
  case hw => w_witness2
  case hc =>
    refine LamX.walk_ofTsE (l := PySem.Challenge.rw_onlyterms_k18_error_classes) (n := 63) (k := 4 * (L18.depth + 1) + 2) (x := "_law_script") (CX := fun w => L2N.CX PySem.Challenge.rw_onlyterms_k18_error_classes.prog w) rfl (by decide) (by kernel_rfl) ⟨rfl, by decide +kernel, by decide +kernel⟩ ?F (fun w H s e s' z => ?z)
    case F =>
      intro w mg fa h Y Gm hmg0
      obtain ⟨K, KX, c⟩ := Y
      have hmg : mg ("law" : PySem.Str) = some (.ref fa) := by
        have e : (HandSHeadRun.topDef (OpenLaw.row PySem.Challenge.rw_onlyterms_k18_error_classes).prog 24).name = ("law" : PySem.Str) := by kernel_rfl
        rw [← e]
        exact hmg0
      exact ⟨K, KX, L18.at_head w mg fa h K KX c Gm hmg⟩
    case z =>
      obtain ⟨_, _, _, _, _, _, _, _, _, _, _, _, z⟩ := z
      exact z.elim

