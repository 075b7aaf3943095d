import PyProof.Rows.All
import Wide.All
import OpenK.AllK
import Wide.FinOn
import HandS.ForMost
import HandS.Deep
import KE.KDictKeyed
import KE.KeyNested
import KE.DataEq
import KE.DataCmp
import KE.Datum
import KE.DatumOrd
import KE.DatumMore
import KE.DatumMoreOrd
import KE.DataIsa
import KE.DataMinMax
import KE.SortData
import HandS.TupAny
import HandS.TupSets
import HandS.SetKeys
import KE.KDictSum
import KE.KDictCopyH
import KE.GoesDict
import KE.GoesEnum
import HandS.Style
import PyProof.DictRoads
import PyProof.DictRoadsH
import HandS.ReCall
import KE.KDictDisplayH
import HandS.Iter
import HandS.WideBits
import HandS.SortKw
import PyProof.Claim2Refuses
import PySem.Challenge.RW_partheir_k05_clashes
set_option Elab.async false
set_option linter.all false
set_option maxRecDepth 100000
set_option maxHeartbeats 4000000
/-! P1: what a value stands for (Rep), what a frame knows (AtF), expressions by data (DE, DW), the plain operations. -/
namespace PH
open PySem PySem.Spec L2

/-- all of F stands in H -/
def Sub (F H : Hp) : Prop := ∀ p o, F p = some o → H p = some o
theorem Sub.refl (F : Hp) : Sub F F := fun _ _ h => h
theorem Sub.trans {F G H : Hp} (a : Sub F G) (b : Sub G H) : Sub F H := fun p o h => b p o (a p o h)
theorem Sub.new {F : Hp} {p : Addr} {o : HO} (h : F p = none) : Sub F (upd F p o) := fun b u e => by
  rw [upd_ne (ne_of_none e h)]; exact e
theorem Sub.free {F H : Hp} (s : Sub F H) {p : Addr} (h : H p = none) : F p = none := by
  cases e : F p with
  | none => rfl
  | some o => rw [s p o e] at h; cases h
theorem Sub.upd2 {F H : Hp} {p : Addr} {o : HO} (s : Sub F H) : Sub (upd F p o) (upd H p o) := fun b u e => by
  by_cases hb : b = p
  · subst hb; rw [upd_same] at e ⊢; exact e
  · rw [upd_ne hb] at e ⊢; exact s b u e
/-- a change at an address that F has not -/
theorem Sub.mut {F H : Hp} {p : Addr} {o : HO} (s : Sub F H) (h : F p = none) : Sub F (upd H p o) := fun b u e => by
  rw [upd_ne (ne_of_none e h)]; exact s b u e

/-- the dict's object o: each entry a key, the key's value, the value -/
def DictOk (w : World) (a : Addr) (o : Obj) (xs : List (NestedKey × V × V)) : Prop :=
  (a == sysModules) = false ∧ xs.length ≤ sizeLine ∧ (xs.map (·.1)).Nodup ∧ (∀ x ∈ xs, x.1.depth ≤ 8) ∧ o.ExactDict ∧ ∃ es ep, o.data = .dict es ep ∧ Paired (fun (x : NestedKey × V × V) (e : DictEntry) => e.hash = x.1.hash w ∧ RelV x.2.1 e.key ∧ RelV x.2.2 e.val) xs es.toList
def DictO (w : World) (a : Addr) (o : Obj) (xs : List (NestedKey × V × V)) : HO := .ext fun h => h.get? a = some o ∧ DictOk w a o xs

/-- a key as an int or a text -/
def keyN : Key → NestedKey
  | .inl i => .num i
  | .inr x => .text x
theorem keyN_inj {a b : Key} (h : keyN a = keyN b) : a = b := by
  cases a <;> cases b <;> simp [keyN] at h <;> simp [h]

mutual
/-- the value v, read in F, is the data d -/
inductive Rep (P : Program) (w : World) (K : PySem.W.Frag) (F : Hp) : V → PyData → Prop
  | non : Rep P w K F .non .none
  | bl (b : Bool) : Rep P w K F (.bl b) (.bool b)
  | int (i : Int) : Rep P w K F (.int i) (.int i)
  | str (x : Str) : Rep P w K F (.str x) (.str x)
  | lst {a : Addr} {xs : List V} {ds : List PyData} : F a = some (.lst xs) → RepL P w K F xs ds → Rep P w K F (.ref a) (.list ds)
  | tup {a : Addr} {xs : List V} {ds : List PyData} : F a = some (.tup xs) → RepL P w K F xs ds → Rep P w K F (.ref a) (.tuple ds)
  | dct {a : Addr} {o : Obj} {xs : List (NestedKey × V × V)} {ds : List PyData} : F a = some (DictO w a o xs) → RepL P w K F (xs.map fun x => x.2.1) (xs.map fun x => x.1.data) → RepL P w K F (xs.map fun x => x.2.2) ds →
      Rep P w K F (.ref a) (.dict ((xs.map fun x => x.1.data).zip ds))
inductive RepL (P : Program) (w : World) (K : PySem.W.Frag) (F : Hp) : List V → List PyData → Prop
  | nil : RepL P w K F [] []
  | cons {v : V} {vs : List V} {d : PyData} {ds : List PyData} : Rep P w K F v d → RepL P w K F vs ds → RepL P w K F (v :: vs) (d :: ds)
end
section
variable {P : Program} {w : World} {K : PySem.W.Frag} {F F' H : Hp}
theorem rd_sub (s : Sub F F') {a : Addr} {u : HO} (h : Rd F a u) : Rd F' a u := by
  rcases h with h | ⟨o, h⟩
  · exact .inl (s a _ h)
  · exact .inr ⟨o, s a _ h⟩
theorem sqL_sub (s : Sub F F') {a : Addr} {xs : List V} (h : SqL K F a xs) : SqL K F' a xs := by
  rcases h with h | h
  · exact .inl (rd_sub s h)
  · exact .inr h
theorem sqT_sub (s : Sub F F') {a : Addr} {xs : List V} (h : SqT K F a xs) : SqT K F' a xs := by
  rcases h with h | h
  · exact .inl (rd_sub s h)
  · exact .inr h
mutual
theorem Rep.mono (s : Sub F F') : ∀ {v : V} {d : PyData}, Rep P w K F v d → Rep P w K F' v d
  | _, _, .non => .non
  | _, _, .bl b => .bl b
  | _, _, .int i => .int i
  | _, _, .str x => .str x
  | _, _, .lst h r => .lst (s _ _ h) (RepL.mono s r)
  | _, _, .tup h r => .tup (s _ _ h) (RepL.mono s r)
  | _, _, .dct h k r => .dct (s _ _ h) (RepL.mono s k) (RepL.mono s r)
theorem RepL.mono (s : Sub F F') : ∀ {vs : List V} {ds : List PyData}, RepL P w K F vs ds → RepL P w K F' vs ds
  | _, _, .nil => .nil
  | _, _, .cons h r => .cons (Rep.mono s h) (RepL.mono s r)
end
theorem RepL.length : ∀ {vs : List V} {ds : List PyData}, RepL P w K F vs ds → vs.length = ds.length
  | _, _, .nil => rfl
  | _, _, .cons _ r => by simp [RepL.length r]
theorem RepL.append : ∀ {vs ws : List V} {ds es : List PyData}, RepL P w K F vs ds → RepL P w K F ws es → RepL P w K F (vs ++ ws) (ds ++ es)
  | _, _, _, _, .nil, h => h
  | _, _, _, _, .cons a r, h => .cons a (RepL.append r h)
theorem RepL.get : ∀ {vs : List V} {ds : List PyData} {j : Nat} {d : PyData}, RepL P w K F vs ds → ds[j]? = some d → ∃ v, vs[j]? = some v ∧ Rep P w K F v d
  | _, _, j, _, .nil, h => by simp at h
  | _, _, 0, _, .cons a r, h => by simp at h; subst h; exact ⟨_, rfl, a⟩
  | _, _, j + 1, _, .cons a r, h => by
    obtain ⟨v, h1, h2⟩ := RepL.get (j := j) r (by simpa using h)
    exact ⟨v, by simpa using h1, h2⟩
theorem RepL.get' : ∀ {vs : List V} {ds : List PyData} {j : Nat} {v : V}, RepL P w K F vs ds → vs[j]? = some v → ∃ d, ds[j]? = some d ∧ Rep P w K F v d
  | _, _, j, _, .nil, h => by simp at h
  | _, _, 0, _, .cons a r, h => by simp at h; subst h; exact ⟨_, rfl, a⟩
  | _, _, j + 1, _, .cons a r, h => by
    obtain ⟨v, h1, h2⟩ := RepL.get' (j := j) r (by simpa using h)
    exact ⟨v, by simpa using h1, h2⟩
theorem RepL.take : ∀ {vs : List V} {ds : List PyData} (n : Nat), RepL P w K F vs ds → RepL P w K F (vs.take n) (ds.take n)
  | _, _, 0, _ => by simpa using RepL.nil
  | _, _, _ + 1, .nil => by simpa using RepL.nil
  | _, _, n + 1, .cons a r => by simpa using RepL.cons a (RepL.take n r)
theorem RepL.drop : ∀ {vs : List V} {ds : List PyData} (n : Nat), RepL P w K F vs ds → RepL P w K F (vs.drop n) (ds.drop n)
  | _, _, 0, r => by simpa using r
  | _, _, _ + 1, .nil => by simpa using RepL.nil
  | _, _, n + 1, .cons a r => by simpa using RepL.drop n r
theorem RepL.set : ∀ {vs : List V} {ds : List PyData} (n : Nat) {v : V} {d : PyData}, RepL P w K F vs ds → Rep P w K F v d → RepL P w K F (vs.set n v) (ds.set n d)
  | _, _, _, _, _, .nil, _ => .nil
  | _, _, 0, _, _, .cons a r, h => .cons h r
  | _, _, n + 1, _, _, .cons a r, h => .cons a (RepL.set n r h)
theorem RepL.reverse {vs : List V} {ds : List PyData} (h : RepL P w K F vs ds) : RepL P w K F vs.reverse ds.reverse := by
  induction vs generalizing ds with
  | nil => cases h; exact .nil
  | cons v vs ih =>
    cases h with
    | cons a r =>
      rw [List.reverse_cons, List.reverse_cons]
      exact (ih r).append (.cons a .nil)
theorem RepL.ints : ∀ (ns : List Int), RepL P w K F (ns.map V.int) (ns.map PyData.int)
  | [] => .nil
  | n :: ns => .cons (.int n) (RepL.ints ns)
theorem RepL.of_ints : ∀ {vs : List V} {ns : List Int}, RepL P w K F vs (ns.map PyData.int) → vs = ns.map V.int
  | _, [], h => by cases h; rfl
  | _, n :: ns, h => by
    cases h with
    | cons a r => cases a; rw [RepL.of_ints r]; rfl
theorem RepL.of_strs : ∀ {vs : List V} {ns : List Str}, RepL P w K F vs (ns.map PyData.str) → vs = ns.map V.str
  | _, [], h => by cases h; rfl
  | _, n :: ns, h => by
    cases h with
    | cons a r => cases a; rw [RepL.of_strs r]; rfl
theorem RepL.strs : ∀ (ns : List Str), RepL P w K F (ns.map V.str) (ns.map PyData.str)
  | [] => .nil
  | n :: ns => .cons (.str n) (RepL.strs ns)
theorem RepL.of_bools : ∀ {vs : List V} {ns : List Bool}, RepL P w K F vs (ns.map PyData.bool) → vs = ns.map V.bl
  | _, [], h => by cases h; rfl
  | _, n :: ns, h => by
    cases h with
    | cons a r => cases a; rw [RepL.of_bools r]; rfl
/- as HandS says it, where no dict is within -/
mutual
theorem Rep.dp : ∀ {d : PyData} {v : V}, d.plain = true → Rep P w K F v d → Dp K F v d
  | _, _, _, .non => .non
  | _, _, _, .bl b => .bl b
  | _, _, _, .int i => .int i
  | _, _, _, .str x => .str x
  | _, _, c, .lst h r => .lst (SqL.of h) (RepL.dp (by simpa [PyData.plain] using c) r)
  | _, _, c, .tup h r => .tup (SqT.of h) (RepL.dp (by simpa [PyData.plain] using c) r)
  | _, _, c, .dct h k r => by simp [PyData.plain] at c
theorem RepL.dp : ∀ {ds : List PyData} {vs : List V}, PyData.plainAll ds = true → RepL P w K F vs ds → DpAll K F vs ds
  | _, _, _, .nil => .nil
  | _, _, c, .cons h r => .cons (Rep.dp (by simp [PyData.plainAll] at c; exact c.1) h) (RepL.dp (by simp [PyData.plainAll] at c; exact c.2) r)
end
end

/-- what is known of a slot -/
inductive Bd where
  /-- nothing -/
  | un
  /-- it holds the data d, that no one changes -/
  | fz (d : PyData)
  /-- a list of its own, with these items -/
  | ol (ds : List PyData)
  /-- a dict of its own -/
  | od (kvs : List (NestedKey × PyData))
  /-- this very value -/
  | rf (v : V)
  /-- the script -/
  | sc (ns : List Int)
  /-- this very value; what stands for good tells more of it -/
  | ob (v : V) (φ : Hp → Prop)

/-- a dict at a, its entries by data -/
def DictIn (P : Program) (w : World) (K : PySem.W.Frag) (F H : Hp) (a : Addr) (kvs : List (NestedKey × PyData)) : Prop :=
  ∃ (o : Obj) (xs : List (NestedKey × V × V)) (ds : List PyData), H a = some (DictO w a o xs) ∧ RepL P w K F (xs.map fun x => x.2.1) (xs.map fun x => x.1.data) ∧ RepL P w K F (xs.map fun x => x.2.2) ds ∧ kvs = (xs.map (·.1)).zip ds
def SlotOk (P : Program) (w : World) (K : PySem.W.Frag) (H0 F : Hp) (σ : St) (H : Hp) (i : Nat) : Bd → Prop
  | .un => True
  | .fz d => ∃ v, σ[i]? = some (some v) ∧ Rep P w K F v d
  | .ol ds => ∃ a vs, σ[i]? = some (some (.ref a)) ∧ F a = none ∧ H0 a = none ∧ H a = some (.lst vs) ∧ RepL P w K F vs ds
  | .od kvs => ∃ a, σ[i]? = some (some (.ref a)) ∧ F a = none ∧ H0 a = none ∧ DictIn P w K F H a kvs
  | .rf v => σ[i]? = some (some v)
  | .ob v φ => σ[i]? = some (some v) ∧ ∃ F1, Sub F1 F ∧ φ F1
  | .sc ns => ∃ a, σ[i]? = some (some (.ref a)) ∧ SqL K F a (ns.map V.int)
def Bd.own : Bd → Bool
  | .ol _ => true
  | .od _ => true
  | _ => false
/-- the frame's slots against the heap; F: what stands for good; F0, H0: the same at the entry -/
structure AtF (P : Program) (w : World) (K : PySem.W.Frag) (F0 H0 : Hp) (Γ : List Bd) (F : Hp) (σ : St) (H : Hp) : Prop where
  len : σ.length = Γ.length
  f0 : Sub F0 F
  h0 : Sub H0 H
  fh : Sub F H
  fr : ∀ p o, F p = some o → F0 p = some o ∨ H0 p = none
  sl : ∀ (i : Nat) (b : Bd), Γ[i]? = some b → SlotOk P w K H0 F σ H i b
  inj : ∀ (i j : Nat) (b c : Bd) (a : Addr), Γ[i]? = some b → Γ[j]? = some c → b.own = true → c.own = true → σ[i]? = some (some (.ref a)) → σ[j]? = some (some (.ref a)) → i = j

section
variable {P : Program} {w : World} {K : PySem.W.Frag} {F0 H0 F F' H H' : Hp} {Γ : List Bd} {σ : St}
theorem DictIn.mono {a : Addr} {kvs : List (NestedKey × PyData)} (h : DictIn P w K F H a kvs) (s : Sub F F') (e : H' a = H a) : DictIn P w K F' H' a kvs := by
  obtain ⟨o, xs, ds, h1, h2, h3, h4⟩ := h
  exact ⟨o, xs, ds, e.trans h1, h2.mono s, h3.mono s, h4⟩
theorem DictIn.obj {a : Addr} {kvs : List (NestedKey × PyData)} (h : DictIn P w K F H a kvs) : ∃ o, H a = some o := by
  obtain ⟨o, xs, ds, h1, _⟩ := h
  exact ⟨_, h1⟩
/-- a slot's own address stands in the heap, not in F -/
theorem SlotOk.addr {i : Nat} {b : Bd} (h : SlotOk P w K H0 F σ H i b) (hb : b.own = true) : ∃ a o, σ[i]? = some (some (.ref a)) ∧ F a = none ∧ H0 a = none ∧ H a = some o := by
  cases b with
  | ol ds => obtain ⟨a, vs, h1, h2, h3, h4, _⟩ := h; exact ⟨a, _, h1, h2, h3, h4⟩
  | od kvs => obtain ⟨a, h1, h2, h3, h4⟩ := h; obtain ⟨o, e⟩ := h4.obj; exact ⟨a, o, h1, h2, h3, e⟩
  | un => cases hb
  | fz d => cases hb
  | rf v => cases hb
  | ob v φ => cases hb
  | sc ns => cases hb
/-- F and the heap grow, what is there stays -/
theorem SlotOk.grow {i : Nat} {b : Bd} (h : SlotOk P w K H0 F σ H i b) (s : Sub F F') (t : Sub H H') (n : ∀ p o, F' p = some o → F p = some o ∨ H p = none) : SlotOk P w K H0 F' σ H' i b := by
  cases b with
  | un => trivial
  | fz d => obtain ⟨v, h1, h2⟩ := h; exact ⟨v, h1, h2.mono s⟩
  | rf v => exact h
  | ob v φ => obtain ⟨h1, F1, h2, h3⟩ := h; exact ⟨h1, F1, h2.trans s, h3⟩
  | sc ns => obtain ⟨a, h1, h2⟩ := h; exact ⟨a, h1, sqL_sub s h2⟩
  | ol ds =>
    obtain ⟨a, vs, h1, h2, h3, h4, h5⟩ := h
    refine ⟨a, vs, h1, ?_, h3, t _ _ h4, h5.mono s⟩
    cases e : F' a with
    | none => rfl
    | some o =>
      rcases n a o e with z | z
      · rw [h2] at z; cases z
      · rw [h4] at z; cases z
  | od kvs =>
    obtain ⟨a, h1, h2, h3, h4⟩ := h
    obtain ⟨o, ho⟩ := h4.obj
    refine ⟨a, h1, ?_, h3, h4.mono s ((t _ _ ho).trans ho.symm)⟩
    cases e : F' a with
    | none => rfl
    | some o' =>
      rcases n a o' e with z | z
      · rw [h2] at z; cases z
      · rw [ho] at z; cases z
theorem AtF.grow (A : AtF P w K F0 H0 Γ F σ H) (s : Sub F F') (t : Sub H H') (fh : Sub F' H') (n : ∀ p o, F' p = some o → F p = some o ∨ H p = none) : AtF P w K F0 H0 Γ F' σ H' where
  len := A.len
  f0 := A.f0.trans s
  h0 := A.h0.trans t
  fh := fh
  fr := fun p o e => by
    rcases n p o e with z | z
    · exact A.fr p o z
    · exact .inr (A.h0.free z)
  sl := fun i b e => (A.sl i b e).grow s t n
  inj := A.inj
/-- a new object laid, for good -/
theorem AtF.lay {p : Addr} {o : HO} (A : AtF P w K F0 H0 Γ F σ H) (h : H p = none) : AtF P w K F0 H0 Γ (upd F p o) σ (upd H p o) :=
  A.grow (Sub.new (A.fh.free h)) (Sub.new h) A.fh.upd2 fun b u e => by
    by_cases hb : b = p
    · subst hb; exact .inr h
    · rw [upd_ne hb] at e; exact .inl e
/-- a new object laid, not yet for good -/
theorem AtF.lay0 {p : Addr} {o : HO} (A : AtF P w K F0 H0 Γ F σ H) (h : H p = none) : AtF P w K F0 H0 Γ F σ (upd H p o) :=
  A.grow (Sub.refl F) (Sub.new h) (A.fh.mut (A.fh.free h)) fun b u e => .inl e
/-- what is laid is made for good -/
theorem AtF.keep {p : Addr} {o : HO} (A : AtF P w K F0 H0 Γ F σ H) (hp : H p = some o) (hf : F p = none) (h0 : H0 p = none) (no : ∀ (i : Nat) (b : Bd), Γ[i]? = some b → b.own = true → σ[i]? ≠ some (some (.ref p))) : AtF P w K F0 H0 Γ (upd F p o) σ H where
  len := A.len
  f0 := A.f0.trans (Sub.new hf)
  h0 := A.h0
  fh := fun b u e => by
    by_cases hb : b = p
    · subst hb; rw [upd_same] at e; cases e; exact hp
    · rw [upd_ne hb] at e; exact A.fh b u e
  fr := fun b u e => by
    by_cases hb : b = p
    · subst hb; exact .inr h0
    · rw [upd_ne hb] at e; exact A.fr b u e
  sl := fun i b e => by
    have h := A.sl i b e
    have nb := no i b e
    cases b with
    | un => trivial
    | rf v => exact h
    | ob v φ => obtain ⟨h1, F1, h2, h3⟩ := h; exact ⟨h1, F1, h2.trans (Sub.new hf), h3⟩
    | sc ns => obtain ⟨a, h1, h2⟩ := h; exact ⟨a, h1, sqL_sub (Sub.new hf) h2⟩
    | fz d => obtain ⟨v, h1, h2⟩ := h; exact ⟨v, h1, h2.mono (Sub.new hf)⟩
    | ol ds =>
      obtain ⟨a, vs, h1, h2, h3, h4, h5⟩ := h
      have ne : a ≠ p := fun z => nb rfl (z ▸ h1)
      exact ⟨a, vs, h1, by rw [upd_ne ne]; exact h2, h3, h4, h5.mono (Sub.new hf)⟩
    | od kvs =>
      obtain ⟨a, h1, h2, h3, h4⟩ := h
      have ne : a ≠ p := fun z => nb rfl (z ▸ h1)
      exact ⟨a, h1, by rw [upd_ne ne]; exact h2, h3, h4.mono (Sub.new hf) rfl⟩
  inj := A.inj
/-- a slot is given a value -/
theorem getSet {α : Type} {l : List α} {i j : Nat} {x y : α} (h : (l.set i x)[j]? = some y) : (j = i ∧ y = x) ∨ (j ≠ i ∧ l[j]? = some y) := by
  by_cases e : j = i
  · subst e
    rw [List.getElem?_set_self' ] at h
    cases hl : l[j]? with
    | none => rw [hl] at h; cases h
    | some z => rw [hl] at h; simp at h; exact .inl ⟨rfl, h.symm⟩
  · rw [List.getElem?_set_ne (Ne.symm e)] at h; exact .inr ⟨e, h⟩
theorem SlotOk.other {i j : Nat} {b : Bd} {v : Option V} (h : SlotOk P w K H0 F σ H i b) (ne : i ≠ j) : SlotOk P w K H0 F (σ.set j v) H i b := by
  have e : (σ.set j v)[i]? = σ[i]? := List.getElem?_set_ne (Ne.symm ne)
  cases b with
  | un => trivial
  | fz d => obtain ⟨u, h1, h2⟩ := h; exact ⟨u, e.trans h1, h2⟩
  | rf u => exact e.trans h
  | ob u φ => exact ⟨e.trans h.1, h.2⟩
  | sc ns => obtain ⟨a, h1, h2⟩ := h; exact ⟨a, e.trans h1, h2⟩
  | ol ds => obtain ⟨a, vs, h1, h2⟩ := h; exact ⟨a, vs, e.trans h1, h2⟩
  | od kvs => obtain ⟨a, h1, h2⟩ := h; exact ⟨a, e.trans h1, h2⟩
theorem AtF.setB {j : Nat} {v : Option V} {b : Bd} (A : AtF P w K F0 H0 Γ F σ H) (hb : j < Γ.length → SlotOk P w K H0 F (σ.set j v) H j b)
    (no : ∀ (a : Addr), b.own = true → v = some (.ref a) → ∀ (i : Nat) (c : Bd), i ≠ j → Γ[i]? = some c → c.own = true → σ[i]? ≠ some (some (.ref a))) : AtF P w K F0 H0 (Γ.set j b) F (σ.set j v) H where
  len := by simp [A.len]
  f0 := A.f0
  h0 := A.h0
  fh := A.fh
  fr := A.fr
  sl := fun i c e => by
    rcases getSet e with ⟨rfl, rfl⟩ | ⟨ne, e⟩
    · exact hb (by have := (List.getElem?_eq_some_iff.mp e).1; simpa using this)
    · exact (A.sl i c e).other ne
  inj := fun i k c d a ei ek oc od hi hk => by
    rcases getSet ei with ⟨hi1, hc1⟩ | ⟨ni, ei1⟩
    · rcases getSet ek with ⟨hk1, hd1⟩ | ⟨nk, ek1⟩
      · exact hi1.trans hk1.symm
      · exfalso
        rcases getSet hi with ⟨_, z⟩ | ⟨z, _⟩
        · rcases getSet hk with ⟨z', _⟩ | ⟨_, hk1⟩
          · exact nk z'
          · exact no a (hc1 ▸ oc) z.symm k d nk ek1 od hk1
        · exact z hi1
    · rcases getSet hi with ⟨z, _⟩ | ⟨_, hi1⟩
      · exact absurd z ni
      · rcases getSet ek with ⟨hk1, hd1⟩ | ⟨nk, ek1⟩
        · exfalso
          rcases getSet hk with ⟨_, z⟩ | ⟨z, _⟩
          · exact no a (hd1 ▸ od) z.symm i c ni ei1 oc hi1
          · exact z hk1
        · rcases getSet hk with ⟨z, _⟩ | ⟨_, hk1⟩
          · exact absurd z nk
          · exact A.inj i k c d a ei1 ek1 oc od hi1 hk1
theorem AtF.setF {j : Nat} {v : V} {d : PyData} (A : AtF P w K F0 H0 Γ F σ H) (r : Rep P w K F v d) : AtF P w K F0 H0 (Γ.set j (.fz d)) F (σ.set j (some v)) H :=
  A.setB (fun hj => ⟨v, List.getElem?_set_self (by rw [A.len]; exact hj), r⟩) (fun a z => nomatch z)
theorem AtF.setR {j : Nat} {v : V} (A : AtF P w K F0 H0 Γ F σ H) : AtF P w K F0 H0 (Γ.set j (.rf v)) F (σ.set j (some v)) H :=
  A.setB (fun hj => List.getElem?_set_self (by rw [A.len]; exact hj)) (fun a z => nomatch z)
theorem AtF.setU {j : Nat} {v : Option V} (A : AtF P w K F0 H0 Γ F σ H) : AtF P w K F0 H0 (Γ.set j .un) F (σ.set j v) H :=
  A.setB (fun hj => trivial) (fun a z => nomatch z)
/-- an address that no slot owns -/
def Loose (Γ : List Bd) (σ : St) (a : Addr) : Prop := ∀ (i : Nat) (c : Bd), Γ[i]? = some c → c.own = true → σ[i]? ≠ some (some (.ref a))
theorem AtF.loose (A : AtF P w K F0 H0 Γ F σ H) {a : Addr} (h : H a = none) : Loose Γ σ a := fun i c e oc z => by
  obtain ⟨b, o, h1, _, _, h4⟩ := (A.sl i c e).addr oc
  rw [h1] at z; cases z; rw [h] at h4; cases h4
theorem AtF.setL {j : Nat} {a : Addr} {vs : List V} {ds : List PyData} (A : AtF P w K F0 H0 Γ F σ H) (hf : F a = none) (h0 : H0 a = none) (ha : H a = some (.lst vs)) (r : RepL P w K F vs ds) (no : Loose Γ σ a) :
    AtF P w K F0 H0 (Γ.set j (.ol ds)) F (σ.set j (some (.ref a))) H :=
  A.setB (fun hj => ⟨a, vs, List.getElem?_set_self (by rw [A.len]; exact hj), hf, h0, ha, r⟩) (fun b _ z i c ne e oc => by cases z; exact no i c e oc)
theorem AtF.setD {j : Nat} {a : Addr} {kvs : List (NestedKey × PyData)} (A : AtF P w K F0 H0 Γ F σ H) (hf : F a = none) (h0 : H0 a = none) (ha : DictIn P w K F H a kvs) (no : Loose Γ σ a) :
    AtF P w K F0 H0 (Γ.set j (.od kvs)) F (σ.set j (some (.ref a))) H :=
  A.setB (fun hj => ⟨a, List.getElem?_set_self (by rw [A.len]; exact hj), hf, h0, ha⟩) (fun b _ z i c ne e oc => by cases z; exact no i c e oc)
theorem set_id {α : Type} {l : List α} {i : Nat} {x : α} (h : l[i]? = some x) : l.set i x = l := by
  obtain ⟨h1, h2⟩ := List.getElem?_eq_some_iff.mp h
  subst h2; exact List.set_getElem_self h1
/-- the list that the slot j owns is changed -/
theorem AtF.chL {j : Nat} {a : Addr} {vs : List V} {ds : List PyData} {b : Bd} (A : AtF P w K F0 H0 Γ F σ H) (hb : Γ[j]? = some b) (ob : b.own = true) (ha : σ[j]? = some (some (.ref a))) (r : RepL P w K F vs ds) :
    AtF P w K F0 H0 (Γ.set j (.ol ds)) F σ (upd H a (.lst vs)) where
  len := by simp [A.len]
  f0 := A.f0
  h0 := A.h0.mut (by obtain ⟨a', o, h1, _, h3, _⟩ := (A.sl j b hb).addr ob; rw [ha] at h1; cases h1; exact h3)
  fh := A.fh.mut (by obtain ⟨a', o, h1, h2, _, _⟩ := (A.sl j b hb).addr ob; rw [ha] at h1; cases h1; exact h2)
  fr := A.fr
  sl := fun i c e => by
    obtain ⟨a', o, h1, h2, h3, h4⟩ := (A.sl j b hb).addr ob
    rw [ha] at h1; cases h1
    rcases getSet e with ⟨rfl, rfl⟩ | ⟨ne, e⟩
    · exact ⟨a, vs, ha, h2, h3, upd_same, r⟩
    · have h := A.sl i c e
      cases c with
      | un => trivial
      | rf v => exact h
      | ob v φ => exact h
      | sc ns => exact h
      | fz d => exact h
      | ol ds' =>
        obtain ⟨a', vs', g1, g2, g3, g4, g5⟩ := h
        have n : a' ≠ a := fun z => ne (A.inj i j _ _ a e hb rfl ob (z ▸ g1) ha)
        exact ⟨a', vs', g1, g2, g3, by rw [upd_ne n]; exact g4, g5⟩
      | od kvs =>
        obtain ⟨a', g1, g2, g3, g4⟩ := h
        have n : a' ≠ a := fun z => ne (A.inj i j _ _ a e hb rfl ob (z ▸ g1) ha)
        exact ⟨a', g1, g2, g3, g4.mono (Sub.refl F) (upd_ne n)⟩
  inj := fun i k c d a' ei ek oc od hi hk => by
    have own : ∀ {i : Nat} {c : Bd}, (Γ.set j (.ol ds))[i]? = some c → c.own = true → ∃ c', Γ[i]? = some c' ∧ c'.own = true := fun {i c} e oc => by
      rcases getSet e with ⟨rfl, rfl⟩ | ⟨ne, e⟩
      · exact ⟨b, hb, ob⟩
      · exact ⟨c, e, oc⟩
    obtain ⟨c', e1, o1⟩ := own ei oc
    obtain ⟨d', e2, o2⟩ := own ek od
    exact A.inj i k c' d' a' e1 e2 o1 o2 hi hk
/-- the dict that the slot j owns is changed -/
theorem AtF.chD {j : Nat} {a : Addr} {kvs : List (NestedKey × PyData)} {b : Bd} {o : HO} (A : AtF P w K F0 H0 Γ F σ H) (hb : Γ[j]? = some b) (ob : b.own = true) (ha : σ[j]? = some (some (.ref a))) (r : DictIn P w K F (upd H a o) a kvs) :
    AtF P w K F0 H0 (Γ.set j (.od kvs)) F σ (upd H a o) where
  len := by simp [A.len]
  f0 := A.f0
  h0 := A.h0.mut (by obtain ⟨a', o, h1, _, h3, _⟩ := (A.sl j b hb).addr ob; rw [ha] at h1; cases h1; exact h3)
  fh := A.fh.mut (by obtain ⟨a', o, h1, h2, _, _⟩ := (A.sl j b hb).addr ob; rw [ha] at h1; cases h1; exact h2)
  fr := A.fr
  sl := fun i c e => by
    obtain ⟨a', o', h1, h2, h3, h4⟩ := (A.sl j b hb).addr ob
    rw [ha] at h1; cases h1
    rcases getSet e with ⟨rfl, rfl⟩ | ⟨ne, e⟩
    · exact ⟨a, ha, h2, h3, r⟩
    · have h := A.sl i c e
      cases c with
      | un => trivial
      | rf v => exact h
      | ob v φ => exact h
      | sc ns => exact h
      | fz d => exact h
      | ol ds' =>
        obtain ⟨a', vs', g1, g2, g3, g4, g5⟩ := h
        have n : a' ≠ a := fun z => ne (A.inj i j _ _ a e hb rfl ob (z ▸ g1) ha)
        exact ⟨a', vs', g1, g2, g3, by rw [upd_ne n]; exact g4, g5⟩
      | od kvs =>
        obtain ⟨a', g1, g2, g3, g4⟩ := h
        have n : a' ≠ a := fun z => ne (A.inj i j _ _ a e hb rfl ob (z ▸ g1) ha)
        exact ⟨a', g1, g2, g3, g4.mono (Sub.refl F) (upd_ne n)⟩
  inj := fun i k c d a' ei ek oc od hi hk => by
    have own : ∀ {i : Nat} {c : Bd}, (Γ.set j (.od kvs))[i]? = some c → c.own = true → ∃ c', Γ[i]? = some c' ∧ c'.own = true := fun {i c} e oc => by
      rcases getSet e with ⟨rfl, rfl⟩ | ⟨ne, e⟩
      · exact ⟨b, hb, ob⟩
      · exact ⟨c, e, oc⟩
    obtain ⟨c', e1, o1⟩ := own ei oc
    obtain ⟨d', e2, o2⟩ := own ek od
    exact A.inj i k c' d' a' e1 e2 o1 o2 hi hk
end
end PH

set_option Elab.async false
set_option linter.all false
set_option maxRecDepth 100000
set_option maxHeartbeats 4000000
/-! P2: the judgements by data, and what goes over to HandS's. -/
namespace PH
open PySem PySem.Spec L2

/-- the entry's heaps -/
structure Bs where
  F0 : Hp
  H0 : Hp
abbrev At (X : Cx) (B : Bs) (Γ : List Bd) (F : Hp) (σ : St) (H : Hp) : Prop := AtF X.prog X.w X.K B.F0 B.H0 Γ F σ H
abbrev Rp (X : Cx) (F : Hp) (v : V) (d : PyData) : Prop := Rep X.prog X.w X.K F v d
abbrev RpL (X : Cx) (F : Hp) (vs : List V) (ds : List PyData) : Prop := RepL X.prog X.w X.K F vs ds

/-! ### readings by data -/
def tD (X : Cx) (B : Bs) (Γ : List Bd) (d : PyData) : TE := fun σ H Q => ∃ F, At X B Γ F σ H ∧ ∀ v F' H', Sub F F' → Sub H H' → At X B Γ F' σ H' → Rp X F' v d → Q v H'
/-- a value that is d now -/
def tW (X : Cx) (B : Bs) (Γ : List Bd) (d : PyData) : TE := fun σ H Q => ∃ F, At X B Γ F σ H ∧ ∀ v F' H', Sub F F' → Sub H H' → At X B Γ F' σ H' → Rp X H' v d → Q v H'
/-- a list that stands now, its items for good -/
def tB (X : Cx) (B : Bs) (Γ : List Bd) (ds : List PyData) : TE := fun σ H Q => ∃ F, At X B Γ F σ H ∧ ∀ a vs F' H', Sub F F' → Sub H H' → At X B Γ F' σ H' → H' a = some (.lst vs) → RpL X F' vs ds → Q (.ref a) H'
/-- a new list of one's own -/
def tL (X : Cx) (B : Bs) (Γ : List Bd) (ds : List PyData) : TE := fun σ H Q => ∃ F, At X B Γ F σ H ∧ ∀ p vs F' H', Sub F F' → Sub H H' → At X B Γ F' σ H' → F' p = none → B.H0 p = none → H' p = some (.lst vs) → RpL X F' vs ds → Loose Γ σ p → Q (.ref p) H'
/-- a dict that stands now -/
def tE (X : Cx) (B : Bs) (Γ : List Bd) (kvs : List (NestedKey × PyData)) : TE := fun σ H Q => ∃ F, At X B Γ F σ H ∧ ∀ a F' H', Sub F F' → Sub H H' → At X B Γ F' σ H' → DictIn X.prog X.w X.K F' H' a kvs → Q (.ref a) H'
/-- a new dict of one's own -/
def tM (X : Cx) (B : Bs) (Γ : List Bd) (kvs : List (NestedKey × PyData)) : TE := fun σ H Q => ∃ F, At X B Γ F σ H ∧ ∀ p F' H', Sub F F' → Sub H H' → At X B Γ F' σ H' → F' p = none → B.H0 p = none → DictIn X.prog X.w X.K F' H' p kvs → Loose Γ σ p → Q (.ref p) H'
/-- this very value -/
def tV (X : Cx) (B : Bs) (Γ : List Bd) (v : V) : TE := fun σ H Q => ∃ F, At X B Γ F σ H ∧ ∀ F' H', Sub F F' → Sub H H' → At X B Γ F' σ H' → Q v H'
/-- a test -/
def tT (X : Cx) (B : Bs) (Γ : List Bd) (b : Bool) : TT := fun σ H Q => ∃ F, At X B Γ F σ H ∧ ∀ F' H', Sub F F' → Sub H H' → At X B Γ F' σ H' → Q b H'
/-- arguments -/
def tA (X : Cx) (B : Bs) (Γ : List Bd) (ds : List PyData) : TA := fun σ H Q => ∃ F, At X B Γ F σ H ∧ ∀ vs F' H', Sub F F' → Sub H H' → At X B Γ F' σ H' → RpL X F' vs ds → Q vs H'

def DE (X : Cx) (Γ : List Bd) (e : Expr) (d : PyData) : Prop := ∀ B, PE X e (tD X B Γ d)
def DW (X : Cx) (Γ : List Bd) (e : Expr) (d : PyData) : Prop := ∀ B, PE X e (tW X B Γ d)
def DB (X : Cx) (Γ : List Bd) (e : Expr) (ds : List PyData) : Prop := ∀ B, PE X e (tB X B Γ ds)
def DL (X : Cx) (Γ : List Bd) (e : Expr) (ds : List PyData) : Prop := ∀ B, PE X e (tL X B Γ ds)
def DM (X : Cx) (Γ : List Bd) (e : Expr) (kvs : List (NestedKey × PyData)) : Prop := ∀ B, PE X e (tE X B Γ kvs)
def DN (X : Cx) (Γ : List Bd) (e : Expr) (kvs : List (NestedKey × PyData)) : Prop := ∀ B, PE X e (tM X B Γ kvs)
def DV (X : Cx) (Γ : List Bd) (e : Expr) (v : V) : Prop := ∀ B, PE X e (tV X B Γ v)
def DT (X : Cx) (Γ : List Bd) (e : Expr) (b : Bool) : Prop := ∀ B, PT X e (tT X B Γ b)
def DWh (X : Cx) (Γ : List Bd) (e : Expr) (b : Bool) : Prop := ∀ B, PW X e (tT X B Γ b)
def DA (X : Cx) (Γ : List Bd) (es : List Expr) (ds : List PyData) : Prop := ∀ B, PA X es (tA X B Γ ds)

section
variable {X : Cx} {Γ : List Bd} {e : Expr} {es : List Expr} {d : PyData} {ds : List PyData} {kvs : List (NestedKey × PyData)}
theorem pe_imp {t t' : TE} (h : PE X e t) (i : ∀ σ H Q, t' σ H Q → t σ H Q) : PE X e t' := ⟨fun pins s σ H Q I hw => h.run pins s σ H Q I (i σ H Q hw)⟩
theorem pt_imp {t t' : TT} (h : PT X e t) (i : ∀ σ H Q, t' σ H Q → t σ H Q) : PT X e t' := ⟨fun pins s σ H Q I hw => h.run pins s σ H Q I (i σ H Q hw)⟩
theorem pw_imp {t t' : TT} (h : PW X e t) (i : ∀ σ H Q, t' σ H Q → t σ H Q) : PW X e t' := ⟨fun wh pins s σ H Q I hw => h.run wh pins s σ H Q I (i σ H Q hw)⟩
theorem pa_imp {t t' : TA} (h : PA X es t) (i : ∀ σ H Q, t' σ H Q → t σ H Q) : PA X es t' := ⟨fun pos pins s σ H Q I hw => h.run pos pins s σ H Q I (i σ H Q hw)⟩

/-! ### from one judgement to another -/
theorem DE.dw (h : DE X Γ e d) : DW X Γ e d := fun B => pe_imp (h B) fun σ H Q ⟨F, A, k⟩ => ⟨F, A, fun v F' H' s t A' r => k v F' H' s t A' (r.mono A'.fh)⟩
theorem DE.db (h : DE X Γ e (.list ds)) : DB X Γ e ds := fun B => pe_imp (h B) fun σ H Q ⟨F, A, k⟩ => ⟨F, A, fun v F' H' s t A' r => by
  cases r with
  | lst hs hr => exact k _ _ F' H' s t A' (A'.fh _ _ hs) hr⟩
theorem DL.db (h : DL X Γ e ds) : DB X Γ e ds := fun B => pe_imp (h B) fun σ H Q ⟨F, A, k⟩ => ⟨F, A, fun p vs F' H' s t A' _ _ hp hr _ => k p vs F' H' s t A' hp hr⟩
theorem DB.dw (h : DB X Γ e ds) : DW X Γ e (.list ds) := fun B => pe_imp (h B) fun σ H Q ⟨F, A, k⟩ => ⟨F, A, fun a vs F' H' s t A' hq hr => k _ F' H' s t A' (.lst hq (hr.mono A'.fh))⟩
theorem DL.de (h : DL X Γ e ds) : DE X Γ e (.list ds) := fun B => pe_imp (h B) fun σ H Q ⟨F, A, k⟩ => ⟨F, A, fun p vs F' H' s t A' hf h0 hp hr no =>
  k _ (upd F' p (.lst vs)) H' (s.trans (Sub.new hf)) t (A'.keep hp hf h0 no) (.lst upd_same (hr.mono (Sub.new hf)))⟩
theorem DL.dw (h : DL X Γ e ds) : DW X Γ e (.list ds) := h.db.dw
/-- a kept dict by data -/
theorem DictIn.rep {P : Program} {w : World} {K : PySem.W.Frag} {F : Hp} {a : Addr} (h : DictIn P w K F F a kvs) : Rep P w K F (.ref a) (.dict (kvs.map fun p => (p.1.data, p.2))) := by
  obtain ⟨o, xs, ds, h1, h2, h3, rfl⟩ := h
  have q := Rep.dct h1 h2 h3
  have e : ((xs.map (·.1)).zip ds).map (fun p => (p.1.data, p.2)) = (xs.map fun x => x.1.data).zip ds := by
    simp [List.zip, List.zipWith_map_left, List.map_zipWith]
  rw [e]; exact q
theorem DN.de (h : DN X Γ e kvs) : DE X Γ e (.dict (kvs.map fun p => (p.1.data, p.2))) := fun B => pe_imp (h B) fun σ H Q ⟨F, A, k⟩ => ⟨F, A, fun p F' H' s t A' hf h0 hp no => by
  obtain ⟨o, ho⟩ := hp.obj
  refine k _ (upd F' p o) H' (s.trans (Sub.new hf)) t (A'.keep ho hf h0 no) ?_
  exact (DictIn.mono hp (Sub.new hf) (by rw [upd_same, ho])).rep⟩
theorem DN.dm (h : DN X Γ e kvs) : DM X Γ e kvs := fun B => pe_imp (h B) fun σ H Q ⟨F, A, k⟩ => ⟨F, A, fun p F' H' s t A' _ _ hp _ => k p F' H' s t A' hp⟩

/-! ### names, constants -/
structure VarAt (X : Cx) (i : Nat) (x : Str) : Prop where
  at' : X.N[i]? = some x
  vis : Vis X.env.scope x
  nd : (x == ("__debug__" : Str)) = false
  nc : (x == ("__classdict__" : Str)) = false
theorem VarAt.pe {i : Nat} {x : Str} {pos : Pos} (h : VarAt X i x) : PE X (.Name x pos) (tVar i) := pe_var h.at' h.vis h.nd h.nc
theorem de_var {i : Nat} {x : Str} {pos : Pos} (hx : VarAt X i x) (h : Γ[i]? = some (.fz d)) : DE X Γ (.Name x pos) d := fun B => pe_imp hx.pe fun σ H Q ⟨F, A, k⟩ => by
  obtain ⟨v, h1, h2⟩ := A.sl i _ h
  exact ⟨v, h1, k v F H (Sub.refl F) (Sub.refl H) A h2⟩
theorem db_var {i : Nat} {x : Str} {pos : Pos} (hx : VarAt X i x) (h : Γ[i]? = some (.ol ds)) : DB X Γ (.Name x pos) ds := fun B => pe_imp hx.pe fun σ H Q ⟨F, A, k⟩ => by
  obtain ⟨a, vs, h1, h2, h3, h4, h5⟩ := A.sl i _ h
  exact ⟨_, h1, k a vs F H (Sub.refl F) (Sub.refl H) A h4 h5⟩
theorem dm_var {i : Nat} {x : Str} {pos : Pos} (hx : VarAt X i x) (h : Γ[i]? = some (.od kvs)) : DM X Γ (.Name x pos) kvs := fun B => pe_imp hx.pe fun σ H Q ⟨F, A, k⟩ => by
  obtain ⟨a, h1, h2, h3, h4⟩ := A.sl i _ h
  exact ⟨_, h1, k a F H (Sub.refl F) (Sub.refl H) A h4⟩
theorem dv_var {i : Nat} {x : Str} {pos : Pos} {v : V} (hx : VarAt X i x) (h : Γ[i]? = some (.rf v)) : DV X Γ (.Name x pos) v := fun B => pe_imp hx.pe fun σ H Q ⟨F, A, k⟩ =>
  ⟨v, A.sl i _ h, k F H (Sub.refl F) (Sub.refl H) A⟩
theorem de_c {v : V} (hv : PE X e (tC v)) (h : ∀ F, Rp X F v d) : DE X Γ e d := fun B => pe_imp hv fun σ H Q ⟨F, A, k⟩ => k v F H (Sub.refl F) (Sub.refl H) A (h F)
theorem de_int {i : Int} {j : Nat} {pos : Pos} : DE X Γ (.Constant (.int i) j pos) (.int i) := de_c pe_int fun _ => .int i
theorem dv_c {v : V} (hv : PE X e (tC v)) : DV X Γ e v := fun B => pe_imp hv fun σ H Q ⟨F, A, k⟩ => k F H (Sub.refl F) (Sub.refl H) A
end
end PH

set_option Elab.async false
set_option linter.all false
set_option maxRecDepth 100000
set_option maxHeartbeats 4000000
/-! P3: expressions by data: operators, comparisons, and, or, not, displays, items, calls. -/
namespace PH
open PySem PySem.Spec L2

section
variable {X : Cx} {Γ : List Bd} {a b c e : Expr} {es : List Expr} {pos : Pos} {d x y z : PyData} {ds xs ys : List PyData} {i j k : Int} {p q : Bool}

/-! ### operators -/
theorem de_op {op : Operator} {r : R2} (ho : OpR X (binaryOp op) r) (ha : DW X Γ a x) (hb : DW X Γ b y)
    (hr : ∀ (B : Bs) (F : Hp) (σ : St) (H : Hp) (va vb : V) (Q : VK), At X B Γ F σ H → Rp X H va x → Rp X H vb y → (∀ v F' H', Sub F F' → Sub H H' → At X B Γ F' σ H' → Rp X F' v z → Q v H') → r va vb H Q) :
    DE X Γ (.BinOp a op b pos) z := fun B => pe_imp (pe_op ho (ha B) (hb B)) fun σ H Q ⟨F, A, k⟩ =>
  ⟨F, A, fun va F1 H1 s1 t1 A1 r1 => ⟨F1, A1, fun vb F2 H2 s2 t2 A2 r2 => hr B F2 σ H2 va vb Q A2 (r1.mono t2) r2 fun v F' H' s t A' r => k v F' H' (s1.trans (s2.trans s)) (t1.trans (t2.trans t)) A' r⟩⟩
theorem de_i0 {op : Operator} {g : Int → Int → Int} (ho : OpR X (binaryOp op) (rI0 fun i j => .int (g i j))) (ha : DW X Γ a (.int i)) (hb : DW X Γ b (.int j)) : DE X Γ (.BinOp a op b pos) (.int (g i j)) :=
  de_op ho ha hb fun B F σ H va vb Q A ra rb k => by
    cases ra; cases rb
    exact ⟨i, j, rfl, rfl, k _ F H (Sub.refl F) (Sub.refl H) A (.int _)⟩
theorem de_iC {op : Operator} {C : Int → Int → Prop} {g : Int → Int → Int} (ho : OpR X (binaryOp op) (rI C fun i j => .int (g i j))) (ha : DW X Γ a (.int i)) (hb : DW X Γ b (.int j)) (hc : C i j) : DE X Γ (.BinOp a op b pos) (.int (g i j)) :=
  de_op ho ha hb fun B F σ H va vb Q A ra rb k => by
    cases ra; cases rb
    exact ⟨i, j, rfl, rfl, hc, k _ F H (Sub.refl F) (Sub.refl H) A (.int _)⟩
theorem de_add (ha : DW X Γ a (.int i)) (hb : DW X Γ b (.int j)) : DE X Γ (.BinOp a .Add b pos) (.int (i + j)) := de_i0 op_add ha hb
theorem de_sub (ha : DW X Γ a (.int i)) (hb : DW X Γ b (.int j)) : DE X Γ (.BinOp a .Sub b pos) (.int (i - j)) := de_i0 op_sub ha hb
/-- * , one factor below 2 ^ 64 -/
theorem de_mul (ha : DW X Γ a (.int i)) (hb : DW X Γ b (.int j)) (hc : CMul i j) : DE X Γ (.BinOp a .Mult b pos) (.int (i * j)) := de_iC op_mul ha hb hc
/-- % , // by a positive number -/
theorem de_mod (ha : DW X Γ a (.int i)) (hb : DW X Γ b (.int j)) (hc : 0 < j) : DE X Γ (.BinOp a .Mod b pos) (.int (i % j)) := de_iC op_mod ha hb hc
theorem de_fdiv (ha : DW X Γ a (.int i)) (hb : DW X Γ b (.int j)) (hc : CDiv i j) : DE X Γ (.BinOp a .FloorDiv b pos) (.int (i / j)) := de_iC op_fdiv ha hb hc
theorem de_pow (ha : DW X Γ a (.int i)) (hb : DW X Γ b (.int j)) (hc : CPow i j) : DE X Γ (.BinOp a .Pow b pos) (.int (i ^ j.toNat)) := de_iC op_pow ha hb hc
/-- text + text -/
theorem de_addS {s t : Str} (ha : DW X Γ a (.str s)) (hb : DW X Γ b (.str t)) (hz : s.length + t.length ≤ sizeLine) : DE X Γ (.BinOp a .Add b pos) (.str (s ++ t)) :=
  de_op op_add_str ha hb fun B F σ H va vb Q A ra rb k => by
    cases ra; cases rb
    exact ⟨s, t, rfl, rfl, hz, k _ F H (Sub.refl F) (Sub.refl H) A (.str _)⟩
/-- -n -/
theorem de_neg {un : UnR X (unaryOp .USub) (rU fun i => .int (-i))} (ha : DW X Γ a (.int i)) : DE X Γ (.UnaryOp .USub a pos) (.int (-i)) := fun B => pe_imp (pe_un un (ha B)) fun σ H Q ⟨F, A, k⟩ =>
  ⟨F, A, fun v F1 H1 s1 t1 A1 r1 => by cases r1; exact ⟨i, rfl, k _ F1 H1 s1 t1 A1 (.int _)⟩⟩

/-! ### comparisons: as a value, as a test -/
def DC (X : Cx) (Γ : List Bd) (op : CmpOp) (a b : Expr) (p : Bool) : Prop :=
  ∀ B, ∃ r ta tb, OpR X (compareOp op) r ∧ PE X a ta ∧ PE X b tb ∧ ∀ σ H (Q : VK), (∃ F, At X B Γ F σ H ∧ ∀ F' H', Sub F F' → Sub H H' → At X B Γ F' σ H' → Q (.bl p) H') → tOp r ta tb σ H Q
theorem DC.of {op : CmpOp} {r : R2} (ho : OpR X (compareOp op) r) (ha : DW X Γ a x) (hb : DW X Γ b y)
    (hr : ∀ (H : Hp) (va vb : V) (Q : VK), Rp X H va x → Rp X H vb y → Q (.bl p) H → r va vb H Q) : DC X Γ op a b p := fun B =>
  ⟨r, _, _, ho, ha B, hb B, fun σ H Q ⟨F, A, k⟩ => ⟨F, A, fun va F1 H1 s1 t1 A1 r1 => ⟨F1, A1, fun vb F2 H2 s2 t2 A2 r2 => hr H2 va vb Q (r1.mono t2) r2 (k F2 H2 (s1.trans s2) (t1.trans t2) A2)⟩⟩⟩
theorem de_cmp {op : CmpOp} (h : DC X Γ op a b p) (hm : behindInMarks op b = false := by first | exact nomark _ | rfl) : DE X Γ (.Compare a [op] [b] pos) (.bool p) := fun B => by
  obtain ⟨r, ta, tb, ho, ha, hb, hr⟩ := h B
  exact pe_imp (pe_cmpR ho ha hb hm) fun σ H Q ⟨F, A, k⟩ => hr σ H Q ⟨F, A, fun F' H' s t A' => k _ F' H' s t A' (.bl _)⟩
theorem dt_cmp {op : CmpOp} (h : DC X Γ op a b p) (hm : behindInMarks op b = false := by first | exact nomark _ | rfl) : DT X Γ (.Compare a [op] [b] pos) p := fun B => by
  obtain ⟨r, ta, tb, ho, ha, hb, hr⟩ := h B
  exact pt_imp (pt_cmpR ho ha hb hm) fun σ H Q ⟨F, A, k⟩ => hr σ H _ ⟨F, A, fun F' H' s t A' => ⟨p, rfl, k F' H' s t A'⟩⟩
theorem dc_lt (ha : DW X Γ a (.int i)) (hb : DW X Γ b (.int j)) : DC X Γ .Lt a b (decide (i < j)) := .of op_lt ha hb fun H va vb Q ra rb k => by cases ra; cases rb; exact ⟨i, j, rfl, rfl, k⟩
theorem dc_le (ha : DW X Γ a (.int i)) (hb : DW X Γ b (.int j)) : DC X Γ .LtE a b (decide (i ≤ j)) := .of op_le ha hb fun H va vb Q ra rb k => by cases ra; cases rb; exact ⟨i, j, rfl, rfl, k⟩
theorem dc_gt (ha : DW X Γ a (.int i)) (hb : DW X Γ b (.int j)) : DC X Γ .Gt a b (decide (j < i)) := .of op_gt ha hb fun H va vb Q ra rb k => by cases ra; cases rb; exact ⟨i, j, rfl, rfl, k⟩
theorem dc_ge (ha : DW X Γ a (.int i)) (hb : DW X Γ b (.int j)) : DC X Γ .GtE a b (decide (j ≤ i)) := .of op_ge ha hb fun H va vb Q ra rb k => by cases ra; cases rb; exact ⟨i, j, rfl, rfl, k⟩
/-- == and != of data -/
def rEqP (K : PySem.W.Frag) : R2 := fun x y H Q => ∃ d e, Dp K H x d ∧ Dp K H y e ∧ d.plain = true ∧ e.plain = true ∧ d.depth ≤ 64 ∧ Q (.bl (PyData.eqv d e)) H
def rNeP (K : PySem.W.Frag) : R2 := fun x y H Q => ∃ d e, Dp K H x d ∧ Dp K H y e ∧ d.plain = true ∧ e.plain = true ∧ d.depth ≤ 64 ∧ Q (.bl (!PyData.eqv d e)) H
theorem op_eqP (hu : X.A.units + 64 < cLine) : OpR X (compareOp .Eq) (rEqP X.K) := by
  intro pins s σ H x y v u Q I rx ry h
  obtain ⟨d, e, hd, he, pd, pe, hz, q⟩ := h
  obtain ⟨as, r1⟩ := Dp.reads I d x v hd rx
  obtain ⟨bs, r2⟩ := Dp.reads I e y u he ry
  exact SeqAt.eq_plain r1 r2 pd pe (by omega) ⟨.bl _, H, I, rfl, q⟩
theorem op_neP (hu : X.A.units + 64 < cLine) : OpR X (compareOp .NotEq) (rNeP X.K) := by
  intro pins s σ H x y v u Q I rx ry h
  obtain ⟨d, e, hd, he, pd, pe, hz, q⟩ := h
  obtain ⟨as, r1⟩ := Dp.reads I d x v hd rx
  obtain ⟨bs, r2⟩ := Dp.reads I e y u he ry
  exact SeqAt.ne_plain r1 r2 pd pe (by omega) ⟨.bl _, H, I, rfl, q⟩
theorem dc_eq (hu : X.A.units + 64 < cLine) (ha : DW X Γ a x) (hb : DW X Γ b y) (px : x.plain = true) (py : y.plain = true) (dx : x.depth ≤ 64) : DC X Γ .Eq a b (PyData.eqv x y) :=
  .of (op_eqP hu) ha hb fun H va vb Q ra rb k => ⟨x, y, ra.dp px, rb.dp py, px, py, dx, k⟩
theorem dc_ne (hu : X.A.units + 64 < cLine) (ha : DW X Γ a x) (hb : DW X Γ b y) (px : x.plain = true) (py : y.plain = true) (dx : x.depth ≤ 64) : DC X Γ .NotEq a b (!PyData.eqv x y) :=
  .of (op_neP hu) ha hb fun H va vb Q ra rb k => ⟨x, y, ra.dp px, rb.dp py, px, py, dx, k⟩
/-- x in a list or tuple, not in -/
def rInP (K : PySem.W.Frag) (neg tup : Bool) : R2 := fun x y H Q => ∃ d es, Dp K H x d ∧ Dp K H y (if tup then .tuple es else .list es) ∧ d.plain = true ∧ PyData.plainAll es = true ∧ d.depth ≤ 64 ∧ Q (.bl (if neg then !es.any fun z => PyData.eqv z d else es.any fun z => PyData.eqv z d)) H
theorem op_inP {tup : Bool} (hu : X.A.units + 65 < cLine) : OpR X (compareOp .In) (rInP X.K false tup) := by
  intro pins s σ H x y v u Q I rx ry h
  obtain ⟨d, es, hd, he, pd, pe, hz, q⟩ := h
  obtain ⟨as, r1⟩ := Dp.reads I d x v hd rx
  obtain ⟨bs, r2⟩ := Dp.reads I _ y u he ry
  cases tup with
  | true => exact SeqAt.in_tuple_data r2 r1 pe pd (by omega) ⟨.bl _, H, I, rfl, q⟩
  | false => exact SeqAt.in_list_data r2 r1 pe pd (by omega) ⟨.bl _, H, I, rfl, q⟩
theorem op_ninP {tup : Bool} (hu : X.A.units + 65 < cLine) : OpR X (compareOp .NotIn) (rInP X.K true tup) := by
  intro pins s σ H x y v u Q I rx ry h
  obtain ⟨d, es, hd, he, pd, pe, hz, q⟩ := h
  obtain ⟨as, r1⟩ := Dp.reads I d x v hd rx
  obtain ⟨bs, r2⟩ := Dp.reads I _ y u he ry
  cases tup with
  | true => exact SeqAt.notIn_tuple_data r2 r1 pe pd (by omega) ⟨.bl _, H, I, rfl, q⟩
  | false => exact SeqAt.notIn_list_data r2 r1 pe pd (by omega) ⟨.bl _, H, I, rfl, q⟩
theorem dc_in (hu : X.A.units + 65 < cLine) (ha : DW X Γ a x) (hb : DW X Γ b (.list ys)) (px : x.plain = true) (py : PyData.plainAll ys = true) (dx : x.depth ≤ 64) : DC X Γ .In a b (ys.any fun z => PyData.eqv z x) :=
  .of (op_inP (tup := false) hu) ha hb fun H va vb Q ra rb k => ⟨x, ys, ra.dp px, rb.dp (by simpa [PyData.plain] using py), px, py, dx, k⟩
theorem dc_nin (hu : X.A.units + 65 < cLine) (ha : DW X Γ a x) (hb : DW X Γ b (.list ys)) (px : x.plain = true) (py : PyData.plainAll ys = true) (dx : x.depth ≤ 64) : DC X Γ .NotIn a b (!ys.any fun z => PyData.eqv z x) :=
  .of (op_ninP (tup := false) hu) ha hb fun H va vb Q ra rb k => ⟨x, ys, ra.dp px, rb.dp (by simpa [PyData.plain] using py), px, py, dx, k⟩
theorem dc_inU (hu : X.A.units + 65 < cLine) (ha : DW X Γ a x) (hb : DW X Γ b (.tuple ys)) (px : x.plain = true) (py : PyData.plainAll ys = true) (dx : x.depth ≤ 64) : DC X Γ .In a b (ys.any fun z => PyData.eqv z x) :=
  .of (op_inP (tup := true) hu) ha hb fun H va vb Q ra rb k => ⟨x, ys, ra.dp px, rb.dp (by simpa [PyData.plain] using py), px, py, dx, k⟩
theorem dc_ninU (hu : X.A.units + 65 < cLine) (ha : DW X Γ a x) (hb : DW X Γ b (.tuple ys)) (px : x.plain = true) (py : PyData.plainAll ys = true) (dx : x.depth ≤ 64) : DC X Γ .NotIn a b (!ys.any fun z => PyData.eqv z x) :=
  .of (op_ninP (tup := true) hu) ha hb fun H va vb Q ra rb k => ⟨x, ys, ra.dp px, rb.dp (by simpa [PyData.plain] using py), px, py, dx, k⟩
/- of a Lean type -/
section
open PySem.W (Datum DatumOrd Tup)
variable {α : Type} [DecidableEq α] [Datum α] {xa ya : α} {ls : List α}
theorem dc_eqT (hu : X.A.units + 64 < cLine) (ha : DW X Γ a (Datum.toD xa)) (hb : DW X Γ b (Datum.toD ya)) (hd : Datum.depth α ≤ 64 := by decide) : DC X Γ .Eq a b (decide (xa = ya)) :=
  Datum.eqv xa ya ▸ dc_eq hu ha hb (Datum.plain _) (Datum.plain _) (Nat.le_trans (Datum.depth_le _) hd)
theorem dc_neT (hu : X.A.units + 64 < cLine) (ha : DW X Γ a (Datum.toD xa)) (hb : DW X Γ b (Datum.toD ya)) (hd : Datum.depth α ≤ 64 := by decide) : DC X Γ .NotEq a b (!decide (xa = ya)) :=
  Datum.eqv xa ya ▸ dc_ne hu ha hb (Datum.plain _) (Datum.plain _) (Nat.le_trans (Datum.depth_le _) hd)
theorem any_toD : ∀ ls : List α, ((ls.map Datum.toD).any fun z => PyData.eqv z (Datum.toD xa)) = decide (xa ∈ ls)
  | [] => by simp
  | l :: ls => by
    rw [List.map_cons, List.any_cons, any_toD ls, Datum.eqv, ← Bool.decide_or]
    exact decide_eq_decide.mpr (by rw [List.mem_cons]; exact ⟨fun h => h.imp Eq.symm id, fun h => h.imp Eq.symm id⟩)
theorem dc_inL (hu : X.A.units + 65 < cLine) (ha : DW X Γ a (Datum.toD xa)) (hb : DW X Γ b (.list (ls.map Datum.toD))) (hd : Datum.depth α ≤ 64 := by decide) : DC X Γ .In a b (decide (xa ∈ ls)) :=
  any_toD (xa := xa) ls ▸ dc_in hu ha hb (Datum.plain _) (PySem.W.plainAll_map ls) (Nat.le_trans (Datum.depth_le _) hd)
theorem dc_ninL (hu : X.A.units + 65 < cLine) (ha : DW X Γ a (Datum.toD xa)) (hb : DW X Γ b (.list (ls.map Datum.toD))) (hd : Datum.depth α ≤ 64 := by decide) : DC X Γ .NotIn a b (!decide (xa ∈ ls)) :=
  any_toD (xa := xa) ls ▸ dc_nin hu ha hb (Datum.plain _) (PySem.W.plainAll_map ls) (Nat.le_trans (Datum.depth_le _) hd)
theorem dc_inT (hu : X.A.units + 65 < cLine) (ha : DW X Γ a (Datum.toD xa)) (hb : DW X Γ b (.tuple (ls.map Datum.toD))) (hd : Datum.depth α ≤ 64 := by decide) : DC X Γ .In a b (decide (xa ∈ ls)) :=
  any_toD (xa := xa) ls ▸ dc_inU hu ha hb (Datum.plain _) (PySem.W.plainAll_map ls) (Nat.le_trans (Datum.depth_le _) hd)
theorem dc_ninT (hu : X.A.units + 65 < cLine) (ha : DW X Γ a (Datum.toD xa)) (hb : DW X Γ b (.tuple (ls.map Datum.toD))) (hd : Datum.depth α ≤ 64 := by decide) : DC X Γ .NotIn a b (!decide (xa ∈ ls)) :=
  any_toD (xa := xa) ls ▸ dc_ninU hu ha hb (Datum.plain _) (PySem.W.plainAll_map ls) (Nat.le_trans (Datum.depth_le _) hd)
end
/- <, >, <=, >= of data of one ordered type -/
section
open PySem.W (Datum DatumOrd Tup)
variable {α : Type} [DecidableEq α] [DatumOrd α] {xa ya : α}
def rOrd (K : PySem.W.Frag) (f : PyData → PyData → Bool) : R2 := fun x y H Q => ∃ d e, Dp K H x d ∧ Dp K H y e ∧ PySem.W.alike d e = true ∧ d ≠ .none ∧ d.depth ≤ 64 ∧ Q (.bl (f d e)) H
theorem op_ltP (hu : X.A.units + 64 < cLine) : OpR X (compareOp .Lt) (rOrd X.K fun d e => PySem.W.dataLt d e) := by
  intro pins s σ H x y v u Q I rx ry h
  obtain ⟨d, e, hd, he, al, nn, hz, q⟩ := h
  obtain ⟨as, r1⟩ := Dp.reads I d x v hd rx
  obtain ⟨bs, r2⟩ := Dp.reads I e y u he ry
  exact PySem.W.lt_data r1 r2 al nn (by omega) ⟨.bl _, H, I, rfl, q⟩
theorem op_gtP (hu : X.A.units + 64 < cLine) : OpR X (compareOp .Gt) (rOrd X.K fun d e => PySem.W.dataLt e d) := by
  intro pins s σ H x y v u Q I rx ry h
  obtain ⟨d, e, hd, he, al, nn, hz, q⟩ := h
  obtain ⟨as, r1⟩ := Dp.reads I d x v hd rx
  obtain ⟨bs, r2⟩ := Dp.reads I e y u he ry
  exact PySem.W.gt_data r1 r2 al nn (by omega) ⟨.bl _, H, I, rfl, q⟩
theorem op_geP (hu : X.A.units + 64 < cLine) : OpR X (compareOp .GtE) (rOrd X.K fun d e => !PySem.W.dataLt d e) := by
  intro pins s σ H x y v u Q I rx ry h
  obtain ⟨d, e, hd, he, al, nn, hz, q⟩ := h
  obtain ⟨as, r1⟩ := Dp.reads I d x v hd rx
  obtain ⟨bs, r2⟩ := Dp.reads I e y u he ry
  exact PySem.W.ge_data r1 r2 al nn (by omega) ⟨.bl _, H, I, rfl, q⟩
theorem dc_ltT (hu : X.A.units + 64 < cLine) (ha : DW X Γ a (Datum.toD xa)) (hb : DW X Γ b (Datum.toD ya)) (hd : Datum.depth α ≤ 64 := by decide) : DC X Γ .Lt a b (DatumOrd.lt xa ya) :=
  .of (op_ltP hu) ha hb fun H va vb Q ra rb k => ⟨_, _, ra.dp (Datum.plain _), rb.dp (Datum.plain _), DatumOrd.alike _ _, DatumOrd.notNone _, Nat.le_trans (Datum.depth_le _) hd, by dsimp only; rw [DatumOrd.lt_eq]; exact k⟩
theorem dc_gtT (hu : X.A.units + 64 < cLine) (ha : DW X Γ a (Datum.toD xa)) (hb : DW X Γ b (Datum.toD ya)) (hd : Datum.depth α ≤ 64 := by decide) : DC X Γ .Gt a b (DatumOrd.lt ya xa) :=
  .of (op_gtP hu) ha hb fun H va vb Q ra rb k => ⟨_, _, ra.dp (Datum.plain _), rb.dp (Datum.plain _), DatumOrd.alike _ _, DatumOrd.notNone _, Nat.le_trans (Datum.depth_le _) hd, by dsimp only; rw [DatumOrd.lt_eq]; exact k⟩
theorem dc_geT (hu : X.A.units + 64 < cLine) (ha : DW X Γ a (Datum.toD xa)) (hb : DW X Γ b (Datum.toD ya)) (hd : Datum.depth α ≤ 64 := by decide) : DC X Γ .GtE a b (!DatumOrd.lt xa ya) :=
  .of (op_geP hu) ha hb fun H va vb Q ra rb k => ⟨_, _, ra.dp (Datum.plain _), rb.dp (Datum.plain _), DatumOrd.alike _ _, DatumOrd.notNone _, Nat.le_trans (Datum.depth_le _) hd, by dsimp only; rw [DatumOrd.lt_eq]; exact k⟩
end
/-- one sign in a text -/
theorem dc_sign {n : Nat} {s : Str} (ha : DW X Γ a (.str ⟨#[n]⟩)) (hb : DW X Γ b (.str s)) : DC X Γ .In a b (decide (n ∈ s.cps.toList)) :=
  .of op_in_sign ha hb fun H va vb Q ra rb k => by cases ra; cases rb; exact ⟨n, s, rfl, rfl, k⟩
theorem dc_nsign {n : Nat} {s : Str} (ha : DW X Γ a (.str ⟨#[n]⟩)) (hb : DW X Γ b (.str s)) : DC X Γ .NotIn a b (!decide (n ∈ s.cps.toList)) :=
  .of op_notIn_sign ha hb fun H va vb Q ra rb k => by cases ra; cases rb; exact ⟨n, s, rfl, rfl, k⟩
/-- is None -/
def isN : PyData → Bool
  | .none => true
  | _ => false
theorem rep_none {P : Program} {w : World} {K : PySem.W.Frag} {F : Hp} {v : V} {d : PyData} (h : Rep P w K F v d) : decide (v = .non) = isN d := by cases h <;> rfl
theorem dc_isN {j' : Nat} {pos' : Pos} (ha : DW X Γ a x) : DC X Γ .Is a (.Constant .none j' pos') (isN x) := fun B =>
  ⟨_, _, _, op_isN, ha B, pe_non, fun σ H Q ⟨F, A, k⟩ => ⟨F, A, fun v F1 H1 s1 t1 A1 r1 => ⟨rfl, by rw [rep_none r1]; exact k F1 H1 s1 t1 A1⟩⟩⟩
theorem dc_notN {j' : Nat} {pos' : Pos} (ha : DW X Γ a x) : DC X Γ .IsNot a (.Constant .none j' pos') (!isN x) := fun B =>
  ⟨_, _, _, op_notN, ha B, pe_non, fun σ H Q ⟨F, A, k⟩ => ⟨F, A, fun v F1 H1 s1 t1 A1 r1 => ⟨rfl, by rw [rep_none r1]; exact k F1 H1 s1 t1 A1⟩⟩⟩
/-- a op b op' c -/
theorem de_chain {op op' : CmpOp} {r r' : R2} (ho : OpR X (compareOp op) r) (ho' : OpR X (compareOp op') r') (ha : DW X Γ a x) (hb : DW X Γ b y) (hc : DW X Γ c z)
    (h1 : ∀ (H : Hp) (va vb : V) (Q : VK), Rp X H va x → Rp X H vb y → Q (.bl p) H → r va vb H Q) (h2 : ∀ (H : Hp) (va vb : V) (Q : VK), Rp X H va y → Rp X H vb z → Q (.bl q) H → r' va vb H Q)
    (hm : lastMarks [op, op'] [b, c] = false := by with_unfolding_all rfl) : DE X Γ (.Compare a [op, op'] [b, c] pos) (.bool (p && q)) := fun B => pe_imp (pe_chain ho ho' (ha B) (hb B) (hc B) hm) fun σ H Q ⟨F, A, k⟩ =>
  ⟨F, A, fun va F1 H1 s1 t1 A1 r1 => ⟨F1, A1, fun vb F2 H2 s2 t2 A2 r2 => h1 H2 va vb _ (r1.mono t2) r2 ⟨p, rfl, by
    cases p with
    | true =>
      rw [if_pos rfl]
      exact ⟨F2, A2, fun vc F3 H3 s3 t3 A3 r3 => h2 H3 vb vc _ (r2.mono t3) r3 (k _ F3 H3 (s1.trans (s2.trans s3)) (t1.trans (t2.trans t3)) A3 (.bl _))⟩
    | false =>
      rw [if_neg Bool.false_ne_true]
      exact k _ F2 H2 (s1.trans s2) (t1.trans t2) A2 (.bl _)⟩⟩⟩
theorem dt_chain {op op' : CmpOp} {r r' : R2} (ho : OpR X (compareOp op) r) (ho' : OpR X (compareOp op') r') (ha : DW X Γ a x) (hb : DW X Γ b y) (hc : DW X Γ c z)
    (h1 : ∀ (H : Hp) (va vb : V) (Q : VK), Rp X H va x → Rp X H vb y → Q (.bl p) H → r va vb H Q) (h2 : ∀ (H : Hp) (va vb : V) (Q : VK), Rp X H va y → Rp X H vb z → Q (.bl q) H → r' va vb H Q)
    (hm : lastMarks [op, op'] [b, c] = false := by with_unfolding_all rfl) : DT X Γ (.Compare a [op, op'] [b, c] pos) (p && q) := fun B => pt_imp (pt_chain ho ho' (ha B) (hb B) (hc B) hm) fun σ H Q ⟨F, A, k⟩ =>
  ⟨F, A, fun va F1 H1 s1 t1 A1 r1 => ⟨F1, A1, fun vb F2 H2 s2 t2 A2 r2 => h1 H2 va vb _ (r1.mono t2) r2 ⟨p, rfl, by
    cases p with
    | true =>
      rw [if_pos rfl]
      exact ⟨F2, A2, fun vc F3 H3 s3 t3 A3 r3 => h2 H3 vb vc _ (r2.mono t3) r3 ⟨q, rfl, k F3 H3 (s1.trans (s2.trans s3)) (t1.trans (t2.trans t3)) A3⟩⟩
    | false =>
      rw [if_neg Bool.false_ne_true]
      exact ⟨false, rfl, k F2 H2 (s1.trans s2) (t1.trans t2) A2⟩⟩⟩⟩
theorem hle (H : Hp) (va vb : V) (Q : VK) (ra : Rp X H va (.int i)) (rb : Rp X H vb (.int j)) (k : Q (.bl (decide (i ≤ j))) H) : (rI0 fun i j => .bl (decide (i ≤ j))) va vb H Q := by cases ra; cases rb; exact ⟨i, j, rfl, rfl, k⟩
theorem de_lele (ha : DW X Γ a (.int i)) (hb : DW X Γ b (.int j)) (hc : DW X Γ c (.int k)) (hm : lastMarks [.LtE, .LtE] [b, c] = false := by with_unfolding_all rfl) : DE X Γ (.Compare a [.LtE, .LtE] [b, c] pos) (.bool (decide (i ≤ j) && decide (j ≤ k))) := de_chain op_le op_le ha hb hc hle hle hm
theorem dt_lele (ha : DW X Γ a (.int i)) (hb : DW X Γ b (.int j)) (hc : DW X Γ c (.int k)) (hm : lastMarks [.LtE, .LtE] [b, c] = false := by with_unfolding_all rfl) : DT X Γ (.Compare a [.LtE, .LtE] [b, c] pos) (decide (i ≤ j) && decide (j ≤ k)) := dt_chain op_le op_le ha hb hc hle hle hm

/-! ### tests -/
theorem dt_of (h : DE X Γ e (.bool p)) (he : ∀ whole, isTrue e X.env whole = (do let v ← whole; standAt e.pos; holding [v] (truthy v)) := by intro _; rfl) : DT X Γ e p := fun B => pt_imp (pt_val (h B) he) fun σ H Q ⟨F, A, k⟩ =>
  ⟨F, A, fun v F1 H1 s1 t1 A1 r1 => by cases r1; exact ⟨p, rfl, k F1 H1 s1 t1 A1⟩⟩
theorem dt_not (h : DT X Γ a p) : DT X Γ (.UnaryOp .Not a pos) (!p) := fun B => pt_imp (pt_not (h B)) fun σ H Q ⟨F, A, k⟩ => ⟨F, A, fun F1 H1 s1 t1 A1 => k F1 H1 s1 t1 A1⟩
theorem de_not (h : DE X Γ a (.bool p)) : DE X Γ (.UnaryOp .Not a pos) (.bool (!p)) := fun B => pe_imp (pe_not (h B)) fun σ H Q ⟨F, A, k⟩ => ⟨F, A, fun v F1 H1 s1 t1 A1 r1 => by
  cases r1; exact ⟨p, rfl, k _ F1 H1 s1 t1 A1 (.bl _)⟩⟩
theorem dh_and1 (h : DT X Γ a p) : DWh X Γ (.BoolOp .And [a] pos) p := fun B => pw_and1 (h B)
theorem dh_or1 (h : DT X Γ a p) : DWh X Γ (.BoolOp .Or [a] pos) p := fun B => pw_or1 (h B)
theorem dh_and (h : DT X Γ a p) (h2 : p = true → DWh X Γ (.BoolOp .And (b :: es) pos) q) : DWh X Γ (.BoolOp .And (a :: b :: es) pos) (p && q) := fun B => by
  cases p with
  | true => exact pw_imp (pw_and (h B) (h2 rfl B)) fun σ H Q ⟨F, A, k⟩ => ⟨F, A, fun F1 H1 s1 t1 A1 =>
      iteT ⟨F1, A1, fun F2 H2 s2 t2 A2 => k F2 H2 (s1.trans s2) (t1.trans t2) A2⟩⟩
  | false =>
    refine ⟨fun wh pins s σ H Q I hw => ?_⟩
    obtain ⟨F, A, k⟩ := hw
    refine PyProof.Rows.isTrue_and (thn ((h B).run pins s σ H (fun c H1 => c = false ∧ Q false H1) I ⟨F, A, fun F1 H1 s1 t1 A1 => ⟨rfl, k F1 H1 s1 t1 A1⟩⟩) fun c s1 e => ?_)
    obtain ⟨H1, I1, rfl, q1⟩ := e
    exact ⟨H1, I1, q1⟩
theorem dh_or (h : DT X Γ a p) (h2 : p = false → DWh X Γ (.BoolOp .Or (b :: es) pos) q) : DWh X Γ (.BoolOp .Or (a :: b :: es) pos) (p || q) := fun B => by
  cases p with
  | false => exact pw_imp (pw_or (h B) (h2 rfl B)) fun σ H Q ⟨F, A, k⟩ => ⟨F, A, fun F1 H1 s1 t1 A1 =>
      iteF ⟨F1, A1, fun F2 H2 s2 t2 A2 => k F2 H2 (s1.trans s2) (t1.trans t2) A2⟩⟩
  | true =>
    refine ⟨fun wh pins s σ H Q I hw => ?_⟩
    obtain ⟨F, A, k⟩ := hw
    refine PyProof.Rows.isTrue_or (thn ((h B).run pins s σ H (fun c H1 => c = true ∧ Q true H1) I ⟨F, A, fun F1 H1 s1 t1 A1 => ⟨rfl, k F1 H1 s1 t1 A1⟩⟩) fun c s1 e => ?_)
    obtain ⟨H1, I1, rfl, q1⟩ := e
    exact ⟨H1, I1, q1⟩
theorem DWh.dt (h : DWh X Γ e p) : DT X Γ e p := fun B => (h B).pt
/-- and, or as values -/
theorem de_one {op : BoolOp} (h : DE X Γ a d) : DE X Γ (.BoolOp op [a] pos) d := fun B => pe_one (h B)
theorem de_and (h : DE X Γ a (.bool p)) (h2 : p = true → DE X Γ (.BoolOp .And (b :: es) pos) (.bool q)) : DE X Γ (.BoolOp .And (a :: b :: es) pos) (.bool (p && q)) := fun B => by
  cases p with
  | true => exact pe_imp (pe_and (h B) (h2 rfl B)) fun σ H Q ⟨F, A, k⟩ => ⟨F, A, fun v F1 H1 s1 t1 A1 r1 => by
      cases r1
      exact ⟨true, rfl, by rw [if_pos rfl]; exact ⟨F1, A1, fun v F2 H2 s2 t2 A2 r2 => k v F2 H2 (s1.trans s2) (t1.trans t2) A2 r2⟩⟩⟩
  | false =>
    refine ⟨fun pins s σ H Q I hw => ?_⟩
    obtain ⟨F, A, k⟩ := hw
    refine PyProof.Rows.BoolOp_and (thn ((h B).run pins s σ H (fun c H1 => c = .bl false ∧ Q (.bl false) H1) I ⟨F, A, fun v F1 H1 s1 t1 A1 r1 => ⟨by cases r1; rfl, k _ F1 H1 s1 t1 A1 (.bl _)⟩⟩) fun c s1 e => ?_)
    obtain ⟨v, H1, I1, r1, rfl, q1⟩ := e
    cases r1
    exact wpAny_truthy_bool ⟨.bl false, H1, I1, rfl, q1⟩
theorem de_or (h : DE X Γ a (.bool p)) (h2 : p = false → DE X Γ (.BoolOp .Or (b :: es) pos) (.bool q)) : DE X Γ (.BoolOp .Or (a :: b :: es) pos) (.bool (p || q)) := fun B => by
  cases p with
  | false => exact pe_imp (pe_or (h B) (h2 rfl B)) fun σ H Q ⟨F, A, k⟩ => ⟨F, A, fun v F1 H1 s1 t1 A1 r1 => by
      cases r1
      exact ⟨false, rfl, by rw [if_neg Bool.false_ne_true]; exact ⟨F1, A1, fun v F2 H2 s2 t2 A2 r2 => k v F2 H2 (s1.trans s2) (t1.trans t2) A2 r2⟩⟩⟩
  | true =>
    refine ⟨fun pins s σ H Q I hw => ?_⟩
    obtain ⟨F, A, k⟩ := hw
    refine PyProof.Rows.BoolOp_or (thn ((h B).run pins s σ H (fun c H1 => c = .bl true ∧ Q (.bl true) H1) I ⟨F, A, fun v F1 H1 s1 t1 A1 r1 => ⟨by cases r1; rfl, k _ F1 H1 s1 t1 A1 (.bl _)⟩⟩) fun c s1 e => ?_)
    obtain ⟨v, H1, I1, r1, rfl, q1⟩ := e
    cases r1
    exact wpAny_truthy_bool ⟨.bl true, H1, I1, rfl, q1⟩
/-- a if t else b -/
theorem de_if (h : DT X Γ c p) (h1 : p = true → DE X Γ a d) (h2 : p = false → DE X Γ b d) : DE X Γ (.IfExp c a b pos) d := fun B => by
  refine ⟨fun pins s σ H Q I hw => ?_⟩
  obtain ⟨F, A, k⟩ := hw
  refine wpAny_IfExp (thn ((h B).run pins s σ H (fun c H1 => c = p ∧ tD X B Γ d σ H1 Q) I ⟨F, A, fun F1 H1 s1 t1 A1 => ⟨rfl, F1, A1, fun v F2 H2 s2 t2 A2 r2 => k v F2 H2 (s1.trans s2) (t1.trans t2) A2 r2⟩⟩) fun c' s1 e => ?_)
  obtain ⟨H1, I1, rfl, q1⟩ := e
  cases c' with
  | true => exact (h1 rfl B).run pins s1 σ H1 Q I1 q1
  | false => exact (h2 rfl B).run pins s1 σ H1 Q I1 q1

/-! ### displays -/
theorem da_nil : DA X Γ [] [] := fun B => pa_imp pa_nil fun σ H Q ⟨F, A, k⟩ => k [] F H (Sub.refl F) (Sub.refl H) A .nil
theorem da_cons (h : DE X Γ e d) (hr : DA X Γ es ds) (hs : starEach (e :: es) X.env = (false, eval e X.env) :: starEach es X.env := by rfl) : DA X Γ (e :: es) (d :: ds) := fun B =>
  pa_imp (pa_cons (h B) (hr B) hs) fun σ H Q ⟨F, A, k⟩ => ⟨F, A, fun v F1 H1 s1 t1 A1 r1 => ⟨F1, A1, fun vs F2 H2 s2 t2 A2 r2 => k (v :: vs) F2 H2 (s1.trans s2) (t1.trans t2) A2 (.cons (r1.mono s2) r2)⟩⟩
theorem de_tup {x1 : Nat} (h : DA X Γ es ds) (hz : ds.length ≤ sizeLine) : DE X Γ (.Tuple es x1 pos) (.tuple ds) := fun B => pe_imp (pe_tup (h B)) fun σ H Q ⟨F, A, k⟩ =>
  ⟨F, A, fun vs F1 H1 s1 t1 A1 r1 => ⟨by rw [r1.length]; exact hz, fun p hp => k _ (upd F1 p (.tup vs)) _ (s1.trans (Sub.new (A1.fh.free hp))) (t1.trans (Sub.new hp)) (A1.lay hp) (.tup upd_same (r1.mono (Sub.new (A1.fh.free hp))))⟩⟩
theorem dl_lst (h : DA X Γ es ds) (hz : ds.length ≤ sizeLine) : DL X Γ (.List es pos) ds := fun B => pe_imp (pe_lst (h B)) fun σ H Q ⟨F, A, k⟩ =>
  ⟨F, A, fun vs F1 H1 s1 t1 A1 r1 => ⟨by rw [r1.length]; exact hz, fun p hp => k p vs F1 _ s1 (t1.trans (Sub.new hp)) (A1.lay0 hp) (A1.fh.free hp) (A1.h0.free hp) upd_same r1 (A1.loose hp)⟩⟩

/-! ### items -/
theorem RepL.atI {P : Program} {w : World} {K : PySem.W.Frag} {F : Hp} {vs : List V} (r : RepL P w K F vs ds) (h : L2.atI ds k = some d) : ∃ v, L2.atI vs k = some v ∧ Rep P w K F v d := by
  unfold L2.atI at h ⊢
  rw [r.length]
  cases e : ixN ds.length k with
  | none => rw [e] at h; cases h
  | some j =>
    rw [e] at h
    exact r.get h
theorem de_ixL (ha : DB X Γ a xs) (hb : DW X Γ b (.int k)) (h : L2.atI xs k = some d) (hs : PlainIx b := by exact fun _ _ => rfl) : DE X Γ (.Subscript a b pos) d := fun B => pe_imp (pe_ix ix_list (ha B) (hb B) hs) fun σ H Q ⟨F, A, kk⟩ =>
  ⟨F, A, fun p vs F1 H1 s1 t1 A1 hp r1 => ⟨F1, A1, fun vb F2 H2 s2 t2 A2 r2 => by
    cases r2
    obtain ⟨v, h1, h2⟩ := r1.atI h
    exact ⟨p, vs, k, v, rfl, rfl, SqL.of (t2 _ _ hp), h1, kk v F2 H2 (s1.trans s2) (t1.trans t2) A2 (h2.mono s2)⟩⟩⟩
theorem de_ixT (ha : DE X Γ a (.tuple xs)) (hb : DW X Γ b (.int k)) (h : L2.atI xs k = some d) (hs : PlainIx b := by exact fun _ _ => rfl) : DE X Γ (.Subscript a b pos) d := fun B => pe_imp (pe_ix ix_tup (ha B) (hb B) hs) fun σ H Q ⟨F, A, kk⟩ =>
  ⟨F, A, fun v0 F1 H1 s1 t1 A1 r0 => by
    cases r0 with
    | tup hp r1 =>
      refine ⟨F1, A1, fun vb F2 H2 s2 t2 A2 r2 => ?_⟩
      cases r2
      obtain ⟨v, h1, h2⟩ := r1.atI h
      exact ⟨_, _, k, v, rfl, rfl, SqT.of (t2 _ _ (A1.fh _ _ hp)), h1, kk v F2 H2 (s1.trans s2) (t1.trans t2) A2 (h2.mono s2)⟩⟩
theorem de_ixS {s : Str} {n : Nat} (ha : DE X Γ a (.str s)) (hb : DW X Γ b (.int k)) (hz : s.length ≤ sizeLine) (h : L2.atI s.cps.toList k = some n) (hs : PlainIx b := by exact fun _ _ => rfl) : DE X Γ (.Subscript a b pos) (.str ⟨#[n]⟩) := fun B =>
  pe_imp (pe_ix ix_str (ha B) (hb B) hs) fun σ H Q ⟨F, A, kk⟩ => ⟨F, A, fun v0 F1 H1 s1 t1 A1 r0 => by
    cases r0
    refine ⟨F1, A1, fun vb F2 H2 s2 t2 A2 r2 => ?_⟩
    cases r2
    exact ⟨s, k, n, rfl, rfl, hz, h, kk _ F2 H2 (s1.trans s2) (t1.trans t2) A2 (.str _)⟩⟩
end
end PH

set_option Elab.async false
set_option linter.all false
set_option maxRecDepth 100000
set_option maxHeartbeats 4000000
/-! P4: statements by data. -/
namespace PH
open PySem PySem.Spec L2

/-- what is wanted behind a block, by what is known of the slots -/
structure Po where
  nx : List Bd → Prop
  rt : Bd → Prop
  bk : List Bd → Prop := fun _ => False
  ct : List Bd → Prop := fun _ => False
/-- what a def hands back -/
def RetOk (X : Cx) (B : Bs) (F H : Hp) (v : V) : Bd → Prop
  | .un => True
  | .fz d => Rp X F v d
  | .ol ds => ∃ p vs, v = .ref p ∧ F p = none ∧ B.H0 p = none ∧ H p = some (.lst vs) ∧ RpL X F vs ds
  | .od kvs => ∃ p, v = .ref p ∧ F p = none ∧ B.H0 p = none ∧ DictIn X.prog X.w X.K F H p kvs
  | .rf u => v = u
  | .sc _ => False
  | .ob _ _ => False
structure Fin (B : Bs) (F H : Hp) : Prop where
  f0 : Sub B.F0 F
  h0 : Sub B.H0 H
  fh : Sub F H
  fr : ∀ p o, F p = some o → B.F0 p = some o ∨ B.H0 p = none
theorem AtF.fin {P : Program} {w : World} {K : PySem.W.Frag} {B : Bs} {F H : Hp} {Γ : List Bd} {σ : St} (A : AtF P w K B.F0 B.H0 Γ F σ H) : Fin B F H := ⟨A.f0, A.h0, A.fh, A.fr⟩
def tS (X : Cx) (B : Bs) (Γ : List Bd) (P : Po) : TS := fun D σ H => ∃ F, At X B Γ F σ H ∧
  (∀ Γ' F' σ' H', P.nx Γ' → At X B Γ' F' σ' H' → D.nx σ' H') ∧
  (∀ b v F' H', P.rt b → Fin B F' H' → RetOk X B F' H' v b → D.rt v H') ∧
  (∀ Γ' F' σ' H', P.bk Γ' → At X B Γ' F' σ' H' → D.bk σ' H') ∧
  (∀ Γ' F' σ' H', P.ct Γ' → At X B Γ' F' σ' H' → D.ct σ' H')
def DS (X : Cx) (Γ : List Bd) (st : Stmt) (P : Po) : Prop := ∀ B, PS X st (tS X B Γ P)
def DSs (X : Cx) (Γ : List Bd) (sts : List Stmt) (P : Po) : Prop := ∀ B, PSs X sts (tS X B Γ P)

section
variable {X : Cx} {Γ : List Bd} {a b c e : Expr} {es : List Expr} {st : Stmt} {sts rest body : List Stmt} {pos : Pos} {d x y z : PyData} {ds xs ys : List PyData} {kvs : List (NestedKey × PyData)} {P : Po} {p q : Bool}
theorem ps_imp {t t' : TS} (h : PS X st t) (i : ∀ D σ H, t' D σ H → t D σ H) : PS X st t' := ⟨fun pins s σ H D I hw => h.run pins s σ H D I (i D σ H hw)⟩
theorem pss_imp {t t' : TS} (h : PSs X sts t) (i : ∀ D σ H, t' D σ H → t D σ H) : PSs X sts t' := ⟨fun pins s σ H D I hw => h.run pins s σ H D I (i D σ H hw)⟩
theorem dss_nil (h : P.nx Γ) : DSs X Γ [] P := fun B => pss_imp pss_nil fun D σ H ⟨F, A, k, _⟩ => k Γ F σ H h A
theorem dss_cons (R : List Bd → Prop) (h1 : DS X Γ st { P with nx := R }) (h2 : ∀ Γ', R Γ' → DSs X Γ' rest P) : DSs X Γ (st :: rest) P := fun B => by
  refine pss_imp (pss_cons (u := fun D σ H => ∃ Γ', R Γ' ∧ tS X B Γ' P D σ H) (h1 B) ⟨fun pins s σ H D I hw => ?_⟩) fun D σ H ⟨F, A, k1, k2, k3, k4⟩ => ?_
  · obtain ⟨Γ', hr, hw⟩ := hw
    exact (h2 Γ' hr B).run pins s σ H D I hw
  · exact ⟨F, A, fun Γ' F' σ' H' hr A' => ⟨Γ', hr, F', A', k1, k2, k3, k4⟩, k2, k3, k4⟩
theorem dss_one (h1 : DS X Γ st P) : DSs X Γ [st] P := fun B => pss_one (h1 B)
/-- a statement that ends in one known way -/
theorem dss_to {Γ1 : List Bd} (h1 : DS X Γ st { P with nx := fun Γ' => Γ' = Γ1 }) (h2 : DSs X Γ1 rest P) : DSs X Γ (st :: rest) P := dss_cons _ h1 fun Γ' e => e ▸ h2
theorem DS.imp {P P' : Po} (h : DS X Γ st P) (h1 : ∀ Γ', P.nx Γ' → P'.nx Γ') (h2 : ∀ b, P.rt b → P'.rt b) (h3 : ∀ Γ', P.bk Γ' → P'.bk Γ') (h4 : ∀ Γ', P.ct Γ' → P'.ct Γ') : DS X Γ st P' := fun B =>
  ps_imp (h B) fun D σ H ⟨F, A, k1, k2, k3, k4⟩ => ⟨F, A, fun Γ' F' σ' H' z => k1 Γ' F' σ' H' (h1 _ z), fun b v F' H' z => k2 b v F' H' (h2 _ z), fun Γ' F' σ' H' z => k3 Γ' F' σ' H' (h3 _ z), fun Γ' F' σ' H' z => k4 Γ' F' σ' H' (h4 _ z)⟩
theorem DSs.imp {P P' : Po} (h : DSs X Γ sts P) (h1 : ∀ Γ', P.nx Γ' → P'.nx Γ') (h2 : ∀ b, P.rt b → P'.rt b) (h3 : ∀ Γ', P.bk Γ' → P'.bk Γ') (h4 : ∀ Γ', P.ct Γ' → P'.ct Γ') : DSs X Γ sts P' := fun B =>
  pss_imp (h B) fun D σ H ⟨F, A, k1, k2, k3, k4⟩ => ⟨F, A, fun Γ' F' σ' H' z => k1 Γ' F' σ' H' (h1 _ z), fun b v F' H' z => k2 b v F' H' (h2 _ z), fun Γ' F' σ' H' z => k3 Γ' F' σ' H' (h3 _ z), fun Γ' F' σ' H' z => k4 Γ' F' σ' H' (h4 _ z)⟩

/-! ### freezing a slot (no code) -/
theorem AtF.frL {P : Program} {w : World} {K : PySem.W.Frag} {F0 H0 F H : Hp} {σ : St} {i : Nat} (A : AtF P w K F0 H0 Γ F σ H) (h : Γ[i]? = some (.ol ds)) : ∃ F', Sub F F' ∧ AtF P w K F0 H0 (Γ.set i (.fz (.list ds))) F' σ H := by
  obtain ⟨p, vs, h1, h2, h3, h4, h5⟩ := A.sl i _ h
  have A2 : AtF P w K F0 H0 (Γ.set i .un) F (σ.set i (some (.ref p))) H := A.setU
  have e : σ.set i (some (.ref p)) = σ := set_id h1
  rw [e] at A2
  have A3 := A2.keep (o := .lst vs) h4 h2 h3 fun j b hb ob z => by
    rcases getSet hb with ⟨_, rfl⟩ | ⟨ne, hb⟩
    · cases ob
    · exact ne (A.inj j i b _ p hb h ob rfl z h1)
  have A4 := A3.setF (j := i) (v := .ref p) (d := .list ds) (.lst upd_same (h5.mono (Sub.new h2)))
  rw [e, List.set_set] at A4
  exact ⟨_, Sub.new h2, A4⟩
theorem AtF.frD {P : Program} {w : World} {K : PySem.W.Frag} {F0 H0 F H : Hp} {σ : St} {i : Nat} (A : AtF P w K F0 H0 Γ F σ H) (h : Γ[i]? = some (.od kvs)) : ∃ F', Sub F F' ∧ AtF P w K F0 H0 (Γ.set i (.fz (.dict (kvs.map fun p => (p.1.data, p.2))))) F' σ H := by
  obtain ⟨p, h1, h2, h3, h4⟩ := A.sl i _ h
  obtain ⟨o, ho⟩ := h4.obj
  have A2 : AtF P w K F0 H0 (Γ.set i .un) F (σ.set i (some (.ref p))) H := A.setU
  have e : σ.set i (some (.ref p)) = σ := set_id h1
  rw [e] at A2
  have A3 := A2.keep (o := o) ho h2 h3 fun j b hb ob z => by
    rcases getSet hb with ⟨_, rfl⟩ | ⟨ne, hb⟩
    · cases ob
    · exact ne (A.inj j i b _ p hb h ob rfl z h1)
  have A4 := A3.setF (j := i) (v := .ref p) (d := .dict (kvs.map fun p => (p.1.data, p.2))) (DictIn.mono h4 (Sub.new h2) (by rw [upd_same, ho])).rep
  rw [e, List.set_set] at A4
  exact ⟨_, Sub.new h2, A4⟩
/-- a list of one's own is kept for good from here on -/
theorem dss_frL {i : Nat} (h : Γ[i]? = some (.ol ds)) (h2 : DSs X (Γ.set i (.fz (.list ds))) sts P) : DSs X Γ sts P := fun B => pss_imp (h2 B) fun D σ H ⟨F, A, k⟩ => by
  obtain ⟨F', s, A'⟩ := A.frL h
  exact ⟨F', A', k⟩
theorem dss_frD {i : Nat} (h : Γ[i]? = some (.od kvs)) (h2 : DSs X (Γ.set i (.fz (.dict (kvs.map fun p => (p.1.data, p.2))))) sts P) : DSs X Γ sts P := fun B => pss_imp (h2 B) fun D σ H ⟨F, A, k⟩ => by
  obtain ⟨F', s, A'⟩ := A.frD h
  exact ⟨F', A', k⟩
/-- what a slot holds is forgotten -/
theorem dss_un {i : Nat} (h2 : DSs X (Γ.set i .un) sts P) : DSs X Γ sts P := fun B => pss_imp (h2 B) fun D σ H ⟨F, A, k⟩ => by
  by_cases hi : i < σ.length
  · have A2 : At X B (Γ.set i .un) F (σ.set i (σ[i])) H := A.setU
    rw [List.set_getElem_self hi] at A2
    exact ⟨F, A2, k⟩
  · have hi' : Γ.length ≤ i := by rw [← A.len]; omega
    have e : Γ.set i .un = Γ := List.set_eq_of_length_le hi'
    rw [e]
    exact ⟨F, A, k⟩

/-! ### small statements -/
theorem ds_pass (h : P.nx Γ) : DS X Γ (.Pass pos) P := fun B => ps_imp ps_pass fun D σ H ⟨F, A, k, _⟩ => k Γ F σ H h A
theorem ds_break (h : P.bk Γ) : DS X Γ (.Break pos) P := fun B => ps_imp ps_break fun D σ H ⟨F, A, _, _, k, _⟩ => k Γ F σ H h A
theorem ds_continue (h : P.ct Γ) : DS X Γ (.Continue pos) P := fun B => ps_imp ps_continue fun D σ H ⟨F, A, _, _, _, k⟩ => k Γ F σ H h A
theorem ds_ret (h : DE X Γ e d) (hp : P.rt (.fz d)) : DS X Γ (.Return (some e) pos) P := fun B => ps_imp (ps_ret (h B)) fun D σ H ⟨F, A, _, k, _⟩ =>
  ⟨F, A, fun v F' H' s t A' r => k _ v F' H' hp A'.fin r⟩
theorem ds_retL (h : DL X Γ e ds) (hp : P.rt (.ol ds)) : DS X Γ (.Return (some e) pos) P := fun B => ps_imp (ps_ret (h B)) fun D σ H ⟨F, A, _, k, _⟩ =>
  ⟨F, A, fun p vs F' H' s t A' h1 h2 h3 h4 _ => k _ _ F' H' hp A'.fin ⟨p, vs, rfl, h1, h2, h3, h4⟩⟩
theorem ds_retD (h : DN X Γ e kvs) (hp : P.rt (.od kvs)) : DS X Γ (.Return (some e) pos) P := fun B => ps_imp (ps_ret (h B)) fun D σ H ⟨F, A, _, k, _⟩ =>
  ⟨F, A, fun p F' H' s t A' h1 h2 h3 _ => k _ _ F' H' hp A'.fin ⟨p, rfl, h1, h2, h3⟩⟩
/-- the list that a slot owns is handed back -/
theorem ds_retO {i : Nat} {x : Str} {p1 : Pos} (hx : VarAt X i x) (h : Γ[i]? = some (.ol ds)) (hp : P.rt (.ol ds)) : DS X Γ (.Return (some (.Name x p1)) pos) P := fun B => ps_imp (ps_ret hx.pe) fun D σ H ⟨F, A, _, k, _⟩ => by
  obtain ⟨p, vs, h1, h2, h3, h4, h5⟩ := A.sl i _ h
  exact ⟨_, h1, k _ _ F H hp A.fin ⟨p, vs, rfl, h2, h3, h4, h5⟩⟩
theorem ds_retOD {i : Nat} {x : Str} {p1 : Pos} (hx : VarAt X i x) (h : Γ[i]? = some (.od kvs)) (hp : P.rt (.od kvs)) : DS X Γ (.Return (some (.Name x p1)) pos) P := fun B => ps_imp (ps_ret hx.pe) fun D σ H ⟨F, A, _, k, _⟩ => by
  obtain ⟨p, h1, h2, h3, h4⟩ := A.sl i _ h
  exact ⟨_, h1, k _ _ F H hp A.fin ⟨p, rfl, h2, h3, h4⟩⟩
theorem ds_drop (h : DE X Γ e d) (hp : P.nx Γ) (hs : swapsWith e none pos.line X.env = pure false := by rfl) : DS X Γ (.Expr e pos) P := fun B => ps_imp (ps_expr (h B) hs) fun D σ H ⟨F, A, k, _⟩ =>
  ⟨F, A, fun v F' H' s t A' r => k Γ F' σ H' hp A'⟩
theorem ds_if (R : List Bd → Prop) (hc : DT X Γ c p) (h1 : p = true → DSs X Γ sts P) (h2 : p = false → DSs X Γ rest P) : DS X Γ (.If c sts rest pos) P := fun B => by
  refine ⟨fun pins s σ H D I hw => ?_⟩
  obtain ⟨F, A, k⟩ := hw
  refine wpAny_If (thn ((hc B).run pins s σ H (fun c H1 => c = p ∧ tS X B Γ P D σ H1) I ⟨F, A, fun F1 H1 s1 t1 A1 => ⟨rfl, F1, A1, k⟩⟩) fun c' s1 e => ?_)
  obtain ⟨H1, I1, rfl, q1⟩ := e
  cases c' with
  | true => exact (h1 rfl B).run pins s1 σ H1 D I1 q1
  | false => exact (h2 rfl B).run pins s1 σ H1 D I1 q1

/-! ### a name is stored -/
structure StoreAt (X : Cx) (i : Nat) (x : Str) : Prop where
  nd : X.N.Nodup
  at' : X.N[i]? = some x
  loc : Loc X.env.scope x
  fn : X.fn x = true ∨ X.env.scope.names.lookup x = some .local
theorem ps_setAt {i : Nat} {x : Str} {te : TE} {pos' : Pos} (hx : StoreAt X i x) (he : PE X e te) (hs : swapsWith e (some (.Name x pos')) pos.line X.env = pure false) : PS X (.Assign [.Name x pos'] e pos) (tAsg te (gName i)) :=
  ps_set hx.nd hx.at' hx.loc he hs hx.fn
theorem ds_set {i : Nat} {x : Str} {pos' : Pos} (hx : StoreAt X i x) (h : DE X Γ e d) (hp : P.nx (Γ.set i (.fz d))) (hs : swapsWith e (some (.Name x pos')) pos.line X.env = pure false := by rfl) : DS X Γ (.Assign [.Name x pos'] e pos) P := fun B =>
  ps_imp (ps_setAt hx (h B) hs) fun D σ H ⟨F, A, k, _⟩ => ⟨F, A, fun v F' H' s t A' r => k _ F' _ H' hp (A'.setF r)⟩
theorem ds_setL {i : Nat} {x : Str} {pos' : Pos} (hx : StoreAt X i x) (h : DL X Γ e ds) (hp : P.nx (Γ.set i (.ol ds))) (hs : swapsWith e (some (.Name x pos')) pos.line X.env = pure false := by rfl) : DS X Γ (.Assign [.Name x pos'] e pos) P := fun B =>
  ps_imp (ps_setAt hx (h B) hs) fun D σ H ⟨F, A, k, _⟩ => ⟨F, A, fun p vs F' H' s t A' h1 h2 h3 h4 h5 => k _ F' _ H' hp (A'.setL h1 h2 h3 h4 h5)⟩
theorem ds_setD {i : Nat} {x : Str} {pos' : Pos} (hx : StoreAt X i x) (h : DN X Γ e kvs) (hp : P.nx (Γ.set i (.od kvs))) (hs : swapsWith e (some (.Name x pos')) pos.line X.env = pure false := by rfl) : DS X Γ (.Assign [.Name x pos'] e pos) P := fun B =>
  ps_imp (ps_setAt hx (h B) hs) fun D σ H ⟨F, A, k, _⟩ => ⟨F, A, fun p F' H' s t A' h1 h2 h3 h4 => k _ F' _ H' hp (A'.setD h1 h2 h3 h4)⟩

/-! ### targets -/
/-- a name, or names in a row -/
inductive Pat where
  | nm (i : Nat)
  | tp (is : List Nat)
def setAll (Γ : List Bd) : List Nat → List PyData → List Bd
  | i :: is, d :: ds => setAll (Γ.set i (.fz d)) is ds
  | _, _ => Γ
def Pat.bind (Γ : List Bd) : Pat → PyData → Option (List Bd)
  | .nm i, d => some (Γ.set i (.fz d))
  | .tp is, .tuple ds => if is.length = ds.length then some (setAll Γ is ds) else none
  | .tp _, _ => none
def Pat.slots : Pat → List Nat
  | .nm i => [i]
  | .tp is => is
/-- only these slots are other ones -/
def OnlyAt (is : List Nat) (σ σ' : St) : Prop := σ'.length = σ.length ∧ ∀ i, i ∉ is → σ'[i]? = σ[i]?
/-- the target stores by the pattern -/
def tG (X : Cx) (B : Bs) (t : Pat) : TG := fun v σ H Q => ∃ F Γ Γ' d, At X B Γ F σ H ∧ Rp X F v d ∧ t.bind Γ d = some Γ' ∧ ∀ σ', OnlyAt t.slots σ σ' → At X B Γ' F σ' H → Q σ' H
def DG (X : Cx) (tg : Expr) (t : Pat) : Prop := ∀ B, PG X tg (tG X B t)
theorem pg_imp {tg : Expr} {t t' : TG} (h : PG X tg t) (i : ∀ v σ H Q, t' v σ H Q → t v σ H Q) : PG X tg t' := ⟨fun pins s σ H v u Q I r hw => h.run pins s σ H v u Q I r (i v σ H Q hw)⟩
theorem pgs_imp {tg : List Expr} {t t' : TGs} (h : PGs X tg t) (i : ∀ v σ H Q, t' v σ H Q → t v σ H Q) : PGs X tg t' := ⟨fun pins s σ H v u Q I r hw => h.run pins s σ H v u Q I r (i v σ H Q hw)⟩
theorem dg_name {i : Nat} {x : Str} (hx : StoreAt X i x) : DG X (.Name x pos) (.nm i) := fun B => pg_imp (pg_name hx.nd hx.at' hx.loc hx.fn) fun v σ H Q ⟨F, Γ, Γ', d, A, r, e, k⟩ => by
  cases e
  exact k _ ⟨by simp, fun j hj => List.getElem?_set_ne (fun z => hj (by simp [Pat.slots, z]))⟩ (A.setF r)
def tGs (X : Cx) (B : Bs) (is : List Nat) : TGs := fun vs σ H Q => ∃ F Γ ds, At X B Γ F σ H ∧ RpL X F vs ds ∧ is.length = ds.length ∧ ∀ σ', OnlyAt is σ σ' → At X B (setAll Γ is ds) F σ' H → Q σ' H
def DGs (X : Cx) (tgs : List Expr) (is : List Nat) : Prop := ∀ B, PGs X tgs (tGs X B is)
theorem dgs_nil : DGs X [] [] := fun B => pgs_imp pgs_nil fun vs σ H Q ⟨F, Γ, ds, A, r, hl, k⟩ => by
  cases ds with
  | cons d ds => simp at hl
  | nil => cases r; exact ⟨rfl, k σ ⟨rfl, fun _ _ => rfl⟩ A⟩
theorem dgs_cons {i : Nat} {is : List Nat} {x : Str} (hx : StoreAt X i x) (h : DGs X es is) (hs : (assignEach (.Name x pos :: es) X.env).map (·.2) = assign (.Name x pos) X.env :: (assignEach es X.env).map (·.2) := by rfl) : DGs X (.Name x pos :: es) (i :: is) := fun B =>
  pgs_imp (pgs_cons (pg_name (pos := pos) hx.nd hx.at' hx.loc hx.fn) (h B) hs) fun vs σ H Q ⟨F, Γ, ds, A, r, hl, k⟩ => by
    cases ds with
    | nil => simp at hl
    | cons d ds =>
      cases r with
      | cons r rr => exact ⟨_, _, rfl, F, _, ds, A.setF r, rr, by simpa using hl, fun σ' o A' => k σ' ⟨by rw [o.1]; simp, fun j hj => by
        rw [List.mem_cons, not_or] at hj
        rw [o.2 j hj.2, List.getElem?_set_ne (Ne.symm hj.1)]⟩ A'⟩
theorem dg_tup {k : Nat} {is : List Nat} (hc : X.calm = true) (h : DGs X es is) (hn : (assignEach es X.env).length = is.length := by rfl) (hst : (assignEach es X.env).findIdx? (·.1) = none := by rfl) : DG X (.Tuple es k pos) (.tp is) := fun B =>
  pg_imp (pg_tup hc (h B) hn hst) fun v σ H Q ⟨F, Γ, Γ', d, A, r, e, k⟩ => by
    cases r with
    | @tup a0 vs0 ds0 hp rr =>
      have e1 : (if is.length = ds0.length then some (setAll Γ is ds0) else none) = some Γ' := e
      by_cases hl : is.length = ds0.length
      · have e2 : setAll Γ is ds0 = Γ' := by
          rw [if_pos hl] at e1
          exact Option.some.inj e1
        subst e2
        exact ⟨_, _, rfl, SqT.of (A.fh _ _ hp), by rw [rr.length, hl], F, Γ, ds0, A, rr, hl, k⟩
      · rw [if_neg hl] at e1; cases e1
    | non => cases e
    | bl => cases e
    | int => cases e
    | str => cases e
    | lst => cases e
    | dct => cases e
/-- target = e -/
theorem ds_asg {tg : Expr} {t : Pat} {Γ' : List Bd} (hg : DG X tg t) (h : DE X Γ e d) (hb : t.bind Γ d = some Γ') (hp : P.nx Γ') (hs : swapsWithSole [tg] e pos.line X.env = pure false := by rfl) (hw : swappedStores [tg] e X.env = pure none := by rfl)
    (h1 : (assignEach [tg] X.env).map (·.2) = [assign tg X.env] := by rfl) : DS X Γ (.Assign [tg] e pos) P := fun B =>
  ps_imp (ps_asg (h B) (hg B) hs hw h1) fun D σ H ⟨F, A, k, _⟩ => ⟨F, A, fun v F' H' s t A' r => ⟨F', Γ, Γ', d, A', r, hb, fun σ' _ A2 => k _ F' σ' H' hp A2⟩⟩
end
end PH

set_option Elab.async false
set_option linter.all false
set_option maxRecDepth 100000
set_option maxHeartbeats 4000000
/-! P5: what is walked, for, while, comprehensions. -/
namespace PH
open PySem PySem.Spec L2

/-! ### what is walked -/
/-- from F on, J yields these data one by one, whatever comes beside -/
def Steps (X : Cx) (J : It) (F : Hp) (ds : List PyData) : Prop := ∀ F' H, Sub F F' → Sub F' H →
  (∀ (i : Nat) (d : PyData), ds[i]? = some d → J.go i H ∧ ∀ x H', J.yld i H x H' → ∃ F2, Sub F' F2 ∧ Sub H H' ∧ Sub F2 H' ∧ (∀ p o, F2 p = some o → F' p = some o ∨ H p = none) ∧ Rp X F2 x d) ∧ J.stop ds.length H
def tI (X : Cx) (B : Bs) (Γ : List Bd) (ds : List PyData) : TI := fun σ H R => ∃ F, At X B Γ F σ H ∧ ∀ J F' H', Sub F F' → Sub H H' → At X B Γ F' σ H' → Steps X J F' ds → R J H'
def DI (X : Cx) (Γ : List Bd) (tg e : Expr) (ds : List PyData) : Prop := ∀ B, PI X tg e (tI X B Γ ds)
section
variable {X : Cx} {Γ : List Bd} {a b c e tg : Expr} {es : List Expr} {st : Stmt} {sts rest body : List Stmt} {pos p1 : Pos} {d x y z : PyData} {ds xs ys : List PyData} {kvs : List (NestedKey × PyData)} {P : Po} {p q : Bool} {t : Pat}
theorem pi_imp {t t' : TI} (h : PI X tg e t) (i : ∀ σ H R, t' σ H R → t σ H R) : PI X tg e t' := ⟨fun pins s σ H R I hw => h.run pins s σ H R I (i σ H R hw)⟩
theorem steps_list {F : Hp} {l : Addr} {vs : List V} (hl : F l = some (.lst vs)) (r : RpL X F vs ds) : Steps X (Itl X.K l) F ds := fun F' H s t => by
  have hq : SqL X.K H l vs := SqL.of (t _ _ (s _ _ hl))
  refine ⟨fun i d hd => ?_, vs, hq, by rw [r.length]; exact Nat.le_refl _⟩
  obtain ⟨v, hv, rv⟩ := r.get hd
  refine ⟨⟨vs, v, hq, hv⟩, fun x H' ⟨e1, e2⟩ => ?_⟩
  subst e1
  have e3 := e2 vs hq
  rw [hv] at e3; cases e3
  exact ⟨F', Sub.refl _, Sub.refl _, t, fun _ _ z => .inl z, rv.mono s⟩
theorem steps_tup {F : Hp} {l : Addr} {vs : List V} (hl : F l = some (.tup vs)) (r : RpL X F vs ds) : Steps X (Itt X.K l) F ds := fun F' H s t => by
  have hq : SqT X.K H l vs := SqT.of (t _ _ (s _ _ hl))
  refine ⟨fun i d hd => ?_, vs, hq, by rw [r.length]; exact Nat.le_refl _⟩
  obtain ⟨v, hv, rv⟩ := r.get hd
  refine ⟨⟨vs, v, hq, hv⟩, fun x H' ⟨e1, e2⟩ => ?_⟩
  subst e1
  have e3 := e2 vs hq
  rw [hv] at e3; cases e3
  exact ⟨F', Sub.refl _, Sub.refl _, t, fun _ _ z => .inl z, rv.mono s⟩
/-- for .. in a list, a tuple -/
theorem di_list (h : DE X Γ e (.list ds)) : DI X Γ tg e ds := fun B => pi_imp (pi_list (h B)) fun σ H R ⟨F, A, k⟩ => ⟨F, A, fun v F' H' s t A' r => by
  cases r with
  | lst hl r => exact ⟨_, rfl, ⟨_, SqL.of (A'.fh _ _ hl)⟩, k _ F' H' s t A' (steps_list hl r)⟩⟩
theorem di_tup (h : DE X Γ e (.tuple ds)) : DI X Γ tg e ds := fun B => pi_imp (pi_tup (h B)) fun σ H R ⟨F, A, k⟩ => ⟨F, A, fun v F' H' s t A' r => by
  cases r with
  | tup hl r => exact ⟨_, rfl, ⟨_, SqT.of (A'.fh _ _ hl)⟩, k _ F' H' s t A' (steps_tup hl r)⟩⟩
/-- lo, lo + 1, .. : n of them -/
def upD (lo : Int) (n : Nat) : List PyData := (List.range n).map fun i => .int (lo + (i : Nat))
theorem upD_get {lo : Int} {n i : Nat} (h : i < n) : (upD lo n)[i]? = some (.int (lo + (i : Nat))) := by
  unfold upD; rw [List.getElem?_map, List.getElem?_range h]; rfl
theorem upD_length (lo : Int) (n : Nat) : (upD lo n).length = n := by simp [upD]
theorem steps_range {F : Hp} {lo : Int} {n : Nat} : Steps X (Itr lo n) F (upD lo n) := fun F' H s t => by
  refine ⟨fun i d hd => ?_, by rw [upD_length]; exact Nat.le_refl n⟩
  have hi : i < n := by have := (List.getElem?_eq_some_iff.mp hd).1; rwa [upD_length] at this
  rw [upD_get hi] at hd; cases hd
  refine ⟨hi, fun x H' ⟨e1, e2⟩ => ?_⟩
  subst e1; subst e2
  exact ⟨F', Sub.refl _, Sub.refl _, t, fun _ _ z => .inl z, .int _⟩
theorem di_range1 {j : Int} (hg : Gl X "range") (hm : X.mg "range" = none) (h : DE X Γ a (.int j)) (h1 : -(2 ^ 62) ≤ j) (h2 : j < 2 ^ 62) (hs : starEach [a] X.env = [(false, eval a X.env)] := by rfl) : DI X Γ tg (.Call (.Name "range" p1) [a] [] pos) (upD 0 j.toNat) := fun B =>
  pi_imp (pi_range1 hg hm ((da_cons h da_nil hs) B) hs) fun σ H R ⟨F, A, k⟩ => ⟨F, A, fun vs F' H' s t A' r => by
    cases r with
    | cons r rr =>
      cases rr; cases r
      exact ⟨j, rfl, h1, h2, k _ F' H' s t A' steps_range⟩⟩
theorem di_range2 {i j : Int} (hg : Gl X "range") (hm : X.mg "range" = none) (h : DE X Γ a (.int i)) (h' : DE X Γ b (.int j)) (hb : -(2 ^ 62) ≤ i ∧ i < 2 ^ 62 ∧ -(2 ^ 62) ≤ j ∧ j < 2 ^ 62)
    (hs : starEach [a, b] X.env = [(false, eval a X.env), (false, eval b X.env)] := by rfl) (hs2 : starEach [b] X.env = [(false, eval b X.env)] := by rfl) : DI X Γ tg (.Call (.Name "range" p1) [a, b] [] pos) (upD i (j - i).toNat) := fun B =>
  pi_imp (pi_range2 hg hm ((da_cons h (da_cons h' da_nil hs2) (by rw [hs, hs2])) B) hs hs2) fun σ H R ⟨F, A, k⟩ => ⟨F, A, fun vs F' H' s t A' r => by
    cases r with
    | cons r rr =>
      cases rr with
      | cons r' rr =>
        cases rr; cases r; cases r'
        exact ⟨i, j, rfl, hb, k _ F' H' s t A' steps_range⟩⟩
/-- (0, d0), (1, d1), .. -/
def enumD (ds : List PyData) : List PyData := ds.mapIdx fun i d => .tuple [.int (i : Nat), d]
theorem enumD_get {i : Nat} {d : PyData} (h : ds[i]? = some d) : (enumD ds)[i]? = some (.tuple [.int (i : Nat), d]) := by unfold enumD; rw [List.getElem?_mapIdx, h]; rfl
theorem enumD_of {i : Nat} {e : PyData} (h : (enumD ds)[i]? = some e) : ∃ d, ds[i]? = some d ∧ e = .tuple [.int (i : Nat), d] := by
  unfold enumD at h
  rw [List.getElem?_mapIdx] at h
  cases q : ds[i]? with
  | none => rw [q] at h; cases h
  | some d => rw [q] at h; exact ⟨d, rfl, (Option.some.inj h).symm⟩
theorem enumD_length (ds : List PyData) : (enumD ds).length = ds.length := by simp [enumD]
theorem new_tup {F' H : Hp} {T : Addr} {vs : List V} {es : List PyData} (t : Sub F' H) (hT : H T = none) (r : RpL X F' vs es) :
    ∃ F2, Sub F' F2 ∧ Sub H (upd H T (.tup vs)) ∧ Sub F2 (upd H T (.tup vs)) ∧ (∀ p o, F2 p = some o → F' p = some o ∨ H p = none) ∧ Rp X F2 (.ref T) (.tuple es) :=
  ⟨upd F' T (.tup vs), Sub.new (t.free hT), Sub.new hT, t.upd2, fun p o e => by
    by_cases hp : p = T
    · subst hp; exact .inr hT
    · rw [upd_ne hp] at e; exact .inl e, .tup upd_same (r.mono (Sub.new (t.free hT)))⟩
theorem steps_enum {F : Hp} {l : Addr} {vs : List V} (hl : F l = some (.lst vs)) (r : RpL X F vs ds) : Steps X (Ite X.K l) F (enumD ds) := fun F' H s t => by
  have hq : SqL X.K H l vs := SqL.of (t _ _ (s _ _ hl))
  refine ⟨fun i e he => ?_, vs, hq, by rw [enumD_length, r.length]; exact Nat.le_refl _⟩
  obtain ⟨d, hd, rfl⟩ := enumD_of he
  obtain ⟨v, hv, rv⟩ := r.get hd
  refine ⟨⟨vs, v, hq, hv⟩, fun x H' ⟨T, y, e1, hT, e2, e3⟩ => ?_⟩
  subst e1; subst e2
  have e4 := e3 vs hq
  rw [hv] at e4; cases e4
  exact new_tup t hT (.cons (.int _) (.cons (rv.mono s) .nil))
theorem di_enum {elts : List Expr} {kk : Nat} {tpos : Pos} (hg : Gl X "enumerate") (hm : X.mg "enumerate" = none) (h : DE X Γ a (.list ds)) (hs : starEach [a] X.env = [(false, eval a X.env)] := by rfl) : DI X Γ (.Tuple elts kk tpos) (.Call (.Name "enumerate" p1) [a] [] pos) (enumD ds) := fun B =>
  pi_imp (pi_enum hg hm ((da_cons h da_nil hs) B) hs) fun σ H R ⟨F, A, k⟩ => ⟨F, A, fun vs F' H' s t A' r => by
    cases r with
    | cons r rr =>
      cases rr
      cases r with
      | lst hl r => exact ⟨_, _, rfl, SqL.of (A'.fh _ _ hl), k _ F' H' s t A' (steps_enum hl r)⟩⟩
/-- pairs, as long as both go -/
def zipD (xs ys : List PyData) : List PyData := (xs.zip ys).map fun p => .tuple [p.1, p.2]
theorem steps_zip {F : Hp} {l m : Addr} {vs ws : List V} (hl : F l = some (.lst vs)) (hm : F m = some (.lst ws)) (r : RpL X F vs xs) (r' : RpL X F ws ys) : Steps X (Itz X.K l m) F (zipD xs ys) := fun F' H s t => by
  have hq : SqL X.K H l vs := SqL.of (t _ _ (s _ _ hl))
  have hq' : SqL X.K H m ws := SqL.of (t _ _ (s _ _ hm))
  refine ⟨fun i e he => ?_, vs, ws, hq, hq', by
    have e1 := r.length
    have e2 := r'.length
    unfold zipD
    rw [List.length_map, List.length_zip]
    omega⟩
  unfold zipD at he
  rw [List.getElem?_map] at he
  cases hz : (xs.zip ys)[i]? with
  | none => rw [hz] at he; cases he
  | some pq =>
    rw [hz] at he; cases he
    obtain ⟨h1, h2⟩ := List.getElem?_zip_eq_some.mp hz
    obtain ⟨v, hv, rv⟩ := r.get h1
    obtain ⟨w, hw, rw'⟩ := r'.get h2
    refine ⟨⟨vs, ws, v, w, hq, hq', hv, hw⟩, fun x H' ⟨T, y, z, e1, hT, e2, e3, e4⟩ => ?_⟩
    subst e1; subst e2
    have f1 := e3 vs hq
    have f2 := e4 ws hq'
    rw [hv] at f1; cases f1
    rw [hw] at f2; cases f2
    exact new_tup t hT (.cons (rv.mono s) (.cons (rw'.mono s) .nil))
theorem di_zip {elts : List Expr} {kk : Nat} {tpos : Pos} (hg : Gl X "zip") (hm : X.mg "zip" = none) (h : DE X Γ a (.list xs)) (h' : DE X Γ b (.list ys))
    (hs : starEach [a, b] X.env = (false, eval a X.env) :: starEach [b] X.env := by rfl) (hs2 : starEach [b] X.env = [(false, eval b X.env)] := by rfl) (hpl : (backTo pos (starEach [b] X.env)).any (·.1) = false := by rfl) : DI X Γ (.Tuple elts kk tpos) (.Call (.Name "zip" p1) [a, b] [] pos) (zipD xs ys) := fun B =>
  pi_imp (pi_zip hg hm ((da_cons h (da_cons h' da_nil hs2) hs) B) hs hpl) fun σ H R ⟨F, A, k⟩ => ⟨F, A, fun vs F' H' s t A' r => by
    cases r with
    | cons r rr =>
      cases rr with
      | cons r' rr =>
        cases rr
        cases r with
        | lst hl r =>
          cases r' with
          | lst hl' r' => exact ⟨_, _, _, _, rfl, SqL.of (A'.fh _ _ hl), SqL.of (A'.fh _ _ hl'), k _ F' H' s t A' (steps_zip hl hl' r r')⟩⟩

/-! ### for -/
theorem AtF.base {P : Program} {w : World} {K : PySem.W.Frag} {F0 H0 F F1 H : Hp} {σ : St} (A : AtF P w K F0 H0 Γ F σ H) (s0 : Sub F0 F1) (s : Sub F1 F) : AtF P w K F1 H0 Γ F σ H :=
  ⟨A.len, s, A.h0, A.fh, fun p o e => by
    rcases A.fr p o e with z | z
    · exact .inl (s0 _ _ z)
    · exact .inr z, A.sl, A.inj⟩
/-- back to the base ahead of the loop -/
theorem AtF.unbase {P : Program} {w : World} {K : PySem.W.Frag} {F0 H0 F F1 H : Hp} {σ : St} (A : AtF P w K F1 H0 Γ F σ H) (s0 : Sub F0 F1) (n : ∀ p o, F1 p = some o → F0 p = some o ∨ H0 p = none) : AtF P w K F0 H0 Γ F σ H :=
  ⟨A.len, s0.trans A.f0, A.h0, A.fh, fun p o e => by
    rcases A.fr p o e with z | z
    · exact n p o z
    · exact .inr z, A.sl, A.inj⟩
theorem RetOk.base {B B' : Bs} {F H : Hp} {v : V} {b : Bd} (h : RetOk X B F H v b) (e : B.H0 = B'.H0) : RetOk X B' F H v b := by
  cases b with
  | ol ds => obtain ⟨p, vs, h1, h2, h3, h4⟩ := h; exact ⟨p, vs, h1, h2, e ▸ h3, h4⟩
  | od kvs => obtain ⟨p, h1, h2, h3, h4⟩ := h; exact ⟨p, h1, h2, e ▸ h3, h4⟩
  | _ => exact h
/-- the loop: I by the turn; R what holds behind it -/
theorem ds_for (I : Nat → List Bd → Prop) (hp : PassesOwn (model X.prog X.w) X.A X.env X.xe) (hc : X.calm = true) (hi : DI X Γ tg e ds) (hg : DG X tg t) (h0 : I 0 Γ)
    (hb : ∀ (i : Nat) (d : PyData) (Γ' : List Bd), ds[i]? = some d → I i Γ' → ∃ Γ2, t.bind Γ' d = some Γ2 ∧ DSs X Γ2 body { nx := I (i + 1), rt := P.rt, bk := P.nx, ct := I (i + 1) })
    (hd : ∀ Γ', I ds.length Γ' → P.nx Γ') (hs : ∀ x, foldedSetIterable e X.env x = pure x := by intro _; rfl) : DS X Γ (.For tg e body [] pos) P := fun B => by
  refine ps_imp (ps_for (tb := fun D σ H => ∃ B' Γ2 P', DSs X Γ2 body P' ∧ tS X B' Γ2 P' D σ H) (g := fun v σ H Q => ∃ B' : Bs, tG X B' t v σ H Q) hp hc (hi B) ⟨fun pins s σ H v u Q I' r hw => ?_⟩ ⟨fun pins s σ H D I' hw => ?_⟩ hs) fun D σ H ⟨F, A, k1, k2, k3, k4⟩ => ?_
  · obtain ⟨B', hw⟩ := hw
    exact (hg B').run pins s σ H v u Q I' r hw
  · obtain ⟨B', Γ2, P', h, hw⟩ := hw
    exact (h B').run pins s σ H D I' hw
  refine ⟨F, A, fun J F1 H1 s1 t1 A1 st => ?_⟩
  have A1' : At X ⟨F1, B.H0⟩ Γ F1 σ H1 := A1.base A1.f0 (Sub.refl F1)
  refine ⟨fun i m σ' H' => m = ds.length - i ∧ i ≤ ds.length ∧ ∃ Γ' F', I i Γ' ∧ At X ⟨F1, B.H0⟩ Γ' F' σ' H', ⟨ds.length, by simp, Nat.zero_le _, Γ, F1, h0, A1'⟩, ?_⟩
  rintro i m σ' H' ⟨rfl, hle, Γ', F', hI, A'⟩
  obtain ⟨go, stop⟩ := st F' H' A'.f0 A'.fh
  by_cases hlt : i < ds.length
  · obtain ⟨hgo, hy⟩ := go i ds[i] (List.getElem?_eq_getElem hlt)
    refine .inr ⟨hgo, fun σ2 H2 => ∃ Γ2 F2, I (i + 1) Γ2 ∧ At X ⟨F1, B.H0⟩ Γ2 F2 σ2 H2, fun σ2 H2 ⟨Γ2, F2, hI2, A2⟩ => ⟨ds.length - (i + 1), by omega, rfl, hlt, Γ2, F2, hI2, A2⟩, fun x H2 hyl => ?_⟩
    obtain ⟨F2, f1, f2, f3, f4, rx⟩ := hy x H2 hyl
    have A2 : At X ⟨F1, B.H0⟩ Γ' F2 σ' H2 := A'.grow f1 f2 f3 f4
    obtain ⟨Γ2, hbind, hbody⟩ := hb i ds[i] Γ' (List.getElem?_eq_getElem hlt) hI
    refine ⟨⟨F1, B.H0⟩, F2, Γ', Γ2, ds[i], A2, rx, hbind, fun σ2 _ A3 => ⟨⟨F1, B.H0⟩, Γ2, _, hbody, F2, A3, ?_, ?_, ?_, ?_⟩⟩
    · exact fun Γ3 F3 σ3 H3 hI3 A3 => ⟨Γ3, F3, hI3, A3⟩
    · exact fun b v F3 H3 hr hf hv => k2 b v F3 H3 hr ⟨A1.f0.trans hf.f0, hf.h0, hf.fh, fun p o e => by
        rcases hf.fr p o e with z | z
        · exact A1.fr p o z
        · exact .inr z⟩ (hv.base rfl)
    · exact fun Γ3 F3 σ3 H3 hI3 A3 => k1 Γ3 F3 σ3 H3 hI3 (A3.unbase A1.f0 A1.fr)
    · exact fun Γ3 F3 σ3 H3 hI3 A3 => ⟨Γ3, F3, hI3, A3⟩
  · have e : i = ds.length := by omega
    subst e
    exact .inl ⟨stop, k1 Γ' F' σ' H' (hd Γ' hI) (A'.unbase A1.f0 A1.fr)⟩

/-! ### while -/
theorem ds_while (I : Nat → List Bd → Prop) (hp : PassesOwn (model X.prog X.w) X.A X.env X.xe) {m : Nat} (h0 : I m Γ)
    (hb : ∀ (m : Nat) (Γ' : List Bd), I m Γ' → ∃ p, DT X Γ' c p ∧ (p = true → DSs X Γ' body { nx := fun Γ2 => ∃ m', m' < m ∧ I m' Γ2, rt := P.rt, bk := P.nx, ct := fun Γ2 => ∃ m', m' < m ∧ I m' Γ2 }) ∧ (p = false → P.nx Γ')) :
    DS X Γ (.While c body [] pos) P := fun B => by
  refine ps_imp (ps_while (tc := fun σ H Q => ∃ Γ' p, DT X Γ' c p ∧ tT X B Γ' p σ H Q) (tb := fun D σ H => ∃ Γ2 P', DSs X Γ2 body P' ∧ tS X B Γ2 P' D σ H) hp ⟨fun pins s σ H Q I' hw => ?_⟩ ⟨fun pins s σ H D I' hw => ?_⟩) fun D σ H ⟨F, A, k1, k2, k3, k4⟩ => ?_
  · obtain ⟨Γ', p, h, hw⟩ := hw
    exact (h B).run pins s σ H Q I' hw
  · obtain ⟨Γ2, P', h, hw⟩ := hw
    exact (h B).run pins s σ H D I' hw
  refine ⟨fun m σ' H' => ∃ Γ' F', I m Γ' ∧ At X B Γ' F' σ' H', ⟨m, Γ, F, h0, A⟩, fun m σ' H' ⟨Γ', F', hI, A'⟩ => ?_⟩
  obtain ⟨p, ht, hbt, hbf⟩ := hb m Γ' hI
  refine ⟨Γ', p, ht, F', A', fun F2 H2 s2 t2 A2 => ?_⟩
  cases p with
  | true => exact iteT ⟨fun σ3 H3 => ∃ Γ3 F3, (∃ m', m' < m ∧ I m' Γ3) ∧ At X B Γ3 F3 σ3 H3, fun σ3 H3 ⟨Γ3, F3, ⟨m', hm, hI3⟩, A3⟩ => ⟨m', hm, Γ3, F3, hI3, A3⟩, Γ', _, hbt rfl, F2, A2, fun Γ3 F3 σ3 H3 h3 A3 => ⟨Γ3, F3, h3, A3⟩, k2, k1, fun Γ3 F3 σ3 H3 h3 A3 => ⟨Γ3, F3, h3, A3⟩⟩
  | false => exact iteF (k1 Γ' F2 σ' H2 (hbf rfl) A2)
end
end PH

set_option Elab.async false
set_option linter.all false
set_option maxRecDepth 100000
set_option maxHeartbeats 4000000
/-! P6: list comprehensions by data. -/
namespace PH
open PySem PySem.Spec L2

/-- X' is the context of a comprehension's block in X -/
def IsBlk (X : Cx) (scope : Scope) (X' : Cx) : Prop := ∃ s H C cl fp, X' = X.blk s H scope (compEnvC scope cl C X.env) fp
theorem IsBlk.same {X X' : Cx} {scope : Scope} (h : IsBlk X scope X') : X'.prog = X.prog ∧ X'.w = X.w ∧ X'.K = X.K := by
  obtain ⟨s, H, C, cl, fp, rfl⟩ := h; exact ⟨rfl, rfl, rfl⟩
/-- the slots of the block's own names forgotten -/
def unAll (Γ : List Bd) : List Nat → List Bd
  | [] => Γ
  | i :: is => (unAll Γ is).set i .un
def DTs (X : Cx) (Γ : List Bd) (ifs : List Expr) (b : Bool) : Prop := ∀ B, PTs X ifs (tT X B Γ b)
section
variable {X : Cx} {Γ : List Bd} {a b c e elt tg : Expr} {es ifs : List Expr} {pos p1 : Pos} {d x y z : PyData} {ds xs ys : List PyData} {P : Po} {p q : Bool} {t : Pat} {scope : Scope} {own : List (Str × Nat)}
theorem dts_nil : DTs X Γ [] true := fun B => ⟨fun pins s σ H Q I h => by
  obtain ⟨F, A, k⟩ := h
  exact (pts_nil (X := X)).run pins s σ H Q I (k F H (Sub.refl F) (Sub.refl H) A)⟩
theorem dts_one (h : DT X Γ c p) : DTs X Γ [c] p := fun B => pts_one (h B)
theorem AtF.wipe {P : Program} {w : World} {K : PySem.W.Frag} {F0 H0 F H : Hp} {σ : St} (A : AtF P w K F0 H0 Γ F σ H) : ∀ vs : List Nat, AtF P w K F0 H0 (unAll Γ vs) F (wipe σ vs) H
  | [] => A
  | v :: vs => (AtF.wipe A vs).setU
theorem wipe_get {σ : St} {i : Nat} : ∀ {vs : List Nat}, i ∉ vs → (wipe σ vs)[i]? = σ[i]?
  | [], _ => rfl
  | v :: vs, h => by
    rw [List.mem_cons, not_or] at h
    unfold wipe
    rw [List.getElem?_set_ne (Ne.symm h.1), wipe_get h.2]
theorem wipe_in {σ : St} {i : Nat} : ∀ {vs : List Nat}, i ∈ vs → i < σ.length → (wipe σ vs)[i]? = some none
  | [], h, _ => nomatch h
  | v :: vs, h, hl => by
    unfold wipe
    by_cases e : v = i
    · subst e
      rw [List.getElem?_set_self (by rw [wipe_length]; exact hl)]
    · rw [List.getElem?_set_ne e]
      rcases List.mem_cons.mp h with z | z
      · exact absurd z.symm e
      · exact wipe_in z hl
theorem wipe_only {σ σ2 : St} {is vs : List Nat} (hs : ∀ i ∈ is, i ∈ vs) (o : OnlyAt is (wipe σ vs) σ2) : wipe σ2 vs = wipe σ vs := by
  have hl : σ2.length = σ.length := by rw [o.1, wipe_length]
  apply List.ext_getElem?
  intro i
  by_cases hi : i ∈ vs
  · by_cases hb : i < σ.length
    · rw [wipe_in hi hb, wipe_in hi (by rw [hl]; exact hb)]
    · rw [List.getElem?_eq_none (by rw [wipe_length, hl]; omega), List.getElem?_eq_none (by rw [wipe_length]; omega)]
  · rw [wipe_get hi, o.2 i fun z => hi (hs i z), ]
theorem unAll_get {i : Nat} : ∀ {vs : List Nat}, i ∉ vs → (unAll Γ vs)[i]? = Γ[i]?
  | [], _ => rfl
  | v :: vs, h => by
    rw [List.mem_cons, not_or] at h
    unfold unAll
    rw [List.getElem?_set_ne (Ne.symm h.1), unAll_get h.2]
theorem setAll_get {Γ : List Bd} {i : Nat} : ∀ {is : List Nat} {ds : List PyData} {Γ : List Bd}, i ∉ is → (setAll Γ is ds)[i]? = Γ[i]?
  | [], _, _, _ => by unfold setAll; rfl
  | _ :: _, [], _, _ => by unfold setAll; rfl
  | j :: is, d :: ds, Γ, h => by
    rw [List.mem_cons, not_or] at h
    unfold setAll
    rw [setAll_get (Γ := Γ) h.2, List.getElem?_set_ne (Ne.symm h.1)]
theorem bind_get {Γ Γ2 : List Bd} {i : Nat} (h : t.bind Γ d = some Γ2) (hi : i ∉ t.slots) : Γ2[i]? = Γ[i]? := by
  cases t with
  | nm j =>
    simp only [Pat.bind, Option.some.injEq] at h
    subst h
    exact List.getElem?_set_ne fun z => hi (by simp [Pat.slots, z])
  | tp is =>
    cases d with
    | tuple ds =>
      have h' : (if is.length = ds.length then some (setAll Γ is ds) else none) = some Γ2 := h
      by_cases hl : is.length = ds.length
      · rw [if_pos hl] at h'; cases h'
        exact setAll_get (Γ := Γ) hi
      · rw [if_neg hl] at h'; cases h'
    | _ => cases h
/-- back from the block: what the outer frame knows stands -/
theorem AtF.back {P : Program} {w : World} {K : PySem.W.Frag} {F0 H0 F F' H H' HD : Hp} {σ σ2 : St} {Γ2 : List Bd} {vs : List Nat} (A : AtF P w K F0 H0 Γ F σ H) (A2 : AtF P w K F0 HD Γ2 F' σ2 H') (s : Sub F F') (t : Sub H H')
    (hd : ∀ p, HD p = none → H0 p = none) (no : ∀ j ∈ vs, ∀ b, Γ[j]? = some b → b.own = false) (hg : ∀ i, i ∉ vs → Γ2[i]? = Γ[i]? ∧ σ2[i]? = σ[i]?) : AtF P w K F0 H0 Γ F' σ H' where
  len := A.len
  f0 := A.f0.trans s
  h0 := A.h0.trans t
  fh := A2.fh
  fr := fun p o e => by
    rcases A2.fr p o e with z | z
    · exact .inl z
    · exact .inr (hd p z)
  sl := fun i b e => by
    have h := A.sl i b e
    by_cases hi : i ∈ vs
    · have nb := no i hi b e
      cases b with
      | un => trivial
      | rf v => exact h
      | ob v φ => obtain ⟨h1, F1, h2, h3⟩ := h; exact ⟨h1, F1, h2.trans s, h3⟩
      | fz d => obtain ⟨v, h1, h2⟩ := h; exact ⟨v, h1, h2.mono s⟩
      | sc ns => obtain ⟨a, h1, h2⟩ := h; exact ⟨a, h1, sqL_sub s h2⟩
      | ol ds => cases nb
      | od kvs => cases nb
    · obtain ⟨g1, g2⟩ := hg i hi
      have h2 := A2.sl i b (g1.trans e)
      cases b with
      | un => trivial
      | rf v => exact h
      | ob v φ => obtain ⟨h1, F1, h2, h3⟩ := h; exact ⟨h1, F1, h2.trans s, h3⟩
      | fz d => obtain ⟨v, h1, h2⟩ := h; exact ⟨v, h1, h2.mono s⟩
      | sc ns => obtain ⟨a, h1, h2⟩ := h; exact ⟨a, h1, sqL_sub s h2⟩
      | ol ds => obtain ⟨a, vs, k1, k2, k3, k4, k5⟩ := h2; exact ⟨a, vs, g2.symm.trans k1, k2, hd a k3, k4, k5⟩
      | od kvs => obtain ⟨a, k1, k2, k3, k4⟩ := h2; exact ⟨a, g2.symm.trans k1, k2, hd a k3, k4⟩
  inj := A.inj

/-- [elt for target in iter if ..]: what the items with the test give, in order -/
def lcOut (ds : List PyData) (b : PyData → Bool) (f : PyData → PyData) : List PyData := (ds.filter b).map f
theorem lcOut_take {b : PyData → Bool} {f : PyData → PyData} {i : Nat} (h : ds[i]? = some d) : lcOut (ds.take (i + 1)) b f = lcOut (ds.take i) b f ++ (if b d = true then [f d] else []) := by
  unfold lcOut
  rw [List.take_add_one, h]
  simp only [Option.toList, List.filter_append, List.map_append]
  congr 1
  by_cases hb : b d = true
  · simp [hb]
  · simp [hb]
structure LcOk (X : Cx) (Γ : List Bd) (tg e elt : Expr) (ifs : List Expr) (scope : Scope) (own : List (Str × Nat)) (t : Pat) (ds : List PyData) (b : PyData → Bool) (f : PyData → PyData) : Prop where
  src : DI X Γ tg e ds
  few : ds.length ≤ sizeLine
  no : ∀ (j : Nat), j ∈ own.map (·.2) → ∀ (b : Bd), Γ[j]? = some b → b.own = false
  slots : ∀ i ∈ t.slots, i ∈ own.map (·.2)
  blk : BlkOk X.N X.env.scope scope own
  tgt : ∀ (X' : Cx), IsBlk X scope X' → DG X' tg t
  turn : ∀ (X' : Cx), IsBlk X scope X' → ∀ (i : Nat) (d : PyData), ds[i]? = some d → ∃ Γ2, t.bind (unAll Γ (own.map (·.2))) d = some Γ2 ∧ DTs X' Γ2 ifs (b d) ∧ (b d = true → DE X' Γ2 elt (f d))
def gB (X : Cx) (t : Pat) : TG := fun v σ H Q => ∃ B : Bs, tG X B t v σ H Q
def ttB (X : Cx) (scope : Scope) (ifs : List Expr) : TT := fun σ H Q => ∃ (B : Bs) (Γ2 : List Bd) (b : Bool), (∀ X', IsBlk X scope X' → DTs X' Γ2 ifs b) ∧ tT X B Γ2 b σ H Q
def teB (X : Cx) (scope : Scope) (elt : Expr) : TE := fun σ H Q => ∃ (B : Bs) (Γ2 : List Bd) (d : PyData), (∀ X', IsBlk X scope X' → DE X' Γ2 elt d) ∧ tD X B Γ2 d σ H Q
theorem lc_read {own : List (Str × Nat)} {b : PyData → Bool} {f : PyData → PyData} (L : LcOk X Γ tg e elt ifs scope own t ds b f) {B : Bs} {wi : TI} {σ : St} {H : Hp} {Q : VK}
    (hw : tL X B Γ (lcOut ds b f) σ H Q) : tLc (tI X B Γ ds) (gB X t) (ttB X scope ifs) (teB X scope elt) (own.map (·.2)) σ H Q := by
  obtain ⟨F, A, k⟩ := hw
  refine ⟨F, A, fun J F1 H1 s1 t1 A1 st D hD => ?_⟩
  have hFD : F1 D = none := A1.fh.free hD
  refine ⟨fun i m H' => m = ds.length - i ∧ i ≤ ds.length ∧ ∃ F' acc, Sub F1 F' ∧ Sub H1 H' ∧ At X B Γ F' σ H' ∧ F' D = none ∧ H' D = some (.lst acc) ∧ RpL X F' acc (lcOut (ds.take i) b f),
    ⟨ds.length, by simp, Nat.zero_le _, F1, [], Sub.refl F1, Sub.new hD, A1.lay0 hD, hFD, upd_same, by simpa [lcOut] using RepL.nil⟩, ?_⟩
  rintro i m H' ⟨rfl, hle, F', acc, s', t', A', hD', hacc, racc⟩
  obtain ⟨go, stop⟩ := st F' H' s' A'.fh
  by_cases hlt : i < ds.length
  · have hget : ds[i]? = some ds[i] := List.getElem?_eq_getElem hlt
    obtain ⟨hgo, hy⟩ := go i ds[i] hget
    refine .inr ⟨hgo, fun H2 => ∃ F2 acc2, Sub F1 F2 ∧ Sub H1 H2 ∧ At X B Γ F2 σ H2 ∧ F2 D = none ∧ H2 D = some (.lst acc2) ∧ RpL X F2 acc2 (lcOut (ds.take (i + 1)) b f), fun H2 h2 => ⟨ds.length - (i + 1), by omega, rfl, hlt, h2⟩, fun x H2 hyl => ?_⟩
    obtain ⟨F2, f1, f2, f3, f4, rx⟩ := hy x H2 hyl
    have A2 : At X B Γ F2 σ H2 := A'.grow f1 f2 f3 f4
    have hD2 : F2 D = none := by
      cases e : F2 D with
      | none => rfl
      | some o =>
        rcases f4 D o e with z | z
        · rw [hD'] at z; cases z
        · rw [hacc] at z; cases z
    have hacc2 : H2 D = some (.lst acc) := f2 _ _ hacc
    -- in the block: a base that has D
    have loose : Loose Γ σ D := A1.loose hD
    have AD : At X ⟨B.F0, upd B.H0 D (.lst acc)⟩ Γ F2 σ H2 := by
      refine ⟨A2.len, A2.f0, fun p o e => ?_, A2.fh, fun p o e => ?_, fun j c e => ?_, A2.inj⟩
      · by_cases hp : p = D
        · subst hp
          have e : upd B.H0 p (.lst acc) p = some o := e
          rw [upd_same] at e; cases e; exact hacc2
        · have e : upd B.H0 D (.lst acc) p = some o := e
          rw [upd_ne hp] at e; exact A2.h0 _ _ e
      · by_cases hp : p = D
        · subst hp; rw [hD2] at e; cases e
        · rcases A2.fr p o e with z | z
          · exact .inl z
          · exact .inr (by show upd B.H0 D (.lst acc) p = none; rw [upd_ne hp]; exact z)
      · have h := A2.sl j c e
        cases c with
        | ol l =>
          obtain ⟨a, vs, h1, h2, h3, h4, h5⟩ := h
          exact ⟨a, vs, h1, h2, by show upd B.H0 D (.lst acc) a = none; rw [upd_ne fun (z : a = D) => loose j _ e rfl (z ▸ h1)]; exact h3, h4, h5⟩
        | od l =>
          obtain ⟨a, h1, h2, h3, h4⟩ := h
          exact ⟨a, h1, h2, by show upd B.H0 D (.lst acc) a = none; rw [upd_ne fun (z : a = D) => loose j _ e rfl (z ▸ h1)]; exact h3, h4⟩
        | _ => exact h
    have keepD : ∀ {F3 H3 : Hp} {Γ3 : List Bd} {σ3 : St}, At X ⟨B.F0, upd B.H0 D (.lst acc)⟩ Γ3 F3 σ3 H3 → F3 D = none ∧ H3 D = some (.lst acc) := fun {F3 H3 Γ3 σ3} A3 => by
      have h3 : H3 D = some (.lst acc) := A3.h0 D _ upd_same
      refine ⟨?_, h3⟩
      cases e : F3 D with
      | none => rfl
      | some o =>
        rcases A3.fr D o e with z | z
        · have z' := A1.f0 D o z
          rw [hFD] at z'; cases z'
        · have z : upd B.H0 D (.lst acc) D = none := z
          rw [upd_same] at z; cases z
    have hdn : ∀ p, upd B.H0 D (.lst acc) p = none → B.H0 p = none := fun p z => by
      by_cases hp : p = D
      · subst hp; rw [upd_same] at z; cases z
      · rwa [upd_ne hp] at z
    have AW : At X ⟨B.F0, upd B.H0 D (.lst acc)⟩ (unAll Γ (own.map (·.2))) F2 (wipe σ (own.map (·.2))) H2 := AD.wipe _
    -- the turn, once for all blocks (they are of one X)
    obtain ⟨Γ2, hbind⟩ : ∃ Γ2, t.bind (unAll Γ (own.map (·.2))) ds[i] = some Γ2 := by
      obtain ⟨Γ2, h, _⟩ := L.turn (X.blk X.s_0 X.H_0 scope (compEnvC scope [] 0 X.env) []) ⟨_, _, _, _, _, rfl⟩ i _ hget
      exact ⟨Γ2, h⟩
    have hturn : ∀ X', IsBlk X scope X' → DTs X' Γ2 ifs (b ds[i]) ∧ (b ds[i] = true → DE X' Γ2 elt (f ds[i])) := fun X' hX => by
      obtain ⟨Γ3, h1, h2, h3⟩ := L.turn X' hX i _ hget
      rw [hbind] at h1; cases h1
      exact ⟨h2, h3⟩
    refine ⟨⟨B.F0, upd B.H0 D (.lst acc)⟩, F2, _, Γ2, ds[i], AW, rx, hbind, fun σ2 ho A3 => ?_⟩
    have hw2 : wipe σ2 (own.map (·.2)) = wipe σ (own.map (·.2)) := wipe_only L.slots ho
    have hout : ∀ j, j ∉ own.map (·.2) → Γ2[j]? = Γ[j]? ∧ σ2[j]? = σ[j]? := fun j hj =>
      ⟨(bind_get hbind fun z => hj (L.slots j z)).trans (unAll_get hj), (ho.2 j fun z => hj (L.slots j z)).trans (wipe_get hj)⟩
    refine ⟨hw2, ⟨B.F0, upd B.H0 D (.lst acc)⟩, Γ2, b ds[i], fun X' hX => (hturn X' hX).1, F2, A3, fun F3 H3 s3 t3 A4 => ?_⟩
    have tk := lcOut_take (b := b) (f := f) hget
    by_cases hb : b ds[i] = true
    · rw [hb]
      refine iteT ⟨⟨B.F0, upd B.H0 D (.lst acc)⟩, Γ2, f ds[i], fun X' hX => (hturn X' hX).2 hb, F3, A4, fun y F4 H4 s4 t4 A5 ry => ?_⟩
      obtain ⟨n1, n2⟩ := keepD A5
      have hlen : acc.length < sizeLine := by
        have h1 := racc.length
        have h2 : (lcOut (ds.take i) b f).length ≤ i := by
          unfold lcOut
          rw [List.length_map]
          exact Nat.le_trans (List.length_filter_le _ _) (by rw [List.length_take]; omega)
        have := L.few
        omega
      refine ⟨acc, n2, hlen, F4, acc ++ [y], (s'.trans (f1.trans (s3.trans s4))), ?_, ?_, n1, upd_same, ?_⟩
      · exact (t'.trans (f2.trans (t3.trans t4))).mut hD
      · have Ab : At X B Γ F4 σ H4 := AtF.back A2 A5 (s3.trans s4) (t3.trans t4) hdn L.no hout
        refine ⟨Ab.len, Ab.f0, Ab.h0.mut (A1.h0.free hD), Ab.fh.mut n1, Ab.fr, fun j c e => ?_, Ab.inj⟩
        have h := Ab.sl j c e
        cases c with
        | ol l =>
          obtain ⟨a, vs, h1, h2, h3, h4, h5⟩ := h
          exact ⟨a, vs, h1, h2, h3, by rw [upd_ne fun (z : a = D) => loose j _ e rfl (z ▸ h1)]; exact h4, h5⟩
        | od l =>
          obtain ⟨a, h1, h2, h3, h4⟩ := h
          exact ⟨a, h1, h2, h3, h4.mono (Sub.refl _) (upd_ne fun (z : a = D) => loose j _ e rfl (z ▸ h1))⟩
        | _ => exact h
      · rw [tk, if_pos hb]
        exact (racc.mono (f1.trans (s3.trans s4))).append (.cons ry .nil)
    · have hbf : b ds[i] = false := by simpa using hb
      rw [hbf]
      obtain ⟨n1, n2⟩ := keepD A4
      refine iteF ⟨F3, acc, s'.trans (f1.trans s3), t'.trans (f2.trans t3), AtF.back A2 A4 s3 t3 hdn L.no hout, n1, n2, ?_⟩
      rw [tk, hbf, if_neg Bool.false_ne_true, List.append_nil]
      exact racc.mono (f1.trans s3)
  · have e : i = ds.length := by omega
    subst e
    refine .inl ⟨stop, k D acc F' H' (s1.trans s') (t1.trans t') A' hD' (A1.h0.free hD) hacc ?_ (A1.loose hD)⟩
    rw [List.take_length] at racc
    exact racc
theorem lc_pg (L : ∀ X', IsBlk X scope X' → DG X' tg t) (s : Shared) (H : Hp) (C : Addr) (cl : List (Str × Addr)) (fp : List Addr) : PG (X.blk s H scope (compEnvC scope cl C X.env) fp) tg (gB X t) :=
  ⟨fun pins s' σ H' v u Q I r ⟨B, hw⟩ => (L _ ⟨s, H, C, cl, fp, rfl⟩ B).run pins s' σ H' v u Q I r hw⟩
theorem lc_pt (s : Shared) (H : Hp) (C : Addr) (cl : List (Str × Addr)) (fp : List Addr) : PTs (X.blk s H scope (compEnvC scope cl C X.env) fp) ifs (ttB X scope ifs) :=
  ⟨fun pins s' σ H' Q I ⟨B, Γ2, b, h, hw⟩ => (h _ ⟨s, H, C, cl, fp, rfl⟩ B).run pins s' σ H' Q I hw⟩
theorem lc_pe (s : Shared) (H : Hp) (C : Addr) (cl : List (Str × Addr)) (fp : List Addr) : PE (X.blk s H scope (compEnvC scope cl C X.env) fp) elt (teB X scope elt) :=
  ⟨fun pins s' σ H' Q I ⟨B, Γ2, d, h, hw⟩ => (h _ ⟨s, H, C, cl, fp, rfl⟩ B).run pins s' σ H' Q I hw⟩
/-- as a value -/
theorem dl_lc {own : List (Str × Nat)} {b : PyData → Bool} {f : PyData → PyData} (hc : X.calm = true) (hN : X.N.Nodup) (L : LcOk X Γ tg e elt ifs scope own t ds b f) (hs : ∀ x, foldedSetIterable e X.env x = pure x := by intro _; rfl) :
    DL X Γ (.ListComp elt [⟨tg, e, ifs, 0⟩] scope pos) (lcOut ds b f) := fun B =>
  pe_imp (pe_lc hc hN (L.src B) L.blk (lc_pg L.tgt) lc_pt lc_pe hs) fun σ H Q hw => lc_read (wi := tI X B Γ ds) L hw
/-- name = [..] -/
theorem ds_setLc {own : List (Str × Nat)} {b : PyData → Bool} {f : PyData → PyData} {i : Nat} {y : Str} {py : Pos} (hc : X.calm = true) (hx : StoreAt X i y) (hyl : X.env.scope.names.lookup y = some .local) (L : LcOk X Γ tg e elt ifs scope own t ds b f) (hp : P.nx (Γ.set i (.ol (lcOut ds b f))))
    (hsw : swapsWith (.ListComp elt [⟨tg, e, ifs, 0⟩] scope p1) (some (.Name y py)) pos.line X.env = pure true) (hs : ∀ x, foldedSetIterable e X.env x = pure x := by intro _; rfl) :
    DS X Γ (.Assign [.Name y py] (.ListComp elt [⟨tg, e, ifs, 0⟩] scope p1) pos) P := fun B =>
  ps_imp (ps_setLc hc hx.nd hx.at' hyl hsw (L.src B) L.blk (lc_pg L.tgt) lc_pt lc_pe hs) fun D σ H ⟨F, A, k, _⟩ => lc_read (wi := tI X B Γ ds) L ⟨F, A, fun p vs F' H' s t A' h1 h2 h3 h4 h5 => k _ F' _ H' hp (A'.setL h1 h2 h3 h4 h5)⟩
end
end PH

set_option Elab.async false
set_option linter.all false
set_option maxRecDepth 100000
set_option maxHeartbeats 4000000
/-! P7: defs and their calls by data. -/
namespace PH
open PySem PySem.Spec L2

/-- a def's promise: of these data this comes back -/
def spR (P : Program) (w : World) (K : PySem.W.Frag) (R : List PyData → Bd → Prop) : Sp := fun vs H Q _ => ∃ ds b F, R ds b ∧ Sub F H ∧ RepL P w K F vs ds ∧
  ∀ v F' H', Sub F F' → Sub H H' → Sub F' H' → (∀ p o, F' p = some o → F p = some o ∨ H p = none) →
    (match b with
      | .un => True
      | .fz d => Rep P w K F' v d
      | .ol l => ∃ p us, v = .ref p ∧ F' p = none ∧ H p = none ∧ H' p = some (.lst us) ∧ RepL P w K F' us l
      | .od l => ∃ p, v = .ref p ∧ F' p = none ∧ H p = none ∧ DictIn P w K F' H' p l
      | .rf u => v = u
      | .sc _ => False
      | .ob _ _ => False) → Q v H'
/-- the context of a def's body (or of a block in it) -/
structure FnCx (X : Cx) (P : Program) (w : World) (K : PySem.W.Frag) (mg : Str → Option Value) (base : Heap) (N : List Str) (sc : Scope) (k : Nat) (top : Bool) : Prop where
  prog : X.prog = P
  w' : X.w = w
  K' : X.K = K
  mg' : X.mg = mg
  base' : X.base = base
  names : X.N = N
  scope : X.env.scope = sc
  calm : X.calm = true
  fn : top = true → ∀ x, X.fn x = true
  room : Room k X.A
  pass : PassesOwn (model X.prog X.w) X.A X.env X.xe
  nd : N.Nodup
section
variable {X X' : Cx} {P : Program} {w : World} {K : PySem.W.Frag} {mg : Str → Option Value} {base : Heap} {N : List Str} {sc scope : Scope} {k i : Nat} {x : Str} {top : Bool}
/-- a name that is read, that is stored: by the names and the scope alone -/
def visB (N : List Str) (sc : Scope) (i : Nat) (x : Str) : Bool :=
  decide (N[i]? = some x) && (match sc.names.lookup x with | some .local => true | some .cell => true | some .free => true | _ => false) && !(x == ("__debug__" : Str)) && !(x == ("__classdict__" : Str))
def locB (N : List Str) (sc : Scope) (i : Nat) (x : Str) : Bool :=
  decide (N[i]? = some x) && (match sc.names.lookup x with | some .local => true | some .cell => true | _ => false)
def glB (sc : Scope) (x : Str) : Bool := match sc.names.lookup x with | some .globalImplicit => true | _ => false
theorem FnCx.var (c : FnCx X P w K mg base N sc k top) (h : visB N sc i x = true) : VarAt X i x := by
  unfold visB at h
  simp only [Bool.and_eq_true, decide_eq_true_eq, Bool.not_eq_true'] at h
  obtain ⟨⟨⟨h1, h2⟩, h3⟩, h4⟩ := h
  refine ⟨by rw [c.names]; exact h1, ?_, h3, h4⟩
  unfold Vis
  rw [c.scope]
  split at h2 <;> first | exact .inl (by assumption) | exact .inr (.inl (by assumption)) | exact .inr (.inr (by assumption)) | cases h2
theorem FnCx.store (c : FnCx X P w K mg base N sc k true) (h : locB N sc i x = true) : StoreAt X i x := by
  unfold locB at h
  simp only [Bool.and_eq_true, decide_eq_true_eq] at h
  obtain ⟨h1, h2⟩ := h
  refine ⟨by rw [c.names]; exact c.nd, by rw [c.names]; exact h1, ?_, ?_⟩
  · unfold L2.Loc
    rw [c.scope]
    split at h2 <;> first | exact .inl (by assumption) | exact .inr (by assumption) | cases h2
  · rw [c.scope]
    split at h2 <;> first | exact .inr (by assumption) | exact .inl (c.fn rfl x) | cases h2
theorem FnCx.gl (c : FnCx X P w K mg base N sc k top) (h : glB sc x = true) : Gl X x := by
  unfold glB at h
  show X.env.scope.names.lookup x = _
  rw [c.scope]
  split at h
  · assumption
  · cases h
theorem FnCx.nodup (c : FnCx X P w K mg base N sc k top) : X.N.Nodup := by rw [c.names]; exact c.nd
/-- the block of a comprehension in it -/
theorem FnCx.blk (c : FnCx X P w K mg base N sc k top) (h : IsBlk X scope X') : FnCx X' P w K mg base N (relS scope sc) k false := by
  obtain ⟨s, H, C, cl, fp, rfl⟩ := h
  refine ⟨c.prog, c.w', c.K', c.mg', c.base', c.names, ?_, c.calm, (fun z => nomatch z), c.room, PassesOwn.never, c.nd⟩
  show relS scope X.env.scope = relS scope sc
  rw [c.scope]
/-- a block's own name is stored -/
theorem FnCx.own (c : FnCx X P w K mg base N sc k top) (h : IsBlk X scope X') (hx : locB N scope i x = true) : StoreAt X' i x := by
  obtain ⟨s, H, C, cl, fp, rfl⟩ := h
  unfold locB at hx
  simp only [Bool.and_eq_true, decide_eq_true_eq] at hx
  obtain ⟨h1, h2⟩ := hx
  have go : ∀ kd, kd = NameKind.local ∨ kd = NameKind.cell → scope.names.lookup x = some kd → StoreAt (X.blk s H scope (compEnvC scope cl C X.env) fp) i x := fun kd hk hl => by
    have hr : (relS scope X.env.scope).names.lookup x = some kd := lookup_relS_keep (by rcases hk with z | z <;> subst z <;> decide) hl
    refine ⟨by show X.N.Nodup; rw [c.names]; exact c.nd, by show X.N[i]? = _; rw [c.names]; exact h1, ?_, ?_⟩
    · rcases hk with z | z
      · subst z; exact .inl hr
      · subst z; exact .inr hr
    · rcases hk with z | z
      · subst z; exact .inr hr
      · subst z
        refine .inl ?_
        show (scope.names.lookup x == some NameKind.cell) = true
        rw [hl]; rfl
  split at h2
  · exact go _ (.inl rfl) (by assumption)
  · exact go _ (.inr rfl) (by assumption)
  · cases h2

/-! ### the def -/
/-- the slots at the entry -/
def gam0 (n : Nat) (ds : List PyData) : List Bd := ds.map .fz ++ List.replicate (n - ds.length) .un
theorem at_start {vs : List V} {ds : List PyData} {F H : Hp} (r : RepL P w K F vs ds) (s : Sub F H) (hl : vs.length ≤ N.length) : AtF P w K F H (gam0 N.length ds) F (L2.start N vs) H where
  len := by
    have e := r.length
    unfold gam0 L2.start
    simp only [List.length_append, List.length_map, List.length_replicate]
    omega
  f0 := Sub.refl F
  h0 := Sub.refl H
  fh := s
  fr := fun p o e => .inl e
  sl := fun i b e => by
    unfold gam0 at e
    by_cases hi : i < ds.length
    · rw [List.getElem?_append_left (by simpa using hi), List.getElem?_map, List.getElem?_eq_getElem hi] at e
      cases e
      obtain ⟨v, hv, rv⟩ := r.get (List.getElem?_eq_getElem hi)
      refine ⟨v, ?_, rv⟩
      have hl := (List.getElem?_eq_some_iff.mp hv).1
      unfold L2.start
      rw [List.getElem?_append_left (by simpa using hl), List.getElem?_map, hv]
      rfl
    · rw [List.getElem?_append_right (by simpa using hi), List.getElem?_replicate] at e
      split at e <;> cases e
      trivial
  inj := fun i j b c a e _ ob => by
    exfalso
    unfold gam0 at e
    by_cases hi : i < ds.length
    · rw [List.getElem?_append_left (by simpa using hi), List.getElem?_map, List.getElem?_eq_getElem hi] at e
      cases e; cases ob
    · rw [List.getElem?_append_right (by simpa using hi), List.getElem?_replicate] at e
      split at e <;> cases e
      cases ob
/-- THE RULE for a def that raises nothing -/
theorem fn_body {x' qual : Str} {st : Stmt} {f : Addr} {fd : FuncData} {ps : List Str} {R : List PyData → Bd → Prop} (F : Fun K x' qual st f fd) (S : FnScope N ps (defScope st)) (hl : ∀ ds b, R ds b → ds.length = ps.length)
    (hb : ∀ X, FnCx X P w K mg base N (defScope st) k true → ∀ ds b, R ds b → DSs X (gam0 N.length ds) (defBody st) { nx := fun _ => b = .fz .none, rt := fun b' => b' = b }) : FnOk P w K mg base L2.CX0 (k + 1) f fd ps (spR P w K R) := by
  refine F.ok S (fun vs H Q E ⟨ds, b, F', hR, _, r, _⟩ => r.length.trans (hl ds b hR)) fun cdv A outer s H vs Q E hr h => ?_
  obtain ⟨ds, b, F0, hR, hs, r, kq⟩ := h
  have hX := hb (cxOf L2.CX0 P w K mg base N qual (defScope st) f cdv A outer s H E).nox ⟨rfl, rfl, rfl, rfl, rfl, rfl, rfl, rfl, fun _ _ => rfl, hr, PassesOwn.never, S.nd⟩ ds b hR ⟨F0, H⟩
  have hle : vs.length ≤ N.length := by
    have e1 := r.length.trans (hl ds b hR)
    have e2 := congrArg List.length S.pre
    rw [List.length_take] at e2
    omega
  refine ⟨_, hX, F0, at_start r hs hle, fun Γ' F' σ' H' hn A' => ?_, fun b' v F' H' hb' fin hv => ?_, fun _ _ _ _ z => z.elim, fun _ _ _ _ z => z.elim⟩
  · have hn : b = .fz .none := hn
    subst hn
    exact kq _ F' H' A'.f0 A'.h0 A'.fh A'.fr .non
  · have hb' : b' = b := hb'
    subst hb'
    refine kq v F' H' fin.f0 fin.h0 fin.fh fin.fr ?_
    cases b' with
    | _ => exact hv

/-! ### a call -/
/-- what the name x stands for, and that it may be called -/
structure Callee (X : Cx) (x : Str) (R : List PyData → Bd → Prop) : Prop where
  ex : ∃ (CX : CXT) (k : Nat) (f : Addr) (fd : FuncData) (ps : List Str), FnOk X.prog X.w X.K X.mg X.base CX k f fd ps (spR X.prog X.w X.K R) ∧ Room k X.A ∧ X.mg x = some (.ref f) ∧ PySem.W.keepIn X.K (.ref f) = true ∧ Binds X.K fd ps [] ∧ Passes CX X E0
  nd : (x == ("__debug__" : Str)) = false
variable {Γ : List Bd} {e : Expr} {es : List Expr} {d : PyData} {ds l : List PyData} {kvs : List (NestedKey × PyData)} {R : List PyData → Bd → Prop} {p pos : Pos}
theorem call_read (h : Callee X x R) (hg : Gl X x) (ha : DA X Γ (e :: es) ds) {b : Bd} (hR : R ds b) (t : Bs → TE)
    (ht : ∀ (B : Bs) σ H (Q : VK), t B σ H Q → ∃ F, At X B Γ F σ H ∧ ∀ v F' H', Sub F F' → Sub H H' → At X B Γ F' σ H' →
      (match b with
        | .un => True
        | .fz d => Rp X F' v d
        | .ol l => ∃ p us, v = .ref p ∧ F' p = none ∧ B.H0 p = none ∧ Loose Γ σ p ∧ H' p = some (.lst us) ∧ RpL X F' us l
        | .od l => ∃ p, v = .ref p ∧ F' p = none ∧ B.H0 p = none ∧ Loose Γ σ p ∧ DictIn X.prog X.w X.K F' H' p l
        | .rf u => v = u
        | .sc _ => False
        | .ob _ _ => False) → Q v H')
    (he : starEach (e :: es) X.env = (false, eval e X.env) :: starEach es X.env := by rfl) (hpl : (backTo pos (starEach es X.env)).any (·.1) = false := by rfl) (B : Bs) : PE X (.Call (.Name x p) (e :: es) [] pos) (t B) := by
  obtain ⟨CX, k, f, fd, ps, hF, hr, hm, hk, hb, hx⟩ := h.ex
  refine pe_imp (pe_call hF hr hg hm hk hb (dvs := []) .nil hx (ha B) h.nd he hpl) fun σ H Q hq => ?_
  obtain ⟨F, A, k⟩ := ht B σ H Q hq
  refine ⟨F, A, fun vs F1 H1 s1 t1 A1 r => ?_⟩
  show spR X.prog X.w X.K R (vs ++ []) H1 Q E0
  rw [List.append_nil]
  refine ⟨ds, b, F1, hR, A1.fh, r, fun v F' H' s' t' fh' fr' hv => ?_⟩
  refine k v F' H' (s1.trans s') (t1.trans t') (A1.grow s' t' fh' fr') ?_
  cases b with
  | ol l => obtain ⟨p, us, h1, h2, h3, h4, h5⟩ := hv; exact ⟨p, us, h1, h2, A1.h0.free h3, A1.loose h3, h4, h5⟩
  | od l => obtain ⟨p, h1, h2, h3, h4⟩ := hv; exact ⟨p, h1, h2, A1.h0.free h3, A1.loose h3, h4⟩
  | _ => exact hv
theorem de_call (h : Callee X x R) (hg : Gl X x) (ha : DA X Γ (e :: es) ds) (hR : R ds (.fz d)) (he : starEach (e :: es) X.env = (false, eval e X.env) :: starEach es X.env := by rfl) (hpl : (backTo pos (starEach es X.env)).any (·.1) = false := by rfl) : DE X Γ (.Call (.Name x p) (e :: es) [] pos) d :=
  call_read h hg ha hR (fun B => tD X B Γ d) (fun B σ H Q ⟨F, A, k⟩ => ⟨F, A, fun v F' H' s t A' hv => k v F' H' s t A' hv⟩) he hpl
theorem dl_call (h : Callee X x R) (hg : Gl X x) (ha : DA X Γ (e :: es) ds) (hR : R ds (.ol l)) (he : starEach (e :: es) X.env = (false, eval e X.env) :: starEach es X.env := by rfl) (hpl : (backTo pos (starEach es X.env)).any (·.1) = false := by rfl) : DL X Γ (.Call (.Name x p) (e :: es) [] pos) l :=
  call_read h hg ha hR (fun B => tL X B Γ l) (fun B σ H Q ⟨F, A, k⟩ => ⟨F, A, fun v F' H' s t A' hv => by
    obtain ⟨p, us, h1, h2, h3, h4, h5, h6⟩ := hv
    subst h1
    exact k p us F' H' s t A' h2 h3 h5 h6 h4⟩) he hpl
theorem dn_call (h : Callee X x R) (hg : Gl X x) (ha : DA X Γ (e :: es) ds) (hR : R ds (.od kvs)) (he : starEach (e :: es) X.env = (false, eval e X.env) :: starEach es X.env := by rfl) (hpl : (backTo pos (starEach es X.env)).any (·.1) = false := by rfl) : DN X Γ (.Call (.Name x p) (e :: es) [] pos) kvs :=
  call_read h hg ha hR (fun B => tM X B Γ kvs) (fun B σ H Q ⟨F, A, k⟩ => ⟨F, A, fun v F' H' s t A' hv => by
    obtain ⟨p, h1, h2, h3, h4, h5⟩ := hv
    subst h1
    exact k p F' H' s t A' h2 h3 h5 h4⟩) he hpl
end
end PH

set_option Elab.async false
set_option linter.all false
set_option maxRecDepth 100000
set_option maxHeartbeats 4000000
/-! P8: built-ins, slices, lists changed. -/
namespace PH
open PySem PySem.Spec L2
open PySem.W (Datum DatumOrd Tup)

/-- arguments that are these data now -/
def tAW (X : Cx) (B : Bs) (Γ : List Bd) (ds : List PyData) : TA := fun σ H Q => ∃ F, At X B Γ F σ H ∧ ∀ vs F' H', Sub F F' → Sub H H' → At X B Γ F' σ H' → RpL X H' vs ds → Q vs H'
def DAW (X : Cx) (Γ : List Bd) (es : List Expr) (ds : List PyData) : Prop := ∀ B, PA X es (tAW X B Γ ds)
section
variable {X : Cx} {Γ : List Bd} {a b c e : Expr} {es : List Expr} {st : Stmt} {pos p1 cp ap : Pos} {d x y z : PyData} {ds xs ys : List PyData} {kvs : List (NestedKey × PyData)} {P : Po} {p q : Bool} {id : String} {nm : Str} {i j k : Int}
theorem daw_nil : DAW X Γ [] [] := fun B => pa_imp pa_nil fun σ H Q ⟨F, A, k⟩ => k [] F H (Sub.refl F) (Sub.refl H) A .nil
theorem daw_cons (h : DW X Γ e d) (hr : DAW X Γ es ds) (hs : starEach (e :: es) X.env = (false, eval e X.env) :: starEach es X.env := by rfl) : DAW X Γ (e :: es) (d :: ds) := fun B =>
  pa_imp (pa_cons (h B) (hr B) hs) fun σ H Q ⟨F, A, k⟩ => ⟨F, A, fun v F1 H1 s1 t1 A1 r1 => ⟨F1, A1, fun vs F2 H2 s2 t2 A2 r2 => k (v :: vs) F2 H2 (s1.trans s2) (t1.trans t2) A2 (.cons (r1.mono t2) r2)⟩⟩
/-- a built-in of a plain answer -/
theorem de_cbS {r : List V → Hp → VK → Prop} {v : V} (hc : CallR X (.builtin id) r) (hg : Gl X nm) (hm : X.mg nm = none) (hv : bootBuiltins nm = some (.builtin id)) (ha : DAW X Γ (e :: es) ds) (h1 : ∀ F, Rp X F v d) (hr : ∀ (H : Hp) vs (Q : VK), RpL X H vs ds → Q v H → r vs H Q)
    (hn : nm ≠ "__name__" := by decide) (hdb : (nm == ("__debug__" : Str)) = false := by decide) (he : starEach (e :: es) X.env = (false, eval e X.env) :: starEach es X.env := by rfl) (hpl : (backTo pos (starEach es X.env)).any (·.1) = false := by rfl) : DE X Γ (.Call (.Name nm p1) (e :: es) [] pos) d := fun B =>
  pe_imp (pe_callB hc hg hm hv (ha B) hn hdb he hpl) fun σ H Q ⟨F, A, k⟩ => ⟨F, A, fun vs F' H' s t A' r => hr H' vs Q r (k v F' H' s t A' (h1 F'))⟩
theorem de_ctS {r : List V → Hp → VK → Prop} {v : V} (hc : CallR X (.type id) r) (hg : Gl X nm) (hm : X.mg nm = none) (hv : bootBuiltins nm = some (.type id)) (ha : DAW X Γ (e :: es) ds) (h1 : ∀ F, Rp X F v d) (hr : ∀ (H : Hp) vs (Q : VK), RpL X H vs ds → Q v H → r vs H Q)
    (hn : nm ≠ "__name__" := by decide) (hdb : (nm == ("__debug__" : Str)) = false := by decide) (he : starEach (e :: es) X.env = (false, eval e X.env) :: starEach es X.env := by rfl) (hpl : (backTo pos (starEach es X.env)).any (·.1) = false := by rfl) : DE X Γ (.Call (.Name nm p1) (e :: es) [] pos) d := fun B =>
  pe_imp (pe_callTy hc hg hm hv (ha B) hn hdb he hpl) fun σ H Q ⟨F, A, k⟩ => ⟨F, A, fun vs F' H' s t A' r => hr H' vs Q r (k v F' H' s t A' (h1 F'))⟩
/-- len -/
def lenD : PyData → Option Nat
  | .list xs => some xs.length
  | .tuple xs => some xs.length
  | .str s => if s.length ≤ 16777216 then some s.length else none
  | _ => none
theorem boot_len' : bootBuiltins "len" = some (.builtin "len") := PySem.boot_len
theorem de_len {n : Nat} (hg : Gl X "len") (hm : X.mg "len" = none) (ha : DW X Γ a d) (h : lenD d = some n) (he : starEach [a] X.env = [(false, eval a X.env)] := by rfl) : DE X Γ (.Call (.Name "len" p1) [a] [] pos) (.int n) :=
  de_cbS (v := .int n) call_len hg hm boot_len' (daw_cons ha daw_nil he) (fun _ => .int _) (fun H vs Q r hq => by
    cases r with
    | cons r rr =>
      cases rr
      refine ⟨_, n, rfl, ?_, hq⟩
      cases r with
      | lst hl r =>
        have e : some _ = some n := h
        exact .inl ⟨_, SqL.of hl, by rw [r.length]; exact (Option.some.inj e).symm⟩
      | tup hl r =>
        have e : some _ = some n := h
        exact .inr ⟨_, SqT.of hl, by rw [r.length]; exact (Option.some.inj e).symm⟩
      | str s =>
        have e : (if s.length ≤ 16777216 then some s.length else none) = some n := h
        by_cases hz : s.length ≤ 16777216
        · rw [if_pos hz] at e
          exact ⟨by rw [sizeLine_eq]; exact hz, (Option.some.inj e).symm⟩
        · rw [if_neg hz] at e; cases e
      | _ => cases h) (he := he) (hpl := rfl)
/-- isinstance(x, T), T a built-in class -/
def isaD : String → PyData → Option Bool
  | "int", d => some d.isInt
  | "bool", d => some d.isBool
  | "str", d => some d.isStr
  | "list", d => some d.isList
  | "tuple", d => some d.isTuple
  | _, _ => none
def rIsaD (K : PySem.W.Frag) (T : String) : List V → Hp → VK → Prop := fun vs H Q => ∃ v d b, vs = [v, .ty T] ∧ Dp K H v d ∧ isaD T d = some b ∧ Q (.bl b) H
theorem cr_isaD {T : String} : CallR X (.builtin "isinstance") (rIsaD X.K T) := by
  intro pins s σ H xs us Q I r h
  obtain ⟨v, d, b, rfl, hd, hb, q⟩ := h
  obtain ⟨u1, u2, rfl, r1, r2⟩ := vals2 r
  cases (show u2 = Value.type T from r2)
  obtain ⟨as, rd⟩ := Dp.reads I d v u1 hd r1
  have fin : ∀ b' : Bool, some b' = some b → ∀ tk, s.toks ≤ tk → EP X pins σ Q (.bool b') { s with toks := tk } := by
    intro b' e tk _
    cases Option.some.inj e
    exact ⟨.bl _, H, I.tok tk, rfl, q⟩
  unfold isaD at hb
  split at hb
  · exact PySem.W.isinstance_int_data rd (fin _ hb)
  · exact PySem.W.isinstance_bool_data rd (fin _ hb)
  · exact PySem.W.isinstance_str_data rd (fin _ hb)
  · exact PySem.W.isinstance_list_data rd (fin _ hb)
  · exact PySem.W.isinstance_tuple_data rd (fin _ hb)
  · cases hb
theorem boot_isa : bootBuiltins "isinstance" = some (.builtin "isinstance") := by decide +kernel
theorem de_isa {T : String} (hg : Gl X "isinstance") (hm : X.mg "isinstance" = none) (ha : DW X Γ a d) (hp : d.plain = true) (ht : PE X b (tC (.ty T))) (h : isaD T d = some p) (he : starEach [a, b] X.env = (false, eval a X.env) :: starEach [b] X.env := by rfl) (he2 : starEach [b] X.env = [(false, eval b X.env)] := by rfl) (hpl : (backTo pos (starEach [b] X.env)).any (·.1) = false := by rfl) :
    DE X Γ (.Call (.Name "isinstance" p1) [a, b] [] pos) (.bool p) := fun B =>
  pe_imp (pe_callB (cr_isaD (T := T)) hg hm boot_isa (pa_cons (ha B) (pa_cons ht pa_nil he2) he) (he := he) (hpl := hpl)) fun σ H Q ⟨F, A, k⟩ =>
    ⟨F, A, fun v F1 H1 s1 t1 A1 r1 => ⟨v, d, p, rfl, r1.dp hp, h, k _ F1 H1 s1 t1 A1 (.bl _)⟩⟩
theorem pe_tyN {T : String} {tn : Str} (hg : Gl X tn) (hm : X.mg tn = none) (hv : bootBuiltins tn = some (.type T)) (hn : tn ≠ "__name__" := by decide) (hd : (tn == ("__debug__" : Str)) = false := by decide) : PE X (.Name tn pos) (tC (.ty T)) := pe_bltn hg hm hv rfl hn hd
/-- all(xs), sum(xs) -/
theorem de_all {bs : List Bool} (hc : X.calm = true) (hg : Gl X "all") (hm : X.mg "all" = none) (ha : DW X Γ a (.list (bs.map PyData.bool))) (he : starEach [a] X.env = [(false, eval a X.env)] := by rfl) : DE X Γ (.Call (.Name "all" p1) [a] [] pos) (.bool (bs.all fun b => b)) :=
  de_cbS (v := .bl (bs.all fun b => b)) (cr_all hc) hg hm (by decide +kernel) (daw_cons ha daw_nil he) (fun _ => .bl _) (fun H vs Q r hq => by
    cases r with
    | cons r rr =>
      cases rr
      cases r with
      | lst hl r =>
        have e := RepL.of_bools r
        subst e
        exact ⟨_, bs, rfl, SqL.of hl, hq⟩) (he := he) (hpl := rfl)
theorem de_sum {ns : List Int} (hc : X.calm = true) (hg : Gl X "sum") (hm : X.mg "sum" = none) (ha : DW X Γ a (.list (ns.map PyData.int))) (he : starEach [a] X.env = [(false, eval a X.env)] := by rfl) : DE X Γ (.Call (.Name "sum" p1) [a] [] pos) (.int ns.sum) :=
  de_cbS (v := .int ns.sum) (cr_sum hc) hg hm (by decide +kernel) (daw_cons ha daw_nil he) (fun _ => .int _) (fun H vs Q r hq => by
    cases r with
    | cons r rr =>
      cases rr
      cases r with
      | lst hl r =>
        have e := RepL.of_ints r
        subst e
        exact ⟨_, ns, rfl, SqL.of hl, hq⟩) (he := he) (hpl := rfl)
/-- max(m, n), min(m, n), int(b), int(n), str(n) -/
theorem de_max2 (hc : X.calm = true) (hg : Gl X "max") (hm : X.mg "max" = none) (ha : DW X Γ a (.int i)) (hb : DW X Γ b (.int j)) (he : starEach [a, b] X.env = (false, eval a X.env) :: starEach [b] X.env := by rfl) (he2 : starEach [b] X.env = [(false, eval b X.env)] := by rfl) (hpl : (backTo pos (starEach [b] X.env)).any (·.1) = false := by rfl) :
    DE X Γ (.Call (.Name "max" p1) [a, b] [] pos) (.int (max i j)) :=
  de_cbS (v := .int (max i j)) (call_max2 hc) hg hm (by decide +kernel) (daw_cons ha (daw_cons hb daw_nil he2) he) (fun _ => .int _) (fun H vs Q r hq => by
    cases r with
    | cons r rr => cases rr with
      | cons r' rr =>
        cases rr; cases r; cases r'
        refine ⟨i, j, rfl, ?_⟩
        have e : (if j > i then j else i) = max i j := by split <;> omega
        rw [e]; exact hq) (he := he) (hpl := hpl)
theorem de_min2 (hc : X.calm = true) (hg : Gl X "min") (hm : X.mg "min" = none) (ha : DW X Γ a (.int i)) (hb : DW X Γ b (.int j)) (he : starEach [a, b] X.env = (false, eval a X.env) :: starEach [b] X.env := by rfl) (he2 : starEach [b] X.env = [(false, eval b X.env)] := by rfl) (hpl : (backTo pos (starEach [b] X.env)).any (·.1) = false := by rfl) :
    DE X Γ (.Call (.Name "min" p1) [a, b] [] pos) (.int (min i j)) :=
  de_cbS (v := .int (min i j)) (call_min2 hc) hg hm (by decide +kernel) (daw_cons ha (daw_cons hb daw_nil he2) he) (fun _ => .int _) (fun H vs Q r hq => by
    cases r with
    | cons r rr => cases rr with
      | cons r' rr =>
        cases rr; cases r; cases r'
        refine ⟨i, j, rfl, ?_⟩
        have e : (if j < i then j else i) = min i j := by split <;> omega
        rw [e]; exact hq) (he := he) (hpl := hpl)
theorem de_intB (hg : Gl X "int") (hm : X.mg "int" = none) (ha : DW X Γ a (.bool p)) (he : starEach [a] X.env = [(false, eval a X.env)] := by rfl) : DE X Γ (.Call (.Name "int" p1) [a] [] pos) (.int (if p then 1 else 0)) :=
  de_ctS (v := .int (if p then 1 else 0)) call_int1 hg hm (by decide +kernel) (daw_cons ha daw_nil he) (fun _ => .int _) (fun H vs Q r hq => by
    cases r with
    | cons r rr => cases rr; cases r; exact .inr ⟨p, rfl, hq⟩) (he := he) (hpl := rfl)
/-- list(xs) of a list, a tuple -/
theorem dl_listL (hg : Gl X "list") (hm : X.mg "list" = none) (ha : DB X Γ a xs) (he : starEach [a] X.env = [(false, eval a X.env)] := by rfl) : DL X Γ (.Call (.Name "list" p1) [a] [] pos) xs := fun B =>
  pe_imp (pe_callTy call_list_of hg hm (by decide +kernel) (pa_cons (ha B) pa_nil he) (he := he) (hpl := rfl)) fun σ H Q ⟨F, A, k⟩ => ⟨F, A, fun a vs F1 H1 s1 t1 A1 hl r =>
    ⟨a, vs, rfl, .inl (SqL.of hl), fun l hn => k l vs F1 _ s1 (t1.trans (Sub.new hn)) (A1.lay0 hn) (A1.fh.free hn) (A1.h0.free hn) upd_same r (A1.loose hn)⟩⟩
/-- sorted(xs), data of one ordered type -/
def leT {α : Type} [DecidableEq α] [DatumOrd α] (a b : α) : Bool := !DatumOrd.lt b a
theorem le_toD {α : Type} [DecidableEq α] [DatumOrd α] : (PySem.W.dataLe false (Datum.toD : α → PyData)) = leT := by
  funext a b
  rw [PySem.W.dataLe_eq]
  show (!PySem.W.dataLt (Datum.toD b) (Datum.toD a)) = !DatumOrd.lt b a
  rw [DatumOrd.lt_eq]
def rSortT (P : Program) (w : World) (K : PySem.W.Frag) (α : Type) [DecidableEq α] [DatumOrd α] : List V → Hp → VK → Prop := fun vs H Q => ∃ (a : Addr) (xs : List V) (F : Hp) (bs : List α), vs = [.ref a] ∧ H a = some (.lst xs) ∧ Sub F H ∧ RepL P w K F xs (bs.map Datum.toD) ∧
  PySem.W.Sortable (bs.map Datum.toD) ∧ Datum.depth α ≤ 64 ∧ ∀ ys p, RepL P w K F ys ((bs.mergeSort leT).map Datum.toD) → H p = none → Q (.ref p) (upd H p (.lst ys))
theorem each_of {P : Program} {w : World} {K : PySem.W.Frag} {F : Hp} {α : Type} {f : α → PyData} : ∀ {xs : List V} {us : List Value} {bs : List α}, Vals xs us → RepL P w K F xs (bs.map f) → PySem.W.EachIs (fun u b => ∃ x, RelV x u ∧ Rep P w K F x (f b)) us bs
  | _, _, [], r, h => by cases h; cases r; exact .nil
  | _, _, b :: bs, r, h => by
    cases h with
    | cons h1 h2 =>
      cases r with
      | cons r1 r2 => exact .cons ⟨_, r1, h1⟩ (each_of r2 h2)
theorem of_each {P : Program} {w : World} {K : PySem.W.Frag} {F : Hp} {α : Type} {f : α → PyData} : ∀ {us : List Value} {bs : List α}, PySem.W.EachIs (fun u b => ∃ x, RelV x u ∧ Rep P w K F x (f b)) us bs → ∃ xs : List V, Vals xs us ∧ RepL P w K F xs (bs.map f)
  | _, _, .nil => ⟨[], .nil, .nil⟩
  | _, _, .cons ⟨x, h1, h2⟩ t => by
    obtain ⟨xs, q1, q2⟩ := of_each t
    exact ⟨x :: xs, .cons h1 q1, .cons h2 q2⟩
theorem cr_sortT {α : Type} [DecidableEq α] [DatumOrd α] (hu : X.A.units + 200 < cLine) : CallR X (.builtin "sorted") (rSortT X.prog X.w X.K α) := by
  intro pins s σ H vs us Q I r h
  obtain ⟨a, xs, F, bs, rfl, hl, hF, hr, hk, hz, q⟩ := h
  obtain ⟨its, rv, pl, hlen⟩ := I.list (SqL.of hl)
  rw [Vals.ref1 r]
  have e1 := each_of (f := Datum.toD) rv hr
  have el : xs.length = bs.length := by rw [hr.length, List.length_map]
  have e2 : PySem.W.EachIs (fun u (b : α) => ∃ as, Reads s.heap u (Datum.toD b) as) its bs := e1.mono fun u b h => by
    obtain ⟨x, r1, r2⟩ := h
    exact Dp.reads I _ x u ((r2.mono hF).dp (Datum.plain _)) r1
  refine PySem.W.sorted_data (enc := Datum.toD) pl.isList e1 e2 (PySem.W.AllAlike.of fun b b' => DatumOrd.alike b b') hk (by rw [← el]; exact hlen) (fun b _ => ?_) fun out ho eo => ?_
  · have := Datum.depth_le b
    omega
  · obtain ⟨ys, q1, q2⟩ := of_each (f := Datum.toD) eo
    rw [le_toD] at q2
    obtain ⟨ep, he'⟩ := PyProof.Rows.sortedAll_at s.heap its (List.toArray out)
    have hl2 : ys.length ≤ sizeLine := by rw [q1.length, ho, ← el]; exact hlen
    exact ⟨.ref _, upd H (s.heap.objs.size + 1) (.lst ys), I.laid (t' := s.toks) (fun _ _ => PyProof.Rows.sortedAll_old) (Nat.le_succ _) ⟨hl2, out, ep, q1, he'⟩, rfl, q ys _ q2 (I.hok.fresh (Nat.le_succ _))⟩
theorem boot_sorted' : bootBuiltins "sorted" = some (.builtin "sorted") := by decide +kernel
theorem dl_sorted {α : Type} [DecidableEq α] [DatumOrd α] {bs : List α} (hu : X.A.units + 200 < cLine) (hg : Gl X "sorted") (hm : X.mg "sorted" = none) (ha : DB X Γ a (bs.map Datum.toD)) (hk : PySem.W.Sortable (bs.map Datum.toD)) (hz : Datum.depth α ≤ 64 := by decide) (he : starEach [a] X.env = [(false, eval a X.env)] := by rfl) :
    DL X Γ (.Call (.Name "sorted" p1) [a] [] pos) ((bs.mergeSort leT).map Datum.toD) := fun B =>
  pe_imp (pe_callB (cr_sortT (α := α) hu) hg hm boot_sorted' (pa_cons (ha B) pa_nil he) (he := he) (hpl := rfl)) fun σ H Q ⟨F, A, k⟩ => ⟨F, A, fun a vs F1 H1 s1 t1 A1 hl r =>
    ⟨a, vs, F1, bs, rfl, hl, A1.fh, r, hk, hz, fun ys p ry hp => k p ys F1 _ s1 (t1.trans (Sub.new hp)) (A1.lay0 hp) (A1.fh.free hp) (A1.h0.free hp) upd_same ry (A1.loose hp)⟩⟩

/-! ### slices -/
def tO (X : Cx) (B : Bs) (Γ : List Bd) (o : Option Int) : TO := fun σ H Q => ∃ F, At X B Γ F σ H ∧ ∀ F' H', Sub F F' → Sub H H' → At X B Γ F' σ H' → Q o H'
def DO (X : Cx) (Γ : List Bd) (e : Option Expr) (o : Option Int) : Prop := ∀ B, PO X e (tO X B Γ o)
theorem do_none : DO X Γ none none := fun B => ⟨fun pins s σ H Q I h => by
  obtain ⟨F, A, k⟩ := h
  exact (po_none (X := X)).run pins s σ H Q I (k F H (Sub.refl F) (Sub.refl H) A)⟩
theorem do_some (h : DW X Γ e (.int i)) : DO X Γ (some e) (some i) := fun B => ⟨fun pins s σ H Q I hw => by
  obtain ⟨F, A, k⟩ := hw
  exact (po_some (h B)).run pins s σ H Q I ⟨F, A, fun v F' H' s t A' r => by cases r; exact ⟨i, rfl, k F' H' s t A'⟩⟩⟩
/-- xs[lo:hi] -/
def cutD (xs : List PyData) (lo hi : Option Int) : List PyData := (xs.drop (HT.sIx xs.length 0 lo)).take (HT.sIx xs.length xs.length hi - HT.sIx xs.length 0 lo)
theorem RepL.cut {P : Program} {w : World} {K : PySem.W.Frag} {F : Hp} {vs : List V} {lo hi : Option Int} (r : RepL P w K F vs xs) : RepL P w K F (cutV vs lo hi) (cutD xs lo hi) := by
  unfold cutV cutD
  rw [r.length]
  exact (r.drop _).take _
theorem dl_slice {lo hi : Option Expr} {l h : Option Int} {p2 : Pos} (ha : DB X Γ a xs) (hl : DO X Γ lo l) (hh : DO X Γ hi h) : DL X Γ (.Subscript a (.Slice lo hi none p2) pos) (cutD xs l h) := fun B =>
  pe_imp (pe_slice sl_list (ha B) (hl B) (hh B)) fun σ H Q ⟨F, A, k⟩ => ⟨F, A, fun a vs F1 H1 s1 t1 A1 h1 r1 => ⟨F1, A1, fun F2 H2 s2 t2 A2 => ⟨F2, A2, fun F3 H3 s3 t3 A3 =>
    ⟨a, vs, rfl, SqL.of (t3 _ _ (t2 _ _ h1)), fun p hp => k p _ F3 _ (s1.trans (s2.trans s3)) ((t1.trans (t2.trans t3)).trans (Sub.new hp)) (A3.lay0 hp) (A3.fh.free hp) (A3.h0.free hp) upd_same ((r1.mono (s2.trans s3)).cut) (A3.loose hp)⟩⟩⟩⟩

/-! ### list + list, list * n -/
theorem dl_cat (ha : DB X Γ a xs) (hb : DB X Γ b ys) (hz : xs.length + ys.length ≤ sizeLine) : DL X Γ (.BinOp a .Add b pos) (xs ++ ys) := fun B =>
  pe_imp (pe_op op_cat (ha B) (hb B)) fun σ H Q ⟨F, A, k⟩ => ⟨F, A, fun l vs F1 H1 s1 t1 A1 h1 r1 => ⟨F1, A1, fun m ws F2 H2 s2 t2 A2 h2 r2 =>
    ⟨l, m, vs, ws, rfl, rfl, t2 _ _ h1, h2, by rw [r1.length, r2.length]; exact hz, fun p hp => k p _ F2 _ (s1.trans s2) ((t1.trans t2).trans (Sub.new hp)) (A2.lay0 hp) (A2.fh.free hp) (A2.h0.free hp) upd_same ((r1.mono s2).append r2) (A2.loose hp)⟩⟩⟩
theorem RepL.rep {P : Program} {w : World} {K : PySem.W.Frag} {F : Hp} {vs : List V} (r : RepL P w K F vs xs) : ∀ n : Nat, RepL P w K F (List.replicate n vs).flatten (List.replicate n xs).flatten
  | 0 => .nil
  | n + 1 => by rw [List.replicate_succ, List.replicate_succ, List.flatten_cons, List.flatten_cons]; exact r.append (r.rep n)
theorem dl_rep (ha : DB X Γ a xs) (hb : DW X Γ b (.int k)) (h1 : -(2 ^ 63) ≤ k) (h2 : k < 2 ^ 63) (hz : xs.length * k.toNat ≤ sizeLine) : DL X Γ (.BinOp a .Mult b pos) (List.replicate k.toNat xs).flatten := fun B =>
  pe_imp (pe_op op_rep (ha B) (hb B)) fun σ H Q ⟨F, A, kk⟩ => ⟨F, A, fun l vs F1 H1 s1 t1 A1 hl r1 => ⟨F1, A1, fun v F2 H2 s2 t2 A2 r2 => by
    cases r2
    exact ⟨l, k, vs, rfl, rfl, t2 _ _ hl, h1, h2, by rw [r1.length]; exact hz, fun p hp => kk p _ F2 _ (s1.trans s2) ((t1.trans t2).trans (Sub.new hp)) (A2.lay0 hp) (A2.fh.free hp) (A2.h0.free hp) upd_same ((r1.mono s2).rep _) (A2.loose hp)⟩⟩⟩

/-! ### a list of one's own is changed -/
variable {n : Nat} {x' : Str}
/-- xs.append(e) -/
theorem ds_append (hx : VarAt X n x') (hΓ : Γ[n]? = some (.ol xs)) (h : DE X Γ e d) (hz : xs.length < sizeLine) (hp : P.nx (Γ.set n (.ol (xs ++ [d]))))
    (hs : swapsWith (.Call (.Attribute (.Name x' p1) "append" ap) [e] [] cp) none pos.line X.env = pure false := by rfl)
    (hbase : attributeBase (.Name x' p1) "append" X.env (eval (.Name x' p1) X.env) = eval (.Name x' p1) X.env := by rfl)
    (hfew : ((backTo cp (starEach [e] X.env)).all (fun x => !x.1) && (backToKw cp (keywordEach [] X.env)).all (fun x => x.1.isSome) && decide ([e].length + ([] : List Keyword).length + (if ([] : List Keyword).isEmpty then 0 else 1) < 30)) = true := by rfl)
    (hline : (ap.endLine == cp.line) = true := by rfl) (hst : starEach [e] X.env = [(false, eval e X.env)] := by rfl) : DS X Γ (.Expr (.Call (.Attribute (.Name x' p1) "append" ap) [e] [] cp) pos) P := fun B =>
  ps_imp (ps_expr (pe_bm PySem.F.plainAttrs_list PySem.F.slot_list_append PySem.F.type_list_append mt_append hx.pe (pa_cons (h B) pa_nil hst) hbase hfew hline hst rfl) hs) fun D σ H ⟨F, A, k, _⟩ => by
    obtain ⟨l, vs, h1, h2, h3, h4, h5⟩ := A.sl n _ hΓ
    refine ⟨_, h1, .inl ⟨rfl, vs, SqL.of h4⟩, F, A, fun v F1 H1 s1 t1 A1 r1 => ?_⟩
    refine ⟨l, vs, v, rfl, rfl, t1 _ _ h4, by rw [h5.length]; exact hz, k _ F1 σ _ hp ?_⟩
    exact A1.chL hΓ rfl h1 ((h5.mono s1).append (.cons r1 .nil))
/-- xs[i] = e -/
theorem ds_setitem {ix : Expr} {m : Nat} (hx : VarAt X n x') (hΓ : Γ[n]? = some (.ol xs)) (h : DE X Γ e d) (hi : DW X Γ ix (.int k)) (hk : ixN xs.length k = some m) (hp : P.nx (Γ.set n (.ol (xs.set m d))))
    (ha : ∀ v, assign (.Subscript (.Name x' p1) ix cp) X.env v = (do
      let ov ← holding [v] (eval (.Name x' p1) X.env)
      let iv ← holding [v, ov] (eval ix X.env)
      standAt cp
      holding [v, ov, iv] (setItem ov iv v)
      release [v, ov, iv] []) := by intro _; rfl)
    (hs : swapsWithSole [.Subscript (.Name x' p1) ix cp] e pos.line X.env = pure false := by rfl) (hw : swappedStores [.Subscript (.Name x' p1) ix cp] e X.env = pure none := by rfl) (h1 : (assignEach [.Subscript (.Name x' p1) ix cp] X.env).map (·.2) = [assign (.Subscript (.Name x' p1) ix cp) X.env] := by rfl) :
    DS X Γ (.Assign [.Subscript (.Name x' p1) ix cp] e pos) P := fun B =>
  ps_imp (ps_asg (h B) (pg_sub hx.pe (hi B) set_list ha) hs hw h1) fun D σ H ⟨F, A, k', _⟩ => ⟨F, A, fun v F1 H1 s1 t1 A1 r1 => by
    obtain ⟨l, vs, g1, g2, g3, g4, g5⟩ := A1.sl n _ hΓ
    refine ⟨_, g1, F1, A1, fun iv F2 H2 s2 t2 A2 r2 => ?_⟩
    cases r2
    refine ⟨l, vs, k, m, rfl, rfl, t2 _ _ g4, by rw [g5.length]; exact hk, k' _ F2 σ _ hp ?_⟩
    exact A2.chL hΓ rfl g1 ((g5.mono s2).set m (r1.mono s2))⟩
end
end PH

set_option Elab.async false
set_option linter.all false
set_option maxRecDepth 100000
set_option maxHeartbeats 4000000
/-! P9: sets: set(xs), len(set), sorted(set), of ints, texts, and tuples of any depth. -/
namespace PH
open PySem PySem.Spec PyProof.Rows L2
open PySem.W (Datum DatumOrd Tup)

/-! ### lists -/
theorem lift_perm {α β : Type} {f : α → β} {l m : List β} (p : l.Perm m) : ∀ L : List α, m = L.map f → ∃ L' : List α, l = L'.map f ∧ L'.Perm L := by
  induction p with
  | nil => intro L e; exact ⟨[], rfl, by have := List.map_eq_nil_iff.mp e.symm; rw [this]⟩
  | cons x _ ih =>
    intro L e
    cases L with
    | nil => cases e
    | cons y L =>
      rw [List.map_cons, List.cons.injEq] at e
      obtain ⟨e1, e2⟩ := e
      obtain ⟨L', h1, h2⟩ := ih L e2
      exact ⟨y :: L', by rw [h1, e1]; rfl, h2.cons y⟩
  | swap x y l =>
    intro L e
    cases L with
    | nil => cases e
    | cons a L =>
      cases L with
      | nil => cases e
      | cons b L =>
        rw [List.map_cons, List.map_cons, List.cons.injEq, List.cons.injEq] at e
        obtain ⟨e1, e2, e3⟩ := e
        exact ⟨b :: a :: L, by rw [e1, e2, e3]; rfl, List.Perm.swap a b L⟩
  | trans _ _ ih1 ih2 =>
    intro L e
    obtain ⟨L1, h1, h2⟩ := ih2 L e
    obtain ⟨L2, h3, h4⟩ := ih1 L1 h1
    exact ⟨L2, h3, h4.trans h2⟩

/-- what of the first i items has come in: each key once -/
structure Came {ι κ : Type} (ky : ι → κ) (its : List ι) (i : Nat) (L : List ι) : Prop where
  sub : ∀ p ∈ L, p ∈ its.take i
  all : ∀ p ∈ its.take i, ky p ∈ L.map ky
  nd : (L.map ky).Nodup
section
variable {ι κ : Type} {ky : ι → κ} {its L L' : List ι} {i : Nat} {x : ι}
theorem Came.zero (ky : ι → κ) (its : List ι) : Came ky its 0 [] := ⟨fun p h => (by cases h), fun p h => (by simp at h), List.nodup_nil⟩
theorem take_more {α : Type} {l : List α} {i : Nat} {x : α} (h : l[i]? = some x) : l.take (i + 1) = l.take i ++ [x] := by
  rw [List.take_succ, h]; rfl
theorem Came.old (g : Came ky its i L) (h : its[i]? = some x) (hm : ky x ∈ L.map ky) : Came ky its (i + 1) L := by
  refine ⟨fun p hp => ?_, fun p hp => ?_, g.nd⟩
  · rw [take_more h]; exact List.mem_append_left _ (g.sub p hp)
  · rw [take_more h] at hp
    rcases List.mem_append.mp hp with z | z
    · exact g.all p z
    · rw [List.mem_singleton.mp z]; exact hm
theorem Came.new (g : Came ky its i L) (h : its[i]? = some x) (hm : ky x ∉ L.map ky) (pm : L'.Perm (x :: L)) : Came ky its (i + 1) L' := by
  refine ⟨fun p hp => ?_, fun p hp => ?_, (pm.map ky).nodup_iff.mpr (by rw [List.map_cons]; exact List.nodup_cons.mpr ⟨hm, g.nd⟩)⟩
  · rw [take_more h]
    rcases List.mem_cons.mp (pm.mem_iff.mp hp) with e | z
    · rw [e]; exact List.mem_append_right _ (List.mem_singleton.mpr rfl)
    · exact List.mem_append_left _ (g.sub p z)
  · rw [(pm.map ky).mem_iff, List.map_cons]
    rw [take_more h] at hp
    rcases List.mem_append.mp hp with z | z
    · exact List.mem_cons_of_mem _ (g.all p z)
    · rw [List.mem_singleton.mp z]; exact List.mem_cons_self
end

/-- a set at a of these values, walkable -/
def SetHas (w : World) (h : Heap) (a : Addr) (vs : List Value) : Prop := ∃ o es ep t, h.get? a = some o ∧ o.ExactSet ∧ o.data = .set es ep t ∧ es.toList.map (·.2) = vs ∧
  t.fits es.size = true ∧ es.size < scanBound ∧ Ris t.place.toList ∧ (w.params.followText "set-order" = true ∨ t.led = true)
def freshSet (w : World) : Obj := { cls := .type "set", dict := none, data := .set #[] 0 (.fresh 0 0 (!w.params.followText "set-order")) }

section
variable {P : Program} {w : World} {A : Around} {E : Value → Shared → Prop} {s : Shared}

/-! ### set(xs): the loop, whatever the items are -/
theorem set_loop {I : Addr} {fp wr : List Addr} {G : Array GenState → Array GenState → Prop} {n : Nat} {Pv : Nat → Value → Prop} {St : Nat → Shared → Prop} {R : Result → Shared → Prop}
    (W : WalksS P w A.in1 I fp wr G n Pv St) (S : Addr) (hSf : S ∉ fp) (Sp : Nat → Heap → Prop) (h0 : Heap) (hS0 : h0.get? S = none) (hw0 : ∀ b ∈ wr, h0.get? b = none)
    (stay : ∀ i h h', (∀ b o, h0.get? b = some o → h'.get? b = some o) → (∀ o, h.get? S = some o → h'.get? S = some o) → Sp i h → Sp i h')
    (add : ∀ i v (s : Shared) (E' : Value → Shared → Prop) (Q : Bool → Shared → Prop), i < n → Pv i v → (∀ b o, h0.get? b = some o → s.heap.get? b = some o) → Sp i s.heap →
      (∀ b h' tk, s.toks ≤ tk → Heap.SameBut S s.heap h' → Sp (i + 1) h' → Q b { s with heap := h', toks := tk }) → wpAny (model P w) A.in1 (setAdd S v) Q E' s) :
    ∀ (k i : Nat) (s : Shared), n - i = k → i ≤ n → St i s → (∀ b o, h0.get? b = some o → s.heap.get? b = some o) → Sp i s.heap →
      (∀ s', Moved (S :: wr) G s s' → Sp n s'.heap → (∀ b o, h0.get? b = some o → s'.heap.get? b = some o) → R (.ok (.ret .none)) s') →
      codeAny (model P w) A (.builtin "set.update.loop" ⟨[.ref S, .ref I], []⟩) R s := by
  have nS : S ∉ wr := fun h => hSf (W.sub _ h)
  have up : ∀ b ∈ wr, b ∈ S :: wr := fun b hb => List.mem_cons_of_mem _ hb
  have kp : ∀ {s s' : Shared}, Moved wr G s s' → (∀ b o, h0.get? b = some o → s.heap.get? b = some o) → ∀ b o, h0.get? b = some o → s'.heap.get? b = some o := fun hm hk b o e =>
    hm.heap b o (fun hb => by rw [hw0 b hb] at e; cases e) (hk b o e)
  intro k
  induction k with
  | zero =>
    intro i s hk hi hst hkp sp hR
    have hin : i = n := by omega
    subst hin
    refine codeAny_builtin F.entry_set_update_loop ?_
    rw [Around.under_plainId F.plain_set_update_loop _]
    show wpAny (model P w) A.in1 (pyNext (.ref I) >>= _) _ _ s
    refine wpAny_bind (W.done s _ _ hst fun s1 hm => ?_)
    have k1 := kp hm hkp
    exact wpAny_pure (hR s1 (hm.mono up) (stay _ _ _ k1 (fun o e => hm.heap S o nS e) sp) k1)
  | succ k ih =>
    intro i s hk hi hst hkp sp hR
    have hlt : i < n := by omega
    refine codeAny_builtin F.entry_set_update_loop ?_
    rw [Around.under_plainId F.plain_set_update_loop _]
    show wpAny (model P w) A.in1 (pyNext (.ref I) >>= _) _ _ s
    refine wpAny_bind (W.item i s _ _ hlt hst fun v s1 hP hst1 hm => ?_)
    have k1 := kp hm hkp
    show wpAny (model P w) A.in1 (holding [v] (setAdd S v) >>= _) _ _ s1
    refine wpAny_bind (wpAny_holding (add i v s1 _ _ hlt hP k1 (stay _ _ _ k1 (fun o e => hm.heap S o nS e) sp) fun b h' tk htk hsb sp2 => ?_))
    have k2 : ∀ b o, h0.get? b = some o → h'.get? b = some o := fun b o e => (hsb.2 b (fun z => by rw [z, hS0] at e; cases e)).trans (k1 b o e)
    refine wpAny_pure ⟨plainId_quiet F.plain_set_update_loop _, ih (i + 1) _ (by omega) hlt (W.frame _ s1 _ _ hst1 htk fun b hb o e => ?_) k2 sp2 fun s2 hm2 sp3 k3 => ?_⟩
    · rw [hsb.2 b fun z : b = S => hSf (z ▸ hb)]; exact e
    · refine hR s2 (Moved.trans W.gtrans ((hm.mono up).then_heap htk fun b o hb e => ?_) hm2) sp3 k3
      rw [hsb.2 b fun z : b = S => hb (by rw [z]; exact List.mem_cons_self)]; exact e

set_option maxHeartbeats 6400000 in
/-- set(xs) of a list -/
theorem call_set_any {l : Addr} {items : Array Value} {Q : Value → Shared → Prop} (Sp : Nat → Heap → Prop) (hh : A.handled = none) (hl : s.heap.IsList l items)
    (new : ∀ h, h.get? s.heap.objs.size = some (freshSet w) → (∀ b o, s.heap.get? b = some o → h.get? b = some o) → Sp 0 h)
    (stay : ∀ i h h', (∀ b o, s.heap.get? b = some o → h'.get? b = some o) → (∀ o, h.get? s.heap.objs.size = some o → h'.get? s.heap.objs.size = some o) → Sp i h → Sp i h')
    (add : ∀ i v (A' : Around) (s1 : Shared) (E' : Value → Shared → Prop) (Q : Bool → Shared → Prop), A'.units ≤ A.units + 8 → items[i]? = some v → (∀ b o, s.heap.get? b = some o → s1.heap.get? b = some o) → Sp i s1.heap →
      (∀ b h' tk, s1.toks ≤ tk → Heap.SameBut s.heap.objs.size s1.heap h' → Sp (i + 1) h' → Q b { s1 with heap := h', toks := tk }) → wpAny (model P w) A' (setAdd s.heap.objs.size v) Q E' s1)
    (h : ∀ (h' : Heap) (tk : Nat), Sp items.size h' → (∀ b o, s.heap.get? b = some o → h'.get? b = some o) → Q (.ref s.heap.objs.size) { s with heap := h', toks := tk }) :
    wpAny (model P w) A (call (.type "set") [.ref l]) Q E s := by
  obtain ⟨cc, ctl, hmro⟩ := F.called_set.mro
  have hmade := F.called_set.made
  have hsub := F.called_set.sub
  refine wpAny_call (codeAny_of_tree ?_)
  show wpAny (model P w) A.in1 (callAny (.type "set") _) _ _ _
  refine wpAny_pure ⟨Code.quiet_builtin _ (by decide +kernel), codeAny_builtin F.entry_type_call ?_⟩
  rw [Around.under_plain (weight_type_call_type "set" [.ref l] []) rfl]
  have c1 := F.called_set.notType
  have c2 := F.called_set.canCreate
  have c3 := F.typeCall_set_1 (.ref l)
  repeat (any_goals (first | assumption | wp_step))
  refine codeAny_mono (code_set_led1 (.ref l) (E := E) (Q₁ := fun obj s₁ => obj = .ref s.heap.objs.size ∧ s₁ = { s with heap := s.heap.push (freshSet w) }) ⟨rfl, rfl⟩) fun r s₁ hr => ?_
  cases r with
  | error e => exact hr
  | ok fl =>
    cases fl with
    | ret obj =>
      obtain ⟨rfl, rfl⟩ := hr
      have hS : (s.heap.push (freshSet w)).get? s.heap.objs.size = some (freshSet w) := Heap.get?_push_size _ rfl
      have hT : Shared.TypeIs { s with heap := s.heap.push (freshSet w) } (.ref s.heap.objs.size) "set" := ⟨_, hS, rfl⟩
      have i1 := F.called_set.init.lookup
      have i2 := F.called_set.init.bind (.ref s.heap.objs.size)
      repeat (any_goals (first | assumption | wp_step))
      refine codeAny_mono (codeAny_call_builtin (R := wants (fun r s₂ => r = .none ∧ ∃ h' tk, s₂ = { s with heap := h', toks := tk } ∧ Sp items.size h' ∧ (∀ b o, s.heap.get? b = some o → h'.get? b = some o)) E)
        F.called_set.init.plain F.entry_set_init (check_set_init_1 hT ?_)) fun r₂ s₂ hr₂ => ?_
      · obtain ⟨ol, hol, hcl, nl, hdl⟩ := hl
        obtain ⟨ocls, odict, odata, oslots⟩ := ol
        simp only at hcl hdl
        subst hcl; subst hdl
        have hol1 : (s.heap.push (freshSet w)).get? l = some { cls := .type "list", dict := odict, data := .seq items nl, slots := oslots } := Heap.get?_push_of_some _ hol
        have hsls := F.sub_list_set
        have hslf := F.sub_list_frozenset
        have hne : (Value.type "list" == Value.type "dict") = false := by decide
        have hl1 : (s.heap.push (freshSet w)).IsList l items := ⟨_, hol1, rfl, nl, rfl⟩
        unfold Builtin.«set.__init__» noKeywords Builtin.Frozenset.updateFrom
        generalize hPI : pyIter = PI
        wp_walk
        subst hPI
        refine wpAny_pyIter_list hl1 ?_
        refine wpAny_bind (wpAny_runValue ?_)
        have hlS : l < s.heap.objs.size := Heap.lt_size hol
        have hh3 : A.in1.in1.in1.handled = none := by simp [hh]
        have hneI : l ≠ (s.heap.push (freshSet w)).objs.size := by
          rw [Heap.size_push]; exact Nat.ne_of_lt (Nat.lt_succ_of_lt hlS)
        have hSf : s.heap.objs.size ∉ [(s.heap.push (freshSet w)).objs.size, l] := by
          rw [Heap.size_push]
          simp only [List.mem_cons, List.not_mem_nil, or_false, not_or]
          exact ⟨Nat.ne_of_lt (Nat.lt_succ_self _), Nat.ne_of_gt hlS⟩
        have none_of : ∀ b, s.heap.objs.size ≤ b → s.heap.get? b = none := fun b hb => by
          cases q : s.heap.get? b with
          | none => rfl
          | some o => exact absurd (Nat.lt_of_lt_of_le (Heap.lt_size q) hb) (Nat.lt_irrefl _)
        refine set_loop ((Walks.list hh3 _ l hneI items).toS) s.heap.objs.size hSf Sp s.heap (none_of _ (Nat.le_refl _))
          (fun b hb => none_of b (by rw [List.mem_singleton.mp hb, Heap.size_push]; exact Nat.le_succ _)) stay
          (fun i v s1 E' Q' hi hv k1 sp k2 => add i v _ s1 E' Q' (by simp only [Around.in1_units]; omega) hv k1 sp k2) (items.size - 0) 0 _ (by omega) (Nat.zero_le _)
          ⟨⟨_, Heap.get?_push_size _ rfl, rfl, rfl⟩, (hl1.push _)⟩ (fun b o e => Heap.get?_push_of_some _ (Heap.get?_push_of_some _ e)) ?hS0 ?hR
        case hS0 =>
          exact new _ (Heap.get?_push_of_some _ hS) fun b o e => Heap.get?_push_of_some _ (Heap.get?_push_of_some _ e)
        case hR =>
          intro s' hm sp hkp
          obtain ⟨h', g2, d', tk', os'⟩ := s'
          have eg : g2 = s.gens := hm.gens
          have ed : d' = s.drawn := hm.drawn
          have eo : os' = s.os := hm.os
          subst eg; subst ed; subst eo
          show wpAny _ _ _ _ _ _
          refine wpAny_pure ?_
          show wpAny _ _ (ret Value.none) _ _ _
          exact wpAny_pure ⟨rfl, h', tk', rfl, sp, hkp⟩
      · cases r₂ with
        | error e => exact hr₂
        | ok fl₂ =>
          cases fl₂ with
          | ret r =>
            obtain ⟨rfl, h', tk, rfl, sp, hk'⟩ := hr₂
            repeat (any_goals (first | assumption | wp_step))
            exact h h' tk sp hk'
          | _ => exact hr₂.elim
    | _ => exact hr.elim
end
end PH

set_option Elab.async false
set_option linter.all false
set_option maxRecDepth 100000
set_option maxHeartbeats 4000000
/-! P10: one value put into a set: ints and texts (by scan), tuples of any depth (by the table). -/
namespace PH
open PySem PySem.Spec PyProof.Rows L2
open PySem.W (Datum DatumOrd Tup)

theorem nodup_len {α : Type} : ∀ {l m : List α}, l.Nodup → (∀ p ∈ l, p ∈ m) → l.length ≤ m.length
  | [], _, _, _ => Nat.zero_le _
  | x :: l, m, hn, hs => by
    obtain ⟨h1, h2⟩ := List.nodup_cons.mp hn
    obtain ⟨m1, m2, rfl⟩ := List.append_of_mem (hs x List.mem_cons_self)
    have ih := nodup_len (m := m1 ++ m2) h2 fun y hy => by
      rcases List.mem_append.mp (hs y (List.mem_cons_of_mem _ hy)) with z | z
      · exact List.mem_append_left _ z
      · rcases List.mem_cons.mp z with z | z
        · exact absurd (z ▸ hy) h1
        · exact List.mem_append_right _ z
    simp only [List.length_append, List.length_cons] at ih ⊢
    omega
/-! ### ints and texts -/
/-- a set at a of the entries L: each its key, its value -/
structure ScanSet (P : Program) (w : World) {ι : Type} (ky : ι → Key) (vl : ι → Value) (h : Heap) (a : Addr) (L : List ι) (o : Obj) (es : Array (Int × Value)) (ep : Nat) (t : SetTable) : Prop where
  ob : h.get? a = some o
  ex : o.ExactSet
  dat : o.data = .set es ep t
  rows : es.toList = L.map fun p => ((mixKind P w).hash (ky p), vl p)
  fits : t.fits es.size = true
  few : es.size < scanBound
  ris : Ris t.place.toList
  led : w.params.followText "set-order" = true ∨ t.led = true
section
variable {P : Program} {w : World} {A : Around} {E : Value → Shared → Prop} {s : Shared} {ι : Type} {ky : ι → Key} {vl : ι → Value} {a : Addr} {L : List ι} {o : Obj} {es : Array (Int × Value)} {ep : Nat} {t : SetTable}
theorem ScanSet.has {h : Heap} (R : ScanSet P w ky vl h a L o es ep t) : SetHas w h a (L.map vl) :=
  ⟨o, es, ep, t, R.ob, R.ex, R.dat, by rw [R.rows, List.map_map]; rfl, R.fits, R.few, R.ris, R.led⟩
theorem ScanSet.keep {h h' : Heap} (R : ScanSet P w ky vl h a L o es ep t) (k : ∀ u, h.get? a = some u → h'.get? a = some u) : ScanSet P w ky vl h' a L o es ep t := { R with ob := k _ R.ob }
theorem ScanSet.size {h : Heap} (R : ScanSet P w ky vl h a L o es ep t) : es.size = L.length := by
  have z := congrArg List.length R.rows
  rw [Array.length_toList, List.length_map] at z
  exact z
theorem mix_scan {k : Key} {v : Value} (h : (mixKind P w).is k v = true) : v.scannable = true := by
  cases k with
  | inl i => obtain ⟨t, e⟩ := Value.isInt_shape (k := i) (v := v) h; rw [e]; rfl
  | inr x =>
    cases v with
    | str y t => rfl
    | _ => exact absurd (show (false : Bool) = true from h) (by decide)
theorem els_of {L : List ι} (hk : ∀ p ∈ L, (mixKind P w).is (ky p) (vl p) = true) : ElemsOf (mixKind P w) (L.map fun p => ((mixKind P w).hash (ky p), vl p)) := fun e he => by
  obtain ⟨p, hp, rfl⟩ := List.mem_map.mp he
  exact ⟨⟨ky p, hk p hp, rfl⟩, mix_scan (hk p hp)⟩
/-- stored, and laid anew where it is too full -/
theorem scan_tail {g : Bool → Sem Unit} (hg : ∀ (b : Bool) (s₁ : Shared) (Q1 : Unit → Shared → Prop), Q1 () s₁ → wpAny (model P w) A (g b) Q1 E s₁) {e1 : Array (Int × Value)} {t2 : SetTable} {L1 : List ι}
    (ho : s.heap.get? a = some o) (hx : o.ExactSet) (hd : o.data = .set es ep t) (r1 : e1.toList = L1.map fun p => ((mixKind P w).hash (ky p), vl p)) (b1 : e1.size < scanBound) (f2 : t2.fits e1.size = true) (i2 : Ris t2.place.toList)
    (l2 : w.params.followText "set-order" = true ∨ t2.led = true) {wd : Bool} {R : Option Bool → Shared → Prop}
    (hR : ∀ h' L2 o2 e2 p2 t3, Heap.SameBut a s.heap h' → L2.Perm L1 → ScanSet P w ky vl h' a L2 o2 e2 p2 t3 → R (some true) { s with heap := h' }) :
    wpAny (model P w) A (do
        storeSet a e1 t2
        if (!wd && t2.tooFull) = true then do
            g (relayAll t2 e1 (SetTable.grown e1.size)).2.2
            storeSet a (relayAll t2 e1 (SetTable.grown e1.size)).1 (relayAll t2 e1 (SetTable.grown e1.size)).2.1
            pure (some true)
          else pure (some true)) R E s := by
  refine wpAny_bind (wpAny_storeSet_of ho hd ?_ (fits_of_scanBound b1))
  have o1 := store_at (es' := e1) (t' := t2) ho hd
  have sb := Heap.SameBut.update s.heap a (Obj.putSet e1 t2)
  split
  · have pm := relayAll_perm t2 e1 (SetTable.grown e1.size)
    have q1 := relayAll_fits t2 e1 (SetTable.grown e1.size)
    have q2 := relayAll_ris t2 e1 (SetTable.grown e1.size)
    have q3 := relayAll_led t2 e1 (SetTable.grown e1.size)
    generalize relayAll t2 e1 (SetTable.grown e1.size) = Z at pm q1 q2 q3 ⊢
    obtain ⟨e2, t3, gv⟩ := Z
    dsimp only at pm q1 q2 q3 ⊢
    have hz : e2.size = e1.size := by rw [← Array.length_toList, pm.length_eq, Array.length_toList]
    have b2 : e2.size < scanBound := by rw [hz]; exact b1
    obtain ⟨L2, g1, g2⟩ := lift_perm pm L1 r1
    refine wpAny_bind (hg _ _ _ ?_)
    refine wpAny_bind (wpAny_storeSet_of o1 rfl ?_ (fits_of_scanBound b2))
    exact wpAny_pure (hR _ L2 _ e2 _ t3 (sb.trans (Heap.SameBut.update _ a _)) g2 ⟨store_at (es' := e2) (t' := t3) o1 rfl, hx, rfl, g1, q1, b2, q2, l2.imp id fun z => by rw [q3]; exact z⟩)
  · exact wpAny_pure (hR _ L1 _ e1 _ t2 sb (List.Perm.refl _) ⟨o1, hx, rfl, r1, f2, b1, i2, l2⟩)
theorem scan_add {x : ι} (R : ScanSet P w ky vl s.heap a L o es ep t) (hk : ∀ p ∈ L, (mixKind P w).is (ky p) (vl p) = true) (hx : (mixKind P w).is (ky x) (vl x) = true) (room : L.length + 1 < scanBound) {Q : Bool → Shared → Prop}
    (hQ : ∀ b h' L2 o2 e2 p2 t2, Heap.SameBut a s.heap h' → ScanSet P w ky vl h' a L2 o2 e2 p2 t2 → (ky x ∈ L.map ky → L2 = L) → (ky x ∉ L.map ky → L2.Perm (x :: L)) → Q b { s with heap := h' }) :
    wpAny (model P w) A (setAddHashed a (vl x) ((mixKind P w).hash (ky x))) Q E s := by
  have hel : ElemsOf (mixKind P w) es.toList := by rw [R.rows]; exact els_of hk
  have hsc := mix_scan hx
  have hz := R.size
  unfold setAddHashed setAddHashedIn
  refine wpAny_holding (wpAny_bind (wpAny_setState_of R.ob R.dat R.fits ?_))
  dsimp only
  rw [byScan_of hsc R.few hel]
  simp only [↓reduceIte]
  unfold setAddByScan
  refine wpAny_bind ?_
  refine wpAny_bind (wpAny_rule ?_)
  refine wpAny_bind (wpAny_setScan_of hx R.ob R.dat R.fits hel ?_)
  cases hfi : List.findIdx? (fun e => (mixKind P w).is (ky x) e.2) es.toList with
  | some j =>
    dsimp only
    obtain ⟨hj, pj, _⟩ := List.findIdx?_eq_some_iff_getElem.mp hfi
    have hm : ky x ∈ L.map ky := by
      have m1 : es.toList[j] ∈ L.map fun p => ((mixKind P w).hash (ky p), vl p) := by rw [← R.rows]; exact List.getElem_mem hj
      obtain ⟨p, hp, e⟩ := List.mem_map.mp m1
      rw [← e] at pj
      exact List.mem_map.mpr ⟨p, hp, (mixKind P w).inj _ _ _ (hk p hp) pj⟩
    refine wpAny_pure (wpAny_pure ?_)
    exact hQ false s.heap L o es ep t (Heap.SameBut.refl a s.heap) R (fun _ => rfl) fun z => absurd hm z
  | none =>
    dsimp only
    have hm : ky x ∉ L.map ky := fun z => by
      obtain ⟨p, hp, e⟩ := List.mem_map.mp z
      have m1 : ((mixKind P w).hash (ky p), vl p) ∈ es.toList := by rw [R.rows]; exact List.mem_map.mpr ⟨p, hp, rfl⟩
      have c := List.findIdx?_eq_none_iff.mp hfi _ m1
      have c2 := hk p hp
      rw [e] at c2
      rw [c2] at c
      cases c
    have gw : ∀ (b : Bool) {s₁ : Shared} {Q1 : Unit → Shared → Prop}, Q1 () s₁ → wpAny (model P w) A (match b with | true => rule "set.scan.the-table-gave-way" | false => pure ()) Q1 E s₁ :=
      fun b s₁ Q1 q => by cases b <;> first | exact wpAny_pure q | exact wpAny_rule q
    have pm := layNew_perm t es ((mixKind P w).hash (ky x)) (vl x)
    have q1 := layNew_fits t es ((mixKind P w).hash (ky x)) (vl x)
    have q2 := layNew_ris t es ((mixKind P w).hash (ky x)) (vl x) R.ris
    have q3 := layNew_led t es ((mixKind P w).hash (ky x)) (vl x)
    generalize layNew t es ((mixKind P w).hash (ky x)) (vl x) = Z at pm q1 q2 q3 ⊢
    obtain ⟨e1, t1, wd, gv⟩ := Z
    dsimp only at pm q1 q2 q3 ⊢
    rw [Array.toList_push, R.rows] at pm
    have pc : e1.toList.Perm (((mixKind P w).hash (ky x), vl x) :: L.map fun p => ((mixKind P w).hash (ky p), vl p)) := pm.trans (List.perm_append_singleton _ _)
    obtain ⟨L1, g1, g2⟩ := lift_perm (f := fun p => ((mixKind P w).hash (ky p), vl p)) pc (x :: L) rfl
    have hz1 : e1.size = L.length + 1 := by rw [← Array.length_toList, g1, List.length_map, g2.length_eq]; rfl
    have b1 : e1.size < scanBound := by rw [hz1]; exact room
    have l1 : w.params.followText "set-order" = true ∨ t1.led = true := R.led.imp id fun z => by rw [q3]; exact z
    have fin : ∀ h' L2 o2 e2 p2 t3, Heap.SameBut a s.heap h' → L2.Perm L1 → ScanSet P w ky vl h' a L2 o2 e2 p2 t3 → Q true { s with heap := h' } := fun h' L2 o2 e2 p2 t3 sb pp r =>
      hQ true h' L2 o2 e2 p2 t3 sb r (fun z => absurd z hm) fun _ => pp.trans g2
    refine wpAny_bind (gw _ ?_)
    split
    · refine wpAny_bind ?_
      rw [hashByValue_scannable 8 hsc]
      refine wpAny_pure ?_
      refine scan_tail ?_ R.ob R.ex R.dat g1 b1 ?_ ?_ ?_ ?_
      · intro b s₁ Q1 q; cases b <;> first | exact wpAny_pure q | exact wpAny_rule q
      · first | (split <;> first | exact q1 | exact SetTable.fits_plain_off q1) | exact q1
      · first | (split <;> exact q2) | exact q2
      · first | (split <;> exact l1) | exact l1
      · intro h' L2 o2 e2 p2 t3 sb pp r; dsimp only; exact wpAny_pure (fin h' L2 o2 e2 p2 t3 sb pp r)
    · refine wpAny_bind (wpAny_pure ?_)
      simp only [↓reduceIte]
      refine scan_tail ?_ R.ob R.ex R.dat g1 b1 q1 q2 l1 ?_
      · intro b s₁ Q1 q; cases b <;> first | exact wpAny_pure q | exact wpAny_rule q
      · intro h' L2 o2 e2 p2 t3 sb pp r; dsimp only; exact wpAny_pure (fin h' L2 o2 e2 p2 t3 sb pp r)
theorem scan_setAdd {x : ι} (R : ScanSet P w ky vl s.heap a L o es ep t) (hk : ∀ p ∈ L, (mixKind P w).is (ky p) (vl p) = true) (hx : (mixKind P w).is (ky x) (vl x) = true) (room : L.length + 1 < scanBound) {Q : Bool → Shared → Prop}
    (hQ : ∀ b h' L2 o2 e2 p2 t2, Heap.SameBut a s.heap h' → ScanSet P w ky vl h' a L2 o2 e2 p2 t2 → (ky x ∈ L.map ky → L2 = L) → (ky x ∉ L.map ky → L2.Perm (x :: L)) → Q b { s with heap := h', toks := s.toks + 1 }) :
    wpAny (model P w) A (setAdd a (vl x)) Q E s := by
  unfold setAdd
  refine wpAny_holding (wpAny_bind ((mixKind P w).pyHash hx ?_))
  exact scan_add (s := { s with toks := s.toks + 1 }) R hk hx room hQ
theorem scan_fresh {h : Heap} (ho : h.get? a = some (freshSet w)) : ScanSet P w ky vl h a [] (freshSet w) #[] 0 (.fresh 0 0 (!w.params.followText "set-order")) where
  ob := ho
  ex := ⟨rfl, rfl, rfl⟩
  dat := rfl
  rows := rfl
  fits := rfl
  few := by decide
  ris := List.Pairwise.nil
  led := by cases w.params.followText "set-order" <;> simp [SetTable.fresh]
/-- set(xs) of ints, of texts -/
theorem call_set_scan {l : Addr} {its : List ι} {Q : Value → Shared → Prop} (hh : A.handled = none) (hl : s.heap.IsList l (its.map vl).toArray) (hk : ∀ p ∈ its, (mixKind P w).is (ky p) (vl p) = true) (hz : its.length + 1 < scanBound)
    (h : ∀ (h' : Heap) (tk : Nat) L, Came ky its its.length L → SetHas w h' s.heap.objs.size (L.map vl) → (∀ b o, s.heap.get? b = some o → h'.get? b = some o) → Q (.ref s.heap.objs.size) { s with heap := h', toks := tk }) :
    wpAny (model P w) A (call (.type "set") [.ref l]) Q E s := by
  refine call_set_any (fun i h => ∃ L o es ep t, Came ky its i L ∧ ScanSet P w ky vl h s.heap.objs.size L o es ep t) hh hl (fun h1 e _ => ⟨[], _, _, _, _, Came.zero ky its, scan_fresh e⟩)
    (fun i h1 h2 _ k ⟨L, o, es, ep, t, g, R⟩ => ⟨L, o, es, ep, t, g, R.keep k⟩) (fun i v A' s1 E' Q' _ hv k1 ⟨L, o, es, ep, t, g, R⟩ hQ => ?_) fun h' tk ⟨L, o, es, ep, t, g, R⟩ k => ?_
  · have hv2 : (its.map vl)[i]? = some v := by simpa using hv
    rw [List.getElem?_map] at hv2
    obtain ⟨x, hx, rfl⟩ := Option.map_eq_some_iff.mp hv2
    have hL : ∀ p ∈ L, (mixKind P w).is (ky p) (vl p) = true := fun p hp => hk p (List.mem_of_mem_take (g.sub p hp))
    have hlen : L.length ≤ i := by
      have n1 : L.Nodup := List.Pairwise.of_map ky (fun _ _ hne e => hne (congrArg ky e)) g.nd
      have := nodup_len n1 fun p hp => g.sub p hp
      rw [List.length_take] at this
      omega
    have hi : i < its.length := (List.getElem?_eq_some_iff.mp hx).1
    refine scan_setAdd R hL (hk x (List.mem_of_getElem? hx)) (by omega) fun b h' L2 o2 e2 p2 t2 sb R2 c1 c2 => hQ b h' (s1.toks + 1) (Nat.le_succ _) sb ⟨L2, o2, e2, p2, t2, ?_, R2⟩
    rcases Classical.em (ky x ∈ L.map ky) with c | c
    · rw [c1 c]; exact g.old hx c
    · exact g.new hx c (c2 c)
  · have e : (its.map vl).toArray.size = its.length := by simp
    rw [e] at g
    exact h h' tk L g R.has k
end
end PH

set_option Elab.async false
set_option linter.all false
set_option maxRecDepth 100000
set_option maxHeartbeats 4000000
/-! P11: one tuple put into a set; set(xs) of tuples of any depth. -/
namespace PH
open PySem PySem.Spec PyProof.Rows L2
open PySem.W (Datum DatumOrd Tup)

section
variable {P : Program} {w : World}
/-! ### small questions asked of nested tuples -/
/-- it is of no class statement -/
def NoCls (P : Program) (w : World) (n : Nat) (s : Shared) (v : Value) : Prop := ∀ (A : Around) (E : Value → Shared → Prop) (Q : Bool → Shared → Prop), Q false s → wpAny (model P w) A (ofAClassStatement n v) Q E s
/-- whether it is hashed by value can be asked -/
def ByV (P : Program) (w : World) (n : Nat) (s : Shared) (v : Value) : Prop := ∀ (A : Around) (E : Value → Shared → Prop) (Q : Bool → Shared → Prop), (∀ b, Q b s) → wpAny (model P w) A (hashByValue n v) Q E s
theorem NoCls.tuple {n : Nat} {s : Shared} {b : Addr} {o : Obj} {vs : Array Value} {m : Nat} (h1 : s.heap.get? b = some o) (h2 : o.cls = .type "tuple") (h3 : o.data = .seq vs m) (h4 : ∀ v ∈ vs.toList, NoCls P w n s v) : NoCls P w (n + 1) s (.ref b) := by
  intro A E Q q
  have hT : s.TypeIs (.ref b) "tuple" := ⟨o, h1, h2⟩
  unfold ofAClassStatement
  refine wpAny_bind (wpAny_typeOf hT ?_)
  dsimp only
  have et : (("tuple" : String) == "tuple") = true := by decide
  simp only [et, if_true, Bool.not_true, Bool.false_eq_true, if_false]
  try refine wpAny_bind (wpAny_pure ?_)
  try simp only [Bool.not_true, Bool.false_eq_true, if_false]
  show wpAny (model P w) A (seqItems? (.ref b) >>= _) _ _ s
  refine wpAny_bind (wpAny_seqItems h1 h3 ?_)
  dsimp only
  refine wpAny_bind ?_
  show wpAny (model P w) A (forIn vs _ _) _ _ s
  rw [← Array.forIn_toList]
  refine wpAny_forIn_list _ (fun rest r s' => r.1 = none ∧ s' = s ∧ ∀ v ∈ rest, NoCls P w n s v) _ ?_ ?_ _ _ ⟨rfl, rfl, h4⟩
  · rintro v rest r s' ⟨hr, rfl, all⟩
    refine wpAny_bind (all v List.mem_cons_self _ _ _ ?_)
    simp only [Bool.false_eq_true, if_false]
    exact wpAny_pure ⟨rfl, rfl, fun u m => all u (List.mem_cons_of_mem _ m)⟩
  · rintro ⟨r1, r2⟩ s' ⟨hr, rfl, _⟩
    simp only at hr
    subst hr
    exact wpAny_pure q
theorem ByV.tuple {n : Nat} {s : Shared} {b : Addr} {o : Obj} {vs : Array Value} {m : Nat} (h1 : s.heap.get? b = some o) (h2 : o.cls = .type "tuple") (h3 : o.data = .seq vs m) (h4 : ∀ v ∈ vs.toList, ByV P w n s v) : ByV P w (n + 1) s (.ref b) := by
  intro A E Q q
  have hT : s.TypeIs (.ref b) "tuple" := ⟨o, h1, h2⟩
  unfold hashByValue
  refine wpAny_bind (wpAny_specialOf hT F.slot_tuple_hash.lookup ?_)
  show wpAny (model P w) A (seqItems? (.ref b) >>= _) _ _ s
  refine wpAny_bind (wpAny_seqItems h1 h3 ?_)
  refine wpAny_bind ?_
  show wpAny (model P w) A (forIn vs _ _) _ _ s
  rw [← Array.forIn_toList]
  refine wpAny_forIn_list _ (fun rest r s' => s' = s ∧ ∀ v ∈ rest, ByV P w n s v) _ ?_ ?_ _ _ ⟨rfl, h4⟩
  · rintro v rest r s' ⟨rfl, all⟩
    refine wpAny_bind (all v List.mem_cons_self _ _ _ fun c => ?_)
    cases c
    · simp only [Bool.not_false, if_true]
      exact wpAny_pure (wpAny_pure (q false))
    · simp only [Bool.not_true, Bool.false_eq_true, if_false]
      exact wpAny_pure ⟨rfl, fun u m => all u (List.mem_cons_of_mem _ m)⟩
  · rintro ⟨r1, r2⟩ s' ⟨rfl, _⟩
    cases r1 <;> exact wpAny_pure (q _)
mutual
theorem noCls_key : ∀ (k : NestedKey) (v : Value) (n : Nat) (s : Shared), NestedIs s.heap k v → k.depth ≤ n → NoCls P w n s v
  | .none, _, n, s, x, _ => by cases x; intro A E Q q; cases n <;> exact wpAny_pure q
  | .num i, _, n, s, x, _ => by cases x <;> (intro A E Q q; cases n <;> exact wpAny_pure q)
  | .text y, _, n, s, x, _ => by cases x; intro A E Q q; cases n <;> exact wpAny_pure q
  | .tup ks, _, n, s, x, hn => by
    cases x with
    | tup h1 h2 h3 h4 =>
      simp only [NestedKey.depth] at hn
      cases n with
      | zero => omega
      | succ n => exact .tuple h1 h2 h3 (noCls_keys ks _ n s h4 (by omega))
theorem noCls_keys : ∀ (ks : List NestedKey) (vs : List Value) (n : Nat) (s : Shared), NestedAll s.heap ks vs → NestedKey.depthAll ks ≤ n → ∀ v ∈ vs, NoCls P w n s v
  | [], _, n, s, x, _, v, hv => by cases x; cases hv
  | k :: ks, _, n, s, x, hn, v, hv => by
    cases x with
    | cons x1 x2 =>
      simp only [NestedKey.depthAll] at hn
      rcases List.mem_cons.mp hv with e | e
      · rw [e]; exact noCls_key k _ n s x1 (by omega)
      · exact noCls_keys ks _ n s x2 (by omega) v e
end
mutual
theorem byV_key : ∀ (k : NestedKey) (v : Value) (n : Nat) (s : Shared), NestedIs s.heap k v → k.depth ≤ n → ByV P w n s v
  | .none, _, n, s, x, _ => by cases x; intro A E Q q; cases n <;> exact wpAny_pure (q _)
  | .num i, _, n, s, x, _ => by cases x <;> (intro A E Q q; cases n <;> exact wpAny_pure (q _))
  | .text y, _, n, s, x, _ => by cases x; intro A E Q q; cases n <;> exact wpAny_pure (q _)
  | .tup ks, _, n, s, x, hn => by
    cases x with
    | tup h1 h2 h3 h4 =>
      simp only [NestedKey.depth] at hn
      cases n with
      | zero => omega
      | succ n => exact .tuple h1 h2 h3 (byV_keys ks _ n s h4 (by omega))
theorem byV_keys : ∀ (ks : List NestedKey) (vs : List Value) (n : Nat) (s : Shared), NestedAll s.heap ks vs → NestedKey.depthAll ks ≤ n → ∀ v ∈ vs, ByV P w n s v
  | [], _, n, s, x, _, v, hv => by cases x; cases hv
  | k :: ks, _, n, s, x, hn, v, hv => by
    cases x with
    | cons x1 x2 =>
      simp only [NestedKey.depthAll] at hn
      rcases List.mem_cons.mp hv with e | e
      · rw [e]; exact byV_key k _ n s x1 (by omega)
      · exact byV_keys ks _ n s x2 (by omega) v e
end
/-- the tuple at b is the key k -/
abbrev IsK (P : Program) (w : World) (h : Heap) (k : NestedKey) (b : Addr) : Prop := (nestedKind P w).is h k b
variable {A : Around} {E : Value → Shared → Prop} {s : Shared}
theorem IsK.typeT {h : Heap} {k : NestedKey} {b : Addr} (x : IsK P w h k b) : ∃ ks, k = .tup ks := by
  obtain ⟨x, _⟩ := x
  cases x
  exact ⟨_, rfl⟩
theorem IsK.keep {h h' : Heap} {k : NestedKey} {b : Addr} (x : IsK P w h k b) (hk : ∀ c u vs n, h.get? c = some u → u.data = .seq vs n → h'.get? c = some u) : IsK P w h' k b := nestedKind_stays.stays hk x
/-- a search among tuples shows nothing -/
theorem unseen {k : NestedKey} {b : Addr} {Q : Bool → Shared → Prop} (hk : IsK P w s.heap k b) {ys : List Value} (hy : ∀ y ∈ ys, ∃ k' c, y = Value.ref c ∧ IsK P w s.heap k' c) (q : Q false s) :
    wpAny (model P w) A (searchCouldBeSeen (.ref b) ys) Q E s := by
  unfold searchCouldBeSeen
  refine wpAny_bind ?_
  refine wpAny_forIn_list _ (fun rest r s' => r.1 = none ∧ s' = s ∧ ∀ y ∈ rest, ∃ k' c, y = Value.ref c ∧ IsK P w s.heap k' c) _ ?_ ?_ _ _ ⟨rfl, rfl, hy⟩
  · rintro v rest r s' ⟨hr, rfl, all⟩
    obtain ⟨k', c, rfl, hc⟩ := all v List.mem_cons_self
    have left : ∀ y ∈ rest, ∃ k' c, y = Value.ref c ∧ IsK P w s'.heap k' c := fun u m => all u (List.mem_cons_of_mem _ m)
    dsimp only
    by_cases hv : (b == c || (carriedByValue (.ref b) && carriedByValue (.ref c))) = true
    · exact wp_if_pos hv (wpAny_pure ⟨rfl, rfl, left⟩)
    · refine wp_if_neg hv ?_
      refine wpAny_bind ((nestedKind P w).quiet hk ?_)
      simp only [Bool.not_true, Bool.false_eq_true, if_false]
      refine wpAny_bind ((nestedKind P w).quiet hc ?_)
      simp only [Bool.not_true, Bool.false_eq_true, if_false]
      refine wpAny_bind (noCls_key k _ 8 _ hk.1 hk.2 _ _ _ ?_)
      simp only [Bool.false_eq_true, if_false]
      refine wpAny_bind (noCls_key k' _ 8 _ hc.1 hc.2 _ _ _ ?_)
      simp only [Bool.false_eq_true, if_false]
      exact wpAny_pure ⟨rfl, rfl, left⟩
  · rintro ⟨r1, r2⟩ s' ⟨hr, rfl, _⟩
    simp only at hr
    subst hr
    exact wpAny_pure q
end
end PH

set_option Elab.async false
set_option linter.all false
set_option maxRecDepth 100000
set_option maxHeartbeats 4000000
/-! P12: the table of a set of tuples: searching, adding; set(xs) of tuples. -/
namespace PH
open PySem PySem.Spec PyProof.Rows L2
open PySem.W (Datum DatumOrd Tup)

/-- a set at a of the tuples L: each its key, its address -/
structure TupSet (P : Program) (w : World) {ι : Type} (ky : ι → NestedKey) (ad : ι → Addr) (h : Heap) (a : Addr) (L : List ι) (o : Obj) (es : Array (Int × Value)) (ep : Nat) (t : SetTable) : Prop where
  ob : h.get? a = some o
  ex : o.ExactSet
  dat : o.data = .set es ep t
  rows : es.toList = L.map fun p => ((ky p).hash w, Value.ref (ad p))
  tab : TabOk t (L.map fun p => (ky p).hash w)
  nd : (L.map ky).Nodup
  tup : ∀ p ∈ L, IsK P w h (ky p) (ad p)
  led : w.params.followText "set-order" = true ∨ t.led = true
  room : L.length * 5 < t.mask * 3
  few : L.length < 64
section
variable {P : Program} {w : World} {A : Around} {E : Value → Shared → Prop} {s : Shared} {ι : Type} {ky : ι → NestedKey} {ad : ι → Addr} {a : Addr} {L : List ι} {o : Obj} {es : Array (Int × Value)} {ep : Nat} {t : SetTable}
theorem TupSet.size {h : Heap} (R : TupSet P w ky ad h a L o es ep t) : es.size = L.length := by
  have z := congrArg List.length R.rows
  rw [Array.length_toList, List.length_map] at z
  exact z
theorem fits_of {t : SetTable} {n : Nat} (h1 : t.place.size = n) (h2 : t.dummies = #[]) (h3 : n ≤ t.mask) : t.fits n = true := by
  unfold SetTable.fits SetTable.fill
  rw [h2, Bool.and_eq_true, beq_iff_eq, decide_eq_true_eq]
  show t.place.size = n ∧ t.place.size + 0 ≤ t.mask
  omega
theorem TupSet.fits {h : Heap} (R : TupSet P w ky ad h a L o es ep t) : t.fits es.size = true := by
  have z := R.tab.sz
  rw [List.length_map] at z
  have := R.room
  have := R.size
  exact fits_of (by omega) R.tab.dm (by omega)
theorem TupSet.has {h : Heap} (R : TupSet P w ky ad h a L o es ep t) : SetHas w h a (L.map fun p => Value.ref (ad p)) :=
  ⟨o, es, ep, t, R.ob, R.ex, R.dat, by rw [R.rows, List.map_map]; rfl, R.fits, by have := R.size; have := R.few; unfold scanBound; omega, R.tab.ris, R.led⟩
theorem TupSet.keep {h h' : Heap} (R : TupSet P w ky ad h a L o es ep t) (k : ∀ u, h.get? a = some u → h'.get? a = some u) (kt : ∀ p ∈ L, IsK P w h' (ky p) (ad p)) : TupSet P w ky ad h' a L o es ep t := { R with ob := k _ R.ob, tup := kt }
theorem TupSet.entry {h : Heap} (R : TupSet P w ky ad h a L o es ep t) {i : Nat} {p : ι} (e : L[i]? = some p) : es[i]? = some ((ky p).hash w, Value.ref (ad p)) := by
  rw [← Array.getElem?_toList, R.rows, List.getElem?_map, e]
  rfl
theorem TupSet.gw {h : Heap} (R : TupSet P w ky ad h a L o es ep t) : ¬ t.gaveWay = true := by
  unfold SetTable.gaveWay
  rw [mask_odd R.tab.mok]
  decide
/-- the search, from the c-th step of its way on -/
theorem tup_search (R : TupSet P w ky ad s.heap a L o es ep t) {x : Addr} {k : NestedKey} (hx : IsK P w s.heap k x) (hu : A.units + 8 < cLine) {K : Nat} (hf1 : K < 10 * SetTable.turns t.mask)
    (hK : way t.mask (k.hash w) K ∉ t.place.toList) (hB : ∀ c, c < K → way t.mask (k.hash w) c ∈ t.place.toList) {Q : SetFound → Shared → Prop}
    (yes : k ∈ L.map ky → Q (.there none) s) (no : k ∉ L.map ky → Q (.free (way t.mask (k.hash w) K) false) s) :
    ∀ (f c : Nat) (st : Option SetTable.Probe), st.getD (t.probeStart (k.hash w)) = nth t.mask (runAt t.mask (SetTable.bits (k.hash w) % (t.mask + 1)) (SetTable.bits (k.hash w))) c → c ≤ K → K - c < f →
      (∀ (i : Nat) (p : ι), L[i]? = some p → ky p = k → ∃ c', c ≤ c' ∧ c' < K ∧ t.place.toList[i]? = some (way t.mask (k.hash w) c')) →
      wpAny (model P w) A (setSearchFrom a (.ref x) (k.hash w) true f st) Q E s
  | 0, c, st, _, _, z, _ => absurd z (Nat.not_lt_zero _)
  | f + 1, c, st, hst, hc, hf, hre => by
    rw [setSearchFrom_succ]
    refine wpAny_bind (wpAny_setState_of R.ob R.dat R.fits ?_)
    dsimp only
    refine wp_if_neg R.gw ?_
    try refine wpAny_bind (wpAny_pure ?_)
    generalize hp0 : runAt t.mask (SetTable.bits (k.hash w) % (t.mask + 1)) (SetTable.bits (k.hash w)) = p0 at hst
    have wayE : ∀ q, (nth t.mask p0 q).j = way t.mask (k.hash w) q := fun q => by rw [← hp0]
    have nod : ∀ n (p : SetTable.Probe), p.dummy = none → (nth t.mask p n).dummy = none := by
      intro n
      induction n with
      | zero => exact fun p h => h
      | succ n ih =>
        intro p h
        refine ih (adv t.mask p) ?_
        unfold adv
        split <;> exact h
    have e1 : ∀ q, (nth t.mask (nth t.mask p0 c) q).j = way t.mask (k.hash w) (c + q) := fun q => by rw [← nth_add, wayE]
    have hKc : c + (K - c) = K := by omega
    have spec := go_spec t R.tab.ris R.tab.dm (fun i => (es[i]?.map (·.1)).getD 0) (k.hash w) (10 * SetTable.turns t.mask) (K - c) (nth t.mask p0 c) (nod c _ (by rw [← hp0]; rfl)) (by omega)
      (fun q hq => by rw [e1]; exact hB (c + q) (by omega)) (by rw [e1, hKc]; exact hK)
    have hash : ∀ (i : Nat) (p : ι), L[i]? = some p → (fun i => (es[i]?.map (·.1)).getD 0) i = (ky p).hash w := fun i p hp => by
      show (es[i]?.map (·.1)).getD 0 = _
      rw [R.entry hp]
      rfl
    rcases spec with ⟨q, i, hq, hi, hh, hno, hpr⟩ | ⟨hno, hpr⟩
    · -- one of this hash
      have hpr1 : t.probe (fun i => (es[i]?.map (·.1)).getD 0) (k.hash w) (st.getD (t.probeStart (k.hash w))) = some (.candidate (way t.mask (k.hash w) (c + q)) i (nth t.mask p0 (c + (q + 1)))) := by
        rw [hst, ← e1, nth_add t.mask c]
        exact hpr
      rw [hpr1]
      dsimp only
      rw [e1] at hi
      have hil : i < L.length := by
        have z1 : i < t.place.toList.length := (List.getElem?_eq_some_iff.mp hi).1
        have z2 := R.tab.sz
        rw [List.length_map] at z2
        rw [Array.length_toList] at z1
        omega
      obtain ⟨p, hp⟩ : ∃ p, L[i]? = some p := ⟨_, List.getElem?_eq_getElem hil⟩
      have hm : p ∈ L := List.mem_of_getElem? hp
      have rest : wpAny (model P w) A (searchRest a (.ref x) (k.hash w) true f es t (way t.mask (k.hash w) (c + q)) i (nth t.mask p0 (c + (q + 1)))) Q E s := by
        unfold searchRest
        rw [R.entry hp]
        dsimp only
        refine wpAny_bind (wpAny_holding ((nestedKind P w).eqBool hu (R.tup p hm) hx ?_))
        refine wpAny_bind (wpAny_setState_of R.ob R.dat R.fits ?_)
        dsimp only
        by_cases hkk : ky p = k
        · refine wp_if_pos (by simp [hkk]) (wpAny_pure (yes ?_))
          exact List.mem_map.mpr ⟨p, hm, hkk⟩
        · refine wp_if_neg (by simp [hkk]) ?_
          try refine wpAny_bind (wpAny_pure ?_)
          rw [sameMem]
          dsimp only
          have hsl : t.slot (way t.mask (k.hash w) (c + q)) = .live i := slot_live R.tab.ris hi
          simp only [if_true, hsl, R.entry hp]
          refine wpAny_bind (wpAny_isSame_ref_self (wpAny_bind (wpAny_pure ?_)))
          simp only [if_true]
          refine wp_if_neg (by simp [hkk]) ?_
          refine tup_search R hx hu hf1 hK hB yes no f (c + (q + 1)) _ (by rw [hp0]; rfl) (by omega) (by omega) fun i1 p1 h1 k1 => ?_
          obtain ⟨c', a1, a2, a3⟩ := hre i1 p1 h1 k1
          refine ⟨c', ?_, a2, a3⟩
          rcases Nat.lt_trichotomy c' (c + q) with z | z | z
          · exfalso
            have ec : c + (c' - c) = c' := by omega
            refine hno (c' - c) i1 (by omega) (by rw [e1, ec]; exact a3) ?_
            exact (hash i1 p1 h1).trans (by rw [k1])
          · exfalso
            rw [z] at a3
            have s1 := slot_live R.tab.ris a3
            rw [hsl] at s1
            injection s1 with s1
            rw [← s1, hp] at h1
            cases h1
            exact hkk k1
          · omega
      by_cases hl : t.led = true
      · refine wp_if_neg (by simp [hl]) ?_
        try refine wpAny_bind (wpAny_pure ?_)
        exact rest
      · refine wp_if_pos (by simp [hl]) ?_
        refine wpAny_bind (unseen hx (fun y hy => ?_) ?_)
        · obtain ⟨e, he, ee⟩ := List.mem_map.mp hy
          have he1 : e ∈ es ∧ e.1 = k.hash w := by simpa using he
          have he2 : e ∈ es.toList := by simpa using he1.1
          rw [R.rows] at he2
          obtain ⟨p2, hp2, e2⟩ := List.mem_map.mp he2
          exact ⟨ky p2, ad p2, by rw [← ee, ← e2], R.tup p2 hp2⟩
        · refine wp_if_neg (by decide) ?_
          try refine wpAny_bind (wpAny_pure ?_)
          exact rest
    · -- a free place
      have hpr1 : t.probe (fun i => (es[i]?.map (·.1)).getD 0) (k.hash w) (st.getD (t.probeStart (k.hash w))) = some (.empty (way t.mask (k.hash w) K) none) := by
        have e2 : way t.mask (k.hash w) K = (nth t.mask (nth t.mask p0 c) (K - c)).j := by rw [e1, hKc]
        rw [hst, e2]
        exact hpr
      rw [hpr1]
      dsimp only
      refine wpAny_pure (no fun hm => ?_)
      obtain ⟨p1, h1, k1⟩ := List.mem_map.mp hm
      obtain ⟨i1, hi1, e2⟩ := List.getElem_of_mem h1
      have h2 : L[i1]? = some p1 := by rw [List.getElem?_eq_getElem hi1, e2]
      obtain ⟨c', a1, a2, a3⟩ := hre i1 p1 h2 k1
      have ec : c + (c' - c) = c' := by omega
      refine hno (c' - c) i1 (by omega) (by rw [e1, ec]; exact a3) ?_
      exact (hash i1 p1 h2).trans (by rw [k1])
theorem tup_find (R : TupSet P w ky ad s.heap a L o es ep t) {x : Addr} {k : NestedKey} (hx : IsK P w s.heap k x) (hu : A.units + 8 < cLine) {Q : SetFound → Shared → Prop} (yes : k ∈ L.map ky → Q (.there none) s)
    (no : ∀ K, k ∉ L.map ky → way t.mask (k.hash w) K ∉ t.place.toList → (∀ c, c < K → way t.mask (k.hash w) c ∈ t.place.toList) → Q (.free (way t.mask (k.hash w) K) false) s) :
    wpAny (model P w) A (setSearch a (.ref x) (k.hash w) true) Q E s := by
  have hroom := R.room
  obtain ⟨K, hf, hK, hB⟩ := R.tab.first (by rw [List.length_map]; omega) (k.hash w)
  have big : K < 100000 := by
    have : 10 * SetTable.turns t.mask ≤ 1420 := by
      unfold SetTable.turns
      rcases R.tab.mok with e | e | e <;> omega
    omega
  unfold setSearch
  refine tup_search R hx hu hf hK hB yes (fun z => no K z hK hB) 100000 0 none rfl (Nat.zero_le _) (by omega) fun i p hp hk => ?_
  have hi : (L.map fun p => (ky p).hash w)[i]? = some (k.hash w) := by rw [List.getElem?_map, hp, ← hk]; rfl
  have hil : i < t.place.toList.length := by
    have z1 : i < L.length := (List.getElem?_eq_some_iff.mp hp).1
    have z2 := R.tab.sz
    rw [List.length_map] at z2
    rw [Array.length_toList]
    omega
  have hj := List.getElem?_eq_getElem hil
  obtain ⟨c, hc, e⟩ := R.tab.before hK hi hj
  exact ⟨c, Nat.zero_le _, hc, by rw [hj, e]⟩
end
end PH

set_option Elab.async false
set_option linter.all false
set_option maxRecDepth 100000
set_option maxHeartbeats 4000000
/-! P13: a tuple added to a set; set(xs) of tuples. -/
namespace PH
open PySem PySem.Spec PyProof.Rows L2
open PySem.W (Datum DatumOrd Tup)

section
variable {P : Program} {w : World} {A : Around} {E : Value → Shared → Prop} {s : Shared} {ι : Type} {ky : ι → NestedKey} {ad : ι → Addr} {a : Addr} {L : List ι} {o : Obj} {es : Array (Int × Value)} {ep : Nat} {t : SetTable}
/-- a set's own change leaves the tuples -/
theorem IsK.but {h h' : Heap} {k : NestedKey} {b : Addr} (x : IsK P w h k b) (ho : h.get? a = some o) (hd : o.data = .set es ep t) (hs : Heap.SameBut a h h') : IsK P w h' k b :=
  x.keep fun c u vs n hc hq => by
    refine (hs.2 c fun e => ?_).trans hc
    subst e
    rw [ho] at hc
    cases hc
    rw [hd] at hq
    cases hq
/-- rows taken in another order -/
theorem rows_order (L : List ι) (es : Array (Int × Value)) (order : Array Nat) (hr : es.toList = L.map fun p => ((ky p).hash w, Value.ref (ad p))) (hp : order.toList.Perm (List.range L.length)) :
    ∃ L2 : List ι, (order.filterMap (es[·]?)).toList = (L2.map fun p => ((ky p).hash w, Value.ref (ad p))) ∧ L2.Perm L ∧ (L2.map fun p => (ky p).hash w) = order.toList.map fun i => (es.map (·.1)).getD i 0 := by
  have hsz : es.size = L.length := by
    have z := congrArg List.length hr
    rw [Array.length_toList, List.length_map] at z
    exact z
  have e0 : (order.filterMap (es[·]?)).toList = order.toList.filterMap (fun i => es[i]?) := by first | (rw [Array.toList_filterMap]) | simp
  have pm : (order.toList.filterMap (fun i => es[i]?)).Perm es.toList := by
    have z := hp.filterMap (fun i => es[i]?)
    rw [← hsz, filterMap_getElem?_range] at z
    exact z
  obtain ⟨L2, g1, g2⟩ := lift_perm pm L hr
  refine ⟨L2, e0.trans g1, g2, ?_⟩
  have key : ∀ l : List Nat, (∀ i ∈ l, i < es.size) → (l.filterMap fun i => es[i]?).map (·.1) = l.map fun i => (es.map (·.1)).getD i 0 := by
    intro l
    induction l with
    | nil => intro _; rfl
    | cons i l ih =>
      intro hl
      have hi := hl i List.mem_cons_self
      rw [List.filterMap_cons_some (Array.getElem?_eq_getElem hi), List.map_cons, List.map_cons, ih fun j hj => hl j (List.mem_cons_of_mem _ hj)]
      simp [Array.getD_eq_getD_getElem?, Array.getElem?_map, Array.getElem?_eq_getElem hi]
  rw [← key _ fun i hi => by rw [hsz]; exact List.mem_range.mp (hp.mem_iff.mp hi), g1, List.map_map]
  rfl
/-- the table laid anew, larger -/
theorem tup_relay (ho : s.heap.get? a = some o) (hex : o.ExactSet) (hd : o.data = .set es ep t) (hr : es.toList = L.map fun p => ((ky p).hash w, Value.ref (ad p))) (hs : t.place.size = es.size) (hdm : t.dummies = #[]) (hfl : es.size ≤ t.mask)
    (nd : (L.map ky).Nodup) (tup : ∀ p ∈ L, IsK P w s.heap (ky p) (ad p)) (ld : w.params.followText "set-order" = true ∨ t.led = true) (few : L.length < 64) {wanted M : Nat}
    (hw : SetTable.sizeAbove wanted - 1 = M) (hM : MaskOk M) (hw2 : SetTable.sizeAbove wanted ≤ 128) (hn : L.length * 5 < M * 3) {Q : Unit → Shared → Prop}
    (hQ : ∀ h' L' o' es' ep' t', Heap.SameBut a s.heap h' → TupSet P w ky ad h' a L' o' es' ep' t' → L'.Perm L → Q () { s with heap := h' }) : wpAny (model P w) A (setRelay a wanted) Q E s := by
  have hsl : es.size = L.length := by
    have z := congrArg List.length hr
    rw [Array.length_toList, List.length_map] at z
    exact z
  obtain ⟨t', order, e, hp, T, em, el, _, ed⟩ := relaid_ok t (hs := es.map (·.1)) (wanted := wanted) hw hM (by rw [Array.size_map, hsl]; omega)
  rw [Array.size_map, hsl] at hp
  obtain ⟨L2, r1, r2, r3⟩ := rows_order L es order hr hp
  rw [← r3] at T
  have hs2 : (order.filterMap (es[·]?)).size = es.size := by
    have z := congrArg List.length r1
    rw [Array.length_toList, List.length_map, r2.length_eq] at z
    rw [z, hsl]
  rw [setRelay_eq]
  refine wpAny_bind (wpAny_setState_of ho hd (fits_of hs hdm hfl) ?_)
  dsimp only
  refine wp_if_neg (by rw [sizeLine_eq]; omega) ?_
  try refine wpAny_bind (wpAny_pure ?_)
  rw [e]
  dsimp only
  refine wpAny_bind (wp_if_neg (by rw [hs2]; simp) ?_)
  try refine wpAny_bind (wpAny_pure ?_)
  refine wpAny_pure ?_
  dsimp only
  refine wpAny_storeSet_of ho hd ?_ (by rw [hs2, hsl, sizeLine_eq]; omega)
  have sb : Heap.SameBut a s.heap (s.heap.update a (Obj.putSet (order.filterMap (es[·]?)) t')) := Heap.SameBut.update ..
  exact hQ _ L2 { o with data := .set (order.filterMap (es[·]?)) (ep + 1) t' } (order.filterMap (es[·]?)) (ep + 1) t' sb ⟨store_at ho hd, ⟨hex.1, hex.2.1, hex.2.2⟩, rfl, r1, T, (r2.map ky).nodup_iff.mpr nd, fun p hpm => (tup p (r2.mem_iff.mp hpm)).but ho hd sb, by rw [el]; exact ld, by rw [r2.length_eq, em]; exact hn, by rw [r2.length_eq]; exact few⟩ r2
/-- adding -/
theorem tup_add {x : ι} (R : TupSet P w ky ad s.heap a L o es ep t) (hx : IsK P w s.heap (ky x) (ad x)) (hu : A.units + 8 < cLine) (hfew : ky x ∉ L.map ky → L.length + 1 < 64) {Q : Bool → Shared → Prop}
    (hQ : ∀ b h' L' o' es' ep' t', Heap.SameBut a s.heap h' → TupSet P w ky ad h' a L' o' es' ep' t' → (ky x ∈ L.map ky → L' = L) → (ky x ∉ L.map ky → L'.Perm (x :: L)) → Q b { s with heap := h' }) :
    wpAny (model P w) A (setAddHashed a (.ref (ad x)) ((ky x).hash w)) Q E s := by
  have hsl := R.size
  have hroom := R.room
  have ho := R.ob
  have hd := R.dat
  unfold setAddHashed
  refine wpAny_holding ?_
  rw [show (100000 : Nat) = 99999 + 1 from rfl, setAddHashedIn_succ]
  refine wpAny_bind (wpAny_setState_of ho hd R.fits ?_)
  dsimp only
  refine wp_if_neg (by simp [byScan, Value.scannable]) ?_
  try refine wpAny_bind (wpAny_pure ?_)
  refine wpAny_bind (tup_find R hx hu (fun hm => ?_) fun K hm hK hb => ?_)
  · dsimp only
    exact wpAny_pure (hQ false s.heap L o es ep t (Heap.SameBut.refl a s.heap) R (fun _ => rfl) fun z => absurd hm z)
  · dsimp only
    refine wpAny_bind (wpAny_setState_of ho hd R.fits ?_)
    dsimp only
    obtain ⟨q1, q2, q3, q4, q5, q6, q7, q8, q9⟩ := R.tab.put hK hb
    generalize hpt : t.put (way t.mask ((ky x).hash w) K) = pt at q1 q3 q4 q5 q6 q7 q8 q9 ⊢
    obtain ⟨t1, p⟩ := pt
    dsimp only at q1 q3 q4 q5 q6 q7 q8 q9 ⊢
    subst q1
    have hin : (SetTable.insertAt es (SetTable.below t.place (way t.mask ((ky x).hash w) K)) ((ky x).hash w, Value.ref (ad x))).toList =
        (L.take (SetTable.below t.place (way t.mask ((ky x).hash w) K)) ++ x :: L.drop (SetTable.below t.place (way t.mask ((ky x).hash w) K))).map fun p => ((ky p).hash w, Value.ref (ad p)) := by
      rw [SetTable.toList_insertAt, R.rows, List.map_append, List.map_cons, List.map_take, List.map_drop]
    generalize hpp : SetTable.below t.place (way t.mask ((ky x).hash w) K) = p at q2 q3 hin ⊢
    have pm := put_perm L p x
    have hlen : (L.take p ++ x :: L.drop p).length = L.length + 1 := pm.length_eq
    have hhs : (L.take p ++ x :: L.drop p).map (fun p => (ky p).hash w) = (L.map fun p => (ky p).hash w).take p ++ (ky x).hash w :: (L.map fun p => (ky p).hash w).drop p := by
      rw [List.map_append, List.map_cons, List.map_take, List.map_drop]
    rw [← hhs] at q3
    have nd1 : ((L.take p ++ x :: L.drop p).map ky).Nodup := by
      refine (pm.map ky).nodup_iff.mpr ?_
      rw [List.map_cons]
      exact List.nodup_cons.mpr ⟨hm, R.nd⟩
    have hf64 := hfew hm
    have hes : (SetTable.insertAt es p ((ky x).hash w, Value.ref (ad x))).size = L.length + 1 := by
      have z := congrArg List.length hin
      rw [Array.length_toList, List.length_map, hlen] at z
      exact z
    generalize SetTable.insertAt es p ((ky x).hash w, Value.ref (ad x)) = es1 at hin hes ⊢
    generalize L.take p ++ x :: L.drop p = L1 at pm hlen q3 nd1 hin
    -- the end, whether the table stays plain or not
    have fin : ∀ t2 : SetTable, t2.place = t1.place → t2.dummies = t1.dummies → t2.mask = t1.mask → t2.led = t1.led → TabOk t2 (L1.map fun p => (ky p).hash w) → t2.fill = t1.fill →
        wpAny (model P w) A (do storeSet a es1 t2; if (!false && t2.tooFull) = true then do setRelay a (SetTable.grown (es.size + 1)); pure true else pure true) Q E s := by
      intro t2 b1 b2 b3 b4 T2 b5
      refine wpAny_bind (wpAny_storeSet_of ho hd ?_ (by rw [hes, sizeLine_eq]; omega))
      have sb : Heap.SameBut a s.heap (s.heap.update a (Obj.putSet es1 t2)) := Heap.SameBut.update ..
      have ho1 := store_at (es' := es1) (t' := t2) ho hd
      generalize s.heap.update a (Obj.putSet es1 t2) = h1 at sb ho1 ⊢
      have tup1 : ∀ p ∈ L1, IsK P w h1 (ky p) (ad p) := fun p hp => by
        rcases List.mem_cons.mp (pm.mem_iff.mp hp) with e | hp
        · rw [e]; exact hx.but ho hd sb
        · exact (R.tup p hp).but ho hd sb
      have ld1 : w.params.followText "set-order" = true ∨ t2.led = true := by rw [b4, q5]; exact R.led
      by_cases hf : t2.tooFull = true
      · refine wp_if_pos (by simp [hf]) (wpAny_bind ?_)
        have hfull : (L.length + 1) * 5 ≥ t1.mask * 3 := by
          have z := hf
          unfold SetTable.tooFull at z
          rw [decide_eq_true_eq, b5, q9, List.length_map, b3] at z
          exact z
        rw [hsl]
        have two : (t.mask = 7 ∧ L.length = 4) ∨ (t.mask = 31 ∧ L.length = 18) := by
          rcases R.tab.mok with e | e | e
          · left; rw [q4, e] at hfull; rw [e] at hroom; exact ⟨e, by omega⟩
          · right; rw [q4, e] at hfull; rw [e] at hroom; exact ⟨e, by omega⟩
          · exfalso; rw [q4, e] at hfull; omega
        have go : ∀ M, SetTable.sizeAbove (SetTable.grown (L.length + 1)) - 1 = M → MaskOk M → SetTable.sizeAbove (SetTable.grown (L.length + 1)) ≤ 128 → (L.length + 1) * 5 < M * 3 →
            wpAny (model P w) A (setRelay a (SetTable.grown (L.length + 1))) (fun _ s' => wpAny (model P w) A (pure true) Q E s') E { s with heap := h1 } := fun M g1 g2 g3 g4 => by
          refine tup_relay (s := { s with heap := h1 }) ho1 ⟨R.ex.1, R.ex.2.1, R.ex.2.2⟩ rfl hin (by have z := T2.sz; rw [List.length_map, hlen] at z; rw [z, hes]) T2.dm (by rw [hes, b3, q4]; rcases two with ⟨e, e2⟩ | ⟨e, e2⟩ <;> omega) nd1 tup1 ld1 (by rw [hlen]; exact hf64) g1 g2 g3 (by rw [hlen]; exact g4) ?_
          intro h2 L2 o2 es2 ep2 t3 sb2 R2 pm2
          exact wpAny_pure (hQ true h2 L2 o2 es2 ep2 t3 (sb.trans sb2) R2 (fun z => absurd z hm) fun _ => pm2.trans pm)
        rcases two with ⟨_, e2⟩ | ⟨_, e2⟩
        · exact go 31 (by rw [e2, size_20]) (.inr (.inl rfl)) (by rw [e2, size_20]; decide) (by omega)
        · exact go 127 (by rw [e2, size_76]) (.inr (.inr rfl)) (by rw [e2, size_76]; decide) (by omega)
      · refine wp_if_neg (by simp [hf]) ?_
        refine wpAny_pure (hQ true h1 L1 _ es1 (ep + 1) t2 sb ⟨ho1, ⟨R.ex.1, R.ex.2.1, R.ex.2.2⟩, rfl, hin, T2, nd1, tup1, ld1, ?_, by rw [hlen]; exact hf64⟩ (fun z => absurd z hm) fun _ => pm)
        have z := hf
        unfold SetTable.tooFull at z
        rw [decide_eq_true_eq, b5, q9, List.length_map] at z
        rw [hlen]
        omega
    have off : TabOk { t1 with plain := false } (L1.map fun p => (ky p).hash w) := ⟨q3.ris, q3.dm, q3.sz, q3.mok, q3.bd, q3.reach⟩
    have end1 := fin t1 rfl rfl rfl rfl q3 rfl
    have end2 := fin { t1 with plain := false } rfl rfl rfl rfl off rfl
    have both : ∀ b : Bool, wpAny (model P w) A (do
        storeSet a es1 (if b = true then t1 else { t1 with plain := false })
        if (!false && (if b = true then t1 else { t1 with plain := false }).tooFull) = true then do setRelay a (SetTable.grown (es.size + 1)); pure true else pure true) Q E s := fun b => by
      cases b
      · exact end2
      · exact end1
    split
    · refine wpAny_bind (byV_key (ky x) _ 8 _ hx.1 hx.2 _ _ _ fun b => ?_)
      exact both b
    · refine wpAny_bind (wpAny_pure ?_)
      exact both true
end
end PH

set_option Elab.async false
set_option linter.all false
set_option maxRecDepth 100000
set_option maxHeartbeats 4000000
/-! P14: the order of typed data; keys by data; len(set(xs)), sorted(set(xs)). -/
namespace PH
open PySem PySem.Spec PyProof.Rows L2
open PySem.W (Datum DatumOrd Tup)

/-! ### the order of typed data -/
section
variable {α : Type} [DecidableEq α] [DatumOrd α]
theorem ord_irr (a : α) : DatumOrd.lt a a = false := by
  rw [← DatumOrd.lt_eq]; exact PySem.W.dataLt_self _
theorem ord_trans {a b c : α} (h1 : DatumOrd.lt a b = true) (h2 : DatumOrd.lt b c = true) : DatumOrd.lt a c = true := by
  rw [← DatumOrd.lt_eq] at h1 h2 ⊢
  exact PyProof.Rows.lex_trans _ _ _ h1 h2
theorem ord_neg {a b c : α} (h : DatumOrd.lt a c = true) : DatumOrd.lt a b = true ∨ DatumOrd.lt b c = true := by
  rw [← DatumOrd.lt_eq] at h
  rcases PyProof.Rows.lex_negTrans _ (PySem.W.keyToks (Datum.toD b)) _ h with z | z
  · left; rw [← DatumOrd.lt_eq]; exact z
  · right; rw [← DatumOrd.lt_eq]; exact z
theorem datum_inj {α : Type} [DecidableEq α] [Datum α] {a b : α} (h : Datum.toD a = Datum.toD b) : a = b := by
  have e := Datum.eqv a a
  rw [decide_eq_true (rfl : a = a)] at e
  have e2 := Datum.eqv a b
  rw [← h, e] at e2
  exact of_decide_eq_true e2.symm
theorem ord_tri {a b : α} (h1 : DatumOrd.lt a b = false) (h2 : DatumOrd.lt b a = false) : a = b := by
  rw [← DatumOrd.lt_eq] at h1 h2
  have e := PyProof.Rows.lex_total _ _ h1 h2
  cases c : PyData.eqv (Datum.toD a) (Datum.toD b) with
  | true => rw [Datum.eqv] at c; exact of_decide_eq_true c
  | false =>
    exfalso
    have z := (PySem.W.toks_eqv _ _ (DatumOrd.alike a b)).2 c [] [Sum.inl 1]
    rw [e, PySem.W.lex_pre, PyProof.Rows.lex_irrefl] at z
    cases z
theorem leT_total (a b : α) : (leT a b || leT b a) = true := by
  unfold leT
  cases c : DatumOrd.lt b a
  · rfl
  · cases d : DatumOrd.lt a b
    · rfl
    · have := ord_trans c d; rw [ord_irr] at this; cases this
theorem leT_trans (a b c : α) (h1 : leT a b = true) (h2 : leT b c = true) : leT a c = true := by
  unfold leT at *
  cases e : DatumOrd.lt c a
  · rfl
  · rcases ord_neg (b := b) e with z | z
    · rw [z] at h2; cases h2
    · rw [z] at h1; cases h1
theorem leT_anti {a b : α} (h1 : leT a b = true) (h2 : leT b a = true) : a = b := by
  unfold leT at *
  exact ord_tri (by simpa using h2) (by simpa using h1)
/-- sorted -/
def srt (l : List α) : List α := l.mergeSort leT
theorem srt_perm (l : List α) : (srt l).Perm l := List.mergeSort_perm l leT
theorem srt_le (l : List α) : (srt l).Pairwise (fun a b => leT a b = true) := List.pairwise_mergeSort leT_trans leT_total l
theorem srt_eq {l m : List α} (h : l.Perm m) : srt l = srt m :=
  List.Perm.eq_of_pairwise (le := fun a b => leT a b = true) (fun a b _ _ h1 h2 => leT_anti h1 h2) (srt_le l) (srt_le m) ((srt_perm l).trans (h.trans (srt_perm m).symm))
theorem srt_id {l : List α} (h : l.Pairwise (fun a b => leT a b = true)) : srt l = l :=
  List.Perm.eq_of_pairwise (le := fun a b => leT a b = true) (fun a b _ _ h1 h2 => leT_anti h1 h2) (srt_le l) h (srt_perm l)
theorem mem_srt {l : List α} {a : α} : a ∈ srt l ↔ a ∈ l := (srt_perm l).mem_iff
end
/-- each once -/
def uniq {α : Type} [DecidableEq α] : List α → List α
  | [] => []
  | x :: xs => if x ∈ xs then uniq xs else x :: uniq xs
section
variable {α : Type} [DecidableEq α]
theorem mem_uniq : ∀ {l : List α} {a : α}, a ∈ uniq l ↔ a ∈ l
  | [], a => Iff.rfl
  | x :: xs, a => by
    unfold uniq
    split
    · rename_i h
      rw [mem_uniq, List.mem_cons]
      exact ⟨.inr, fun z => z.elim (fun e => e ▸ h) id⟩
    · rw [List.mem_cons, List.mem_cons, mem_uniq]
theorem uniq_nodup : ∀ l : List α, (uniq l).Nodup
  | [] => List.nodup_nil
  | x :: xs => by
    unfold uniq
    split
    · exact uniq_nodup xs
    · rename_i h
      exact List.nodup_cons.mpr ⟨fun z => h (mem_uniq.1 z), uniq_nodup xs⟩
theorem uniq_perm {l m : List α} (h : l.Nodup) (e : ∀ a, a ∈ l ↔ a ∈ m) : l.Perm (uniq m) :=
  (List.perm_ext_iff_of_nodup h (uniq_nodup m)).mpr fun a => (e a).trans mem_uniq.symm
theorem uniq_id : ∀ {l : List α}, l.Nodup → uniq l = l
  | [], _ => rfl
  | x :: xs, h => by
    obtain ⟨h1, h2⟩ := List.nodup_cons.mp h
    unfold uniq
    rw [if_neg h1, uniq_id h2]
theorem uniq_len_le : ∀ l : List α, (uniq l).length ≤ l.length
  | [] => Nat.le_refl _
  | x :: xs => by
    unfold uniq
    have := uniq_len_le xs
    split
    · rw [List.length_cons]; omega
    · rw [List.length_cons, List.length_cons]; omega
theorem uniq_len_eq : ∀ {l : List α}, (uniq l).length = l.length → l.Nodup
  | [], _ => List.nodup_nil
  | x :: xs, h => by
    have z := uniq_len_le xs
    unfold uniq at h
    split at h
    · rw [List.length_cons] at h; omega
    · rename_i c
      rw [List.length_cons, List.length_cons] at h
      exact List.nodup_cons.mpr ⟨c, uniq_len_eq (by omega)⟩
theorem uniq_len {l : List α} : decide (((uniq l).length : Int) = l.length) = decide l.Nodup := by
  apply decide_eq_decide.mpr
  constructor
  · intro h; exact uniq_len_eq (by omega)
  · intro h; rw [uniq_id h]
end

/-! ### keys by data -/
mutual
def keyOfD : PyData → NestedKey
  | .int i => .num i
  | .str x => .text x
  | .tuple ds => .tup (keysOfD ds)
  | .none => .none
  | .bool _ => .none
  | .list _ => .none
  | .dict _ => .none
def keysOfD : List PyData → List NestedKey
  | [] => []
  | d :: ds => keyOfD d :: keysOfD ds
end
mutual
/-- ints, texts, None, tuples of these -/
def keyable : PyData → Bool
  | .int _ => true
  | .str _ => true
  | .tuple ds => keyables ds
  | .none => true
  | .bool _ => false
  | .list _ => false
  | .dict _ => false
def keyables : List PyData → Bool
  | [] => true
  | d :: ds => keyable d && keyables ds
end
mutual
theorem keyOfD_data : ∀ d : PyData, keyable d = true → (keyOfD d).data = d
  | .int i, _ => rfl
  | .str x, _ => rfl
  | .none, _ => rfl
  | .tuple ds, h => by
    rw [keyable] at h
    rw [keyOfD, NestedKey.data, keysOfD_data ds h]
  | .bool _, h => by rw [keyable] at h; cases h
  | .list _, h => by rw [keyable] at h; cases h
  | .dict _, h => by rw [keyable] at h; cases h
theorem keysOfD_data : ∀ ds : List PyData, keyables ds = true → NestedKey.datas (keysOfD ds) = ds
  | [], _ => rfl
  | d :: ds, h => by
    rw [keyables, Bool.and_eq_true] at h
    rw [keysOfD, NestedKey.datas, keyOfD_data d h.1, keysOfD_data ds h.2]
end
mutual
theorem keyOfD_depth : ∀ d : PyData, (keyOfD d).depth ≤ d.depth
  | .int i => Nat.zero_le _
  | .str x => Nat.zero_le _
  | .none => Nat.zero_le _
  | .tuple ds => by
    rw [keyOfD, NestedKey.depth, PyData.depth]
    exact Nat.succ_le_succ (keysOfD_depth ds)
  | .bool _ => Nat.zero_le _
  | .list _ => Nat.zero_le _
  | .dict _ => Nat.zero_le _
theorem keysOfD_depth : ∀ ds : List PyData, NestedKey.depthAll (keysOfD ds) ≤ PyData.depthAll ds
  | [] => Nat.zero_le _
  | d :: ds => by
    rw [keysOfD, NestedKey.depthAll, PyData.depthAll]
    have h1 := keyOfD_depth d
    have h2 := keysOfD_depth ds
    omega
end
mutual
/-- what stands for a key's data is the key -/
theorem Rep.nested {X : Cx} {pins : List (Addr × Obj)} {σ : L2.St} {H F : Hp} {s : Shared} (I : Inv X pins σ H s) (hF : Sub F H) : ∀ (d : PyData) (v : V) (u : Value), keyable d = true → Rep X.prog X.w X.K F v d → RelV v u → NestedIs s.heap (keyOfD d) u
  | .int i, v, u, _, r, q => by cases r; obtain ⟨t, rfl⟩ := q; exact .int i t
  | .str x, v, u, _, r, q => by cases r; obtain ⟨t, rfl⟩ := q; exact .text x t
  | .none, v, u, _, r, q => by cases r; cases q; exact .none
  | .tuple ds, v, u, h, r, q => by
    rw [keyable] at h
    cases r with
    | tup h1 h2 =>
      cases q
      obtain ⟨its, rv, ⟨o, ho, hc, n, hd⟩, _⟩ := I.tuple (SqT.of (hF _ _ h1))
      exact .tup ho hc hd (by simpa using RepL.nested I hF ds _ its h h2 rv)
  | .bool _, v, u, h, r, q => by rw [keyable] at h; cases h
  | .list _, v, u, h, r, q => by rw [keyable] at h; cases h
  | .dict _, v, u, h, r, q => by rw [keyable] at h; cases h
theorem RepL.nested {X : Cx} {pins : List (Addr × Obj)} {σ : L2.St} {H F : Hp} {s : Shared} (I : Inv X pins σ H s) (hF : Sub F H) : ∀ (ds : List PyData) (vs : List V) (us : List Value), keyables ds = true → RepL X.prog X.w X.K F vs ds → Vals vs us → NestedAll s.heap (keysOfD ds) us
  | [], _, _, _, r, q => by cases r; cases q; exact .nil
  | d :: ds, _, _, h, r, q => by
    rw [keyables, Bool.and_eq_true] at h
    cases r with
    | cons r1 r2 =>
      cases q with
      | cons q1 q2 => exact .cons (Rep.nested I hF d _ _ h.1 r1 q1) (RepL.nested I hF ds _ _ h.2 r2 q2)
end
/-- types whose values can be keys: tuples, or ints, or texts -/
class DKey (α : Type) [DecidableEq α] [Datum α] : Prop where
  ok : ∀ a : α, keyable (Datum.toD a) = true
  kind : (∀ a : α, ∃ ds, Datum.toD a = .tuple ds) ∨ (∀ a : α, (∃ i, Datum.toD a = .int i) ∨ ∃ x, Datum.toD a = .str x)
instance : DKey Int := ⟨fun _ => rfl, .inr fun a => .inl ⟨a, rfl⟩⟩
instance : DKey Str := ⟨fun _ => rfl, .inr fun a => .inr ⟨a, rfl⟩⟩
section
variable {α β γ : Type} [DecidableEq α] [Datum α] [DecidableEq β] [Datum β] [DecidableEq γ] [Datum γ] [DKey α] [DKey β] [DKey γ]
instance : DKey (α × β) := ⟨fun a => by
  show keyable (.tuple [Datum.toD a.1, Datum.toD a.2]) = true
  rw [keyable, keyables, keyables, keyables, DKey.ok, DKey.ok]; rfl, .inl fun a => ⟨_, rfl⟩⟩
instance : DKey (PySem.W.T3 α β γ) := ⟨fun a => by
  show keyable (.tuple [Datum.toD a.a, Datum.toD a.b, Datum.toD a.c]) = true
  rw [keyable, keyables, keyables, keyables, keyables, DKey.ok, DKey.ok, DKey.ok]; rfl, .inl fun a => ⟨_, rfl⟩⟩
theorem keyables_map : ∀ xs : List α, keyables (xs.map Datum.toD) = true
  | [] => rfl
  | x :: xs => by rw [List.map_cons, keyables, DKey.ok, keyables_map xs]; rfl
instance : DKey (Tup α) := ⟨fun a => by
  show keyable (.tuple (a.items.map Datum.toD)) = true
  rw [keyable, keyables_map], .inl fun a => ⟨_, rfl⟩⟩
/-- a's key -/
def keyT (a : α) : NestedKey := keyOfD (Datum.toD a)
theorem keyT_data (a : α) : (keyT a).data = Datum.toD a := keyOfD_data _ (DKey.ok a)
theorem keyT_inj {a b : α} (h : keyT a = keyT b) : a = b := datum_inj (by rw [← keyT_data a, ← keyT_data b, h])
theorem keyT_depth (a : α) : (keyT a).depth ≤ Datum.depth α := Nat.le_trans (keyOfD_depth _) (Datum.depth_le a)
end
end PH

set_option Elab.async false
set_option linter.all false
set_option maxRecDepth 100000
set_option maxHeartbeats 4000000
/-! P15: len(set(xs)), sorted(set(xs)) by typed data. -/
namespace PH
open PySem PySem.Spec PyProof.Rows L2
open PySem.W (Datum DatumOrd Tup)

section
variable {P : Program} {w : World} {A : Around} {E : Value → Shared → Prop} {s : Shared} {ι : Type} {ky : ι → NestedKey} {ad : ι → Addr}
theorem tup_fresh {h : Heap} {a : Addr} (ho : h.get? a = some (freshSet w)) : TupSet P w ky ad h a [] (freshSet w) #[] 0 (.fresh 0 0 (!w.params.followText "set-order")) where
  ob := ho
  ex := ⟨rfl, rfl, rfl⟩
  dat := rfl
  rows := rfl
  tab := ⟨List.Pairwise.nil, rfl, rfl, .inl rfl, fun x hx => (by cases hx), fun i h j hi => (by simp at hi)⟩
  nd := List.nodup_nil
  tup := fun p hp => (by cases hp)
  led := by cases w.params.followText "set-order" <;> simp [SetTable.fresh]
  room := by show 0 * 5 < 7 * 3; decide
  few := by show 0 < 64; decide
/-- set(xs) of tuples -/
theorem call_set_tup {l : Addr} {its : List ι} {Q : Value → Shared → Prop} (hh : A.handled = none) (hl : s.heap.IsList l (its.map fun p => Value.ref (ad p)).toArray) (hk : ∀ p ∈ its, IsK P w s.heap (ky p) (ad p)) (hu : A.units + 64 < cLine)
    (hz : ∀ M : List ι, (M.map ky).Nodup → (∀ p ∈ M, p ∈ its) → M.length < 64)
    (h : ∀ (h' : Heap) (tk : Nat) L, Came ky its its.length L → SetHas w h' s.heap.objs.size (L.map fun p => Value.ref (ad p)) → (∀ b o, s.heap.get? b = some o → h'.get? b = some o) → Q (.ref s.heap.objs.size) { s with heap := h', toks := tk }) :
    wpAny (model P w) A (call (.type "set") [.ref l]) Q E s := by
  refine call_set_any (fun i h => ∃ L o es ep t, Came ky its i L ∧ TupSet P w ky ad h s.heap.objs.size L o es ep t) hh hl (fun h1 e _ => ⟨[], _, _, _, _, Came.zero ky its, tup_fresh e⟩)
    (fun i h1 h2 k0 k ⟨L, o, es, ep, t, g, R⟩ => ⟨L, o, es, ep, t, g, R.keep k fun p hp => (hk p (List.mem_of_mem_take (g.sub p hp))).keep fun c u _ _ e _ => k0 c u e⟩)
    (fun i v A' s1 E' Q' hA hv k1 ⟨L, o, es, ep, t, g, R⟩ hQ => ?_) fun h' tk ⟨L, o, es, ep, t, g, R⟩ k => ?_
  · have hv2 : (its.map fun p => Value.ref (ad p))[i]? = some v := by simpa using hv
    rw [List.getElem?_map] at hv2
    obtain ⟨x, hx, rfl⟩ := Option.map_eq_some_iff.mp hv2
    have hxm : x ∈ its := List.mem_of_getElem? hx
    have hxk : IsK P w s1.heap (ky x) (ad x) := (hk x hxm).keep fun c u _ _ e _ => k1 c u e
    have hi : i < its.length := (List.getElem?_eq_some_iff.mp hx).1
    unfold setAdd
    refine wpAny_holding (wpAny_bind ((nestedKind P w).pyHash (show A'.units + 8 < cLine by omega) hxk ?_))
    refine tup_add (s := { s1 with toks := s1.toks + (nestedKind P w).draws (ky x) }) R hxk (by omega) (fun hm => ?_) fun b h' L2 o2 e2 p2 t2 sb R2 c1 c2 => hQ b h' (s1.toks + (nestedKind P w).draws (ky x)) (Nat.le_add_right _ _) sb ⟨L2, o2, e2, p2, t2, ?_, R2⟩
    · refine hz (x :: L) (by rw [List.map_cons]; exact List.nodup_cons.mpr ⟨hm, g.nd⟩) fun p hp => ?_
      rcases List.mem_cons.mp hp with z | z
      · rw [z]; exact hxm
      · exact List.mem_of_mem_take (g.sub p z)
    · rcases Classical.em (ky x ∈ L.map ky) with c | c
      · rw [c1 c]; exact g.old hx c
      · exact g.new hx c (c2 c)
  · have e : (its.map fun p => Value.ref (ad p)).toArray.size = its.length := by simp
    rw [e] at g
    exact h h' tk L g R.has k
end

/-! ### a set by typed data -/
/-- the set at a holds these values -/
def SetV (w : World) (a : Addr) (ys : List V) : HO := .ext fun h => ∃ us, Vals ys us ∧ SetHas w h a us
theorem SetHas.keep {w : World} {h h' : Heap} {a : Addr} {us : List Value} (x : SetHas w h a us) (k : ∀ o, h.get? a = some o → h'.get? a = some o) : SetHas w h' a us := by
  obtain ⟨o, es, ep, t, ho, r⟩ := x
  exact ⟨o, es, ep, t, k o ho, r⟩
theorem setV_new {w : World} {P : Program} {H : Hp} {h : Heap} {a : Addr} {ys : List V} {us : List Value} (r : Vals ys us) (x : SetHas w h a us) : ObjOk P w H h a (SetV w a ys) := by
  have ⟨o, es, ep, t, ho, _⟩ := x
  exact ⟨⟨us, r, x⟩, ⟨o, ho⟩, fun h1 h2 ⟨us', r', x'⟩ k => ⟨us', r', x'.keep k⟩⟩
theorem setV_get {X : Cx} {pins : List (Addr × Obj)} {σ : L2.St} {H : Hp} {s : Shared} {a : Addr} {ys : List V} (I : Inv X pins σ H s) (ha : H a = some (SetV X.w a ys)) : ∃ us, Vals ys us ∧ SetHas X.w s.heap a us := (I.hok a _ ha).1
/-- three lists side by side -/
theorem triple {P : Program} {w : World} {K : PySem.W.Frag} {F : Hp} {α : Type} {f : α → PyData} : ∀ {xs : List V} {us : List Value} {bs : List α}, Vals xs us → RepL P w K F xs (bs.map f) →
    ∃ tr : List (V × Value × α), tr.map (·.1) = xs ∧ tr.map (·.2.1) = us ∧ tr.map (·.2.2) = bs ∧ ∀ p ∈ tr, RelV p.1 p.2.1 ∧ Rep P w K F p.1 (f p.2.2)
  | _, _, [], r, h => by cases h; cases r; exact ⟨[], rfl, rfl, rfl, fun p hp => by cases hp⟩
  | _, _, b :: bs, r, h => by
    cases h with
    | cons h1 h2 =>
      cases r with
      | cons r1 r2 =>
        obtain ⟨tr, e1, e2, e3, e4⟩ := triple r2 h2
        refine ⟨(_, _, b) :: tr, by rw [List.map_cons, e1], by rw [List.map_cons, e2], by rw [List.map_cons, e3], fun p hp => ?_⟩
        rcases List.mem_cons.mp hp with z | z
        · rw [z]; exact ⟨r1, h1⟩
        · exact e4 p z
theorem vals_tr {α : Type} : ∀ {tr : List (V × Value × α)}, (∀ p ∈ tr, RelV p.1 p.2.1) → Vals (tr.map (·.1)) (tr.map (·.2.1))
  | [], _ => .nil
  | p :: tr, h => .cons (h p List.mem_cons_self) (vals_tr fun q hq => h q (List.mem_cons_of_mem _ hq))
theorem repL_tr {P : Program} {w : World} {K : PySem.W.Frag} {F : Hp} {α : Type} {f : α → PyData} : ∀ {tr : List (V × Value × α)}, (∀ p ∈ tr, Rep P w K F p.1 (f p.2.2)) → RepL P w K F (tr.map (·.1)) ((tr.map (·.2.2)).map f)
  | [], _ => .nil
  | p :: tr, h => .cons (h p List.mem_cons_self) (repL_tr fun q hq => h q (List.mem_cons_of_mem _ hq))
/-- set(xs): the distinct ones -/
def rSetT (P : Program) (w : World) (K : PySem.W.Frag) (α : Type) [DecidableEq α] [Datum α] : List V → Hp → VK → Prop := fun vs H Q => ∃ (a : Addr) (xs : List V) (F : Hp) (bs : List α), vs = [.ref a] ∧ H a = some (.lst xs) ∧ Sub F H ∧ RepL P w K F xs (bs.map Datum.toD) ∧
  bs.length < 4000 ∧ (uniq bs).length < 64 ∧ Datum.depth α ≤ 8 ∧ ∀ p ys (cs : List α), H p = none → RepL P w K F ys (cs.map Datum.toD) → cs.Perm (uniq bs) → Q (.ref p) (upd H p (SetV w p ys))
def keyM : PyData → Key
  | .int i => .inl i
  | .str x => .inr x
  | _ => .inl 0
theorem came_uniq {ι κ α : Type} [DecidableEq α] {ky : ι → κ} {its L : List ι} (val : ι → α) (g : Came ky its its.length L) (inj : ∀ p ∈ its, ∀ q ∈ its, (ky p = ky q ↔ val p = val q)) : (L.map val).Perm (uniq (its.map val)) := by
  have sub : ∀ p ∈ L, p ∈ its := fun p hp => List.mem_of_mem_take (g.sub p hp)
  refine uniq_perm ?_ fun a => ?_
  · have key : ∀ M : List ι, (∀ p ∈ M, p ∈ its) → (M.map ky).Nodup → (M.map val).Nodup := by
      intro M
      induction M with
      | nil => intro _ _; exact List.nodup_nil
      | cons x M ih =>
        intro hs hn
        rw [List.map_cons, List.nodup_cons] at hn ⊢
        refine ⟨fun hm => hn.1 ?_, ih (fun p hp => hs p (List.mem_cons_of_mem _ hp)) hn.2⟩
        obtain ⟨q, hq, e⟩ := List.mem_map.mp hm
        exact List.mem_map.mpr ⟨q, hq, (inj q (hs q (List.mem_cons_of_mem _ hq)) x (hs x List.mem_cons_self)).2 e⟩
    exact key L sub g.nd
  · rw [List.mem_map, List.mem_map]
    constructor
    · rintro ⟨p, hp, e⟩; exact ⟨p, sub p hp, e⟩
    · rintro ⟨p, hp, e⟩
      obtain ⟨q, hq, e2⟩ := List.mem_map.mp (g.all p (by rw [List.take_length]; exact hp))
      exact ⟨q, hq, by rw [← e]; exact (inj q (sub q hq) p hp).1 e2⟩
theorem cr_setT {X : Cx} {α : Type} [DecidableEq α] [Datum α] [DKey α] (hc : X.calm = true) (hu : X.A.units + 200 < cLine) : CallR X (.type "set") (rSetT X.prog X.w X.K α) := by
  intro pins s σ H vs us Q I r h
  obtain ⟨a, xs, F, bs, rfl, hl, hF, hr, hz1, hz2, hdp, q⟩ := h
  obtain ⟨its, rv, pl, hlen⟩ := I.list (SqL.of hl)
  rw [Vals.ref1 r]
  obtain ⟨tr, e1, e2, e3, e4⟩ := triple (f := Datum.toD) rv hr
  have hn : H s.heap.objs.size = none := I.hok.fresh (Nat.le_refl _)
  have ltr : tr.length = bs.length := by rw [← e3, List.length_map]
  -- the end, whichever way it came in
  have fin : ∀ (h' : Heap) (tk : Nat) (L : List (V × Value × α)), (∀ p ∈ L, p ∈ tr) → (L.map (·.2.2)).Perm (uniq bs) → SetHas X.w h' s.heap.objs.size (L.map (·.2.1)) → (∀ b o, s.heap.get? b = some o → h'.get? b = some o) → EP X pins σ Q (.ref s.heap.objs.size) { s with heap := h', toks := tk } := by
    intro h' tk L sub pm has k
    refine ⟨.ref s.heap.objs.size, upd H s.heap.objs.size (SetV X.w s.heap.objs.size (L.map (·.1))), I.laid (t' := tk) k (Nat.le_refl _) (setV_new (vals_tr fun p hp => (e4 p (sub p hp)).1) has), rfl, q _ _ (L.map (·.2.2)) hn (repL_tr fun p hp => (e4 p (sub p hp)).2) pm⟩
  rcases (DKey.kind : (∀ a : α, ∃ ds, Datum.toD a = .tuple ds) ∨ _) with kt | kt
  · -- tuples
    have ref : ∀ p ∈ tr, ∃ b, p.2.1 = Value.ref b := fun p hp => by
      obtain ⟨h1, h2⟩ := e4 p hp
      obtain ⟨ds, e⟩ := kt p.2.2
      rw [e] at h2
      cases hp1 : p.1 with
      | ref b => rw [hp1] at h1; exact ⟨b, h1⟩
      | _ => rw [hp1] at h2; cases h2
    have hit : its = tr.map fun p => Value.ref (match p.2.1 with | .ref b => b | _ => 0) := by
      rw [← e2]
      refine List.map_congr_left fun p hp => ?_
      obtain ⟨b, e⟩ := ref p hp
      show p.2.1 = _
      rw [e]
    refine call_set_tup (P := X.prog) (w := X.w) (its := tr) (ky := fun p => keyT p.2.2) (ad := fun p => match p.2.1 with | .ref b => b | _ => 0) (I.ok.hd hc) (by rw [← hit]; exact pl.isList) (fun p hp => ?_) (by omega) (fun M hM hs => ?_) fun h' tk L g has k => ?_
    · obtain ⟨b, e⟩ := ref p hp
      have z := Rep.nested I hF _ p.1 p.2.1 (DKey.ok p.2.2) (e4 p hp).2 (e4 p hp).1
      rw [e] at z
      have hd := keyT_depth p.2.2
      refine ⟨?_, Nat.le_trans hd hdp⟩
      show NestedIs s.heap (keyT p.2.2) (.ref (match p.2.1 with | .ref b => b | _ => 0))
      rw [e]
      exact z
    · have n2 : (M.map (·.2.2)).Nodup := by
        have z : M.map (fun p => keyT p.2.2) = (M.map (·.2.2)).map keyT := by rw [List.map_map]; rfl
        rw [z] at hM
        exact List.Pairwise.of_map keyT (fun _ _ hne e => hne (congrArg keyT e)) hM
      have := nodup_len (m := uniq bs) n2 fun b hb => by
        obtain ⟨p, hp, e⟩ := List.mem_map.mp hb
        rw [mem_uniq, ← e3, ← e]
        exact List.mem_map.mpr ⟨p, hs p hp, rfl⟩
      rw [List.length_map] at this
      omega
    · have sub : ∀ p ∈ L, p ∈ tr := fun p hp => List.mem_of_mem_take (g.sub p hp)
      refine fin h' tk L sub ?_ ?_ k
      · rw [← e3]
        exact came_uniq (fun p => p.2.2) g fun p _ q _ => ⟨fun z => keyT_inj z, fun z => congrArg keyT z⟩
      · have z : (L.map fun p => Value.ref (match p.2.1 with | .ref b => b | _ => 0)) = L.map (·.2.1) := by
          refine List.map_congr_left fun p hp => ?_
          obtain ⟨b, e⟩ := ref p (sub p hp)
          rw [e]
        rw [← z]
        exact has
  · -- ints, texts
    refine call_set_scan (P := X.prog) (w := X.w) (its := tr) (ky := fun p => keyM (Datum.toD p.2.2)) (vl := fun p => p.2.1) (I.ok.hd hc) (by rw [e2]; exact pl.isList) (fun p hp => ?_) (by unfold scanBound; omega) fun h' tk L g has k => ?_
    · obtain ⟨h1, h2⟩ := e4 p hp
      rcases kt p.2.2 with ⟨i, e⟩ | ⟨x, e⟩
      · rw [e] at h2 ⊢
        cases hp1 : p.1 with
        | int j => rw [hp1] at h1 h2; cases h2; exact kV_is (k := .inl i) h1
        | _ => rw [hp1] at h2; cases h2
      · rw [e] at h2 ⊢
        cases hp1 : p.1 with
        | str j => rw [hp1] at h1 h2; cases h2; exact kV_is (k := .inr x) h1
        | _ => rw [hp1] at h2; cases h2
    · have sub : ∀ p ∈ L, p ∈ tr := fun p hp => List.mem_of_mem_take (g.sub p hp)
      refine fin h' tk L sub ?_ has k
      rw [← e3]
      refine came_uniq (fun p => p.2.2) g fun p _ q _ => ⟨fun z => ?_, fun z => by rw [z]⟩
      refine datum_inj ?_
      rcases kt p.2.2 with ⟨i, e⟩ | ⟨x, e⟩ <;> rcases kt q.2.2 with ⟨j, f⟩ | ⟨y, f⟩
      · rw [e, f] at z ⊢; have z' : (Sum.inl i : Key) = .inl j := z; injection z' with z'; rw [z']
      · rw [e, f] at z; exact nomatch (show (Sum.inl i : Key) = .inr y from z)
      · rw [e, f] at z; exact nomatch (show (Sum.inr x : Key) = .inl j from z)
      · rw [e, f] at z ⊢; have z' : (Sum.inr x : Key) = .inr y := z; injection z' with z'; rw [z']
end PH

set_option Elab.async false
set_option linter.all false
set_option maxRecDepth 100000
set_option maxHeartbeats 4000000
/-! P16: len(set(xs)), sorted(set(xs)); sorted of whatever is collected. -/
namespace PH
open PySem PySem.Spec PyProof.Rows L2
open PySem.W (Datum DatumOrd Tup)

section
variable {P : Program} {w : World} {A : Around} {E : Value → Shared → Prop} {s : Shared}
/-- sorted(x), x whatever gives these values -/
theorem sorted_got {β : Type} {x : Value} {R : Value → β → Prop} {enc : β → PyData} {bs : List β} {Q : Value → Shared → Prop}
    (got : ∀ (E' : Value → Shared → Prop) (Q' : List Value → Shared → Prop), (∀ vs s1, (∀ b o, s.heap.get? b = some o → s1.heap.get? b = some o) → s.heap.objs.size ≤ s1.heap.objs.size → s1.gens = s.gens → s1.os = s.os → (∃ cs : List β, cs.Perm bs ∧ PySem.W.EachIs R vs cs) → Q' vs s1) → wpAny (model P w) A.in1 (collect x) Q' E' s)
    (rd : ∀ v b h', R v b → (∀ c o, s.heap.get? c = some o → h'.get? c = some o) → ∃ as, Reads h' v (enc b) as) (hal : PySem.W.AllAlike (bs.map enc)) (hk : PySem.W.Sortable (bs.map enc)) (hL : bs.length ≤ sizeLine) (hu : ∀ b, b ∈ bs → A.units + 8 + (enc b).depth < cLine)
    (h : ∀ (out : List Value) (cs : List β) s1 p c, cs.Perm bs → PySem.W.EachIs R out (cs.mergeSort (PySem.W.dataLe false enc)) → (∀ b o, s.heap.get? b = some o → s1.heap.get? b = some o) → s1.gens = s.gens → s1.os = s.os → s.heap.objs.size ≤ p → s1.heap.get? p = some (seqObj "list" out.toArray c) → Q (.ref p) s1) :
    wpAny (model P w) A (call (.builtin "sorted") [x]) Q E s := by
  refine Calls.call_function_entry kind_sorted plain_sorted entry_sorted (args_sorted1 _) ?_
  unfold Builtin.«sorted»
  refine wpAny_bind (m := checkCount "sorted" 1 1 _) (wpAny_pure ?_)
  refine wpAny_bind (got _ _ fun vs s1 k1 hz g1 o1 ⟨cs, pm, ec⟩ => ?_)
  have hlen : vs.length = bs.length := by rw [ec.length, pm.length_eq]
  refine wpAny_bind (wpAny_newList ?_ (by rw [hlen]; exact hL))
  have hoL : (s1.heap.push (seqObj "list" vs.toArray 0)).get? s1.heap.objs.size = some (seqObj "list" vs.toArray 0) := Heap.get?_push_size _ rfl
  have hal2 : PySem.W.AllAlike (cs.map enc) := fun d hd d' hd' => hal d ((pm.map enc).mem_iff.mp hd) d' ((pm.map enc).mem_iff.mp hd')
  have hk2 : PySem.W.Sortable (cs.map enc) := by
    rcases hk with z | z
    · exact .inl fun d hd => z d ((pm.map enc).mem_iff.mp hd)
    · exact .inr fun d hd => z d ((pm.map enc).mem_iff.mp hd)
  have kp : ∀ c o, s.heap.get? c = some o → (PySem.W.sortingHeap (s1.heap.push (seqObj "list" vs.toArray 0)) s1.heap.objs.size vs).get? c = some o := fun c o e =>
    PySem.W.sortingHeap_old (Nat.ne_of_lt (Nat.lt_of_lt_of_le (Heap.lt_size e) hz)) (Heap.get?_push_of_some _ (k1 c o e))
  have er : PySem.W.EachIs (fun v b => ∃ as, Reads (PySem.W.sortingHeap (s1.heap.push (seqObj "list" vs.toArray 0)) s1.heap.objs.size vs) v (enc b) as) vs cs := ec.mono fun v b r => rd v b _ r kp
  refine wpAny_bind (wpAny_holding (wpAny_call_entry slot_list_sort ⟨_, hoL, rfl⟩ entry_list_sort ?_ (args_list_sort _)))
  refine PySem.W.list_sort_vals (s := { s1 with heap := s1.heap.push (seqObj "list" vs.toArray 0) }) (κ := PySem.W.dataKind (PySem.W.sortingHeap (s1.heap.push (seqObj "list" vs.toArray 0)) s1.heap.objs.size vs) (cs.map enc)) hoL
    (PySem.W.SortsAt.data (s := { s1 with heap := PySem.W.sortingHeap (s1.heap.push (seqObj "list" vs.toArray 0)) s1.heap.objs.size vs }) (PySem.W.each_map (R := fun v d => ∃ as, Reads (PySem.W.sortingHeap (s1.heap.push (seqObj "list" vs.toArray 0)) s1.heap.objs.size vs) v d as) enc er) hal2 hk2 (PySem.W.bound_map fun b hb => ?_)) (by rw [hlen]; exact hL) ⟨_, rfl, ?_⟩
  · have := hu b (pm.mem_iff.mp hb)
    simp only [Around.in1_units]
    omega
  · obtain ⟨c, hc⟩ := sortedHeap_at (vs := vs) (out := (PySem.W.sortVals (PySem.W.dataKind (PySem.W.sortingHeap (s1.heap.push (seqObj "list" vs.toArray 0)) s1.heap.objs.size vs) (cs.map enc)) false vs vs).toArray) hoL
    refine wpAny_pure ⟨_, rfl, h _ cs _ s1.heap.objs.size c pm (PySem.W.sortVals_data false ec er hal2) (fun b o e => ?_) g1 o1 hz hc⟩
    have q := k1 b o e
    have hlt := Heap.lt_size q
    show (sortedHeap (s1.heap.push (seqObj "list" vs.toArray 0)) s1.heap.objs.size vs _).get? b = some o
    rw [sortedHeap_old (Nat.ne_of_lt hlt) (by rw [size_push']; exact Nat.lt_succ_of_lt hlt)]
    exact Heap.get?_push_of_some _ q
end

section
variable {X : Cx} {α : Type} [DecidableEq α] [DatumOrd α]
theorem vals_map {us : List Value} {ys : List V} (r : Vals ys us) : us.length = ys.length := r.length.symm
/-- sorted of a set -/
def rSortS (P : Program) (w : World) (K : PySem.W.Frag) (α : Type) [DecidableEq α] [DatumOrd α] : List V → Hp → VK → Prop := fun vs H Q => ∃ (a : Addr) (ys : List V) (F : Hp) (bs : List α), vs = [.ref a] ∧ H a = some (SetV w a ys) ∧ Sub F H ∧ RepL P w K F ys (bs.map Datum.toD) ∧
  PySem.W.Sortable (bs.map Datum.toD) ∧ Datum.depth α ≤ 64 ∧ ∀ zs p, RepL P w K F zs ((srt bs).map Datum.toD) → H p = none → Q (.ref p) (upd H p (.lst zs))
theorem each_perm {β : Type} {R : Value → β → Prop} : ∀ {us vs : List Value}, vs.Perm us → ∀ {bs : List β}, PySem.W.EachIs R us bs → ∃ cs : List β, cs.Perm bs ∧ PySem.W.EachIs R vs cs := by
  intro us vs p
  induction p with
  | nil => intro bs e; cases e; exact ⟨[], List.Perm.refl _, .nil⟩
  | cons x _ ih =>
    intro bs e
    cases e with
    | cons h t => obtain ⟨cs, h1, h2⟩ := ih t; exact ⟨_ :: cs, h1.cons _, .cons h h2⟩
  | swap x y l =>
    intro bs e
    cases e with
    | cons h t =>
      cases t with
      | cons h2 t => exact ⟨_, List.Perm.swap _ _ _, .cons h2 (.cons h t)⟩
  | trans _ _ ih1 ih2 =>
    intro bs e
    obtain ⟨c1, p1, e1⟩ := ih2 e
    obtain ⟨c2, p2, e2⟩ := ih1 e1
    exact ⟨c2, p2.trans p1, e2⟩
theorem cr_sortS (hc : X.calm = true) (hu : X.A.units + 200 < cLine) : CallR X (.builtin "sorted") (rSortS X.prog X.w X.K α) := by
  intro pins s σ H vs us Q I r h
  obtain ⟨a, ys, F, bs, rfl, ha, hF, hr, hk, hz, q⟩ := h
  obtain ⟨us1, rv, o, es, ep, t, ho, hx, hd, hes, hf, hb, hri, hl⟩ := setV_get I ha
  rw [Vals.ref1 r]
  have e1 := each_of (f := Datum.toD) rv hr
  have el : us1.length = bs.length := by rw [e1.length]
  have hsz : es.size = us1.length := by rw [← hes, List.length_map, Array.length_toList]
  refine sorted_got (bs := bs) (enc := Datum.toD) (R := fun u b => ∃ x, RelV x u ∧ Rep X.prog X.w X.K F x (Datum.toD b)) (fun E' Q' k => ?_) (fun v b h' ⟨x, r1, r2⟩ k => ?_) (PySem.W.AllAlike.of fun b b' => DatumOrd.alike b b') hk (by rw [← el, ← hsz]; exact fits_of_scanBound hb) (fun b _ => ?_) fun out cs s1 p c pm eo k g1 o1 hp hp2 => ?_
  · refine collect_set (I.ok.hd hc) ⟨o, ho, hx.1, hd⟩ hf hb hri hl fun s' out k1 k2 k3 k4 pm => k out s' k1 k2 k3 k4 ?_
    rw [hes] at pm
    exact each_perm pm e1
  · obtain ⟨as, q1⟩ := Dp.reads I _ x v ((r2.mono hF).dp (Datum.plain _)) r1
    exact ⟨as, PyProof.Rows.Reads.keeps k q1⟩
  · have := Datum.depth_le b
    omega
  · obtain ⟨zs, q1, q2⟩ := of_each (f := Datum.toD) eo
    rw [le_toD] at q2
    have q3 : RepL X.prog X.w X.K F zs ((srt bs).map Datum.toD) := by
      rw [← srt_eq pm]; exact q2
    have hl2 : zs.length ≤ sizeLine := by rw [q3.length, List.length_map, (srt_perm bs).length_eq, ← el, ← hsz]; exact fits_of_scanBound hb
    have hn : H p = none := I.hok.fresh hp
    have J : Inv X pins σ (upd H p (.lst zs)) { s with heap := s1.heap, gens := s1.gens, drawn := s1.drawn, toks := s1.toks } :=
      I.call (ch := []) (Un.laid k hp hn) (I.hok.laid k hp ⟨hl2, out, c, q1, hp2⟩) (by rw [g1]; exact I.bare) (fun _ z => nomatch z)
    have e : s1 = { s with heap := s1.heap, gens := s1.gens, drawn := s1.drawn, toks := s1.toks } := by
      cases s1; cases s; cases o1; rfl
    rw [e]
    exact ⟨.ref p, _, J, rfl, q zs p q3 hn⟩
/-- len of a set -/
def rLenS (w : World) : List V → Hp → VK → Prop := fun vs H Q => ∃ (a : Addr) (ys : List V), vs = [.ref a] ∧ H a = some (SetV w a ys) ∧ Q (.int ys.length) H
theorem cr_lenS : CallR X (.builtin "len") (rLenS X.w) := by
  intro pins s σ H vs us Q I r h
  obtain ⟨a, ys, rfl, ha, q⟩ := h
  obtain ⟨us1, rv, o, es, ep, t, ho, hx, hd, hes, hf, hb, hri, hl⟩ := setV_get I ha
  rw [Vals.ref1 r]
  have hsz : es.size = ys.length := by rw [rv.length, ← hes, List.length_map, Array.length_toList]
  refine call_len_set ho hx hd hf (by unfold scanBound at hb; omega) ⟨.int ys.length, H, I.tok _, ⟨_, by rw [hsz]⟩, q⟩
end
section
variable {X : Cx} {Γ : List Bd} {a : Expr} {pos p1 p2 q1 : Pos} {α : Type} [DecidableEq α]
/-- len(set(xs)) -/
theorem de_lenSet [Datum α] [DKey α] {bs : List α} (hc : X.calm = true) (hu : X.A.units + 200 < cLine) (hg : Gl X "len") (hm : X.mg "len" = none) (hg2 : Gl X "set") (hm2 : X.mg "set" = none) (ha : DB X Γ a (bs.map Datum.toD)) (hz1 : bs.length < 4000) (hz2 : (uniq bs).length < 64)
    (hd : Datum.depth α ≤ 8 := by decide) (he : starEach [a] X.env = [(false, eval a X.env)] := by rfl) (he2 : starEach [.Call (.Name "set" p2) [a] [] q1] X.env = [(false, eval (.Call (.Name "set" p2) [a] [] q1) X.env)] := by rfl) :
    DE X Γ (.Call (.Name "len" p1) [.Call (.Name "set" p2) [a] [] q1] [] pos) (.int (uniq bs).length) := fun B =>
  pe_imp (pe_callB cr_lenS hg hm boot_len' (pa_cons (pe_callTy (cr_setT (α := α) hc hu) hg2 hm2 (by decide +kernel) (pa_cons (ha B) pa_nil he) (he := he) (hpl := rfl)) pa_nil he2) (he := he2) (hpl := rfl)) fun σ H Q ⟨F, A, k⟩ => ⟨F, A, fun a vs F1 H1 s1 t1 A1 hl r =>
    ⟨a, vs, F1, bs, rfl, hl, A1.fh, r, hz1, hz2, hd, fun p ys cs hp ry pm => ⟨p, ys, rfl, upd_same, by
      rw [ry.length, List.length_map, pm.length_eq]
      exact k _ F1 _ s1 (t1.trans (Sub.new hp)) (A1.lay0 hp) (.int _)⟩⟩⟩
/-- sorted(set(xs)) -/
theorem dl_sortedSet [DatumOrd α] [DKey α] {bs : List α} (hc : X.calm = true) (hu : X.A.units + 200 < cLine) (hg : Gl X "sorted") (hm : X.mg "sorted" = none) (hg2 : Gl X "set") (hm2 : X.mg "set" = none) (ha : DB X Γ a (bs.map Datum.toD)) (hk : PySem.W.Sortable (bs.map Datum.toD)) (hz1 : bs.length < 4000) (hz2 : (uniq bs).length < 64)
    (hd : Datum.depth α ≤ 8 := by decide) (he : starEach [a] X.env = [(false, eval a X.env)] := by rfl) (he2 : starEach [.Call (.Name "set" p2) [a] [] q1] X.env = [(false, eval (.Call (.Name "set" p2) [a] [] q1) X.env)] := by rfl) :
    DL X Γ (.Call (.Name "sorted" p1) [.Call (.Name "set" p2) [a] [] q1] [] pos) ((srt (uniq bs)).map Datum.toD) := fun B =>
  pe_imp (pe_callB (cr_sortS (α := α) hc hu) hg hm boot_sorted' (pa_cons (pe_callTy (cr_setT (α := α) hc hu) hg2 hm2 (by decide +kernel) (pa_cons (ha B) pa_nil he) (he := he) (hpl := rfl)) pa_nil he2) (he := he2) (hpl := rfl)) fun σ H Q ⟨F, A, k⟩ => ⟨F, A, fun a vs F1 H1 s1 t1 A1 hl r =>
    ⟨a, vs, F1, bs, rfl, hl, A1.fh, r, hz1, hz2, hd, fun p ys cs hp ry pm => ⟨p, ys, F1, cs, rfl, upd_same, A1.fh.trans (Sub.new hp), ry, by
      have mem : ∀ d, d ∈ cs.map Datum.toD → d ∈ bs.map Datum.toD := fun d hd => by
        obtain ⟨b, hb, e⟩ := List.mem_map.mp hd
        exact List.mem_map.mpr ⟨b, mem_uniq.1 (pm.mem_iff.mp hb), e⟩
      rcases hk with z | z
      · exact .inl fun d hd => z d (mem d hd)
      · exact .inr fun d hd => z d (mem d hd), by omega, fun zs p2 rz hp2 => by
      rw [srt_eq pm] at rz
      have A2 := (A1.lay0 (o := SetV X.w p ys) hp).lay0 (o := .lst zs) hp2
      exact k p2 zs F1 _ s1 ((t1.trans (Sub.new hp)).trans (Sub.new hp2)) A2 ((A1.fh.trans (Sub.new hp)).free hp2) ((A1.lay0 (o := SetV X.w p ys) hp).h0.free hp2) upd_same rz ((A1.lay0 (o := SetV X.w p ys) hp).loose hp2)⟩⟩⟩
end
end PH

set_option Elab.async false
set_option linter.all false
set_option maxRecDepth 100000
set_option maxHeartbeats 4000000
/-! P17: a dict by typed keys: the raw facts; put, get, in. -/
namespace PH
open PySem PySem.Spec PyProof.Rows L2
open PySem.W (Datum DatumOrd Tup)

/-! ### the lists -/
def kvD {κ : Type} [DecidableEq κ] [Datum κ] (m : List (κ × PyData)) : List (NestedKey × PyData) := m.map fun p => (keyT p.1, p.2)
def putM {κ ν : Type} [DecidableEq κ] (m : List (κ × ν)) (k : κ) (d : ν) : List (κ × ν) := if m.any (fun p => decide (p.1 = k)) then m.map (fun p => if p.1 = k then (p.1, d) else p) else m ++ [(k, d)]
def getM {κ ν : Type} [DecidableEq κ] (m : List (κ × ν)) (k : κ) : Option ν := (m.find? fun p => decide (p.1 = k)).map (·.2)
/-- entries with their keys' values -/
def putX (xs : List (NestedKey × V × V)) (k : NestedKey) (kx v : V) : List (NestedKey × V × V) := if xs.any (fun x => decide (x.1 = k)) then xs.map (fun x => if x.1 = k then (x.1, x.2.1, v) else x) else xs ++ [(k, kx, v)]
def getX (xs : List (NestedKey × V × V)) (k : NestedKey) : Option V := (xs.find? fun x => decide (x.1 = k)).map (·.2.2)
section
variable {κ ν : Type} [DecidableEq κ]
theorem putM_len (m : List (κ × ν)) (k : κ) (d : ν) : (putM m k d).length ≤ m.length + 1 := by
  unfold putM
  split
  · rw [List.length_map]; omega
  · rw [List.length_append]; exact Nat.le_refl _
theorem putM_keys_nodup {m : List (κ × ν)} (h : (m.map (·.1)).Nodup) (k : κ) (d : ν) : ((putM m k d).map (·.1)).Nodup := by
  unfold putM
  split
  · have e : (m.map fun p => if p.1 = k then (p.1, d) else p).map (·.1) = m.map (·.1) := by
      rw [List.map_map]
      refine List.map_congr_left fun p _ => ?_
      show (if p.1 = k then (p.1, d) else p).1 = p.1
      split <;> rfl
    rw [e]; exact h
  · rename_i c
    rw [List.map_append, List.nodup_append]
    refine ⟨h, by simp, fun a ha b hb e => c ?_⟩
    rw [List.map_cons, List.map_nil, List.mem_singleton] at hb
    obtain ⟨p, hp, ep⟩ := List.mem_map.mp ha
    exact List.any_eq_true.mpr ⟨p, hp, decide_eq_true (by rw [ep, e, hb])⟩
end
section
variable {P : Program} {w : World} {K : PySem.W.Frag} {F : Hp} {κ : Type} [DecidableEq κ] [Datum κ] [DKey κ]
theorem any_key {xs : List (NestedKey × V × V)} {m : List (κ × PyData)} (h : xs.map (·.1) = m.map fun p => keyT p.1) (k : κ) : xs.any (fun x => decide (x.1 = keyT k)) = m.any (fun p => decide (p.1 = k)) := by
  have e1 : xs.any (fun x => decide (x.1 = keyT k)) = (xs.map (·.1)).any (fun y => decide (y = keyT k)) := by rw [List.any_map]; rfl
  have e2 : m.any (fun p => decide (p.1 = k)) = (m.map fun p => keyT p.1).any (fun y => decide (y = keyT k)) := by
    rw [List.any_map]
    congr 1
    funext p
    exact decide_eq_decide.mpr ⟨fun e => congrArg keyT e, fun e => keyT_inj e⟩
  rw [e1, e2, h]
theorem putX_keys {m : List (κ × PyData)} {k : κ} {kx v : V} {d : PyData} : ∀ {xs : List (NestedKey × V × V)}, xs.map (·.1) = (m.map fun p => keyT p.1) → (putX xs (keyT k) kx v).map (·.1) = (putM m k d).map fun p => keyT p.1 := by
  intro xs h
  unfold putX putM
  rw [any_key h k]
  split
  · have e1 : (xs.map fun x => if x.1 = keyT k then (x.1, x.2.1, v) else x).map (·.1) = xs.map (·.1) := by
      rw [List.map_map]; refine List.map_congr_left fun x _ => ?_
      show (if x.1 = keyT k then (x.1, x.2.1, v) else x).1 = x.1
      split <;> rfl
    have e2 : (m.map fun p => if p.1 = k then (p.1, d) else p).map (fun p => keyT p.1) = m.map fun p => keyT p.1 := by
      rw [List.map_map]; refine List.map_congr_left fun p _ => ?_
      show keyT (if p.1 = k then (p.1, d) else p).1 = keyT p.1
      split <;> rfl
    rw [e1, e2, h]
  · rw [List.map_append, List.map_append, h]; rfl
theorem putX_kx {m : List (κ × PyData)} {k : κ} {kx v : V} {d : PyData} {xs : List (NestedKey × V × V)} (h : xs.map (·.1) = m.map fun p => keyT p.1) (r : RepL P w K F (xs.map fun x => x.2.1) (m.map fun p => Datum.toD p.1)) (rk : Rep P w K F kx (Datum.toD k)) :
    RepL P w K F ((putX xs (keyT k) kx v).map fun x => x.2.1) ((putM m k d).map fun p => Datum.toD p.1) := by
  unfold putX putM
  rw [any_key h k]
  split
  · have e1 : (xs.map fun x => if x.1 = keyT k then (x.1, x.2.1, v) else x).map (fun x => x.2.1) = xs.map fun x => x.2.1 := by
      rw [List.map_map]; refine List.map_congr_left fun x _ => ?_
      show (if x.1 = keyT k then (x.1, x.2.1, v) else x).2.1 = x.2.1
      split <;> rfl
    have e2 : (m.map fun p => if p.1 = k then (p.1, d) else p).map (fun p => Datum.toD p.1) = m.map fun p => Datum.toD p.1 := by
      rw [List.map_map]; refine List.map_congr_left fun p _ => ?_
      show Datum.toD (if p.1 = k then (p.1, d) else p).1 = Datum.toD p.1
      split <;> rfl
    rw [e1, e2]; exact r
  · rw [List.map_append, List.map_append]; exact r.append (.cons rk .nil)
theorem putX_vx_map : ∀ {m : List (κ × PyData)} {k : κ} {v : V} {d : PyData} {xs : List (NestedKey × V × V)}, xs.map (·.1) = (m.map fun p => keyT p.1) → RepL P w K F (xs.map fun x => x.2.2) (m.map (·.2)) → Rep P w K F v d →
    RepL P w K F ((xs.map fun x => if x.1 = keyT k then (x.1, x.2.1, v) else x).map fun x => x.2.2) ((m.map fun p => if p.1 = k then (p.1, d) else p).map (·.2))
  | [], _, _, _, [], _, _, _ => .nil
  | [], _, _, _, _ :: _, h, _, _ => by cases h
  | _ :: _, _, _, _, [], h, _, _ => by cases h
  | p :: m, k, v, d, x :: xs, h, r, rv => by
    rw [List.map_cons, List.map_cons, List.cons.injEq] at h
    rw [List.map_cons, List.map_cons] at r
    cases r with
    | cons r1 r2 =>
      have ih := putX_vx_map (k := k) (v := v) (d := d) h.2 r2 rv
      rw [List.map_cons, List.map_cons, List.map_cons, List.map_cons]
      refine .cons ?_ ih
      by_cases c : p.1 = k
      · rw [if_pos c, if_pos (h.1.trans (congrArg keyT c))]; exact rv
      · rw [if_neg c, if_neg (fun z => c (keyT_inj (h.1.symm.trans z)))]; exact r1
theorem putX_vx {m : List (κ × PyData)} {k : κ} {kx v : V} {d : PyData} {xs : List (NestedKey × V × V)} (h : xs.map (·.1) = m.map fun p => keyT p.1) (r : RepL P w K F (xs.map fun x => x.2.2) (m.map (·.2))) (rv : Rep P w K F v d) :
    RepL P w K F ((putX xs (keyT k) kx v).map fun x => x.2.2) ((putM m k d).map (·.2)) := by
  unfold putX putM
  rw [any_key h k]
  split
  · exact putX_vx_map h r rv
  · rw [List.map_append, List.map_append]; exact r.append (.cons rv .nil)
theorem getX_rep : ∀ {m : List (κ × PyData)} {k : κ} {xs : List (NestedKey × V × V)}, xs.map (·.1) = (m.map fun p => keyT p.1) → RepL P w K F (xs.map fun x => x.2.2) (m.map (·.2)) →
    (getM m k = none ∧ getX xs (keyT k) = none) ∨ ∃ v d, getM m k = some d ∧ getX xs (keyT k) = some v ∧ Rep P w K F v d
  | [], _, [], _, _ => .inl ⟨rfl, rfl⟩
  | [], _, _ :: _, h, _ => by cases h
  | _ :: _, _, [], h, _ => by cases h
  | p :: m, k, x :: xs, h, r => by
    rw [List.map_cons, List.map_cons, List.cons.injEq] at h
    rw [List.map_cons, List.map_cons] at r
    cases r with
    | cons r1 r2 =>
      unfold getM getX
      rw [List.find?_cons, List.find?_cons]
      by_cases c : p.1 = k
      · rw [decide_eq_true c, decide_eq_true (h.1.trans (congrArg keyT c))]
        exact .inr ⟨_, _, rfl, rfl, r1⟩
      · rw [decide_eq_false c, decide_eq_false (fun z => c (keyT_inj (h.1.symm.trans z)))]
        exact getX_rep h.2 r2
/-- a dict by typed keys: what stands there -/
theorem DictIn.typed {H : Hp} {a : Addr} {m : List (κ × PyData)} (x : DictIn P w K F H a (kvD m)) : ∃ (o : Obj) (xs : List (NestedKey × V × V)), H a = some (DictO w a o xs) ∧ (xs.map (·.1) = m.map fun p => keyT p.1) ∧ RepL P w K F (xs.map fun x => x.2.1) (m.map fun p => Datum.toD p.1) ∧ RepL P w K F (xs.map fun x => x.2.2) (m.map (·.2)) := by
  obtain ⟨o, xs, ds, h1, h2, h3, h4⟩ := x
  have hl : xs.length = ds.length := by have := h3.length; rw [List.length_map] at this; exact this
  have e1 : xs.map (·.1) = m.map fun p => keyT p.1 := by
    have z := congrArg (List.map Prod.fst) h4
    unfold kvD at z
    rw [List.map_map, List.map_fst_zip (by rw [List.length_map, hl]; exact Nat.le_refl _)] at z
    exact z.symm
  have e2 : ds = m.map (·.2) := by
    have z := congrArg (List.map Prod.snd) h4
    unfold kvD at z
    rw [List.map_map, List.map_snd_zip (by rw [List.length_map, hl]; exact Nat.le_refl _)] at z
    exact z.symm
  subst e2
  refine ⟨o, xs, h1, e1, ?_, h3⟩
  have e3 : (xs.map fun x => x.1.data) = m.map fun p => Datum.toD p.1 := by
    have z := congrArg (List.map NestedKey.data) e1
    rw [List.map_map, List.map_map] at z
    refine Eq.trans z (List.map_congr_left fun p _ => keyT_data p.1)
  rw [e3] at h2
  exact h2
theorem DictIn.ofT {H : Hp} {a : Addr} {m : List (κ × PyData)} {o : Obj} {xs : List (NestedKey × V × V)} (h1 : H a = some (DictO w a o xs)) (h2 : xs.map (·.1) = m.map fun p => keyT p.1) (h3 : RepL P w K F (xs.map fun x => x.2.1) (m.map fun p => Datum.toD p.1))
    (h4 : RepL P w K F (xs.map fun x => x.2.2) (m.map (·.2))) : DictIn P w K F H a (kvD m) := by
  refine ⟨o, xs, m.map (·.2), h1, ?_, h4, ?_⟩
  · have e3 : (xs.map fun x => x.1.data) = m.map fun p => Datum.toD p.1 := by
      have z := congrArg (List.map NestedKey.data) h2
      rw [List.map_map, List.map_map] at z
      refine Eq.trans z (List.map_congr_left fun p _ => keyT_data p.1)
    rw [e3]; exact h3
  · rw [h2]
    unfold kvD
    clear h1 h2 h3 h4
    induction m with
    | nil => rfl
    | cons p m ih => rw [List.map_cons, ih]; rfl
end

/-! ### the object -/
theorem dictO_new {P : Program} {w : World} {H : Hp} {h : Heap} {a : Addr} {o : Obj} {xs : List (NestedKey × V × V)} (ho : h.get? a = some o) (x : DictOk w a o xs) : ObjOk P w H h a (DictO w a o xs) :=
  ⟨⟨ho, x⟩, ⟨o, ho⟩, fun h1 h2 ⟨e, r⟩ k => ⟨k o e, r⟩⟩
theorem dictO_get {X : Cx} {pins : List (Addr × Obj)} {σ : L2.St} {H : Hp} {s : Shared} {a : Addr} {o : Obj} {xs : List (NestedKey × V × V)} (I : Inv X pins σ H s) (ha : H a = some (DictO X.w a o xs)) : s.heap.get? a = some o ∧ DictOk X.w a o xs := (I.hok a _ ha).1
theorem paired_mem {α β : Type} {G : α → β → Prop} {l : List α} {m : List β} (h : Paired G l m) : ∀ b ∈ m, ∃ a ∈ l, G a b := by
  induction h with
  | nil => intro b hb; cases hb
  | cons g _ ih =>
    intro b hb
    rcases List.mem_cons.mp hb with e | e
    · rw [e]; exact ⟨_, List.mem_cons_self, g⟩
    · obtain ⟨x, hx, gx⟩ := ih b e; exact ⟨x, List.mem_cons_of_mem _ hx, gx⟩
theorem paired_len {α β : Type} {G : α → β → Prop} {l : List α} {m : List β} (h : Paired G l m) : l.length = m.length := by
  induction h with
  | nil => rfl
  | cons _ _ ih => rw [List.length_cons, List.length_cons, ih]
section
variable {P : Program} {w : World} {K : PySem.W.Frag} {F : Hp} {κ : Type} [DecidableEq κ] [Datum κ] [DKey κ]
/-- keys that are ints or texts -/
abbrev AtomK (κ : Type) [DecidableEq κ] [Datum κ] : Prop := ∀ a : κ, (∃ i, Datum.toD a = .int i) ∨ ∃ x, Datum.toD a = .str x
abbrev TupK (κ : Type) [DecidableEq κ] [Datum κ] : Prop := ∀ a : κ, ∃ ds, Datum.toD a = .tuple ds
theorem atom_v (ka : AtomK κ) {v : V} {k : κ} (r : Rep P w K F v (Datum.toD k)) : v = kV (keyM (Datum.toD k)) := by
  rcases ka k with ⟨i, e⟩ | ⟨x, e⟩ <;> rw [e] at r ⊢ <;> cases r <;> rfl
theorem atom_hash (ka : AtomK κ) (k : κ) : (keyT k).hash w = keyH w (keyM (Datum.toD k)) := by
  unfold keyT
  rcases ka k with ⟨i, e⟩ | ⟨x, e⟩ <;> rw [e] <;> rfl
theorem atom_keyN (ka : AtomK κ) (k : κ) : keyT k = keyN (keyM (Datum.toD k)) := by
  unfold keyT
  rcases ka k with ⟨i, e⟩ | ⟨x, e⟩ <;> rw [e] <;> rfl
theorem tup_v (kt : TupK κ) {v : V} {k : κ} (r : Rep P w K F v (Datum.toD k)) : ∃ b, v = .ref b := by
  obtain ⟨ds, e⟩ := kt k
  rw [e] at r
  cases r
  exact ⟨_, rfl⟩
/-- ints and texts: as the library says it -/
theorem atoms_raw (ka : AtomK κ) {h : Heap} {a : Addr} {o : Obj} {xs : List (NestedKey × V × V)} {m : List (κ × PyData)} (ho : h.get? a = some o) (x : DictOk w a o xs) (e : xs.map (·.1) = m.map fun p => keyT p.1) (r : RepL P w K F (xs.map fun x => x.2.1) (m.map fun p => Datum.toD p.1)) :
    ∃ L : List (Key × Value), h.DictOf (mixKind P w) a L ∧ Paired (fun (x : NestedKey × V × V) (l : Key × Value) => x.1 = keyN l.1 ∧ x.2.1 = kV l.1 ∧ RelV x.2.2 l.2) xs L := by
  obtain ⟨hs, hz, nd, hd, hx, es, ep, hdt, pr⟩ := x
  have key : ∀ (xs : List (NestedKey × V × V)) (es : List DictEntry) (m : List (κ × PyData)), Paired (fun (x : NestedKey × V × V) (e : DictEntry) => e.hash = x.1.hash w ∧ RelV x.2.1 e.key ∧ RelV x.2.2 e.val) xs es → xs.map (·.1) = (m.map fun p => keyT p.1) → RepL P w K F (xs.map fun x => x.2.1) (m.map fun p => Datum.toD p.1) →
      ∃ L : List (Key × Value), Pairs (mixKind P w) es L ∧ (∀ e ∈ es, ∃ k, (mixKind P w).is k e.key = true ∧ e.hash = (mixKind P w).hash k) ∧ Paired (fun (x : NestedKey × V × V) (l : Key × Value) => x.1 = keyN l.1 ∧ x.2.1 = kV l.1 ∧ RelV x.2.2 l.2) xs L := by
    intro xs
    induction xs with
    | nil => intro es m pr e r; cases pr; exact ⟨[], .nil, fun e he => (by cases he), .nil⟩
    | cons x xs ih =>
      intro es m pr e r
      cases m with
      | nil => cases e
      | cons p m =>
        rw [List.map_cons, List.map_cons, List.cons.injEq] at e
        rw [List.map_cons, List.map_cons] at r
        cases pr with
        | @cons _ en _ es2 g gs =>
          cases r with
          | cons r1 r2 =>
            obtain ⟨L, l1, l2, l3⟩ := ih es2 m gs e.2 r2
            have ev := atom_v ka r1
            have his : (mixKind P w).is (keyM (Datum.toD p.1)) en.key = true := kV_is (by rw [← ev]; exact g.2.1)
            refine ⟨(keyM (Datum.toD p.1), en.val) :: L, .cons his rfl l1, fun u hu => ?_, .cons ⟨by rw [e.1, atom_keyN ka], ev, g.2.2⟩ l3⟩
            rcases List.mem_cons.mp hu with z | z
            · rw [z]; exact ⟨_, his, by rw [g.1, e.1, atom_hash ka]; rfl⟩
            · exact l2 u z
  obtain ⟨L, l1, l2, l3⟩ := key xs es.toList m pr e r
  refine ⟨L, ⟨o, es, ep, ho, hx, hdt, fun u hu => l2 u (by simpa using hu), l1, ?_⟩, l3⟩
  have nk : (xs.map (·.1)) = (L.map (·.1)).map keyN := by
    clear l1 l2 nd pr e r
    induction l3 with
    | nil => rfl
    | cons g _ ih => rw [List.map_cons, List.map_cons, List.map_cons, g.1, ih (Nat.le_trans (Nat.le_succ _) hz) fun x hx => hd x (List.mem_cons_of_mem _ hx)]
  rw [nk] at nd
  exact List.Pairwise.of_map keyN (fun _ _ hne e => hne (congrArg keyN e)) nd
/-- and back -/
theorem atoms_back {h : Heap} {a : Addr} {xs : List (NestedKey × V × V)} {L : List (Key × Value)} (hs : (a == sysModules) = false) (hz : xs.length ≤ sizeLine) (d : h.DictOf (mixKind P w) a L) (p : Paired (fun (x : NestedKey × V × V) (l : Key × Value) => x.1 = keyN l.1 ∧ x.2.1 = kV l.1 ∧ RelV x.2.2 l.2) xs L) :
    ∃ o, h.get? a = some o ∧ DictOk w a o xs := by
  obtain ⟨o, es, ep, ho, hx, hdt, ko, pr, nd⟩ := d
  have nk : (xs.map (·.1)) = (L.map (·.1)).map keyN := by
    clear pr nd ko hz
    induction p with
    | nil => rfl
    | cons g _ ih => rw [List.map_cons, List.map_cons, List.map_cons, g.1, ih]
  refine ⟨o, ho, hs, hz, ?_, fun x hx => ?_, hx, es, ep, hdt, ?_⟩
  · rw [nk]
    exact List.pairwise_map.mpr (List.Pairwise.imp (fun hne e => hne (keyN_inj e)) nd)
  · have : x.1 ∈ (L.map (·.1)).map keyN := by rw [← nk]; exact List.mem_map.mpr ⟨x, hx, rfl⟩
    obtain ⟨k, _, e⟩ := List.mem_map.mp this
    rw [← e]
    cases k <;> exact Nat.zero_le _
  · have ko' : ∀ u ∈ es.toList, ∃ k, (mixKind P w).is k u.key = true ∧ u.hash = (mixKind P w).hash k := fun u hu => ko u (by simpa using hu)
    generalize es.toList = el at pr ko'
    clear ko hdt nk nd hz
    induction pr generalizing xs with
    | nil => cases p; exact .nil
    | @cons e kv es2 kvs h1 h2 _ ih =>
      cases p with
      | @cons x _ xs2 _ g gs =>
        refine .cons ⟨?_, ?_, by rw [h2]; exact g.2.2⟩ (ih gs fun u hu => ko' u (List.mem_cons_of_mem _ hu))
        · obtain ⟨k, k1, k2⟩ := ko' e List.mem_cons_self
          have ek : k = kv.1 := (mixKind P w).inj _ _ _ k1 h1
          rw [k2, ek, g.1]
          cases kv.1 <;> rfl
        · rw [g.2.1]; exact relV_key h1
/-- tuples: as the library says it -/
theorem tups_raw {X : Cx} {pins : List (Addr × Obj)} {σ : L2.St} {H F : Hp} {s : Shared} (I : Inv X pins σ H s) (hF : Sub F H) (kt : TupK κ) {a : Addr} {o : Obj} {xs : List (NestedKey × V × V)} {m : List (κ × PyData)} (ho : s.heap.get? a = some o) (x : DictOk X.w a o xs) (e : xs.map (·.1) = m.map fun p => keyT p.1) (r : RepL X.prog X.w X.K F (xs.map fun x => x.2.1) (m.map fun p => Datum.toD p.1)) :
    ∃ L : List (NestedKey × Addr × Value), s.heap.DictOfH (nestedKind X.prog X.w) a L ∧ Paired (fun (x : NestedKey × V × V) (l : NestedKey × Addr × Value) => x.1 = l.1 ∧ x.2.1 = .ref l.2.1 ∧ RelV x.2.2 l.2.2) xs L := by
  obtain ⟨hs, hz, nd, hd, hx, es, ep, hdt, pr⟩ := x
  have key : ∀ (xs : List (NestedKey × V × V)) (es : List DictEntry) (m : List (κ × PyData)), (∀ x ∈ xs, x.1.depth ≤ 8) → Paired (fun (x : NestedKey × V × V) (e : DictEntry) => e.hash = x.1.hash X.w ∧ RelV x.2.1 e.key ∧ RelV x.2.2 e.val) xs es → xs.map (·.1) = (m.map fun p => keyT p.1) → RepL X.prog X.w X.K F (xs.map fun x => x.2.1) (m.map fun p => Datum.toD p.1) →
      ∃ L : List (NestedKey × Addr × Value), es = L.map (entryOfKey (nestedKind X.prog X.w)) ∧ (∀ y ∈ L, (nestedKind X.prog X.w).is s.heap y.1 y.2.1) ∧ Paired (fun (x : NestedKey × V × V) (l : NestedKey × Addr × Value) => x.1 = l.1 ∧ x.2.1 = .ref l.2.1 ∧ RelV x.2.2 l.2.2) xs L := by
    intro xs
    induction xs with
    | nil => intro es m _ pr e r; cases pr; exact ⟨[], rfl, fun e he => (by cases he), .nil⟩
    | cons x xs ih =>
      intro es m hd pr e r
      cases m with
      | nil => cases e
      | cons p m =>
        rw [List.map_cons, List.map_cons, List.cons.injEq] at e
        rw [List.map_cons, List.map_cons] at r
        cases pr with
        | @cons _ en _ es2 g gs =>
          cases r with
          | cons r1 r2 =>
            obtain ⟨L, l1, l2, l3⟩ := ih es2 m (fun y hy => hd y (List.mem_cons_of_mem _ hy)) gs e.2 r2
            obtain ⟨b, eb⟩ := tup_v kt r1
            have z := Rep.nested I hF _ _ _ (DKey.ok p.1) r1 g.2.1
            have g2 := g.2.1
            rw [eb] at g2
            have ek : en.key = .ref b := g2
            rw [ek] at z
            have hdx := hd x List.mem_cons_self
            rw [e.1] at hdx
            refine ⟨(keyT p.1, b, en.val) :: L, ?_, fun u hu => ?_, .cons ⟨e.1, eb, g.2.2⟩ l3⟩
            · rw [List.map_cons, ← l1]
              congr 1
              obtain ⟨eh, ekk, ev⟩ := en
              have h1 : eh = x.1.hash X.w := g.1
              have h2 : ekk = .ref b := ek
              rw [h1, h2, e.1]
              rfl
            · rcases List.mem_cons.mp hu with q | q
              · rw [q]; exact ⟨z, hdx⟩
              · exact l2 u q
  obtain ⟨L, l1, l2, l3⟩ := key xs es.toList m hd pr e r
  refine ⟨L, ⟨o, es, ep, ho, hx, hdt, l1, l2, ?_⟩, l3⟩
  have nk : (xs.map (·.1)) = L.map (·.1) := by
    clear l1 l2 nd pr e r hz hd
    induction l3 with
    | nil => rfl
    | cons g _ ih => rw [List.map_cons, List.map_cons, g.1, ih]
  rw [← nk]; exact nd
theorem tups_back {h : Heap} {a : Addr} {xs : List (NestedKey × V × V)} {L : List (NestedKey × Addr × Value)} (hs : (a == sysModules) = false) (hz : xs.length ≤ sizeLine) (d : h.DictOfH (nestedKind P w) a L) (p : Paired (fun (x : NestedKey × V × V) (l : NestedKey × Addr × Value) => x.1 = l.1 ∧ x.2.1 = .ref l.2.1 ∧ RelV x.2.2 l.2.2) xs L) :
    ∃ o, h.get? a = some o ∧ DictOk w a o xs := by
  obtain ⟨o, es, ep, ho, hx, hdt, he, hi, nd⟩ := d
  have nk : (xs.map (·.1)) = L.map (·.1) := by
    clear he hi nd hz
    induction p with
    | nil => rfl
    | cons g _ ih => rw [List.map_cons, List.map_cons, g.1, ih]
  refine ⟨o, ho, hs, hz, by rw [nk]; exact nd, fun x hx => ?_, hx, es, ep, hdt, ?_⟩
  · have : x.1 ∈ L.map (·.1) := by rw [← nk]; exact List.mem_map.mpr ⟨x, hx, rfl⟩
    obtain ⟨y, hy, e⟩ := List.mem_map.mp this
    rw [← e]
    exact (hi y hy).2
  · rw [he]
    clear he hi nd nk hz hdt
    induction p with
    | nil => exact .nil
    | @cons x l _ _ g _ ih =>
      rw [List.map_cons]
      exact .cons ⟨by rw [g.1]; rfl, by rw [g.2.1]; rfl, g.2.2⟩ ih
end
end PH

set_option Elab.async false
set_option linter.all false
set_option maxRecDepth 100000
set_option maxHeartbeats 4000000
/-! P18: dicts: new ones, d[k] = v, d[k], k in d, sorted(d), list(d), len(d). -/
namespace PH
open PySem PySem.Spec PyProof.Rows L2
open PySem.W (Datum DatumOrd Tup)

/-! ### put -/
theorem map_pair {α β : Type} {G : α → β → Prop} {f : α → α} {g : β → β} (hf : ∀ x y, G x y → G (f x) (g y)) : ∀ {l : List α} {m : List β}, Paired G l m → Paired G (l.map f) (m.map g)
  | _, _, .nil => .nil
  | _, _, .cons h t => .cons (hf _ _ h) (map_pair hf t)
theorem put_atoms {xs : List (NestedKey × V × V)} {L : List (Key × Value)} {k : Key} {v : V} {u : Value} (p : Paired (fun (x : NestedKey × V × V) (l : Key × Value) => x.1 = keyN l.1 ∧ x.2.1 = kV l.1 ∧ RelV x.2.2 l.2) xs L) (r : RelV v u) :
    Paired (fun (x : NestedKey × V × V) (l : Key × Value) => x.1 = keyN l.1 ∧ x.2.1 = kV l.1 ∧ RelV x.2.2 l.2) (putX xs (keyN k) (kV k) v) (stored L k u) := by
  have e : xs.any (fun x => decide (x.1 = keyN k)) = L.any (fun kv => decide (kv.1 = k)) := by
    induction p with
    | nil => rfl
    | @cons x l _ _ g _ ih =>
      rw [List.any_cons, List.any_cons, ih]
      congr 1
      exact decide_eq_decide.mpr ⟨fun z => keyN_inj (g.1.symm.trans z), fun z => g.1.trans (by rw [z])⟩
  unfold putX stored
  rw [e]
  split
  · refine map_pair (fun x l g => ?_) p
    by_cases c : l.1 = k
    · rw [if_pos c, if_pos (g.1.trans (by rw [c]))]; exact ⟨g.1, g.2.1, r⟩
    · rw [if_neg c, if_neg (fun z => c (keyN_inj (g.1.symm.trans z)))]; exact g
  · exact Paired.snoc p ⟨rfl, rfl, r⟩
theorem put_tups {xs : List (NestedKey × V × V)} {L : List (NestedKey × Addr × Value)} {k : NestedKey} {b : Addr} {v : V} {u : Value} (p : Paired (fun (x : NestedKey × V × V) (l : NestedKey × Addr × Value) => x.1 = l.1 ∧ x.2.1 = .ref l.2.1 ∧ RelV x.2.2 l.2.2) xs L) (r : RelV v u) :
    Paired (fun (x : NestedKey × V × V) (l : NestedKey × Addr × Value) => x.1 = l.1 ∧ x.2.1 = .ref l.2.1 ∧ RelV x.2.2 l.2.2) (putX xs k (.ref b) v) (storedH L k b u) := by
  have e : xs.any (fun x => decide (x.1 = k)) = (atKey L k).isSome := by
    induction p with
    | nil => rfl
    | @cons x l _ _ g _ ih =>
      unfold atKey at ih ⊢
      rw [List.any_cons, List.find?_cons, g.1]
      cases decide (l.1 = k)
      · exact ih
      · rfl
  unfold putX storedH
  rw [e]
  split
  · refine map_pair (fun x l g => ?_) p
    unfold putAt
    by_cases c : l.1 = k
    · rw [if_pos c, if_pos (g.1.trans c)]; exact ⟨g.1, g.2.1, r⟩
    · rw [if_neg c, if_neg (fun z => c (g.1.symm.trans z))]; exact g
  · exact Paired.snoc p ⟨rfl, rfl, r⟩
section
variable {X : Cx} {κ : Type} [DecidableEq κ] [Datum κ] [DKey κ]
/-- d[k] = v -/
def rDSet (P : Program) (w : World) (K : PySem.W.Frag) (κ : Type) [DecidableEq κ] [Datum κ] : TSet := fun o i v H Q => ∃ (a : Addr) (F : Hp) (m : List (κ × PyData)) (k : κ) (d : PyData), o = .ref a ∧ Sub F H ∧ F a = none ∧ DictIn P w K F H a (kvD m) ∧ Rep P w K F i (Datum.toD k) ∧ Rep P w K F v d ∧
  m.length < 4000 ∧ Datum.depth κ ≤ 8 ∧ ∀ ob, DictIn P w K F (upd H a ob) a (kvD (putM m k d)) → Q (upd H a ob)
theorem set_dictT (hu : X.A.units + 200 < cLine) : PSet X (rDSet X.prog X.w X.K κ) := by
  intro pins s σ H ov iv vv o i u Q I ro ri rv h
  obtain ⟨a, F, m, k, d, rfl, hF, hfa, hd, rk, rd, hz, hdp, q⟩ := h
  cases (show o = Value.ref a from ro)
  obtain ⟨ob, xs, ha, e1, r1, r2⟩ := hd.typed
  obtain ⟨ho, dok⟩ := dictO_get I ha
  have hs := dok.1
  have hxl : xs.length = m.length := by have := congrArg List.length e1; rw [List.length_map, List.length_map] at this; exact this
  have hl2 : (putX xs (keyT k) iv vv).length ≤ sizeLine := by
    have := congrArg List.length (putX_keys (k := k) (kx := iv) (v := vv) (d := d) e1)
    rw [List.length_map, List.length_map] at this
    have h2 := putM_len m k d
    rw [sizeLine_eq]; omega
  -- the end
  have fin : ∀ (h' : Heap) (tk : Nat), Heap.SameBut a s.heap h' → (∃ o', h'.get? a = some o' ∧ DictOk X.w a o' (putX xs (keyT k) iv vv)) → (fun (_ : Unit) s' => ∃ H', Inv X pins σ H' s' ∧ Q H') () { s with heap := h', toks := tk } := fun h' tk sb ⟨o', ho', dk'⟩ => by
    refine ⟨upd H a (DictO X.w a o' (putX xs (keyT k) iv vv)), I.write (x := a) (e := a) (by rw [ha]; exact True.intro) (.inl rfl) (fun b q hb z => (sb.2 b hb).trans z) ⟨o', ho'⟩ (dictO_new ho' dk'), q _ ?_⟩
    exact DictIn.ofT upd_same (putX_keys e1) (putX_kx e1 r1 rk) (putX_vx e1 r2 rd)
  rcases (DKey.kind : TupK κ ∨ AtomK κ) with kt | ka
  · obtain ⟨L, dd, pr⟩ := tups_raw I hF kt ho dok e1 r1
    obtain ⟨b, eb⟩ := tup_v kt rk
    have z := Rep.nested I hF _ _ _ (DKey.ok k) rk ri
    subst eb
    cases (show i = Value.ref b from ri)
    have hLl : L.length = m.length := by rw [← paired_len pr]; exact hxl
    refine wpAny_setItem_heap (hsz := by rw [sizeLine_eq]; omega) (knd := nestedKind X.prog X.w) (k := keyT k) (show X.A.in1.units + 8 < cLine by simp only [Around.in1_units]; omega) (show IsK X.prog X.w s.heap (keyT k) b from ⟨z, Nat.le_trans (keyT_depth k) hdp⟩) dd fun h' dd' sb => fin h' _ sb ?_
    exact tups_back hs hl2 dd' (put_tups pr rv)
  · obtain ⟨L, dd, pr⟩ := atoms_raw (P := X.prog) ka ho dok e1 r1
    have ev := atom_v ka rk
    subst ev
    have hLl : L.length = m.length := by rw [← paired_len pr]; exact hxl
    refine wpAny_setItem_pairs (hsz := by rw [sizeLine_eq]; omega) (kV_is ri) dd fun h' dd' sb => fin h' _ sb ?_
    rw [atom_keyN ka] at hl2 ⊢
    exact atoms_back hs hl2 dd' (put_atoms pr rv)
end

/-! ### new ones -/
section
variable {X : Cx} {Γ : List Bd} {pos : Pos} {P : Po}
theorem dn_new : DN X Γ (.Dict [] [] pos) [] := fun B => ⟨fun pins s σ H Q I h => by
  obtain ⟨F, A, k⟩ := h
  have hn : H s.heap.objs.size = none := I.hok.fresh (Nat.le_refl _)
  have hg : (s.heap.push { cls := .type "dict", data := .dict #[] }).get? s.heap.objs.size = some { cls := .type "dict", data := .dict #[] } := Heap.get?_push_size _ rfl
  have dk : DictOk X.w s.heap.objs.size { cls := .type "dict", data := .dict #[] } [] := by
    refine ⟨?_, Nat.zero_le _, List.nodup_nil, fun x hx => (by cases hx), ⟨rfl, rfl, rfl⟩, #[], 0, rfl, .nil⟩
    have := I.big
    exact beq_false_of_ne (Nat.ne_of_gt this)
  refine wpAny_Dict_empty ⟨.ref s.heap.objs.size, upd H s.heap.objs.size (DictO X.w s.heap.objs.size { cls := .type "dict", data := .dict #[] } []), I.laid (t' := s.toks) (fun _ _ q => Heap.get?_push_of_some _ q) (Nat.le_refl _) (dictO_new hg dk), rfl, ?_⟩
  exact k _ F _ (Sub.refl F) (Sub.new hn) (A.lay0 hn) (A.fh.free hn) (A.h0.free hn) ⟨_, [], [], upd_same, .nil, .nil, rfl⟩ (A.loose hn)⟩
/-- name[k] = v, a dict of one's own -/
theorem ds_dput {κ : Type} [DecidableEq κ] [Datum κ] [DKey κ] {n : Nat} {x' : Str} {ix e : Expr} {m : List (κ × PyData)} {k : κ} {d : PyData} {p1 cp : Pos} (hu : X.A.units + 200 < cLine) (hx : VarAt X n x') (hΓ : Γ[n]? = some (.od (kvD m))) (h : DE X Γ e d) (hi : DE X Γ ix (Datum.toD k)) (hz : m.length < 4000) (hp : P.nx (Γ.set n (.od (kvD (putM m k d)))))
    (hd : Datum.depth κ ≤ 8 := by decide)
    (ha : ∀ v, assign (.Subscript (.Name x' p1) ix cp) X.env v = (do
      let ov ← holding [v] (eval (.Name x' p1) X.env)
      let iv ← holding [v, ov] (eval ix X.env)
      standAt cp
      holding [v, ov, iv] (setItem ov iv v)
      release [v, ov, iv] []) := by intro _; rfl)
    (hs : swapsWithSole [.Subscript (.Name x' p1) ix cp] e pos.line X.env = pure false := by rfl) (hw : swappedStores [.Subscript (.Name x' p1) ix cp] e X.env = pure none := by rfl) (h1 : (assignEach [.Subscript (.Name x' p1) ix cp] X.env).map (·.2) = [assign (.Subscript (.Name x' p1) ix cp) X.env] := by rfl) :
    DS X Γ (.Assign [.Subscript (.Name x' p1) ix cp] e pos) P := fun B =>
  ps_imp (ps_asg (h B) (pg_sub hx.pe (hi B) (set_dictT (κ := κ) hu) ha) hs hw h1) fun D σ H ⟨F, A, k', _⟩ => ⟨F, A, fun v F1 H1 s1 t1 A1 r1 => by
    obtain ⟨a, g1, g2, g3, g4⟩ := A1.sl n _ hΓ
    refine ⟨_, g1, F1, A1, fun iv F2 H2 s2 t2 A2 r2 => ?_⟩
    obtain ⟨a', g1', g2', g3', g4'⟩ := A2.sl n _ hΓ
    rw [g1] at g1'
    cases g1'
    exact ⟨a, F2, m, k, d, rfl, A2.fh, g2', g4', r2, r1.mono s2, hz, hd, fun ob hdi => k' _ F2 σ _ hp (A2.chD hΓ rfl g1 hdi)⟩⟩
end

/-! ### the raw dict -/
section
variable {X : Cx} {pins : List (Addr × Obj)} {σ : L2.St} {H F : Hp} {s : Shared} {κ : Type} [DecidableEq κ] [Datum κ]
theorem dict_raw {a : Addr} {o : Obj} {xs : List (NestedKey × V × V)} (I : Inv X pins σ H s) (ha : H a = some (DictO X.w a o xs)) : ∃ es ep, s.heap.DictRaw a es ep ∧ (a == sysModules) = false ∧ es.size = xs.length ∧ es.size ≤ sizeLine ∧
    Vals (xs.map fun x => x.2.1) (es.toList.map (·.key)) ∧ Vals (xs.map fun x => x.2.2) (es.toList.map (·.val)) := by
  obtain ⟨ho, hs, hz, nd, hd, hx, es, ep, hdt, pr⟩ := dictO_get I ha
  have hl : es.size = xs.length := by rw [← Array.length_toList, ← paired_len pr]
  refine ⟨es, ep, ⟨o, ho, hx, hdt⟩, hs, hl, by omega, ?_, ?_⟩
  · generalize es.toList = el at pr
    clear hl hdt hd nd hz ha ho
    induction pr with
    | nil => exact .nil
    | cons g _ ih => exact .cons g.2.1 ih
  · generalize es.toList = el at pr
    clear hl hdt hd nd hz ha ho
    induction pr with
    | nil => exact .nil
    | cons g _ ih => exact .cons g.2.2 ih
/-- all items of a walk -/
theorem items_eq {α : Type} {Pv : Nat → Value → Prop} {acc : Array Value} {es : Array α} {f : α → Value} (h : ItemsOf Pv acc es.size) (hP : ∀ i v, Pv i v → ∃ hi : i < es.size, v = f es[i]) : acc.toList = es.toList.map f := by
  refine items_out (out := es.toList.map f) (by rw [List.length_map, Array.length_toList]; exact h) fun j v hj => ?_
  obtain ⟨hi, e⟩ := hP j v hj
  rw [List.getElem?_map, Array.getElem?_toList, Array.getElem?_eq_getElem hi, e]
  rfl
end
section
variable {P : Program} {w : World} {A : Around} {E : Value → Shared → Prop} {s : Shared} {T : String} {r d : Addr} {n : Nat} {Pv : Nat → Value → Prop} {OK : Heap → Prop}
/-- all that is walked, and the heap has grown -/
theorem collect_src {R : List Value → Shared → Prop} (src : PySem.W.KdlSrc P w T r d n Pv OK) (hh : A.handled = none) (hok : OK s.heap) (hn : n ≤ sizeLine)
    (h : ∀ (h' : Heap) (tk : Nat) (acc : Array Value), (∀ b o, s.heap.get? b = some o → h'.get? b = some o) → s.heap.objs.size ≤ h'.objs.size → ItemsOf Pv acc n → R acc.toList { s with heap := h', toks := tk }) : wpAny (model P w) A (collect (.ref r)) R E s := by
  have there := src.there _ hok
  unfold collect
  refine wpAny_bind (wpAny_runValue (codeAny_builtin entry_proto_collect' ?_))
  rw [Around.under_plainId PySem.F.plain_proto_collect _]
  show wpAny (model P w) A.in1 (newList [] >>= fun l => again (.builtin "list.__iadd__" ⟨[l, .ref r], []⟩)) _ _ s
  refine wpAny_bind (wpAny_newObj_type (wpAny_pure ⟨plainId_quiet PySem.F.plain_list_iadd _, codeAny_builtin entry_list_iadd' ?_⟩))
  rw [Around.under_plainId PySem.F.plain_list_iadd _]
  have g0 : (s.heap.push { cls := .type "list", data := .seq ([] : List Value).toArray }).get? s.heap.objs.size = some { cls := .type "list", data := .seq #[] } := Heap.get?_push_size _ rfl
  show wpAny (model P w) A.in1 (Builtin.List.listExtendWith (.ref s.heap.objs.size) (.ref r) (.ref s.heap.objs.size)) _ _ _
  have main := PySem.W.kdl_extend (A := A) (s := { s with heap := s.heap.push { cls := .type "list", data := .seq ([] : List Value).toArray } })
    (R := fun (q : Result) (s' : Shared) => ∃ (h' : Heap) (tk : Nat) (acc' : Array Value) (c' : Nat), q = .ok (.ret (.ref s.heap.objs.size)) ∧ s' = { s with heap := h', toks := tk } ∧
      (∀ b o, s.heap.get? b = some o → h'.get? b = some o) ∧ h'.get? s.heap.objs.size = some { cls := .type "list", dict := none, data := .seq acc' c', slots := #[] } ∧ ItemsOf Pv acc' n)
    src hh (src.keep _ _ hok fun b _ o e => Heap.get?_push_of_some _ e) s.heap.objs.size (Nat.ne_of_gt there.1) (Nat.ne_of_gt there.2) (.ref s.heap.objs.size) 0 g0
    (fun h' tk acc' c' hk g1 hacc => ⟨h', tk, acc', c', rfl, rfl, fun b o e => hk b o (Nat.ne_of_lt (Heap.lt_size e)) (Heap.get?_push_of_some _ e), g1, hacc⟩) hn
  refine wpAny_mono main (fun fin s' x => ?_) fun e s' x => by obtain ⟨_, _, _, _, z, _⟩ := x; cases z
  cases fin with
  | done f =>
    obtain ⟨h', tk, acc', c', e, rfl, hk, g1, hacc⟩ := x
    cases e
    show wpAny (model P w) A (load s.heap.objs.size >>= _) _ _ _
    exact wpAny_bind (wpAny_load g1 (wpAny_pure (h h' tk acc' hk (Nat.le_of_lt (Heap.lt_size g1)) hacc)))
  | again c₁ =>
    refine ⟨x.1, codeAny_mono x.2 fun q s₂ y => ?_⟩
    obtain ⟨h', tk, acc', c', rfl, rfl, hk, g1, hacc⟩ := y
    show wpAny (model P w) A (load s.heap.objs.size >>= _) _ _ _
    exact wpAny_bind (wpAny_load g1 (wpAny_pure (h h' tk acc' hk (Nat.le_of_lt (Heap.lt_size g1)) hacc)))
end
section
variable {X : Cx} {pins : List (Addr × Obj)} {σ : L2.St} {H F : Hp} {s : Shared} {κ : Type} [DecidableEq κ] [Datum κ]
/-- sorted(d) -/
def rSortDT (P : Program) (w : World) (K : PySem.W.Frag) (κ : Type) [DecidableEq κ] [DatumOrd κ] [DKey κ] : List V → Hp → VK → Prop := fun vs H Q => ∃ (a : Addr) (F : Hp) (m : List (κ × PyData)), vs = [.ref a] ∧ Sub F H ∧ DictIn P w K F H a (kvD m) ∧
  PySem.W.Sortable (m.map fun p => Datum.toD p.1) ∧ Datum.depth κ ≤ 64 ∧ ∀ zs p, RepL P w K F zs ((srt (m.map (·.1))).map Datum.toD) → H p = none → Q (.ref p) (upd H p (.lst zs))
end
theorem cr_sortDT {X : Cx} {κ : Type} [DecidableEq κ] [DatumOrd κ] [DKey κ] (hc : X.calm = true) (hu : X.A.units + 200 < cLine) : CallR X (.builtin "sorted") (rSortDT X.prog X.w X.K κ) := by
  intro pins s σ H vs us Q I r h
  obtain ⟨a, F, m, rfl, hF, hd, hk, hz, q⟩ := h
  obtain ⟨o, xs, ha, e1, r1, r2⟩ := hd.typed
  obtain ⟨es, ep, raw, hs, hl, hsz, vk, vv⟩ := dict_raw I ha
  rw [Vals.ref1 r]
  have e2 : (m.map fun p => Datum.toD p.1) = (m.map (·.1)).map Datum.toD := by rw [List.map_map]; rfl
  rw [e2] at r1 hk
  have ee := each_of (f := Datum.toD) vk r1
  have elen : (m.map (·.1)).length = es.size := by rw [← ee.length, List.length_map, Array.length_toList]
  refine sorted_got (bs := m.map (·.1)) (enc := Datum.toD) (R := fun u b => ∃ x, RelV x u ∧ Rep X.prog X.w X.K F x (Datum.toD b)) (fun E' Q' k => ?_) (fun v b h' ⟨x, q1, q2⟩ k => ?_) (PySem.W.AllAlike.of fun b b' => DatumOrd.alike b b') hk (by rw [elen]; exact hsz) (fun b _ => ?_) fun out cs s1 p c pm eo k g1 o1 hp hp2 => ?_
  · refine collect_src (KdlSrc.rawDict hs) (I.ok.hd hc) raw hsz fun h' tk acc hk hsz2 hacc => k _ _ hk hsz2 rfl rfl ?_
    rw [items_eq (f := fun e => e.key) hacc fun i v hv => hv]
    exact ⟨_, List.Perm.refl _, ee⟩
  · obtain ⟨as, q3⟩ := Dp.reads I _ x v ((q2.mono hF).dp (Datum.plain _)) q1
    exact ⟨as, PyProof.Rows.Reads.keeps k q3⟩
  · have := Datum.depth_le b
    omega
  · obtain ⟨zs, q1, q2⟩ := of_each (f := Datum.toD) eo
    rw [le_toD] at q2
    have q3 : RepL X.prog X.w X.K F zs ((srt (m.map (·.1))).map Datum.toD) := by
      rw [← srt_eq pm]; exact q2
    have hl2 : zs.length ≤ sizeLine := by rw [q3.length, List.length_map, (srt_perm _).length_eq, elen]; exact hsz
    have hn : H p = none := I.hok.fresh hp
    have J : Inv X pins σ (upd H p (.lst zs)) { s with heap := s1.heap, gens := s1.gens, drawn := s1.drawn, toks := s1.toks } :=
      I.call (ch := []) (Un.laid k hp hn) (I.hok.laid k hp ⟨hl2, out, c, q1, hp2⟩) (by rw [g1]; exact I.bare) (fun _ z => nomatch z)
    have e : s1 = { s with heap := s1.heap, gens := s1.gens, drawn := s1.drawn, toks := s1.toks } := by
      cases s1; cases s; cases o1; rfl
    rw [e]
    exact ⟨.ref p, _, J, rfl, q zs p q3 hn⟩
section
variable {X : Cx} {Γ : List Bd} {a : Expr} {pos p1 : Pos}
theorem dl_sortedD {κ : Type} [DecidableEq κ] [DatumOrd κ] [DKey κ] {m : List (κ × PyData)} (hc : X.calm = true) (hu : X.A.units + 200 < cLine) (hg : Gl X "sorted") (hm : X.mg "sorted" = none) (ha : DM X Γ a (kvD m)) (hk : PySem.W.Sortable (m.map fun p => Datum.toD p.1))
    (hd : Datum.depth κ ≤ 64 := by decide) (he : starEach [a] X.env = [(false, eval a X.env)] := by rfl) : DL X Γ (.Call (.Name "sorted" p1) [a] [] pos) ((srt (m.map (·.1))).map Datum.toD) := fun B =>
  pe_imp (pe_callB (cr_sortDT (κ := κ) hc hu) hg hm boot_sorted' (pa_cons (ha B) pa_nil he) (he := he) (hpl := rfl)) fun σ H Q ⟨F, A, k⟩ => ⟨F, A, fun a F1 H1 s1 t1 A1 hdi =>
    ⟨a, F1, m, rfl, A1.fh, hdi, hk, hd, fun zs p rz hp => k p zs F1 _ s1 (t1.trans (Sub.new hp)) (A1.lay0 hp) (A1.fh.free hp) (A1.h0.free hp) upd_same rz (A1.loose hp)⟩⟩
end
end PH

set_option Elab.async false
set_option linter.all false
set_option maxRecDepth 100000
set_option maxHeartbeats 4000000
/-! P19: enumerate(d), for k in d, d a dict that no one changes. -/
namespace PH
open PySem PySem.Spec PyProof.Rows L2
open PySem.W (Datum DatumOrd Tup)

section
variable {P : Program} {w : World} {A : Around} {E : Value → Shared → Prop} {s : Shared}
/-- next of a dict's keys, called by itself -/
theorem nextOf_key {it d : Addr} {i ep : Nat} {es : Array DictEntry} {Q : Value → Shared → Prop} (hit : s.heap.IsKeyIter it d i es.size ep) (hm : s.heap.DictRaw d es ep) (hlt : i < es.size)
    (hQ : ∀ h', h'.IsKeyIter it d (i + 1) es.size ep → Heap.SameBut it s.heap h' → Q es[i].key { s with heap := h' }) : wpAny (model P w) A (Builtin.SmallTypes.nextOf (.ref it)) Q E s := by
  obtain ⟨o, ho, hc, hd⟩ := id hit
  obtain ⟨od, hod, hcd, hdd⟩ := id hm
  unfold Builtin.SmallTypes.nextOf
  refine wpAny_bind (wpAny_callSpecial?_slot (name := Str.ofString "__next__") hit.typeIs PySem.F.slot_dict_keyiterator_next
    (wpAny_call_entry PySem.F.slot_dict_keyiterator_next hit.typeIs PySem.F.entry_dict_keyiterator_next ?_ (PySem.F.args_dict_keyiterator_next_1 _)))
  refine wpAny_bind (wpAny_pure ?_)
  refine wpAny_bind ?_
  refine wpAny_bind ?_
  first | refine wpAny_bind (wpAny_typeNameOfWhole_keyiter hit.typeIs (wpAny_pure ?_)) | refine wpAny_bind (wpAny_typeNameOf_keyiter hit.typeIs (wpAny_pure ?_))
  refine wpAny_bind (wpAny_fieldsOf ho hd ?_)
  have own : Builtin.Dict_items.ownsTuple "dict_keyiterator" = false := by decide
  simp only [own, Bool.false_eq_true, if_false]
  show wpAny (model P w) _ (if (Value.ref d == Value.none) = true then _ else _) _ _ s
  rw [if_neg (show ¬ ((Value.ref d == Value.none) = true) from Bool.false_ne_true)]
  refine wpAny_bind (wpAny_pure ?_)
  refine wpAny_bind (wpAny_dictEntries hod hdd ?_)
  rw [if_neg (by simp)]
  refine wpAny_bind (wpAny_pure ?_)
  refine wpAny_bind (wpAny_dictEpoch hod hdd ?_)
  rw [if_neg (by simp)]
  refine wpAny_pure ?_
  simp only [show ¬ ((i : Int) < 0) from by omega, if_false, Int.toNat_natCast, Array.getElem?_eq_getElem hlt]
  refine wpAny_bind ?_
  first | refine wpAny_bind (wpAny_typeNameOfWhole_keyiter hit.typeIs (wpAny_pure ?_)) | refine wpAny_bind (wpAny_typeNameOf_keyiter hit.typeIs (wpAny_pure ?_))
  refine wpAny_bind (wpAny_isOneOf_keyiter hit.typeIs ?_)
  show wpAny (model P w) _ (setField (.ref it) 1 (rawInt ((i : Int) + 1)) >>= _) _ _ s
  refine wpAny_bind (wpAny_setField ho hd (by simp) ?_)
  have hit2 : (s.heap.update it (Obj.mapFields (·.setIfInBounds 1 (rawInt ((i : Int) + 1))))).IsKeyIter it d (i + 1) es.size ep :=
    ⟨_, Heap.get?_update_self _ ho (Obj.isFreed_of_fields (Obj.data_mapFields hd _)), (Obj.cls_mapFields ..).trans hc, by rw [Obj.data_mapFields hd]; simp [rawInt]⟩
  refine wpAny_bind (wpAny_holding ?_)
  refine wpAny_bind (wpAny_isOneOf_keyiter (s := { s with heap := s.heap.update it (Obj.mapFields (·.setIfInBounds 1 (rawInt ((i : Int) + 1)))) }) hit2.typeIs ?_)
  show wpAny (model P w) _ (pure es[i].key) _ _ _
  exact wpAny_pure (wpAny_pure ⟨_, rfl, wpAny_pure (hQ _ hit2 (Heap.SameBut.update ..))⟩)
theorem nextOf_key_end {it d : Addr} {i ep : Nat} {es : Array DictEntry} {Q : Value → Shared → Prop} (hh : A.handled = none) (hit : s.heap.IsKeyIter it d i es.size ep) (hm : s.heap.DictRaw d es ep) (hge : es.size ≤ i)
    (hE : ∀ h' e, Heap.ExtBut it s.heap h' → (∃ o, h'.get? e = some o ∧ o.cls = .type "StopIteration") → E (.ref e) { s with heap := h' }) : wpAny (model P w) A (Builtin.SmallTypes.nextOf (.ref it)) Q E s := by
  obtain ⟨o, ho, hc, hd⟩ := id hit
  obtain ⟨od, hod, hcd, hdd⟩ := id hm
  unfold Builtin.SmallTypes.nextOf
  refine wpAny_bind (wpAny_callSpecial?_slot (name := Str.ofString "__next__") hit.typeIs PySem.F.slot_dict_keyiterator_next
    (wpAny_call_entry PySem.F.slot_dict_keyiterator_next hit.typeIs PySem.F.entry_dict_keyiterator_next ?_ (PySem.F.args_dict_keyiterator_next_1 _)))
  refine wpAny_bind (wpAny_pure ?_)
  refine wpAny_bind ?_
  refine wpAny_bind ?_
  first | refine wpAny_bind (wpAny_typeNameOfWhole_keyiter hit.typeIs (wpAny_pure ?_)) | refine wpAny_bind (wpAny_typeNameOf_keyiter hit.typeIs (wpAny_pure ?_))
  refine wpAny_bind (wpAny_fieldsOf ho hd ?_)
  have own : Builtin.Dict_items.ownsTuple "dict_keyiterator" = false := by decide
  simp only [own, Bool.false_eq_true, if_false]
  show wpAny (model P w) _ (if (Value.ref d == Value.none) = true then _ else _) _ _ s
  rw [if_neg (show ¬ ((Value.ref d == Value.none) = true) from Bool.false_ne_true)]
  refine wpAny_bind (wpAny_pure ?_)
  refine wpAny_bind (wpAny_dictEntries hod hdd ?_)
  rw [if_neg (by simp)]
  refine wpAny_bind (wpAny_pure ?_)
  refine wpAny_bind (wpAny_dictEpoch hod hdd ?_)
  rw [if_neg (by simp)]
  refine wpAny_pure ?_
  simp only [show ¬ ((i : Int) < 0) from by omega, if_false, Int.toNat_natCast, Array.getElem?_eq_none hge]
  refine wpAny_bind ?_
  first | refine wpAny_bind (wpAny_typeNameOfWhole_keyiter hit.typeIs (wpAny_pure ?_)) | refine wpAny_bind (wpAny_typeNameOf_keyiter hit.typeIs (wpAny_pure ?_))
  show wpAny (model P w) _ (setField (.ref it) 0 .none >>= _) _ _ s
  refine wpAny_bind (wpAny_setField ho hd (by simp) ?_)
  show wpAny (model P w) _ (newExc (.type "StopIteration") [] >>= _) _ _ _
  refine wpAny_bind ?_
  simp only [newExc, newTuple]
  refine wpAny_bind (wpAny_newObj_type ?_ (by size_fits))
  refine wpAny_bind (m := firstArgMember _ _) (wpAny_of_eq (a := Value.none) (by first | rfl | (simp only [firstArgMember]; rfl)) ?_)
  refine wpAny_newObj_type ?_ (by size_fits)
  simp only [raiseNew]
  refine wpAny_bind (wpAny_handled ?_)
  first | rw [show A.in1.handled = none from hh] | rw [hh]
  refine wpAny_bind (wpAny_pure (wpAny_throw ?_))
  exact hE _ _ (((Heap.SameBut.update ..).extBut.push _).push _) ⟨_, Heap.get?_push_size _ rfl, rfl⟩
end
theorem draws_keys {P : Program} {w : World} {A : Around} (hh : A.handled = none) (it d : Addr) (hne : d ≠ it) (es : Array DictEntry) (ep : Nat) :
    Draws P w A it [it, d] es.size (fun i v => ∃ hi : i < es.size, v = es[i].key) (fun i h => h.IsKeyIter it d i es.size ep ∧ h.DictRaw d es ep) where
  live := fun _ _ st => let ⟨o, ho, _⟩ := st.1; ⟨o, ho⟩
  frame := fun _ _ _ st hk => ⟨st.1.at fun o e => hk it (by simp) o e, st.2.at fun o e => hk d (by simp) o e⟩
  item := fun i s Q E hi st hQ => nextOf_key st.1 st.2 hi fun h' hit' hs' => hQ _ h' s.toks ⟨hi, rfl⟩ ⟨hit', st.2.at fun o e => hs'.extBut d o hne e⟩ hs'
  done := fun s Q E st hE => nextOf_key_end hh st.1 st.2 (Nat.le_refl _) hE

/-! ### enumerate(d) begins -/
theorem begins_keys {d : Addr} (hd : (d == sysModules) = false) (es : Array DictEntry) (ep : Nat) : Begins (.ref d) { cls := .type "dict_keyiterator", data := .fields #[.ref d, .int 0 0, .int es.size 0, .int ep 0] } (fun h => h.DictRaw d es ep) where
  iter := fun prog w A E s Q hm h => wpAny_pyIter_dict_raw hd hm h
  keeps := fun h h' x hk => x.at fun o e => hk d o e
  free := rfl
set_option maxHeartbeats 8000000 in
theorem meets_enum1 {v : Value} {o : Obj} {H : Heap → Prop} (B : Begins v o H) :
    Meets (Builtin.«enumerate.__new__» ⟨[.type "enumerate", v], []⟩) (fun _ R s => H s.heap ∧
      R (.ok (.ret (.ref (s.heap.push o).objs.size))) { s with heap := (s.heap.push o).push { cls := .type "enumerate", data := .fields #[.none, .bool false, .ref s.heap.objs.size, rawInt 0, .none, .none] } }) :=
  .of_wp fun prog w A R s h => by
    obtain ⟨hp, g, d, tk, os⟩ := s; obtain ⟨h1, h⟩ := h
    have hsub := sub_enumerate
    have q1 : ∀ {A' : Around} {E : Value → Shared → Prop} {Q : Value → Shared → Prop}, Q (.ref hp.objs.size) ⟨hp.push o, g, d, tk, os⟩ → wpAny (model prog w) A' (pyIter v) Q E ⟨hp, g, d, tk, os⟩ :=
      fun q => B.iter prog w _ _ ⟨hp, g, d, tk, os⟩ _ h1 q
    wp_walk using q1
    refine wpAny_stack_any fun st => wpAny_pure ?_
    split
    · rename_i c _ _ _ _ _
      cases (c == Value.type "enumerate")
      · wp_walk using q1
        exact ⟨_, rfl, h⟩
      · wp_walk using q1
        exact ⟨_, rfl, h⟩
    · wp_walk using q1
      exact ⟨_, rfl, h⟩
section
variable {P : Program} {w : World} {A : Around} {E : Value → Shared → Prop} {s : Shared}
theorem call_enum1 {v : Value} {o : Obj} {H : Heap → Prop} {Q : Value → Shared → Prop} (B : Begins v o H) (h1 : H s.heap)
    (h : ∀ h', IsEnum h' (s.heap.objs.size + 1) s.heap.objs.size 0 .none → h'.get? s.heap.objs.size = some o → (∀ b o, s.heap.get? b = some o → h'.get? b = some o) → Q (.ref (s.heap.objs.size + 1)) { s with heap := h' }) :
    wpAny (model P w) A (call (.type "enumerate") [v]) Q E s := by
  refine callType_new PySem.F.called_enumerate (by decide) (PySem.F.typeCall_enumerate_1 _) (PySem.F.newCall_enumerate_1 _) (fun obj => PySem.F.args_object_init_2 obj _) PySem.F.entry_enumerate_new (meets_enum1 B) ⟨h1, ?_⟩
  have hz : (s.heap.push o).objs.size = s.heap.objs.size + 1 := Heap.size_push ..
  show _ ∧ _
  rw [hz]
  have he : IsEnum ((s.heap.push o).push { cls := .type "enumerate", data := .fields #[.none, .bool false, .ref s.heap.objs.size, rawInt 0, .none, .none] }) (s.heap.objs.size + 1) s.heap.objs.size 0 .none := by
    have q := Heap.get?_push_size (s.heap.push o) (o := { cls := .type "enumerate", data := .fields #[.none, .bool false, .ref s.heap.objs.size, rawInt 0, .none, .none] }) rfl
    rw [hz] at q; exact q
  exact ⟨⟨_, he, rfl⟩, h _ he (Heap.get?_push_of_some _ (Heap.get?_push_size _ B.free)) fun b o x => Heap.get?_push_of_some _ (Heap.get?_push_of_some _ x)⟩
end

/-! ### what is walked -/
/-- the keys, each in a new pair with its number -/
def ItEnD (w : World) (a : Addr) (o : Obj) (xs : List (NestedKey × V × V)) : It :=
  ⟨fun i H => H a = some (DictO w a o xs) ∧ i < xs.length, fun i H v H' => ∃ T x, v = .ref T ∧ H T = none ∧ H' = upd H T (.tup [.int (i : Nat), x]) ∧ (xs[i]?).map (·.2.1) = some x, fun i H => H a = some (DictO w a o xs) ∧ i = xs.length⟩
def ItKeyD (w : World) (a : Addr) (o : Obj) (xs : List (NestedKey × V × V)) : It :=
  ⟨fun i H => H a = some (DictO w a o xs) ∧ i < xs.length, fun i H v H' => H' = H ∧ (xs[i]?).map (·.2.1) = some v, fun i H => H a = some (DictO w a o xs) ∧ i = xs.length⟩
section
variable {P : Program} {w : World} {K : PySem.W.Frag} {tg : Expr} {a : Addr} {o : Obj} {xs : List (NestedKey × V × V)} {es : Array DictEntry} {ep : Nat}
theorem raw_same {X : Cx} {pins : List (Addr × Obj)} {σ : L2.St} {H : Hp} {s : Shared} (I : Inv X pins σ H s) (ha : H a = some (DictO X.w a o xs)) (hod : o.data = .dict es ep) : s.heap.DictRaw a es ep ∧ es.size = xs.length ∧ Vals (xs.map fun x => x.2.1) (es.toList.map (·.key)) := by
  obtain ⟨es', ep', raw, _, h1, _, h3, _⟩ := dict_raw I ha
  obtain ⟨ho, _⟩ := dictO_get I ha
  obtain ⟨o', ho', hx, hd⟩ := raw
  rw [ho] at ho'
  cases ho'
  rw [hod] at hd
  injection hd with e1 e2
  subst e1; subst e2
  exact ⟨⟨o, ho, hx, hod⟩, h1, h3⟩
theorem turn_enD {elts : List Expr} {kk : Nat} {tpos : Pos} (e it : Addr) (hod : o.data = .dict es ep) (hit0 : a ≠ it) (hea : a ≠ e) :
    Turn P w K (.Tuple elts kk tpos) (ItEnD w a o xs) [e, it] e (fun i h => (∃ old, IsEnum h e it ((i : Nat) : Int) old) ∧ h.IsKeyIter it a i xs.length ep ∧ e ≠ it) where
  mem := by simp
  obj := fun i h st b hb => by
    obtain ⟨⟨old, he⟩, ⟨oi, ho, hc, hd⟩, _⟩ := st
    rcases (show b = e ∨ b = it by simpa using hb) with z | z
    · rw [z]; exact ⟨_, he, fun v q => nomatch q⟩
    · rw [z]; exact ⟨oi, ho, fun v q => by rw [hd] at q; cases q⟩
  keep := fun i h h' st k => let ⟨⟨old, he⟩, hi, hne⟩ := st; ⟨⟨old, k e (by simp) _ he⟩, hi.at fun o q => k it (by simp) o q, hne⟩
  item := by
    intro X hP hw hK hc i pins s σ H E I hf st hg
    subst hP hw hK
    obtain ⟨⟨old, he⟩, hit, hne⟩ := st
    obtain ⟨hd, hi⟩ := hg
    obtain ⟨raw, hsz, vk⟩ := raw_same I hd hod
    have hel : e < s.heap.objs.size := Heap.lt_size he
    have hil : it < s.heap.objs.size := by obtain ⟨_, q, _⟩ := hit; exact Heap.lt_size q
    rw [← hsz] at hit
    have hef : e ∉ [it, a] := by
      rw [List.mem_cons, List.mem_singleton, not_or]
      exact ⟨hne, fun z => hea z.symm⟩
    refine wpAny_pyNext_enum_itemD (draws_keys (P := X.prog) (w := X.w) (A := X.A.in1) (by simp [I.ok.hd hc]) it a hit0 es ep) he ⟨hit, raw⟩ (by omega) hne hef fun u h' tk hu ho hit' hT hsz2 hk => ?_
    obtain ⟨hi2, eu⟩ := hu
    obtain ⟨kx, hkx, rk⟩ : ∃ kx, (xs[i]?).map (·.2.1) = some kx ∧ RelV kx u := by
      have hx : (xs.map fun x => x.2.1)[i]? = some (xs[i].2.1) := by rw [List.getElem?_map, List.getElem?_eq_getElem hi]; rfl
      obtain ⟨u', hu', ru⟩ := vk.get hx
      rw [List.getElem?_map, Array.getElem?_toList, Array.getElem?_eq_getElem hi2] at hu'
      refine ⟨_, by rw [List.getElem?_eq_getElem hi]; rfl, ?_⟩
      have e2 : u = u' := eu.trans (Option.some.inj hu')
      rw [e2]; exact ru
    refine ⟨_, rfl, wpAny_letOwnedTupleGo_enum (s := { s with heap := h', toks := tk + 1 }) ho fun h2 he2 sb => ?_⟩
    have hT2 : h2.get? s.heap.objs.size = some { cls := .type "tuple", data := .seq #[.int i tk, u] } := (sb.2 _ (Nat.ne_of_gt hel)).trans hT
    have new : ObjOk X.prog X.w (upd H s.heap.objs.size (.tup [.int (i : Nat), kx])) h2 s.heap.objs.size (.tup [.int (i : Nat), kx]) :=
      ⟨by show 2 ≤ sizeLine; decide, [.int i tk, u], .cons ⟨_, rfl⟩ (.cons rk .nil), ⟨_, hT2, rfl, _, rfl⟩⟩
    have I1 : Inv X pins σ (upd H s.heap.objs.size (.tup [.int (i : Nat), kx])) { s with heap := h2, toks := tk + 1 } :=
      I.turnedNew (ch := [e, it]) (fun b ob hb q => (sb.2 b (fun z => hb (by simp [z]))).trans (hk b ob (fun z => hb (by simp [z])) (fun z => hb (by simp [z])) q)) hf (Nat.le_refl _) new
    refine ⟨.ref s.heap.objs.size, _, I1, rfl, ⟨_, kx, rfl, I.hok.fresh (Nat.le_refl _), rfl, hkx⟩, ⟨⟨u, ?_⟩, ?_, hne⟩, fun b hb => ?_⟩
    · have e1 : ((i + 1 : Nat) : Int) = (i : Int) + 1 := by omega
      rw [e1]; exact he2
    · have z := hit'.1.at fun o q => (sb.2 it (Ne.symm hne)).trans q
      rw [hsz] at z
      exact z
    · have hb' : b < s.heap.objs.size := by
        rcases (show b = e ∨ b = it by simpa using hb) with z | z
        · rw [z]; exact hel
        · rw [z]; exact hil
      rw [upd_ne (Nat.ne_of_lt hb')]
      exact (hf b hb).1
  done := by
    intro X hP hw hK hc i pins s σ H E I hf st hg
    subst hP hw hK
    obtain ⟨⟨old, he⟩, hit, hne⟩ := st
    obtain ⟨hd, hi⟩ := hg
    obtain ⟨raw, hsz, vk⟩ := raw_same I hd hod
    obtain ⟨f0, f1, f2, f3, f4, f5⟩ := hf it (by simp)
    rw [← hsz] at hit
    have ei : i = es.size := by omega
    subst ei
    exact wpAny_pyNext_enum_endD (draws_keys (P := X.prog) (w := X.w) (A := X.A.in1) (by simp [I.ok.hd hc]) it a hit0 es ep) he ⟨hit, raw⟩ fun h' eb => ⟨rfl, I.turned (t' := s.toks) (fun b o hb q => eb b o hb q) f0 f1 f3 f4 f5⟩
  self := fun A i s Q E st h => let ⟨⟨_, he⟩, _⟩ := st; wpAny_pyIter_enum he h
end
def iEnD (w : World) (ta : TA) : TI := fun σ H R => ta σ H fun vs H1 => ∃ a o xs, vs = [.ref a] ∧ H1 a = some (DictO w a o xs) ∧ R (ItEnD w a o xs) H1
theorem pi_enD {X : Cx} {e : Expr} {ta : TA} {p pos tpos : Pos} {elts : List Expr} {kk : Nat} (hg : Gl X "enumerate") (hm : X.mg "enumerate" = none) (ha : PA X [e] ta) (hs : starEach [e] X.env = [(false, eval e X.env)] := by rfl) :
    PI X (.Tuple elts kk tpos) (.Call (.Name "enumerate" p) [e] [] pos) (iEnD X.w ta) := by
  refine ⟨fun pins s σ H R I h => ?_⟩
  refine Call_ (ld_blt I hg hm boot_enumerate (PyProof.Rows.callWith_type1 (thn (ha.run pos pins s σ H _ I h) fun us s1 ⟨vs, H1, I1, r1, q1⟩ => ?_) hs rfl))
  obtain ⟨a, o, xs, ex, hd, q⟩ := q1
  subst ex
  cases r1 with
  | cons r rr =>
    cases rr
    cases r
    obtain ⟨es, ep, raw, hsy, hl, hsz, _⟩ := dict_raw I1 hd
    obtain ⟨o', ho', hx, hod⟩ := id raw
    obtain ⟨ho, _⟩ := dictO_get I1 hd
    rw [ho] at ho'
    cases ho'
    have hlt : a < s1.heap.objs.size := Heap.lt_size ho
    refine call_enum1 (begins_keys hsy es ep) raw fun h' he hit hk => wpAny_pyIter_enum he ?_
    have I2 : Inv X pins σ H1 { s1 with heap := h' } := I1.kept (t' := s1.toks) hk
    have hit2 : h'.IsKeyIter s1.heap.objs.size a 0 xs.length ep := ⟨_, hit, rfl, by rw [← hl]; rfl⟩
    refine ⟨s1.heap.objs.size + 1, [s1.heap.objs.size + 1, s1.heap.objs.size], _, _, H1, rfl, I2, turn_enD (s1.heap.objs.size + 1) s1.heap.objs.size hod (Nat.ne_of_lt hlt) (Nat.ne_of_lt (Nat.lt_succ_of_lt hlt)), ⟨⟨.none, he⟩, hit2, Nat.succ_ne_self _⟩, fun b hb => ?_, q⟩
    have hle : s1.heap.objs.size ≤ b := by
      rcases (show b = s1.heap.objs.size + 1 ∨ b = s1.heap.objs.size by simpa using hb) with z | z
      · rw [z]; exact Nat.le_add_right _ _
      · rw [z]; exact Nat.le_refl _
    exact I1.fpOk hle (I1.hok.fresh hle)
section
variable {X : Cx} {Γ : List Bd} {a : Expr} {pos p1 tpos : Pos} {F : Hp}
theorem steps_enD {l : Addr} {o : Obj} {xs : List (NestedKey × V × V)} {ds : List PyData} (hl : F l = some (DictO X.w l o xs)) (r : RpL X F (xs.map fun x => x.2.1) ds) : Steps X (ItEnD X.w l o xs) F (enumD ds) := fun F' H s t => by
  have hd : H l = some (DictO X.w l o xs) := t _ _ (s _ _ hl)
  have hlen := r.length
  rw [List.length_map] at hlen
  refine ⟨fun i e he => ?_, hd, by rw [enumD_length]; exact hlen.symm⟩
  obtain ⟨d, hdd, rfl⟩ := enumD_of he
  obtain ⟨v, hv, rv⟩ := r.get hdd
  rw [List.getElem?_map] at hv
  have hi : i < xs.length := by
    have := (List.getElem?_eq_some_iff.mp hdd).1
    omega
  refine ⟨⟨hd, hi⟩, fun x H' ⟨T, y, e1, hT, e2, e3⟩ => ?_⟩
  subst e1; subst e2
  rw [hv] at e3
  cases e3
  exact new_tup t hT (.cons (.int _) (.cons (rv.mono s) .nil))
/-- for i, k in enumerate(d) -/
theorem di_enD {κ : Type} [DecidableEq κ] [Datum κ] [DKey κ] {m : List (κ × PyData)} {elts : List Expr} {kk : Nat} (hg : Gl X "enumerate") (hm : X.mg "enumerate" = none) (h : DE X Γ a (.dict ((kvD m).map fun p => (p.1.data, p.2)))) (hs : starEach [a] X.env = [(false, eval a X.env)] := by rfl) :
    DI X Γ (.Tuple elts kk tpos) (.Call (.Name "enumerate" p1) [a] [] pos) (enumD (m.map fun p => Datum.toD p.1)) := fun B =>
  pi_imp (pi_enD hg hm ((da_cons h da_nil hs) B) hs) fun σ H R ⟨F, A, k⟩ => ⟨F, A, fun vs F' H' s t A' r => by
    cases r with
    | cons r rr =>
      cases rr
      have e0 : ∀ {d : PyData} {v : V}, Rp X F' v d → ∀ dd, d = .dict dd → ∃ l o xs ds, v = .ref l ∧ F' l = some (DictO X.w l o xs) ∧ RpL X F' (xs.map fun x => x.2.1) (xs.map fun x => x.1.data) ∧ RpL X F' (xs.map fun x => x.2.2) ds ∧ dd = (xs.map fun x => x.1.data).zip ds := by
        intro d v r dd e
        cases r with
        | dct h1 h2 h3 => cases e; exact ⟨_, _, _, _, rfl, h1, h2, h3, rfl⟩
        | _ => cases e
      obtain ⟨l, o, xs, ds, rfl, h1, h2, h3, h4⟩ := e0 r _ rfl
      refine ⟨l, o, xs, rfl, A'.fh _ _ h1, k _ F' H' s t A' ?_⟩
      have hl : xs.length = ds.length := by have := h3.length; rw [List.length_map] at this; exact this
      have e1 : (m.map fun p => Datum.toD p.1) = xs.map fun x => x.1.data := by
        have z := congrArg (List.map Prod.fst) h4
        rw [List.map_fst_zip (by rw [List.length_map, hl]; exact Nat.le_refl _)] at z
        rw [← z]
        unfold kvD
        rw [List.map_map, List.map_map]
        exact List.map_congr_left fun p _ => (keyT_data p.1).symm
      rw [e1]
      exact steps_enD h1 h2⟩
end
end PH

set_option Elab.async false
set_option linter.all false
set_option maxRecDepth 100000
set_option maxHeartbeats 4000000
/-! P20: {k: v}; xs.insert(i, x); xs[::-1]; for over a text; the module's own values. -/
namespace PH
open PySem PySem.Spec L2
open PySem.W (Datum DatumOrd Tup)

/-- a tracked dict of ints and texts as a dict by data -/
theorem Inv.asD {X : Cx} {pins : List (Addr × Obj)} {σ : St} {H : Hp} {s : Shared} {a : Addr} {kvs : List (Key × V)} (I : Inv X pins σ H s) (ha : H a = some (.dK kvs)) : ∃ o, Inv X pins σ (upd H a (DictO X.w a o (kvs.map fun p => (keyN p.1, kV p.1, p.2)))) s := by
  obtain ⟨hz, hs, vs, rel, dd⟩ := dk_of I.hok ha
  have pr : Paired (fun (x : NestedKey × V × V) (l : Key × Value) => x.1 = keyN l.1 ∧ x.2.1 = kV l.1 ∧ RelV x.2.2 l.2) (kvs.map fun p => (keyN p.1, kV p.1, p.2)) vs := by
    unfold KV at rel
    clear hz dd ha
    induction rel with
    | nil => exact .nil
    | cons h _ ih => exact .cons ⟨congrArg keyN h.1, congrArg kV h.1, h.2⟩ ih
  obtain ⟨o, ho, dk⟩ := atoms_back (w := X.w) (P := X.prog) hs (by rw [List.length_map]; exact hz) dd pr
  exact ⟨o, I.write (x := a) (e := a) (t' := s.toks) (h' := s.heap) (by rw [ha]; exact True.intro) (.inl rfl) (fun b v _ q => q) ⟨o, ho⟩ (dictO_new ho dk)⟩
def tAsD (w : World) (t : TE) : TE := fun σ H Q => t σ H fun v H' => ∃ a kvs, v = .ref a ∧ H' a = some (.dK kvs) ∧ ∀ o, Q (.ref a) (upd H' a (DictO w a o (kvs.map fun p => (keyN p.1, kV p.1, p.2))))
theorem pe_asD {X : Cx} {e : Expr} {t : TE} (h : PE X e t) : PE X e (tAsD X.w t) := ⟨fun pins s σ H Q I q => thn (h.run pins s σ H _ I q) fun u s1 ⟨x, H1, I1, r, a, kvs, ex, ha, q1⟩ => by
  subst ex
  obtain ⟨o, I2⟩ := Inv.asD I1 ha
  exact ⟨.ref a, _, I2, r, q1 o⟩⟩
/-! ### an object of one's own, held beside -/
section
variable {P : Program} {w : World} {K : PySem.W.Frag} {F0 H0 F H : Hp} {Γ : List Bd} {σ : St} {p : Addr} {o : HO}
theorem AtF.pin (A : AtF P w K F0 H0 Γ F σ H) (hp : H p = none) : AtF P w K F0 (upd H0 p o) Γ F σ (upd H p o) where
  len := A.len
  f0 := A.f0
  h0 := A.h0.upd2
  fh := A.fh.mut (A.fh.free hp)
  fr := fun q u e => by
    by_cases c : q = p
    · subst c; rw [A.fh.free hp] at e; cases e
    · rw [upd_ne c]; exact A.fr q u e
  sl := fun i b e => by
    have h := (A.lay0 (o := o) hp).sl i b e
    have ne : ∀ {a : Addr} {u : HO}, H a = some u → a ≠ p := fun h z => by rw [z, hp] at h; cases h
    cases b with
    | un => trivial
    | fz d => exact h
    | rf v => exact h
    | ob v φ => exact h
    | sc ns => exact h
    | ol ds =>
      obtain ⟨a, vs, _, _, _, g4, _⟩ := A.sl i _ e
      obtain ⟨a', vs', h1, h2, h3, h4, h5⟩ := h
      have hn : a' ≠ p := fun z => by subst z; obtain ⟨b1, b2, b3, _, _, b6⟩ := (A.sl i _ e).addr rfl; rw [h1] at b3; cases b3; rw [hp] at b6; cases b6
      exact ⟨a', vs', h1, h2, by rw [upd_ne hn]; exact h3, h4, h5⟩
    | od kvs =>
      obtain ⟨a', h1, h2, h3, h4⟩ := h
      have hn : a' ≠ p := fun z => by subst z; obtain ⟨b1, b2, b3, _, _, b6⟩ := (A.sl i _ e).addr rfl; rw [h1] at b3; cases b3; rw [hp] at b6; cases b6
      exact ⟨a', h1, h2, by rw [upd_ne hn]; exact h3, h4⟩
  inj := A.inj
theorem AtF.unpin (A : AtF P w K F0 (upd H0 p o) Γ F σ H) (hp : H0 p = none) : AtF P w K F0 H0 Γ F σ H where
  len := A.len
  f0 := A.f0
  h0 := (Sub.new hp).trans A.h0
  fh := A.fh
  fr := fun q u e => by
    rcases A.fr q u e with z | z
    · exact .inl z
    · exact .inr ((Sub.new hp).free z)
  sl := fun i b e => by
    have h := A.sl i b e
    cases b with
    | un => trivial
    | fz d => exact h
    | rf v => exact h
    | ob v φ => exact h
    | sc ns => exact h
    | ol ds => obtain ⟨a', vs', h1, h2, h3, h4, h5⟩ := h; exact ⟨a', vs', h1, h2, (Sub.new hp).free h3, h4, h5⟩
    | od kvs => obtain ⟨a', h1, h2, h3, h4⟩ := h; exact ⟨a', h1, h2, (Sub.new hp).free h3, h4⟩
  inj := A.inj
theorem AtF.held (A : AtF P w K F0 (upd H0 p o) Γ F σ H) (hp : F0 p = none) : F p = none ∧ H p = some o ∧ Loose Γ σ p := by
  refine ⟨?_, A.h0 _ _ upd_same, fun i c e oc z => ?_⟩
  · cases q : F p with
    | none => rfl
    | some u =>
      rcases A.fr p u q with z | z
      · rw [hp] at z; cases z
      · rw [upd_same] at z; cases z
  · obtain ⟨a, u, h1, _, h3, _⟩ := (A.sl i c e).addr oc
    rw [h1] at z; cases z
    rw [upd_same] at h3; cases h3
/-- the held one is given another state -/
theorem AtF.turn {u : HO} (A : AtF P w K F0 (upd H0 p o) Γ F σ H) (hp : F0 p = none) (h0 : H0 p = none) : AtF P w K F0 H0 Γ F σ (upd H p u) := by
  obtain ⟨fp, hq, lo⟩ := A.held hp
  have B := A.unpin h0
  refine ⟨B.len, B.f0, B.h0.mut h0, B.fh.mut fp, B.fr, fun i b e => ?_, B.inj⟩
  have h := B.sl i b e
  cases b with
  | un => trivial
  | fz d => exact h
  | rf v => exact h
  | ob v φ => exact h
  | sc ns => exact h
  | ol ds =>
    obtain ⟨a', vs', h1, h2, h3, h4, h5⟩ := h
    have hn : a' ≠ p := fun z => lo i _ e rfl (z ▸ h1)
    exact ⟨a', vs', h1, h2, h3, by rw [upd_ne hn]; exact h4, h5⟩
  | od kvs =>
    obtain ⟨a', h1, h2, h3, h4⟩ := h
    have hn : a' ≠ p := fun z => lo i _ e rfl (z ▸ h1)
    exact ⟨a', h1, h2, h3, h4.mono (Sub.refl F) (upd_ne hn)⟩
end
theorem pe_anyB {X : Cx} {Γ : List Bd} {e : Expr} {d : PyData} (h : DE X Γ e d) : PE X e (fun σ H Q => ∃ B, tD X B Γ d σ H Q) := ⟨fun pins s σ H Q I ⟨B, hw⟩ => (h B).run pins s σ H Q I hw⟩
section
variable {X : Cx} {Γ : List Bd} {a b e ek ev : Expr} {es : List Expr} {pos p1 p2 p3 cp ap : Pos} {d : PyData} {xs : List PyData} {P : Po} {n : Nat} {x' : Str} {k : Int}
/-- {k: v}, k an int or a text -/
theorem dn_disp1 {κ : Type} [DecidableEq κ] [Datum κ] [DKey κ] {kk : κ} (ka : AtomK κ) (hk : DE X Γ ek (Datum.toD kk)) (hv : DE X Γ ev d) : DN X Γ (.Dict [some ek] [ev] pos) (kvD [(kk, d)]) := fun B =>
  pe_imp (pe_asD (pe_disp (pps_cons (pe_anyB hk) (pe_anyB hv) pps_nil) rfl rfl (by simp) (by simp))) fun σ H Q ⟨F, A, k⟩ p hp => by
    have fp : B.F0 p = none := A.f0.free (A.fh.free hp)
    have hp0 : B.H0 p = none := A.h0.free hp
    have A0 : At X ⟨B.F0, upd B.H0 p (.dK [])⟩ Γ F σ (upd H p (.dK [])) := A.pin hp
    refine ⟨⟨B.F0, upd B.H0 p (.dK [])⟩, F, A0, fun kx F1 H1 s1 t1 A1 r1 => ⟨⟨B.F0, upd B.H0 p (.dK [])⟩, F1, A1, fun vx F2 H2 s2 t2 A2 r2 => ?_⟩⟩
    obtain ⟨g1, g2, g3⟩ := A2.held fp
    have ek := atom_v ka r1
    refine ⟨g2, [(keyM (Datum.toD kk), vx)], by rw [ek]; rfl, by simp, p, [(keyM (Datum.toD kk), vx)], rfl, upd_same, fun o => ?_⟩
    have e1 : upd (upd H2 p (.dK (mergeK [] [(keyM (Datum.toD kk), vx)]))) p (DictO X.w p o ([(keyM (Datum.toD kk), vx)].map fun p => (keyN p.1, kV p.1, p.2))) = upd H2 p (DictO X.w p o ([(keyM (Datum.toD kk), vx)].map fun p => (keyN p.1, kV p.1, p.2))) := by
      funext q
      unfold upd
      split <;> rfl
    rw [e1]
    refine k p F2 _ (s1.trans s2) ?_ (A2.turn fp hp0) g1 hp0 ?_ g3
    · intro b u e
      have hb : b ≠ p := ne_of_none e hp
      rw [upd_ne hb]
      exact t2 _ _ (t1 _ _ (by rw [upd_ne hb]; exact e))
    · exact DictIn.ofT upd_same (by rw [List.map_cons, List.map_nil, List.map_cons, List.map_nil, List.map_cons, List.map_nil, atom_keyN ka]) (.cons (by have z := r1.mono s2; rw [ek] at z; exact z) .nil) (.cons r2 .nil)
/-- xs.insert(i, e) -/
theorem ds_insert (hx : VarAt X n x') (hΓ : Γ[n]? = some (.ol xs)) (hi : DE X Γ a (.int k)) (h : DE X Γ e d) (h0 : 0 ≤ k) (h1 : k < 2 ^ 63) (hz : xs.length < sizeLine) (hp : P.nx (Γ.set n (.ol (xs.take k.toNat ++ [d] ++ xs.drop k.toNat))))
    (hs : swapsWith (.Call (.Attribute (.Name x' p1) "insert" ap) [a, e] [] cp) none pos.line X.env = pure false := by rfl)
    (hbase : attributeBase (.Name x' p1) "insert" X.env (eval (.Name x' p1) X.env) = eval (.Name x' p1) X.env := by rfl)
    (hfew : ((backTo cp (starEach [a, e] X.env)).all (fun x => !x.1) && (backToKw cp (keywordEach [] X.env)).all (fun x => x.1.isSome) && decide ([a, e].length + ([] : List Keyword).length + (if ([] : List Keyword).isEmpty then 0 else 1) < 30)) = true := by rfl)
    (hline : (ap.endLine == cp.line) = true := by rfl) (hst : starEach [a, e] X.env = (false, eval a X.env) :: starEach [e] X.env := by rfl) (hst2 : starEach [e] X.env = [(false, eval e X.env)] := by rfl) (hpl : (backTo cp (starEach [e] X.env)).any (·.1) = false := by rfl) : DS X Γ (.Expr (.Call (.Attribute (.Name x' p1) "insert" ap) [a, e] [] cp) pos) P := fun B =>
  ps_imp (ps_expr (pe_bm PySem.F.plainAttrs_list PySem.F.slot_list_insert PySem.F.type_list_insert mt_insert hx.pe (pa_cons (hi B) (pa_cons (h B) pa_nil hst2) hst) hbase hfew hline hst hpl) hs) fun D σ H ⟨F, A, k', _⟩ => by
    obtain ⟨l, vs, h1', h2, h3, h4, h5⟩ := A.sl n _ hΓ
    refine ⟨_, h1', .inl ⟨rfl, vs, SqL.of h4⟩, F, A, fun iv F1 H1 s1 t1 A1 r1 => ⟨F1, A1, fun v F2 H2 s2 t2 A2 r2 => ?_⟩⟩
    cases r1
    refine ⟨l, vs, k, v, rfl, rfl, t2 _ _ (t1 _ _ h4), by rw [h5.length]; exact hz, h0, h1, k' _ F2 σ _ hp ?_⟩
    have r5 := h5.mono (s1.trans s2)
    exact A2.chL hΓ rfl h1' (((r5.take k.toNat).append (.cons r2 .nil)).append (r5.drop k.toNat))
/-- xs[::-1] -/
theorem dl_rev {kk : Nat} {q1 q2 q3 : Pos} (ha : DB X Γ a xs) : DL X Γ (.Subscript a (.Slice none none (some (.UnaryOp .USub (.Constant (.int 1) kk q1) q2)) q3) pos) xs.reverse := fun B =>
  pe_imp (pe_revL (ha B)) fun σ H Q ⟨F, A, k⟩ => ⟨F, A, fun a vs F1 H1 s1 t1 A1 h1 r1 => ⟨a, vs, rfl, SqL.of h1, fun p hp =>
    k p _ F1 _ s1 (t1.trans (Sub.new hp)) (A1.lay0 hp) (A1.fh.free hp) (A1.h0.free hp) upd_same r1.reverse (A1.loose hp)⟩⟩
/-- the module's own value -/
theorem de_gl {x : Str} {v : V} {u : Value} (hg : Gl X x) (hm : X.mg x = some u) (r : RelV v u) (h : ∀ F, Rp X F v d) (hd : (x == ("__debug__" : Str)) = false := by decide) : DE X Γ (.Name x pos) d := de_c (pe_glob hg hm r hd) h
/-- for c in a text -/
def signsD (x : Str) : List PyData := x.cps.toList.map fun c => .str ⟨#[c]⟩
theorem di_str {tg : Expr} {x : Str} (h : DE X Γ e (.str x)) : DI X Γ tg e (signsD x) := fun B => pi_imp (pi_str (h B)) fun σ H R ⟨F, A, k⟩ => ⟨F, A, fun v F' H' s t A' r => by
  cases r with
  | str =>
    refine ⟨x, rfl, k _ F' H' s t A' fun F2 H2 s2 t2 => ⟨fun i d hd => ?_, ?_⟩⟩
    · unfold signsD at hd
      rw [List.getElem?_map] at hd
      obtain ⟨c, hc, rfl⟩ := Option.map_eq_some_iff.mp hd
      rw [Array.getElem?_toList] at hc
      refine ⟨(Array.getElem?_eq_some_iff.mp hc).1, fun y H3 ⟨e1, c', hc', ey⟩ => ?_⟩
      rw [hc] at hc'
      cases hc'
      subst e1; subst ey
      exact ⟨F2, Sub.refl _, Sub.refl _, t2, fun _ _ z => .inl z, .str _⟩
    · show x.cps.size ≤ (signsD x).length
      simp [signsD]⟩
end
end PH

set_option Elab.async false
set_option linter.all false
set_option maxRecDepth 100000
set_option maxHeartbeats 4000000
/-! P21: comprehensions and loops over typed lists; shapes of the slots. -/
namespace PH
open PySem PySem.Spec L2
open PySem.W (Datum DatumOrd Tup)

/-! ### data back to what it is of -/
noncomputable def unG {α : Type} (g : α → PyData) (d : PyData) : Option α := open Classical in if h : ∃ x, g x = d then some h.choose else none
theorem unG_g {α : Type} {g : α → PyData} (inj : ∀ x y, g x = g y → x = y) (x : α) : unG g (g x) = some x := by
  unfold unG
  have h : ∃ y, g y = g x := ⟨x, rfl⟩
  rw [dif_pos h]
  exact congrArg some (inj _ _ h.choose_spec)
theorem lcOut_map {α : Type} {g : α → PyData} (inj : ∀ x y, g x = g y → x = y) {b : α → Bool} {f : α → PyData} : ∀ xs : List α,
    lcOut (xs.map g) (fun d => ((unG g d).map b).getD false) (fun d => ((unG g d).map f).getD .none) = (xs.filter b).map f
  | [] => rfl
  | x :: xs => by
    have ih := lcOut_map inj (b := b) (f := f) xs
    unfold lcOut at ih ⊢
    rw [List.map_cons, List.filter_cons, List.filter_cons, unG_g inj]
    have e0 : (Option.map b (some x)).getD false = b x := rfl
    rw [e0]
    by_cases h : b x = true
    · rw [if_pos h, if_pos h, List.map_cons, List.map_cons, unG_g inj, ih]
      rfl
    · rw [if_neg h, if_neg h, ih]
section
variable {X : Cx} {Γ : List Bd} {e elt tg : Expr} {ifs : List Expr} {pos p1 : Pos} {t : Pat} {scope : Scope} {own : List (Str × Nat)} {α : Type} {g : α → PyData} {xs : List α} {b : α → Bool} {f : α → PyData} {P : Po}
theorem lcT (inj : ∀ x y, g x = g y → x = y) (src : DI X Γ tg e (xs.map g)) (few : xs.length ≤ sizeLine) (no : ∀ (j : Nat), j ∈ own.map (·.2) → ∀ (b : Bd), Γ[j]? = some b → b.own = false) (slots : ∀ i ∈ t.slots, i ∈ own.map (·.2)) (blk : BlkOk X.N X.env.scope scope own)
    (tgt : ∀ (X' : Cx), IsBlk X scope X' → DG X' tg t) (turn : ∀ (X' : Cx), IsBlk X scope X' → ∀ x ∈ xs, ∃ Γ2, t.bind (unAll Γ (own.map (·.2))) (g x) = some Γ2 ∧ DTs X' Γ2 ifs (b x) ∧ (b x = true → DE X' Γ2 elt (f x))) :
    LcOk X Γ tg e elt ifs scope own t (xs.map g) (fun d => ((unG g d).map b).getD false) (fun d => ((unG g d).map f).getD .none) where
  src := src
  few := by rw [List.length_map]; exact few
  no := no
  slots := slots
  blk := blk
  tgt := tgt
  turn := fun X' hX i d hd => by
    rw [List.getElem?_map] at hd
    obtain ⟨x, hx, rfl⟩ := Option.map_eq_some_iff.mp hd
    obtain ⟨Γ2, h1, h2, h3⟩ := turn X' hX x (List.mem_of_getElem? hx)
    refine ⟨Γ2, h1, ?_, fun z => ?_⟩
    · show DTs X' Γ2 ifs (((unG g (g x)).map b).getD false)
      rw [unG_g inj]; exact h2
    · have z' : ((unG g (g x)).map b).getD false = true := z
      rw [unG_g inj] at z'
      show DE X' Γ2 elt (((unG g (g x)).map f).getD .none)
      rw [unG_g inj]; exact h3 z'
end
/-! ### in a def -/
section
variable {X : Cx} {P : Program} {w : World} {K : PySem.W.Frag} {mg : Str → Option Value} {base : Heap} {N : List Str} {sc scope : Scope} {k i j : Nat} {y y2 : Str} {top : Bool} {Γ : List Bd} {e elt : Expr} {ifs : List Expr} {pos p1 p2 p3 : Pos} {α : Type} {g : α → PyData} {xs : List α} {b : α → Bool} {f : α → PyData} {Q : Po}
theorem FnCx.bok (c : FnCx X P w K mg base N sc k top) {own : List (Str × Nat)} (h : BlkOk N sc scope own) : BlkOk X.N X.env.scope scope own := by
  rw [c.names, c.scope]; exact h
theorem FnCx.lcOk1 (c : FnCx X P w K mg base N sc k top) (hb : BlkOk N sc scope [(y, i)]) (hl : locB N scope i y = true) (inj : ∀ x y, g x = g y → x = y) (src : DI X Γ (.Name y p1) e (xs.map g)) (few : xs.length ≤ sizeLine) (no : (Γ[i]?.map Bd.own).getD false = false)
    (turn : ∀ X', FnCx X' P w K mg base N (relS scope sc) k false → ∀ x ∈ xs, DTs X' (Γ.set i (.fz (g x))) ifs (b x) ∧ (b x = true → DE X' (Γ.set i (.fz (g x))) elt (f x))) :
    LcOk X Γ (.Name y p1) e elt ifs scope [(y, i)] (.nm i) (xs.map g) (fun d => ((unG g d).map b).getD false) (fun d => ((unG g d).map f).getD .none) :=
  lcT inj src few (fun q hq bd e => by
    have : q = i := by simpa using hq
    subst this
    rw [e] at no
    exact no) (fun q hq => by simpa [Pat.slots] using hq) (c.bok hb) (fun X' hX => dg_name (c.own hX hl)) fun X' hX x hx => by
      refine ⟨Γ.set i (.fz (g x)), ?_, turn X' (c.blk hX) x hx⟩
      show some ((Γ.set i .un).set i (.fz (g x))) = _
      rw [List.set_set]
/-- [elt for y in e if ..] -/
theorem FnCx.lc1 (c : FnCx X P w K mg base N sc k top) (hb : BlkOk N sc scope [(y, i)]) (hl : locB N scope i y = true) (inj : ∀ x y, g x = g y → x = y) (src : DI X Γ (.Name y p1) e (xs.map g)) (few : xs.length ≤ sizeLine) (no : (Γ[i]?.map Bd.own).getD false = false)
    (turn : ∀ X', FnCx X' P w K mg base N (relS scope sc) k false → ∀ x ∈ xs, DTs X' (Γ.set i (.fz (g x))) ifs (b x) ∧ (b x = true → DE X' (Γ.set i (.fz (g x))) elt (f x))) (hs : ∀ x, foldedSetIterable e X.env x = pure x := by intro _; rfl) :
    DL X Γ (.ListComp elt [⟨.Name y p1, e, ifs, 0⟩] scope pos) ((xs.filter b).map f) := by
  have z := dl_lc (pos := pos) c.calm c.nodup (c.lcOk1 hb hl inj src few no turn) hs
  rw [lcOut_map inj] at z
  exact z
theorem FnCx.lc1n (c : FnCx X P w K mg base N sc k top) (hb : BlkOk N sc scope [(y, i)]) (hl : locB N scope i y = true) (inj : ∀ x y, g x = g y → x = y) (src : DI X Γ (.Name y p1) e (xs.map g)) (few : xs.length ≤ sizeLine) (no : (Γ[i]?.map Bd.own).getD false = false)
    (turn : ∀ X', FnCx X' P w K mg base N (relS scope sc) k false → ∀ x ∈ xs, DE X' (Γ.set i (.fz (g x))) elt (f x)) (hs : ∀ x, foldedSetIterable e X.env x = pure x := by intro _; rfl) :
    DL X Γ (.ListComp elt [⟨.Name y p1, e, [], 0⟩] scope pos) (xs.map f) := by
  have z := c.lc1 (b := fun _ => true) (pos := pos) hb hl inj src few no (fun X' c' x hx => ⟨dts_nil, fun _ => turn X' c' x hx⟩) hs
  rw [List.filter_eq_self.mpr (fun _ _ => rfl)] at z
  exact z
/-- name = [elt for y in e if ..] -/
theorem FnCx.setLc1 (c : FnCx X P w K mg base N sc k true) {m : Nat} {nm : Str} {py : Pos} (hx : locB N sc m nm = true) (hyl : sc.names.lookup nm = some .local) (hb : BlkOk N sc scope [(y, i)]) (hl : locB N scope i y = true) (inj : ∀ x y, g x = g y → x = y) (src : DI X Γ (.Name y p1) e (xs.map g)) (few : xs.length ≤ sizeLine) (no : (Γ[i]?.map Bd.own).getD false = false)
    (turn : ∀ X', FnCx X' P w K mg base N (relS scope sc) k false → ∀ x ∈ xs, DTs X' (Γ.set i (.fz (g x))) ifs (b x) ∧ (b x = true → DE X' (Γ.set i (.fz (g x))) elt (f x)))
    (hp : Q.nx (Γ.set m (.ol ((xs.filter b).map f)))) (hsw : swapsWith (.ListComp elt [⟨.Name y p1, e, ifs, 0⟩] scope p2) (some (.Name nm py)) pos.line X.env = pure true) (hs : ∀ x, foldedSetIterable e X.env x = pure x := by intro _; rfl) :
    DS X Γ (.Assign [.Name nm py] (.ListComp elt [⟨.Name y p1, e, ifs, 0⟩] scope p2) pos) Q :=
  ds_setLc c.calm (c.store hx) (by rw [c.scope]; exact hyl) (c.lcOk1 hb hl inj src few no turn) (by rw [lcOut_map inj]; exact hp) hsw hs
end
/-! ### for over a typed list, the state folded -/
section
variable {X : Cx} {Γ : List Bd} {e tg : Expr} {body : List Stmt} {pos : Pos} {t : Pat} {P : Po} {α S : Type} {g : α → PyData} {xs : List α}
theorem ds_forF (G : S → List Bd) (step : S → α → S) (s0 : S) (hp : PassesOwn (model X.prog X.w) X.A X.env X.xe) (hc : X.calm = true) (h0 : Γ = G s0) (hi : DI X Γ tg e (xs.map g)) (hg : DG X tg t)
    (hb : ∀ (i : Nat) (x : α), xs[i]? = some x → ∃ Γ2, t.bind (G ((xs.take i).foldl step s0)) (g x) = some Γ2 ∧
      DSs X Γ2 body { nx := fun Γ' => Γ' = G (step ((xs.take i).foldl step s0) x), rt := P.rt, bk := P.nx, ct := fun Γ' => Γ' = G (step ((xs.take i).foldl step s0) x) })
    (hd : P.nx (G (xs.foldl step s0))) (hs : ∀ x, foldedSetIterable e X.env x = pure x := by intro _; rfl) : DS X Γ (.For tg e body [] pos) P :=
  ds_for (fun i Γ' => Γ' = G ((xs.take i).foldl step s0)) hp hc hi hg (by rw [List.take_zero]; exact h0) (fun i d Γ' hd' hI => by
    rw [List.getElem?_map] at hd'
    obtain ⟨x, hx, rfl⟩ := Option.map_eq_some_iff.mp hd'
    subst hI
    obtain ⟨Γ2, h1, h2⟩ := hb i x hx
    refine ⟨Γ2, h1, ?_⟩
    have e1 : (xs.take (i + 1)).foldl step s0 = step ((xs.take i).foldl step s0) x := by
      rw [List.take_add_one, hx, List.foldl_append]; rfl
    rw [e1]
    exact h2) (fun Γ' hI => by
      subst hI
      rw [List.length_map, List.take_length]
      exact hd) hs
end
theorem upD_map (lo : Int) (n : Nat) : upD lo n = (List.range n).map fun i => .int (lo + (i : Nat)) := rfl
theorem enumD_map {α : Type} (g : α → PyData) (xs : List α) : enumD (xs.map g) = xs.zipIdx.map fun p => .tuple [.int (p.2 : Nat), g p.1] := by
  unfold enumD
  apply List.ext_getElem?
  intro i
  rw [List.getElem?_mapIdx, List.getElem?_map, List.getElem?_map, List.getElem?_zipIdx]
  cases xs[i]? with
  | none => rfl
  | some x => simp
theorem signsD_map (x : Str) : signsD x = x.cps.toList.map fun c => .str ⟨#[c]⟩ := rfl
end PH

set_option Elab.async false
set_option linter.all false
set_option maxRecDepth 100000
set_option maxHeartbeats 4000000
/-! P22: defs by name; the built-ins' names. -/
namespace PH
open PySem PySem.Spec L2
open PySem.W (Datum DatumOrd Tup)

/-- a def that stands under its name -/
structure Fn (P : Program) (w : World) (K : PySem.W.Frag) (mg : Str → Option Value) (base : Heap) (x : Str) (k : Nat) (R : List PyData → Bd → Prop) : Prop where
  ex : ∃ f fd ps, FnOk P w K mg base L2.CX0 k f fd ps (spR P w K R) ∧ mg x = some (.ref f) ∧ PySem.W.keepIn K (.ref f) = true ∧ Binds K fd ps []
/-- the text of a def stands under its name -/
structure Df (K : PySem.W.Frag) (mg : Str → Option Value) (x : Str) (st : Stmt) : Prop where
  ex : ∃ f fd, Fun K x x st f fd ∧ mg x = some (.ref f)
/-- the built-ins keep their names -/
structure Blt (mg : Str → Option Value) : Prop where
  isinstance : mg "isinstance" = none
  int : mg "int" = none
  bool : mg "bool" = none
  str : mg "str" = none
  list : mg "list" = none
  tuple : mg "tuple" = none
  set : mg "set" = none
  dict : mg "dict" = none
  len : mg "len" = none
  all : mg "all" = none
  range : mg "range" = none
  sorted : mg "sorted" = none
  enumerate : mg "enumerate" = none
  zip : mg "zip" = none
  max : mg "max" = none
  min : mg "min" = none
  sum : mg "sum" = none
section
variable {X : Cx} {P : Program} {w : World} {K : PySem.W.Frag} {mg : Str → Option Value} {base : Heap} {N : List Str} {sc : Scope} {k j i : Nat} {x y : Str} {top : Bool} {R : List PyData → Bd → Prop} {Γ : List Bd} {st : Stmt}
theorem FnCx.hu (c : FnCx X P w K mg base N sc k top) : X.A.units + 200 < cLine := by
  have := c.room.un
  omega
theorem FnCx.hu65 (c : FnCx X P w K mg base N sc k top) : X.A.units + 65 < cLine := by have := c.hu; omega
theorem FnCx.hu64 (c : FnCx X P w K mg base N sc k top) : X.A.units + 64 < cLine := by have := c.hu; omega
theorem FnCx.m (c : FnCx X P w K mg base N sc k top) {v : Option Value} (h : mg x = v) : X.mg x = v := by rw [c.mg']; exact h
/-- called where there is room -/
theorem Fn.callee (h : Fn P w K mg base x j R) (c : FnCx X P w K mg base N sc k top) (hk : j ≤ k) (nd : (x == ("__debug__" : Str)) = false := by decide) : Callee X x R := by
  obtain ⟨f, fd, ps, h1, h2, h3, h4⟩ := h.ex
  refine ⟨⟨L2.CX0, j, f, fd, ps, ?_, c.room.mono hk, c.m h2, ?_, ?_, pass0⟩, nd⟩
  · rw [c.prog, c.w', c.K', c.mg', c.base']; exact h1
  · rw [c.K']; exact h3
  · rw [c.K']; exact h4
/-- a def by its body -/
theorem Df.fn (D : Df K mg x st) {ps : List Str} (S : FnScope N ps (defScope st)) (hl : ∀ ds b, R ds b → ds.length = ps.length)
    (hbind : ∀ (kV doc pm : Value) (an : Option Addr) (cdv ct : Value) (us : List Value), us.length = ps.length → bindArgs (PySem.W.fnOf x x (defArgs st) (defBody st) (defScope st) .none kV doc pm an cdv ct) ⟨us, []⟩ = pure (ps.zip us))
    (hb : ∀ X, FnCx X P w K mg base N (defScope st) k true → ∀ ds b, R ds b → DSs X (gam0 N.length ds) (defBody st) { nx := fun _ => b = .fz .none, rt := fun b' => b' = b }) : Fn P w K mg base x (k + 1) R := by
  obtain ⟨f, fd, F, hm⟩ := D.ex
  exact ⟨f, fd, ps, fn_body F S hl hb, hm, F.kp, F.binds hbind⟩
theorem Fn.up (h : Fn P w K mg base x j R) {R' : List PyData → Bd → Prop} (i : ∀ ds b, R' ds b → R ds b) : Fn P w K mg base x j R' := by
  obtain ⟨f, fd, ps, h1, h2, h3, h4⟩ := h.ex
  refine ⟨f, fd, ps, ?_, h2, h3, h4⟩
  exact h1.imp fun vs H Q E ⟨ds, b, F, hR, r⟩ => ⟨ds, b, F, i _ _ hR, r⟩
end
end PH

set_option Elab.async false
set_option linter.all false
set_option maxRecDepth 100000
set_option maxHeartbeats 4000000
/-! P23: the rules in short, within a def. -/
namespace PH
open PySem PySem.Spec L2
open PySem.W (Datum DatumOrd Tup)
theorem few_le {n : Nat} (h : n ≤ 10000000) : n ≤ sizeLine := by rw [sizeLine_eq]; omega
theorem few_lt {n : Nat} (h : n ≤ 10000000) : n < sizeLine := by rw [sizeLine_eq]; omega
theorem atI_at {α β : Type} {xs : List α} {f : α → β} {i : Nat} {k : Int} {d : α} (hk : k = i) (h : i < xs.length) : L2.atI (xs.map f) k = some (f (xs.getD i d)) := by
  subst hk
  have e : (xs.map f)[i]? = some (f (xs.getD i d)) := by rw [List.getElem?_map, List.getD_eq_getElem?_getD, List.getElem?_eq_getElem h]; rfl
  unfold L2.atI L2.ixN
  rw [if_pos (Int.natCast_nonneg i), if_pos (by rw [List.length_map]; omega)]
  exact e
theorem cut_drop {xs : List PyData} {k : Int} {n : Nat} (h : k = n) : cutD xs (some k) none = xs.drop n := by
  subst h
  unfold cutD
  rw [show HT.sIx xs.length 0 (some (n : Int)) = min n xs.length from HT.sIx_nat xs.length 0 n, HT.sIx_none]
  by_cases c : n ≤ xs.length
  · rw [Nat.min_eq_left c, List.take_of_length_le (by rw [List.length_drop]; omega)]
  · rw [Nat.min_eq_right (by omega), List.drop_eq_nil_of_le (Nat.le_refl _), List.drop_eq_nil_of_le (by omega)]
    exact List.take_nil
theorem cut_drop_map {α : Type} {f : α → PyData} {xs : List α} {k : Int} {n : Nat} (h : k = n) : cutD (xs.map f) (some k) none = (xs.drop n).map f := by rw [cut_drop h, List.map_drop]
theorem cps_len (x : Str) : x.cps.toList.length = x.length := by simp [Str.length]
section
variable {X : Cx} {P : Program} {w : World} {K : PySem.W.Frag} {mg : Str → Option Value} {base : Heap} {N : List Str} {sc : Scope} {k j : Nat} {x y tn : Str} {top : Bool} {R : List PyData → Bd → Prop} {Γ : List Bd} {st : Stmt}
  {a b e tgt : Expr} {es : List Expr} {body : List Stmt} {pos p1 p2 p3 q1 cp ap : Pos} {d : PyData} {ds xs ys : List PyData} {Q : Po} {p : Bool} {i l : Int} {n : Nat}
theorem de_str {s : Str} {j : Nat} : DE X Γ (.Constant (.str s) j pos) (.str s) := de_c pe_str fun _ => .str s
theorem de_bool {j : Nat} : DE X Γ (.Constant (.bool p) j pos) (.bool p) := de_c pe_bl fun _ => .bl p
theorem de_none {j : Nat} : DE X Γ (.Constant .none j pos) .none := de_c pe_non fun _ => .non
/-- a test that is not true, and nothing else -/
theorem ds_unless {c : Expr} {sts : List Stmt} (hc : DT X Γ c p) (hp : p = false) (hn : Q.nx Γ) : DS X Γ (.If c sts [] pos) Q := ds_if (fun _ => True) hc (fun z => by rw [hp] at z; cases z) fun _ => dss_nil hn
theorem FnCx.dv (c : FnCx X P w K mg base N sc k top) (i : Nat) (h : Γ[i]? = some (.fz d) := by rfl) (hv : visB N sc i x = true := by decide +kernel) : DE X Γ (.Name x pos) d := de_var (c.var hv) h
theorem FnCx.bv (c : FnCx X P w K mg base N sc k top) (i : Nat) (h : Γ[i]? = some (.ol ds) := by rfl) (hv : visB N sc i x = true := by decide +kernel) : DB X Γ (.Name x pos) ds := db_var (c.var hv) h
theorem FnCx.mv (c : FnCx X P w K mg base N sc k top) {kvs : List (NestedKey × PyData)} (i : Nat) (h : Γ[i]? = some (.od kvs) := by rfl) (hv : visB N sc i x = true := by decide +kernel) : DM X Γ (.Name x pos) kvs := dm_var (c.var hv) h
theorem FnCx.gi (c : FnCx X P w K mg base N sc k top) {t : Tok} (hm : mg x = some (.int i t)) (hg : glB sc x = true := by decide +kernel) (hd : (x == ("__debug__" : Str)) = false := by decide) : DE X Γ (.Name x pos) (.int i) := de_gl (v := .int i) (c.gl hg) (c.m hm) ⟨t, rfl⟩ (fun _ => .int i) hd
theorem FnCx.gs (c : FnCx X P w K mg base N sc k top) {s : Str} {t : Tok} (hm : mg x = some (.str s t)) (hg : glB sc x = true := by decide +kernel) (hd : (x == ("__debug__" : Str)) = false := by decide) : DE X Γ (.Name x pos) (.str s) := de_gl (v := .str s) (c.gl hg) (c.m hm) ⟨t, rfl⟩ (fun _ => .str s) hd
theorem FnCx.isa (c : FnCx X P w K mg base N sc k top) (B : Blt mg) (T : String) (hT : mg tn = none) (ha : DW X Γ a d) (hp : d.plain = true) (h : isaD T d = some p) (hg : glB sc "isinstance" = true := by decide +kernel) (hg2 : glB sc tn = true := by decide +kernel) (hv : bootBuiltins tn = some (.type T) := by decide +kernel)
    (hn : tn ≠ "__name__" := by decide) (hd : (tn == ("__debug__" : Str)) = false := by decide) (he : starEach [a, .Name tn p2] X.env = (false, eval a X.env) :: starEach [.Name tn p2] X.env := by rfl) :
    DE X Γ (.Call (.Name "isinstance" p1) [a, .Name tn p2] [] pos) (.bool p) := de_isa (T := T) (c.gl hg) (c.m B.isinstance) ha hp (pe_tyN (c.gl hg2) (c.m hT) hv hn hd) h he
theorem FnCx.len (c : FnCx X P w K mg base N sc k top) (B : Blt mg) (ha : DW X Γ a d) (h : lenD d = some n) (hg : glB sc "len" = true := by decide +kernel) (he : starEach [a] X.env = [(false, eval a X.env)] := by rfl) : DE X Γ (.Call (.Name "len" p1) [a] [] pos) (.int n) := de_len (c.gl hg) (c.m B.len) ha h he
theorem FnCx.all (c : FnCx X P w K mg base N sc k top) (B : Blt mg) {bs : List Bool} (ha : DW X Γ a (.list (bs.map PyData.bool))) (hg : glB sc "all" = true := by decide +kernel) (he : starEach [a] X.env = [(false, eval a X.env)] := by rfl) : DE X Γ (.Call (.Name "all" p1) [a] [] pos) (.bool (bs.all fun b => b)) := de_all c.calm (c.gl hg) (c.m B.all) ha he
theorem FnCx.sum (c : FnCx X P w K mg base N sc k top) (B : Blt mg) {ns : List Int} (ha : DW X Γ a (.list (ns.map PyData.int))) (hg : glB sc "sum" = true := by decide +kernel) (he : starEach [a] X.env = [(false, eval a X.env)] := by rfl) : DE X Γ (.Call (.Name "sum" p1) [a] [] pos) (.int ns.sum) := de_sum c.calm (c.gl hg) (c.m B.sum) ha he
theorem FnCx.max2 (c : FnCx X P w K mg base N sc k top) (B : Blt mg) (ha : DW X Γ a (.int i)) (hb : DW X Γ b (.int l)) (hg : glB sc "max" = true := by decide +kernel) (he : starEach [a, b] X.env = (false, eval a X.env) :: starEach [b] X.env := by rfl) (he2 : starEach [b] X.env = [(false, eval b X.env)] := by rfl) (hpl : (backTo pos (starEach [b] X.env)).any (·.1) = false := by rfl) :
    DE X Γ (.Call (.Name "max" p1) [a, b] [] pos) (.int (max i l)) := de_max2 c.calm (c.gl hg) (c.m B.max) ha hb he he2 hpl
theorem FnCx.min2 (c : FnCx X P w K mg base N sc k top) (B : Blt mg) (ha : DW X Γ a (.int i)) (hb : DW X Γ b (.int l)) (hg : glB sc "min" = true := by decide +kernel) (he : starEach [a, b] X.env = (false, eval a X.env) :: starEach [b] X.env := by rfl) (he2 : starEach [b] X.env = [(false, eval b X.env)] := by rfl) (hpl : (backTo pos (starEach [b] X.env)).any (·.1) = false := by rfl) :
    DE X Γ (.Call (.Name "min" p1) [a, b] [] pos) (.int (min i l)) := de_min2 c.calm (c.gl hg) (c.m B.min) ha hb he he2 hpl
theorem FnCx.intB (c : FnCx X P w K mg base N sc k top) (B : Blt mg) (ha : DW X Γ a (.bool p)) (hg : glB sc "int" = true := by decide +kernel) (he : starEach [a] X.env = [(false, eval a X.env)] := by rfl) : DE X Γ (.Call (.Name "int" p1) [a] [] pos) (.int (if p then 1 else 0)) := de_intB (c.gl hg) (c.m B.int) ha he
theorem FnCx.list (c : FnCx X P w K mg base N sc k top) (B : Blt mg) (ha : DB X Γ a xs) (hg : glB sc "list" = true := by decide +kernel) (he : starEach [a] X.env = [(false, eval a X.env)] := by rfl) : DL X Γ (.Call (.Name "list" p1) [a] [] pos) xs := dl_listL (c.gl hg) (c.m B.list) ha he
section
variable {α : Type} [DecidableEq α]
theorem FnCx.sorted (c : FnCx X P w K mg base N sc k top) (B : Blt mg) [DatumOrd α] {bs : List α} (ha : DB X Γ a (bs.map Datum.toD)) (hk : PySem.W.Sortable (bs.map Datum.toD)) (hg : glB sc "sorted" = true := by decide +kernel) (hz : Datum.depth α ≤ 64 := by decide) (he : starEach [a] X.env = [(false, eval a X.env)] := by rfl) :
    DL X Γ (.Call (.Name "sorted" p1) [a] [] pos) ((srt bs).map Datum.toD) := dl_sorted c.hu (c.gl hg) (c.m B.sorted) ha hk hz he
theorem FnCx.lenSet (c : FnCx X P w K mg base N sc k top) (B : Blt mg) [Datum α] [DKey α] {bs : List α} (ha : DB X Γ a (bs.map Datum.toD)) (hz1 : bs.length < 4000) (hz2 : (uniq bs).length < 64) (hg : glB sc "len" = true := by decide +kernel) (hg2 : glB sc "set" = true := by decide +kernel) (hd : Datum.depth α ≤ 8 := by decide)
    (he : starEach [a] X.env = [(false, eval a X.env)] := by rfl) (he2 : starEach [.Call (.Name "set" p2) [a] [] q1] X.env = [(false, eval (.Call (.Name "set" p2) [a] [] q1) X.env)] := by rfl) : DE X Γ (.Call (.Name "len" p1) [.Call (.Name "set" p2) [a] [] q1] [] pos) (.int (uniq bs).length) :=
  de_lenSet c.calm c.hu (c.gl hg) (c.m B.len) (c.gl hg2) (c.m B.set) ha hz1 hz2 hd he he2
theorem FnCx.sortedSet (c : FnCx X P w K mg base N sc k top) (B : Blt mg) [DatumOrd α] [DKey α] {bs : List α} (ha : DB X Γ a (bs.map Datum.toD)) (hk : PySem.W.Sortable (bs.map Datum.toD)) (hz1 : bs.length < 4000) (hz2 : (uniq bs).length < 64) (hg : glB sc "sorted" = true := by decide +kernel) (hg2 : glB sc "set" = true := by decide +kernel) (hd : Datum.depth α ≤ 8 := by decide)
    (he : starEach [a] X.env = [(false, eval a X.env)] := by rfl) (he2 : starEach [.Call (.Name "set" p2) [a] [] q1] X.env = [(false, eval (.Call (.Name "set" p2) [a] [] q1) X.env)] := by rfl) : DL X Γ (.Call (.Name "sorted" p1) [.Call (.Name "set" p2) [a] [] q1] [] pos) ((srt (uniq bs)).map Datum.toD) :=
  dl_sortedSet c.calm c.hu (c.gl hg) (c.m B.sorted) (c.gl hg2) (c.m B.set) ha hk hz1 hz2 hd he he2
theorem FnCx.sortedD (c : FnCx X P w K mg base N sc k top) (B : Blt mg) [DatumOrd α] [DKey α] {m : List (α × PyData)} (ha : DM X Γ a (kvD m)) (hk : PySem.W.Sortable (m.map fun p => Datum.toD p.1)) (hg : glB sc "sorted" = true := by decide +kernel) (hd : Datum.depth α ≤ 64 := by decide) (he : starEach [a] X.env = [(false, eval a X.env)] := by rfl) :
    DL X Γ (.Call (.Name "sorted" p1) [a] [] pos) ((srt (m.map (·.1))).map Datum.toD) := dl_sortedD c.calm c.hu (c.gl hg) (c.m B.sorted) ha hk hd he
end
theorem FnCx.range1 (c : FnCx X P w K mg base N sc k top) (B : Blt mg) (h : DE X Γ a (.int i)) (h1 : -(2 ^ 62) ≤ i) (h2 : i < 2 ^ 62) (hg : glB sc "range" = true := by decide +kernel) (hs : starEach [a] X.env = [(false, eval a X.env)] := by rfl) : DI X Γ tgt (.Call (.Name "range" p1) [a] [] pos) (upD 0 i.toNat) := di_range1 (c.gl hg) (c.m B.range) h h1 h2 hs
theorem FnCx.range2 (c : FnCx X P w K mg base N sc k top) (B : Blt mg) (h : DE X Γ a (.int i)) (h' : DE X Γ b (.int l)) (hb : -(2 ^ 62) ≤ i ∧ i < 2 ^ 62 ∧ -(2 ^ 62) ≤ l ∧ l < 2 ^ 62) (hg : glB sc "range" = true := by decide +kernel)
    (hs : starEach [a, b] X.env = [(false, eval a X.env), (false, eval b X.env)] := by rfl) (hs2 : starEach [b] X.env = [(false, eval b X.env)] := by rfl) : DI X Γ tgt (.Call (.Name "range" p1) [a, b] [] pos) (upD i (l - i).toNat) := di_range2 (c.gl hg) (c.m B.range) h h' hb hs hs2
/-- range(n), by the number -/
theorem FnCx.rangeN (c : FnCx X P w K mg base N sc k top) (B : Blt mg) (n : Nat) (h : DE X Γ a (.int i)) (hi : i = n) (hz : n ≤ 1000000000) (hg : glB sc "range" = true := by decide +kernel) (hs : starEach [a] X.env = [(false, eval a X.env)] := by rfl) : DI X Γ tgt (.Call (.Name "range" p1) [a] [] pos) ((List.range n).map fun k : Nat => .int (0 + (k : Int))) := by
  have z := c.range1 (tgt := tgt) (p1 := p1) (pos := pos) B h (by omega) (by omega) hg hs
  have e : i.toNat = n := by omega
  rw [e] at z
  exact z
theorem FnCx.retO (c : FnCx X P w K mg base N sc k top) (i : Nat) (hp : Q.rt (.ol xs)) (h : Γ[i]? = some (.ol xs) := by rfl) (hv : visB N sc i x = true := by decide +kernel) : DS X Γ (.Return (some (.Name x p1)) pos) Q := ds_retO (c.var hv) h hp
theorem FnCx.retOD (c : FnCx X P w K mg base N sc k top) {kvs : List (NestedKey × PyData)} (i : Nat) (hp : Q.rt (.od kvs)) (h : Γ[i]? = some (.od kvs) := by rfl) (hv : visB N sc i x = true := by decide +kernel) : DS X Γ (.Return (some (.Name x p1)) pos) Q := ds_retOD (c.var hv) h hp
/-- calls of the program's own defs -/
theorem FnCx.call (c : FnCx X P w K mg base N sc k top) (h : Fn P w K mg base x j R) (ha : DA X Γ (e :: es) ds) (hR : R ds (.fz d)) (hk : j ≤ k := by decide) (hg : glB sc x = true := by decide +kernel) (nd : (x == ("__debug__" : Str)) = false := by decide)
    (he : starEach (e :: es) X.env = (false, eval e X.env) :: starEach es X.env := by rfl) (hpl : (backTo pos (starEach es X.env)).any (·.1) = false := by rfl) : DE X Γ (.Call (.Name x p1) (e :: es) [] pos) d := de_call (h.callee c hk nd) (c.gl hg) ha hR he hpl
theorem FnCx.callL (c : FnCx X P w K mg base N sc k top) (h : Fn P w K mg base x j R) (ha : DA X Γ (e :: es) ds) (hR : R ds (.ol xs)) (hk : j ≤ k := by decide) (hg : glB sc x = true := by decide +kernel) (nd : (x == ("__debug__" : Str)) = false := by decide)
    (he : starEach (e :: es) X.env = (false, eval e X.env) :: starEach es X.env := by rfl) (hpl : (backTo pos (starEach es X.env)).any (·.1) = false := by rfl) : DL X Γ (.Call (.Name x p1) (e :: es) [] pos) xs := dl_call (h.callee c hk nd) (c.gl hg) ha hR he hpl
/-- stores -/
theorem FnCx.set (c : FnCx X P w K mg base N sc k true) (i : Nat) (h : DE X Γ e d) (hp : Q.nx (Γ.set i (.fz d))) (hl : locB N sc i x = true := by decide +kernel) (hs : swapsWith e (some (.Name x p1)) pos.line X.env = pure false := by rfl) : DS X Γ (.Assign [.Name x p1] e pos) Q := ds_set (c.store hl) h hp hs
theorem FnCx.setL (c : FnCx X P w K mg base N sc k true) (i : Nat) (h : DL X Γ e ds) (hp : Q.nx (Γ.set i (.ol ds))) (hl : locB N sc i x = true := by decide +kernel) (hs : swapsWith e (some (.Name x p1)) pos.line X.env = pure false := by rfl) : DS X Γ (.Assign [.Name x p1] e pos) Q := ds_setL (c.store hl) h hp hs
theorem FnCx.setD (c : FnCx X P w K mg base N sc k true) {kvs : List (NestedKey × PyData)} (i : Nat) (h : DN X Γ e kvs) (hp : Q.nx (Γ.set i (.od kvs))) (hl : locB N sc i x = true := by decide +kernel) (hs : swapsWith e (some (.Name x p1)) pos.line X.env = pure false := by rfl) : DS X Γ (.Assign [.Name x p1] e pos) Q := ds_setD (c.store hl) h hp hs
theorem FnCx.tg (c : FnCx X P w K mg base N sc k true) (i : Nat) (hl : locB N sc i x = true := by decide +kernel) : DG X (.Name x pos) (.nm i) := dg_name (c.store hl)
theorem FnCx.append (c : FnCx X P w K mg base N sc k top) (i : Nat) (h : DE X Γ e d) (hz : xs.length < sizeLine) (hp : Q.nx (Γ.set i (.ol (xs ++ [d])))) (hΓ : Γ[i]? = some (.ol xs) := by rfl) (hv : visB N sc i x = true := by decide +kernel)
    (hs : swapsWith (.Call (.Attribute (.Name x p1) "append" ap) [e] [] cp) none pos.line X.env = pure false := by rfl)
    (hbase : attributeBase (.Name x p1) "append" X.env (eval (.Name x p1) X.env) = eval (.Name x p1) X.env := by rfl)
    (hfew : ((backTo cp (starEach [e] X.env)).all (fun x => !x.1) && (backToKw cp (keywordEach [] X.env)).all (fun x => x.1.isSome) && decide ([e].length + ([] : List Keyword).length + (if ([] : List Keyword).isEmpty then 0 else 1) < 30)) = true := by rfl)
    (hline : (ap.endLine == cp.line) = true := by rfl) (hst : starEach [e] X.env = [(false, eval e X.env)] := by rfl) : DS X Γ (.Expr (.Call (.Attribute (.Name x p1) "append" ap) [e] [] cp) pos) Q := ds_append (c.var hv) hΓ h hz hp hs hbase hfew hline hst
theorem FnCx.insert (c : FnCx X P w K mg base N sc k top) (n : Nat) (hi : DE X Γ a (.int i)) (h : DE X Γ e d) (h0 : 0 ≤ i) (h1 : i < 2 ^ 63) (hz : xs.length < sizeLine) (hp : Q.nx (Γ.set n (.ol (xs.take i.toNat ++ [d] ++ xs.drop i.toNat)))) (hΓ : Γ[n]? = some (.ol xs) := by rfl) (hv : visB N sc n x = true := by decide +kernel)
    (hs : swapsWith (.Call (.Attribute (.Name x p1) "insert" ap) [a, e] [] cp) none pos.line X.env = pure false := by rfl)
    (hbase : attributeBase (.Name x p1) "insert" X.env (eval (.Name x p1) X.env) = eval (.Name x p1) X.env := by rfl)
    (hfew : ((backTo cp (starEach [a, e] X.env)).all (fun x => !x.1) && (backToKw cp (keywordEach [] X.env)).all (fun x => x.1.isSome) && decide ([a, e].length + ([] : List Keyword).length + (if ([] : List Keyword).isEmpty then 0 else 1) < 30)) = true := by rfl)
    (hline : (ap.endLine == cp.line) = true := by rfl) (hst : starEach [a, e] X.env = (false, eval a X.env) :: starEach [e] X.env := by rfl) (hst2 : starEach [e] X.env = [(false, eval e X.env)] := by rfl) (hpl : (backTo cp (starEach [e] X.env)).any (·.1) = false := by rfl) :
    DS X Γ (.Expr (.Call (.Attribute (.Name x p1) "insert" ap) [a, e] [] cp) pos) Q := ds_insert (c.var hv) hΓ hi h h0 h1 hz hp hs hbase hfew hline hst hst2 hpl
theorem FnCx.dput {κ : Type} [DecidableEq κ] [Datum κ] [DKey κ] {ix : Expr} {m : List (κ × PyData)} {kk : κ} (c : FnCx X P w K mg base N sc k top) (n : Nat) (h : DE X Γ e d) (hi : DE X Γ ix (Datum.toD kk)) (hz : m.length < 4000) (hp : Q.nx (Γ.set n (.od (kvD (putM m kk d))))) (hΓ : Γ[n]? = some (.od (kvD m)) := by rfl) (hv : visB N sc n x = true := by decide +kernel) (hd : Datum.depth κ ≤ 8 := by decide)
    (ha : ∀ v, assign (.Subscript (.Name x p1) ix cp) X.env v = (do
      let ov ← holding [v] (eval (.Name x p1) X.env)
      let iv ← holding [v, ov] (eval ix X.env)
      standAt cp
      holding [v, ov, iv] (setItem ov iv v)
      release [v, ov, iv] []) := by intro _; rfl)
    (hs : swapsWithSole [.Subscript (.Name x p1) ix cp] e pos.line X.env = pure false := by rfl) (hw : swappedStores [.Subscript (.Name x p1) ix cp] e X.env = pure none := by rfl) (h1 : (assignEach [.Subscript (.Name x p1) ix cp] X.env).map (·.2) = [assign (.Subscript (.Name x p1) ix cp) X.env] := by rfl) :
    DS X Γ (.Assign [.Subscript (.Name x p1) ix cp] e pos) Q := ds_dput c.hu (c.var hv) hΓ h hi hz hp hd ha hs hw h1
/-- for i, k in enumerate(d) -/
theorem FnCx.enumDict {κ : Type} [DecidableEq κ] [Datum κ] [DKey κ] {m : List (κ × PyData)} {elts : List Expr} {kk : Nat} {tpos : Pos} (c : FnCx X P w K mg base N sc k top) (B : Blt mg) (h : DE X Γ a (.dict ((kvD m).map fun p => (p.1.data, p.2)))) (hg : glB sc "enumerate" = true := by decide +kernel) (hs : starEach [a] X.env = [(false, eval a X.env)] := by rfl) :
    DI X Γ (.Tuple elts kk tpos) (.Call (.Name "enumerate" p1) [a] [] pos) ((m.map (·.1)).zipIdx.map fun p => .tuple [.int (p.2 : Nat), Datum.toD p.1]) := by
  have z := di_enD (elts := elts) (kk := kk) (tpos := tpos) (pos := pos) (p1 := p1) (c.gl hg) (c.m B.enumerate) h hs
  have e : (m.map fun p => Datum.toD p.1) = (m.map (·.1)).map Datum.toD := by rw [List.map_map]; rfl
  rw [e, enumD_map] at z
  exact z
theorem FnCx.tg2 (c : FnCx X P w K mg base N sc k true) (i j : Nat) {kk : Nat} {pa pb : Pos} (hi : locB N sc i x = true := by decide +kernel) (hj : locB N sc j y = true := by decide +kernel) (hs : (assignEach [.Name x pa, .Name y pb] X.env).map (·.2) = assign (.Name x pa) X.env :: (assignEach [.Name y pb] X.env).map (·.2) := by rfl)
    (hs2 : (assignEach [.Name y pb] X.env).map (·.2) = assign (.Name y pb) X.env :: (assignEach [] X.env).map (·.2) := by rfl) (hn : (assignEach [.Name x pa, .Name y pb] X.env).length = [i, j].length := by rfl) (hst : (assignEach [.Name x pa, .Name y pb] X.env).findIdx? (·.1) = none := by rfl) :
    DG X (.Tuple [.Name x pa, .Name y pb] kk pos) (.tp [i, j]) := dg_tup c.calm (dgs_cons (c.store hi) (dgs_cons (c.store hj) dgs_nil hs2) hs) hn hst
/-! comprehensions -/
section
variable {α : Type} {g : α → PyData} {zs : List α} {f : α → PyData} {elt : Expr} {ifs : List Expr} {scope : Scope} {nm : Str} {py : Pos}
/-- [elt for y in e] -/
theorem FnCx.lc (c : FnCx X P w K mg base N sc k top) (i : Nat) (g : α → PyData) (zs : List α) (f : α → PyData) (src : DI X Γ (.Name y p1) e (zs.map g)) (few : zs.length ≤ sizeLine) (turn : ∀ X', FnCx X' P w K mg base N (relS scope sc) k false → ∀ x ∈ zs, DE X' (Γ.set i (.fz (g x))) elt (f x))
    (inj : ∀ x y, g x = g y → x = y := by exact fun _ _ h => datum_inj h) (no : (Γ[i]?.map Bd.own).getD false = false := by rfl) (hb : BlkOk N sc scope [(y, i)] := by constructor <;> first | rfl | decide +kernel) (hl : locB N scope i y = true := by decide +kernel) (hs : ∀ x, foldedSetIterable e X.env x = pure x := by intro _; rfl) :
    DL X Γ (.ListComp elt [⟨.Name y p1, e, [], 0⟩] scope pos) (zs.map f) := c.lc1n hb hl inj src few no turn hs
/-- [elt for y in e if t] -/
theorem FnCx.lcIf (c : FnCx X P w K mg base N sc k top) (i : Nat) (g : α → PyData) (zs : List α) (b' : α → Bool) (f : α → PyData) (src : DI X Γ (.Name y p1) e (zs.map g)) (few : zs.length ≤ sizeLine) (turn : ∀ X', FnCx X' P w K mg base N (relS scope sc) k false → ∀ x ∈ zs, DT X' (Γ.set i (.fz (g x))) a (b' x) ∧ (b' x = true → DE X' (Γ.set i (.fz (g x))) elt (f x)))
    (inj : ∀ x y, g x = g y → x = y := by exact fun _ _ h => datum_inj h) (no : (Γ[i]?.map Bd.own).getD false = false := by rfl) (hb : BlkOk N sc scope [(y, i)] := by constructor <;> first | rfl | decide +kernel) (hl : locB N scope i y = true := by decide +kernel) (hs : ∀ x, foldedSetIterable e X.env x = pure x := by intro _; rfl) :
    DL X Γ (.ListComp elt [⟨.Name y p1, e, [a], 0⟩] scope pos) ((zs.filter b').map f) := c.lc1 hb hl inj src few no (fun X' c' x hx => ⟨dts_one (turn X' c' x hx).1, (turn X' c' x hx).2⟩) hs
/-- all([t for y in e]) -/
theorem FnCx.allLc (c : FnCx X P w K mg base N sc k top) (B : Blt mg) (i : Nat) (g : α → PyData) (zs : List α) (t : α → Bool) (src : DI X Γ (.Name y p1) e (zs.map g)) (few : zs.length ≤ sizeLine) (turn : ∀ X', FnCx X' P w K mg base N (relS scope sc) k false → ∀ x ∈ zs, DE X' (Γ.set i (.fz (g x))) elt (.bool (t x)))
    (inj : ∀ x y, g x = g y → x = y := by exact fun _ _ h => datum_inj h) (no : (Γ[i]?.map Bd.own).getD false = false := by rfl) (hg : glB sc "all" = true := by decide +kernel) (hb : BlkOk N sc scope [(y, i)] := by constructor <;> first | rfl | decide +kernel) (hl : locB N scope i y = true := by decide +kernel) (hs : ∀ x, foldedSetIterable e X.env x = pure x := by intro _; rfl)
    (he : starEach [.ListComp elt [⟨.Name y p1, e, [], 0⟩] scope p2] X.env = [(false, eval (.ListComp elt [⟨.Name y p1, e, [], 0⟩] scope p2) X.env)] := by rfl) :
    DE X Γ (.Call (.Name "all" p3) [.ListComp elt [⟨.Name y p1, e, [], 0⟩] scope p2] [] pos) (.bool ((zs.map t).all fun b => b)) := by
  refine c.all B ?_ hg he
  have z := c.lc1n (f := fun x => .bool (t x)) (pos := p2) hb hl inj src few no turn hs
  rw [List.map_map]
  exact z.dw
end
end
end PH

set_option Elab.async false
set_option linter.all false
set_option maxRecDepth 100000
set_option maxHeartbeats 4000000
/-! P24: the script; the law's def; [e, e2] whose lists are changed. -/
namespace PH
open PySem PySem.Spec L2
open PySem.W (Datum DatumOrd Tup)
section
variable {P : Program} {w : World} {K : PySem.W.Frag} {F0 H0 F H : Hp} {Γ : List Bd} {σ : St} {p : Addr} {o u : HO}
theorem AtF.pin2 (A : AtF P w K F0 H0 Γ F σ H) (hp : H p = some o) (hf : F p = none) (h0 : H0 p = none) (lo : Loose Γ σ p) : AtF P w K F0 (upd H0 p o) Γ F σ H where
  len := A.len
  f0 := A.f0
  h0 := fun q v e => by
    by_cases c : q = p
    · subst c; rw [upd_same] at e; cases e; exact hp
    · rw [upd_ne c] at e; exact A.h0 q v e
  fh := A.fh
  fr := fun q v e => by
    by_cases c : q = p
    · subst c; rw [hf] at e; cases e
    · rw [upd_ne c]; exact A.fr q v e
  sl := fun i b e => by
    have h := A.sl i b e
    cases b with
    | un => trivial
    | fz d => exact h
    | rf v => exact h
    | ob v φ => exact h
    | sc ns => exact h
    | ol ds =>
      obtain ⟨a, vs, h1, h2, h3, h4, h5⟩ := h
      have hn : a ≠ p := fun z => lo i _ e rfl (z ▸ h1)
      exact ⟨a, vs, h1, h2, by rw [upd_ne hn]; exact h3, h4, h5⟩
    | od kvs =>
      obtain ⟨a, h1, h2, h3, h4⟩ := h
      have hn : a ≠ p := fun z => lo i _ e rfl (z ▸ h1)
      exact ⟨a, h1, h2, by rw [upd_ne hn]; exact h3, h4⟩
  inj := A.inj
/-- what no slot has is changed -/
theorem AtF.mut (B : AtF P w K F0 H0 Γ F σ H) (fp : F p = none) (h0 : H0 p = none) (lo : Loose Γ σ p) : AtF P w K F0 H0 Γ F σ (upd H p u) := by
  refine ⟨B.len, B.f0, B.h0.mut h0, B.fh.mut fp, B.fr, fun i b e => ?_, B.inj⟩
  have h := B.sl i b e
  cases b with
  | un => trivial
  | fz d => exact h
  | rf v => exact h
  | ob v φ => exact h
  | sc ns => exact h
  | ol ds =>
    obtain ⟨a', vs', h1, h2, h3, h4, h5⟩ := h
    have hn : a' ≠ p := fun z => lo i _ e rfl (z ▸ h1)
    exact ⟨a', vs', h1, h2, h3, by rw [upd_ne hn]; exact h4, h5⟩
  | od kvs =>
    obtain ⟨a', h1, h2, h3, h4⟩ := h
    have hn : a' ≠ p := fun z => lo i _ e rfl (z ▸ h1)
    exact ⟨a', h1, h2, h3, h4.mono (Sub.refl F) (upd_ne hn)⟩
theorem Loose.setU {i : Nat} {v : Option V} (lo : Loose Γ σ p) : Loose (Γ.set i .un) (σ.set i v) p := fun j c e oc z => by
  rcases getSet e with ⟨rfl, rfl⟩ | ⟨ne, e⟩
  · cases oc
  · rw [List.getElem?_set_ne (Ne.symm ne)] at z
    exact lo j c e oc z
end
section
variable {X : Cx} {Γ : List Bd} {a e e1 e2 c : Expr} {sts rest : List Stmt} {P : Po} {i : Nat} {x : Str} {l1 l2 : List PyData} {ns : List Int} {s : Str}
theorem pe_anyL (h : DL X Γ e l1) : PE X e (fun σ H Q => ∃ B, tL X B Γ l1 σ H Q) := ⟨fun pins s σ H Q I ⟨B, hw⟩ => (h B).run pins s σ H Q I hw⟩
theorem pt_anyT {p : Bool} (h : DT X Γ e p) : PT X e (fun σ H Q => ∃ B, tT X B Γ p σ H Q) := ⟨fun pins s σ H Q I ⟨B, hw⟩ => (h B).run pins s σ H Q I hw⟩
theorem pss_anyS (h : DSs X Γ sts P) : PSs X sts (fun D σ H => ∃ B, tS X B Γ P D σ H) := ⟨fun pins s σ H D I ⟨B, hw⟩ => (h B).run pins s σ H D I hw⟩
/-- x = [e1, e2]; a test that is not true; x[0].append(s); x[1].append(s) -/
theorem dss_odds {pos1 pos2 pos3 pos4 q1 q2 q3 q4 q5 ap1 ap2 cp1 cp2 ix1 ix2 cs1 cs2 lp : Pos} {j1 j2 j3 j4 : Nat} (hx : StoreAt X i x) (hv : VarAt X i x) (hi : i < Γ.length) (h1 : DL X Γ e1 l1) (h2 : DL X Γ e2 l2)
    (hc : DT X (Γ.set i (.fz (.list [.list l1, .list l2]))) c false) {Γx : List Bd} {Px : Po} (hs : DSs X Γx sts Px) (z1 : l1.length < sizeLine) (z2 : l2.length < sizeLine) (hr : DSs X (Γ.set i .un) rest P)
    (na1 : starEach [e1, e2] X.env = (false, eval e1 X.env) :: starEach [e2] X.env := by rfl) (na2 : starEach [e2] X.env = [(false, eval e2 X.env)] := by rfl)
    (sw : swapsWith (.List [e1, e2] lp) (some (.Name x q1)) pos1.line X.env = pure false := by rfl)
    (sw3 : swapsWith (.Call (.Attribute (.Subscript (.Name x q2) (.Constant (.int 0) j1 ix1) q3) "append" ap1) [.Constant (.str s) j2 cs1] [] cp1) none pos3.line X.env = pure false := by rfl)
    (sw4 : swapsWith (.Call (.Attribute (.Subscript (.Name x q4) (.Constant (.int 1) j3 ix2) q5) "append" ap2) [.Constant (.str s) j4 cs2] [] cp2) none pos4.line X.env = pure false := by rfl)
    (hb3 : attributeBase (.Subscript (.Name x q2) (.Constant (.int 0) j1 ix1) q3) "append" X.env (eval (.Subscript (.Name x q2) (.Constant (.int 0) j1 ix1) q3) X.env) = eval (.Subscript (.Name x q2) (.Constant (.int 0) j1 ix1) q3) X.env := by rfl)
    (hb4 : attributeBase (.Subscript (.Name x q4) (.Constant (.int 1) j3 ix2) q5) "append" X.env (eval (.Subscript (.Name x q4) (.Constant (.int 1) j3 ix2) q5) X.env) = eval (.Subscript (.Name x q4) (.Constant (.int 1) j3 ix2) q5) X.env := by rfl)
    (hl3 : (ap1.endLine == cp1.line) = true := by rfl) (hl4 : (ap2.endLine == cp2.line) = true := by rfl) :
    DSs X Γ (.Assign [.Name x q1] (.List [e1, e2] lp) pos1 :: .If c sts [] pos2 :: .Expr (.Call (.Attribute (.Subscript (.Name x q2) (.Constant (.int 0) j1 ix1) q3) "append" ap1) [.Constant (.str s) j2 cs1] [] cp1) pos3 ::
      .Expr (.Call (.Attribute (.Subscript (.Name x q4) (.Constant (.int 1) j3 ix2) q5) "append" ap2) [.Constant (.str s) j4 cs2] [] cp2) pos4 :: rest) P := fun B =>
  pss_imp (pss_cons (ps_setAt hx (pe_lst (pa_cons (pe_anyL h1) (pa_cons (pe_anyL h2) pa_nil na2) na1)) sw)
    (pss_cons (ps_if (pt_anyT hc) (pss_anyS hs) pss_nil)
    (pss_cons (ps_expr (pe_bm PySem.F.plainAttrs_list PySem.F.slot_list_append PySem.F.type_list_append mt_append (pe_ix ix_list hv.pe pe_int (fun _ _ => rfl)) (pa_cons pe_str pa_nil) hb3 rfl hl3 rfl rfl) sw3)
    (pss_cons (ps_expr (pe_bm PySem.F.plainAttrs_list PySem.F.slot_list_append PySem.F.type_list_append mt_append (pe_ix ix_list hv.pe pe_int (fun _ _ => rfl)) (pa_cons pe_str pa_nil) hb4 rfl hl4 rfl rfl) sw4)
    (pss_anyS hr))))) fun D σ H ⟨F, A, k⟩ => by
    refine ⟨B, F, A, fun p1 us1 F1 H1 s1 t1 A1 f1 g1 o1 r1 lo1 => ?_⟩
    have fp0 : B.F0 p1 = none := A1.f0.free f1
    refine ⟨⟨B.F0, upd B.H0 p1 (.lst us1)⟩, F1, A1.pin2 o1 f1 g1 lo1, fun p2 us2 F2 H2 s2 t2 A2 f2 g2 o2 r2 lo2 => ?_⟩
    obtain ⟨f3, o3, lo3⟩ := A2.held fp0
    have g2 : upd B.H0 p1 (.lst us1) p2 = none := g2
    have n12 : p2 ≠ p1 := fun z => by subst z; rw [upd_same] at g2; cases g2
    have g2' : B.H0 p2 = none := by rw [upd_ne n12] at g2; exact g2
    have A2u : At X B Γ F2 σ H2 := A2.unpin g1
    refine ⟨few_le (by show 2 ≤ 10000000; decide), fun q hq => ?_⟩
    have nq1 : q ≠ p1 := fun z => by subst z; rw [o3] at hq; cases hq
    have nq2 : q ≠ p2 := fun z => by subst z; rw [o2] at hq; cases hq
    have fq : F2 q = none := A2u.fh.free hq
    have gq : B.H0 q = none := A2u.h0.free hq
    have loq : Loose Γ σ q := A2u.loose hq
    have Al : At X B Γ F2 σ (upd H2 q (.lst [.ref p1, .ref p2])) := A2u.lay0 hq
    have A3 : At X B (Γ.set i .un) F2 (σ.set i (some (.ref q))) (upd H2 q (.lst [.ref p1, .ref p2])) := Al.setU
    -- as data, for the test
    have k1 : At X B Γ (upd F2 p1 (.lst us1)) σ (upd H2 q (.lst [.ref p1, .ref p2])) := Al.keep (by rw [upd_ne nq1.symm]; exact o3) f3 g1 lo3
    have k2 : At X B Γ (upd (upd F2 p1 (.lst us1)) p2 (.lst us2)) σ (upd H2 q (.lst [.ref p1, .ref p2])) := k1.keep (by rw [upd_ne nq2.symm]; exact o2) (by rw [upd_ne n12]; exact f2) g2' lo2
    have k3 : At X B Γ (upd (upd (upd F2 p1 (.lst us1)) p2 (.lst us2)) q (.lst [.ref p1, .ref p2])) σ (upd H2 q (.lst [.ref p1, .ref p2])) := k2.keep upd_same (by rw [upd_ne nq2, upd_ne nq1]; exact fq) gq loq
    have m1 : Sub F2 (upd F2 p1 (.lst us1)) := Sub.new f3
    have m2 : Sub (upd F2 p1 (.lst us1)) (upd (upd F2 p1 (.lst us1)) p2 (.lst us2)) := Sub.new (by rw [upd_ne n12]; exact f2)
    have m3 : Sub (upd (upd F2 p1 (.lst us1)) p2 (.lst us2)) (upd (upd (upd F2 p1 (.lst us1)) p2 (.lst us2)) q (.lst [.ref p1, .ref p2])) := Sub.new (by rw [upd_ne nq2, upd_ne nq1]; exact fq)
    have rq : Rp X (upd (upd (upd F2 p1 (.lst us1)) p2 (.lst us2)) q (.lst [.ref p1, .ref p2])) (.ref q) (.list [.list l1, .list l2]) :=
      .lst upd_same (.cons (.lst (by rw [upd_ne nq1.symm, upd_ne n12.symm, upd_same]) (r1.mono (s2.trans (m1.trans (m2.trans m3))))) (.cons (.lst (by rw [upd_ne nq2.symm, upd_same]) (r2.mono (m1.trans (m2.trans m3)))) .nil))
    refine ⟨B, _, k3.setF (j := i) rq, fun F5 H5 s5 t5 A5 => iteF ?_⟩
    have A6 : At X B (Γ.set i .un) F2 (σ.set i (some (.ref q))) H5 := A3.grow (Sub.refl F2) t5 (A3.fh.trans t5) fun _ _ z => .inl z
    have vi : (σ.set i (some (V.ref q)))[i]? = some (some (.ref q)) := List.getElem?_set_self (by have := A2u.len; omega)
    have e5 : H5 q = some (.lst [.ref p1, .ref p2]) := t5 _ _ upd_same
    have e6 : H5 p1 = some (.lst us1) := t5 _ _ (by rw [upd_ne nq1.symm]; exact o3)
    have e7 : H5 p2 = some (.lst us2) := t5 _ _ (by rw [upd_ne nq2.symm]; exact o2)
    refine ⟨_, vi, q, _, 0, .ref p1, rfl, rfl, SqL.of e5, rfl, .inl ⟨rfl, us1, SqL.of e6⟩, p1, us1, .str s, rfl, rfl, e6, by rw [r1.length]; exact z1, ?_⟩
    have A7 : At X B (Γ.set i .un) F2 (σ.set i (some (.ref q))) (upd H5 p1 (.lst (us1 ++ [.str s]))) := A6.mut f3 g1 lo3.setU
    have e8 : upd H5 p1 (.lst (us1 ++ [.str s])) q = some (.lst [.ref p1, .ref p2]) := by rw [upd_ne nq1]; exact e5
    have e9 : upd H5 p1 (.lst (us1 ++ [.str s])) p2 = some (.lst us2) := by rw [upd_ne n12]; exact e7
    refine ⟨_, vi, q, _, 1, .ref p2, rfl, rfl, SqL.of e8, rfl, .inl ⟨rfl, us2, SqL.of e9⟩, p2, us2, .str s, rfl, rfl, e9, by rw [r2.length]; exact z2, ?_⟩
    exact ⟨B, F2, A7.mut f2 g2' lo2.setU, k⟩

/-! ### the script -/
theorem dl_script {lo hi : Option Expr} {l h : Option Int} {p1 p2 pos : Pos} (hv : VarAt X i x) (hΓ : Γ[i]? = some (.sc ns)) (hl : DO X Γ lo l) (hh : DO X Γ hi h) : DL X Γ (.Subscript (.Name x p1) (.Slice lo hi none p2) pos) (cutD (ns.map PyData.int) l h) := fun B =>
  pe_imp (pe_slice sl_list hv.pe (hl B) (hh B)) fun σ H Q ⟨F, A, k⟩ => by
    obtain ⟨a, h1, h2⟩ := A.sl i _ hΓ
    refine ⟨_, h1, F, A, fun F2 H2 s2 t2 A2 => ⟨F2, A2, fun F3 H3 s3 t3 A3 => ?_⟩⟩
    exact ⟨a, ns.map V.int, rfl, sqL_sub ((s2.trans s3).trans A3.fh) h2, fun p hp => k p _ F3 _ (s2.trans s3) ((t2.trans t3).trans (Sub.new hp)) (A3.lay0 hp) (A3.fh.free hp) (A3.h0.free hp) upd_same ((RepL.ints ns).cut) (A3.loose hp)⟩
end
def spCell (K : PySem.W.Frag) : Sp := fun vs H Q _ => ∃ (a : Addr) (ns : List Int) (k : Nat), vs = [.ref a, .int k] ∧ SqL K H a (ns.map V.int) ∧ ns.length ≤ 1000 ∧ Q (.int (ns.getD k 0)) H
/-- the def that reads a cell of the script -/
def CellFn (P : Program) (w : World) (K : PySem.W.Frag) (mg : Str → Option Value) (base : Heap) (x : Str) : Prop := ∃ f fd ps, FnOk P w K mg base L2.CX0 1 f fd ps (spCell K) ∧ mg x = some (.ref f) ∧ PySem.W.keepIn K (.ref f) = true ∧ Binds K fd ps []
def spLaw (K : PySem.W.Frag) : Sp := fun vs H Q _ => ∃ (a : Addr) (ns : List Int), vs = [.ref a] ∧ SqL K H a (ns.map V.int) ∧ ns.length ≤ 63 ∧ ∀ H', Q (.bl true) H'
section
variable {X : Cx} {P : Program} {w : World} {K : PySem.W.Frag} {mg : Str → Option Value} {base : Heap} {N : List Str} {sc : Scope} {k i : Nat} {x y : Str} {top : Bool} {Γ : List Bd} {ns : List Int} {pos p1 p2 p3 : Pos} {j : Nat}
theorem FnCx.cell (c : FnCx X P w K mg base N sc k top) (C : CellFn P w K mg base y) (i m : Nat) (hz : ns.length ≤ 63) (hk : 1 ≤ k := by decide) (hΓ : Γ[i]? = some (.sc ns) := by rfl) (hv : visB N sc i x = true := by decide +kernel) (hg : glB sc y = true := by decide +kernel) (nd : (y == ("__debug__" : Str)) = false := by decide)
    (he : starEach [.Name x p1, .Constant (.int (m : Int)) j p2] X.env = (false, eval (.Name x p1) X.env) :: starEach [.Constant (.int (m : Int)) j p2] X.env := by rfl) : DE X Γ (.Call (.Name y p3) [.Name x p1, .Constant (.int (m : Int)) j p2] [] pos) (.int (ns.getD m 0)) := by
  obtain ⟨f, fd, ps, hF, hm, hkp, hb⟩ := C
  intro B
  have hF' : FnOk X.prog X.w X.K X.mg X.base L2.CX0 1 f fd ps (spCell K) := by rw [c.prog, c.w', c.K', c.mg', c.base']; exact hF
  refine pe_imp (pe_call hF' (c.room.mono hk) (c.gl hg) (c.m hm) (by rw [c.K']; exact hkp) (by rw [c.K']; exact hb) (dvs := []) .nil pass0 (pa_cons (c.var hv).pe (pa_cons pe_int pa_nil) he) nd he rfl) fun σ H Q ⟨F, A, kk⟩ => ?_
  obtain ⟨a, h1, h2⟩ := A.sl i _ hΓ
  refine ⟨_, h1, a, ns, m, rfl, ?_, by omega, kk _ F H (Sub.refl F) (Sub.refl H) A (.int _)⟩
  have z := sqL_sub A.fh h2
  rw [c.K'] at z
  exact z
/-- the law's def by its body -/
theorem law_body {qual : Str} {st : Stmt} {f : Addr} {fd : FuncData} {p : Str} (F : Fun K x qual st f fd) (S : FnScope N [p] (defScope st))
    (hb : ∀ X, FnCx X P w K mg base N (defScope st) k true → ∀ ns : List Int, ns.length ≤ 63 → DSs X (.sc ns :: List.replicate (N.length - 1) .un) (defBody st) { nx := fun _ => False, rt := fun b => b = .fz (.bool true) }) : FnOk P w K mg base L2.CX0 (k + 1) f fd [p] (spLaw K) := by
  refine F.ok S (fun vs H Q E ⟨a, ns, h, _⟩ => by rw [h]; rfl) fun cdv A outer s H vs Q E hr h => ?_
  obtain ⟨a, ns, rfl, hS, hl, q⟩ := h
  have hX := hb (cxOf L2.CX0 P w K mg base N qual (defScope st) f cdv A outer s H E).nox ⟨rfl, rfl, rfl, rfl, rfl, rfl, rfl, rfl, fun _ _ => rfl, hr, PassesOwn.never, S.nd⟩ ns hl ⟨fun b => if b = a then H a else none, H⟩
  have hN : 1 ≤ N.length := by
    have e2 := congrArg List.length S.pre
    rw [List.length_take] at e2
    simp only [List.length_cons, List.length_nil] at e2
    omega
  have fh : Sub (fun b => if b = a then H a else none) H := fun b u e => by
    by_cases c : b = a
    · subst c; simpa using e
    · have e' : (if b = a then H a else none) = some u := e
      rw [if_neg c] at e'; cases e'
  have rd : ∀ u, Rd H a u → Rd (fun b => if b = a then H a else none) a u := fun u h => by
    rcases h with h | ⟨o, h⟩
    · exact .inl (by show (if a = a then H a else none) = _; rw [if_pos rfl]; exact h)
    · exact .inr ⟨o, by show (if a = a then H a else none) = _; rw [if_pos rfl]; exact h⟩
  have hS2 : SqL K (fun b => if b = a then H a else none) a (ns.map V.int) := by
    rcases hS with h | h
    · exact .inl (rd _ h)
    · exact .inr h
  have A0 : AtF P w K (fun b => if b = a then H a else none) H (.sc ns :: List.replicate (N.length - 1) .un) (fun b => if b = a then H a else none) (L2.start N [.ref a]) H := by
    refine ⟨?_, Sub.refl _, Sub.refl H, fh, fun b u e => .inl e, fun i b e => ?_, fun i j b c a' e _ ob => ?_⟩
    · unfold L2.start
      simp only [List.length_append, List.length_map, List.length_replicate, List.length_cons, List.length_nil]
      omega
    · cases i with
      | zero =>
        cases e
        exact ⟨a, rfl, hS2⟩
      | succ i =>
        rw [List.getElem?_cons_succ, List.getElem?_replicate] at e
        split at e <;> cases e
        trivial
    · exfalso
      cases i with
      | zero => cases e; cases ob
      | succ i =>
        rw [List.getElem?_cons_succ, List.getElem?_replicate] at e
        split at e <;> cases e
        cases ob
  refine ⟨_, hX, _, A0, fun _ _ _ _ z => z.elim, fun b' v F' H' hb' fin hv => ?_, fun _ _ _ _ z => z.elim, fun _ _ _ _ z => z.elim⟩
  have hb' : b' = .fz (.bool true) := hb'
  subst hb'
  have hv' : Rp _ F' v (.bool true) := hv
  cases hv'
  exact q H'
end
end PH

set_option Elab.async false
set_option linter.all false
set_option maxRecDepth 100000
set_option maxHeartbeats 4000000
/-! M1: parts, rules, books as typed data, and what the program's first defs say of them. -/
namespace PH
open PySem PySem.Spec L2
open PySem.W (Datum DatumOrd Tup T3)

abbrev Part := Str × Int
/-- a rule: over or both, of two parts, from a day on, for some machines (none: all) -/
structure Rule where
  kind : Str
  one : Part
  other : Part
  day : Int
  machs : Tup Str
  deriving DecidableEq
theorem Rule.same : ∀ {a b : Rule}, a.kind = b.kind → a.one = b.one → a.other = b.other → a.day = b.day → a.machs = b.machs → a = b
  | ⟨_, _, _, _, _⟩, ⟨_, _, _, _, _⟩, rfl, rfl, rfl, rfl, rfl => rfl
instance : Datum Rule where
  toD r := .tuple [.str r.kind, Datum.toD r.one, Datum.toD r.other, .int r.day, Datum.toD r.machs]
  plain r := by
    have h0 : (PyData.str r.kind).plain = true := rfl
    have h3 : (PyData.int r.day).plain = true := rfl
    simp only [PyData.plain, PyData.plainAll, Datum.plain, h0, h3, Bool.and_self]
  eqv a b := by
    have h0 : PyData.eqv (.str a.kind) (.str b.kind) = decide (a.kind = b.kind) := Datum.eqv a.kind b.kind
    have h3 : PyData.eqv (.int a.day) (.int b.day) = decide (a.day = b.day) := Datum.eqv a.day b.day
    simp only [PyData.eqv, PyData.eqvAll]
    have e0 : (a.kind == b.kind) = decide (a.kind = b.kind) := by simpa [PyData.eqv] using h0
    have e3 : (a.day == b.day) = decide (a.day = b.day) := by simpa [PyData.eqv] using h3
    rw [e0, e3, Datum.eqv, Datum.eqv, Datum.eqv, Bool.and_true, ← Bool.decide_and, ← Bool.decide_and, ← Bool.decide_and, ← Bool.decide_and]
    exact decide_eq_decide.mpr ⟨fun e => Rule.same e.1 e.2.1 e.2.2.1 e.2.2.2.1 e.2.2.2.2, fun e => by rw [e]; exact ⟨rfl, rfl, rfl, rfl, rfl⟩⟩
  depth := 2
  depth_le r := by
    have h1 : (Datum.toD r.one).depth ≤ 1 := Datum.depth_le r.one
    have h2 : (Datum.toD r.other).depth ≤ 1 := Datum.depth_le r.other
    have h3 : (Datum.toD r.machs).depth ≤ 1 := Datum.depth_le r.machs
    have h4 : (PyData.str r.kind).depth = 0 := rfl
    have h5 : (PyData.int r.day).depth = 0 := rfl
    simp only [PyData.depth, PyData.depthAll, h4, h5]
    omega
instance : DKey Rule := ⟨fun r => by
  show keyable (.tuple [.str r.kind, Datum.toD r.one, Datum.toD r.other, .int r.day, Datum.toD r.machs]) = true
  simp only [keyable, keyables, DKey.ok, Bool.and_self], .inl fun r => ⟨_, rfl⟩⟩

def letters : Str := "abcdefghijklmnopqrstuvwxyz"
def isName (x : Str) : Bool := (decide ((1 : Int) ≤ x.length) && decide ((x.length : Int) ≤ 8)) && (x.cps.toList.map fun c => decide (c ∈ letters.cps.toList)).all fun b => b
def fromTo (i lo hi : Int) : Bool := decide (lo ≤ i) && decide (i ≤ hi)
def isPart (p : Part) : Bool := isName p.1 && fromTo p.2 1 999999
/-- each text ahead of the next -/
def risesS (xs : List Str) : Bool := ((List.range (((xs.length : Nat) : Int) - 1).toNat).map fun k => DatumOrd.lt (xs.getD k "") (xs.getD (k + 1) "")).all fun b => b
def areMachines (t : Tup Str) : Bool := if (6 : Int) < t.items.length then false else (t.items.map isName).all (fun b => b) && risesS t.items
def isRule (r : Rule) : Bool :=
  if (!decide (r.kind ∈ (["over", "both"] : List Str))) = true then false else
  if (!isPart r.one || (!isPart r.other || decide (r.one = r.other))) = true then false else
  fromTo r.day 0 1000000000 && areMachines r.machs
def isBook (b : List Rule) : Bool := if (60 : Int) < b.length then false else if (!((b.map isRule).all fun b => b)) = true then false else decide (((uniq b).length : Int) = b.length)
def holdsR (r : Rule) (m : Str) (day : Int) : Bool := decide (r.day ≤ day) && (decide (r.machs = ⟨[]⟩) || decide (m ∈ r.machs.items))
/-- texts short enough to be asked -/
def smallP (p : Part) : Prop := p.1.length ≤ 1000
def smallT (t : Tup Str) : Prop := t.items.length ≤ 1000 ∧ ∀ m ∈ t.items, m.length ≤ 1000
def smallR (r : Rule) : Prop := smallP r.one ∧ smallP r.other ∧ smallT r.machs

abbrev Pairs2 := List ((Part × Part) × PyData)
def stepsF (m : Str) (day : Int) (found : Pairs2) (r : Rule) : Pairs2 :=
  if holdsR r m day = true then
    if r.kind = "both" then putM (putM found (r.one, r.other) (.bool true)) (r.other, r.one) (.bool true) else putM found (r.one, r.other) (.bool true)
  else found
def stepsD (b : List Rule) (m : Str) (day : Int) : Pairs2 := b.foldl (stepsF m day) []
def stepsL (b : List Rule) (m : Str) (day : Int) : List (Part × Part) := srt ((stepsD b m day).map (·.1))
def partsF (found : List (Part × PyData)) (r : Rule) : List (Part × PyData) := putM (putM found r.one (.bool true)) r.other (.bool true)
def partsL (b : List Rule) : List Part := srt ((b.foldl partsF []).map (·.1))
def machF (found : List (Str × PyData)) (m : Str) : List (Str × PyData) := putM found m (.bool true)
def machsF (found : List (Str × PyData)) (r : Rule) : List (Str × PyData) := r.machs.items.foldl machF found
def machsL (b : List Rule) : List Str := srt ((b.foldl machsF []).map (·.1))
theorem stepsF_len (m : Str) (day : Int) (f : Pairs2) (r : Rule) : (stepsF m day f r).length ≤ f.length + 2 := by
  unfold stepsF
  split
  · split
    · have h1 := putM_len (putM f (r.one, r.other) (.bool true)) (r.other, r.one) (PyData.bool true)
      have h2 := putM_len f (r.one, r.other) (PyData.bool true)
      omega
    · have h2 := putM_len f (r.one, r.other) (PyData.bool true)
      omega
  · omega
theorem foldl_len {α β : Type} {f : List β → α → List β} {c : Nat} (h : ∀ s x, (f s x).length ≤ s.length + c) : ∀ (xs : List α) (s : List β), (xs.foldl f s).length ≤ s.length + c * xs.length
  | [], s => by simp
  | x :: xs, s => by
    rw [List.foldl_cons, List.length_cons]
    have h1 := foldl_len h xs (f s x)
    have h2 := h s x
    rw [Nat.mul_succ]
    omega
theorem partsF_len (f : List (Part × PyData)) (r : Rule) : (partsF f r).length ≤ f.length + 2 := by
  unfold partsF
  have h1 := putM_len (putM f r.one (.bool true)) r.other (PyData.bool true)
  have h2 := putM_len f r.one (PyData.bool true)
  omega
theorem machF_len (f : List (Str × PyData)) (m : Str) : (machF f m).length ≤ f.length + 1 := putM_len _ _ _
end PH

set_option Elab.async false
set_option linter.all false
set_option maxRecDepth 100000
set_option maxHeartbeats 4000000
/-! M2: the numbers that a law draws of a cell. -/
namespace PH
open PySem PySem.Spec L2
open PySem.W (Datum DatumOrd Tup T3)

structure Drw where
  found : List Int
  rest : Int
  stir : Int
abbrev drwM : Int := 2305843009213693951
def drwStep (base : Int) (s : Drw) (k : Nat) : Drw :=
  let st := (s.stir * s.stir + 48271 * s.stir + (0 + (k : Int)) + 1) % drwM
  if (decide ((2 : Int) < 0 + (k : Int)) && decide (0 < s.rest)) = true then ⟨s.found ++ [s.rest % base], s.rest / base, st⟩
  else if (2 : Int) < 0 + (k : Int) then ⟨s.found ++ [st / 4096 % base], s.rest, st⟩ else ⟨s.found, s.rest, st⟩
def drw0 (cell : Int) : Drw := ⟨[], cell * (if decide ((10 : Int) ^ 18 ≤ cell) = true then 1 else 0), cell % drwM⟩
def drwAt (cell base : Int) (n : Nat) : Drw := (List.range n).foldl (drwStep base) (drw0 cell)
/-- many numbers from 0 up to base - 1 -/
def draws (cell : Int) (many : Nat) (base : Int) : List Int := (drwAt cell base (many + 3)).found
theorem drwAt_succ (cell base : Int) (n : Nat) : drwAt cell base (n + 1) = drwStep base (drwAt cell base n) n := by
  unfold drwAt
  rw [List.range_succ, List.foldl_append]; rfl
theorem drw_stir (cell base : Int) : ∀ n, 0 ≤ (drwAt cell base n).stir ∧ (drwAt cell base n).stir < drwM
  | 0 => ⟨Int.emod_nonneg _ (by decide), Int.emod_lt_of_pos _ (by decide)⟩
  | n + 1 => by
    rw [drwAt_succ]
    unfold drwStep
    have h1 : ∀ z : Int, 0 ≤ z % drwM ∧ z % drwM < drwM := fun z => ⟨Int.emod_nonneg _ (by decide), Int.emod_lt_of_pos _ (by decide)⟩
    dsimp only
    split
    · exact h1 _
    · split
      · exact h1 _
      · exact h1 _
theorem drw_found {base : Int} (hb : 0 < base) (cell : Int) : ∀ n, (drwAt cell base n).found.length = n - 3 ∧ ∀ x ∈ (drwAt cell base n).found, 0 ≤ x ∧ x < base
  | 0 => ⟨rfl, fun x hx => by cases hx⟩
  | n + 1 => by
    obtain ⟨h1, h2⟩ := drw_found hb cell n
    rw [drwAt_succ]
    unfold drwStep
    have md : ∀ z : Int, 0 ≤ z % base ∧ z % base < base := fun z => ⟨Int.emod_nonneg _ (by omega), Int.emod_lt_of_pos _ hb⟩
    have add : ∀ z : Int, 2 < n → ((drwAt cell base n).found ++ [z % base]).length = n + 1 - 3 ∧ ∀ x ∈ (drwAt cell base n).found ++ [z % base], 0 ≤ x ∧ x < base := fun z hn => by
      refine ⟨by rw [List.length_append, h1]; show n - 3 + 1 = _; omega, fun x hx => ?_⟩
      rcases List.mem_append.mp hx with q | q
      · exact h2 x q
      · rw [List.mem_singleton.mp q]; exact md z
    dsimp only
    split
    · rename_i h
      rw [Bool.and_eq_true, decide_eq_true_eq] at h
      exact add _ (by have := h.1; omega)
    · split
      · rename_i h
        exact add _ (by omega)
      · rename_i h
        refine ⟨by rw [h1]; omega, h2⟩
theorem draws_len {base : Int} (hb : 0 < base) (cell : Int) (many : Nat) : (draws cell many base).length = many := by
  have := (drw_found hb cell (many + 3)).1
  unfold draws
  omega
theorem draws_in {base : Int} (hb : 0 < base) (cell : Int) (many : Nat) : ∀ x ∈ draws cell many base, 0 ≤ x ∧ x < base := (drw_found hb cell (many + 3)).2
/-- the j-th one -/
def nth0 (xs : List Int) (j : Nat) : Int := xs.getD j 0
theorem nth0_in {base : Int} (hb : 0 < base) (cell : Int) (many j : Nat) : 0 ≤ nth0 (draws cell many base) j ∧ nth0 (draws cell many base) j < base := by
  unfold nth0
  rw [List.getD_eq_getElem?_getD]
  cases h : (draws cell many base)[j]? with
  | none => exact ⟨Int.le_refl _, hb⟩
  | some x => exact draws_in hb cell many x (List.mem_of_getElem? h)
end PH

set_option Elab.async false
set_option linter.all false
set_option maxRecDepth 100000
set_option maxHeartbeats 4000000
/-! M3: books drawn of a cell, by any maker of rules. -/
namespace PH
open PySem PySem.Spec L2
open PySem.W (Datum DatumOrd Tup T3)
abbrev RulesD := List (Rule × PyData)
def bookF (mk : List Int → Rule) (picks : List Int) (s : RulesD) (k : Nat) : RulesD := putM s (mk (picks.drop (2 + 6 * k))) (.bool true)
def bookN (picks : List Int) (most : Nat) : Nat := (nth0 picks 0 % ((most : Int) + 1)).toNat
def bookD (mk : List Int → Rule) (picks : List Int) (most : Nat) : RulesD := (List.range (bookN picks most)).foldl (bookF mk picks) []
def insF (p1 : Int) (s : List Rule) (p : Rule × Nat) : List Rule := s.take ((p1 + 7 * (p.2 : Int)) % ((p.2 : Int) + 1)).toNat ++ [p.1] ++ s.drop ((p1 + 7 * (p.2 : Int)) % ((p.2 : Int) + 1)).toNat
def bookOf (mk : List Int → Rule) (cell : Int) (most : Nat) : List Rule :=
  ((bookD mk (draws cell (6 * most + 2) 1000) most).map (·.1)).zipIdx.foldl (insF (nth0 (draws cell (6 * most + 2) 1000) 1)) []
theorem bookF_len (mk : List Int → Rule) (picks : List Int) (s : RulesD) (k : Nat) : (bookF mk picks s k).length ≤ s.length + 1 := putM_len _ _ _
theorem bookN_le (picks : List Int) (most : Nat) : bookN picks most ≤ most := by
  unfold bookN
  have h2 := Int.emod_lt_of_pos (nth0 picks 0) (show (0 : Int) < (most : Int) + 1 by omega)
  omega
theorem bookD_len (mk : List Int → Rule) (picks : List Int) (most : Nat) : (bookD mk picks most).length ≤ most := by
  have z := foldl_len (bookF_len mk picks) (List.range (bookN picks most)) []
  rw [List.length_nil, List.length_range] at z
  have := bookN_le picks most
  unfold bookD
  omega
theorem insF_perm (p1 : Int) (s : List Rule) (p : Rule × Nat) : (insF p1 s p).Perm (p.1 :: s) := by
  unfold insF
  rw [List.append_assoc]
  have h := List.perm_middle (a := p.1) (l₁ := s.take ((p1 + 7 * (p.2 : Int)) % ((p.2 : Int) + 1)).toNat) (l₂ := s.drop ((p1 + 7 * (p.2 : Int)) % ((p.2 : Int) + 1)).toNat)
  rw [List.take_append_drop] at h
  exact h
theorem ins_perm (p1 : Int) : ∀ (xs : List (Rule × Nat)) (s : List Rule), (xs.foldl (insF p1) s).Perm (xs.map (·.1) ++ s)
  | [], s => List.Perm.refl _
  | x :: xs, s => by
    rw [List.foldl_cons, List.map_cons, List.cons_append]
    refine (ins_perm p1 xs _).trans ?_
    refine (List.Perm.append_left _ (insF_perm p1 s x)).trans ?_
    exact List.perm_middle
theorem bookOf_perm (mk : List Int → Rule) (cell : Int) (most : Nat) : (bookOf mk cell most).Perm ((bookD mk (draws cell (6 * most + 2) 1000) most).map (·.1)) := by
  unfold bookOf
  have h := ins_perm (nth0 (draws cell (6 * most + 2) 1000) 1) ((bookD mk (draws cell (6 * most + 2) 1000) most).map (·.1)).zipIdx []
  rw [List.append_nil] at h
  have e : ((bookD mk (draws cell (6 * most + 2) 1000) most).map (·.1)).zipIdx.map (·.1) = (bookD mk (draws cell (6 * most + 2) 1000) most).map (·.1) := by
    simp
  rw [e] at h
  exact h
theorem putM_keys {κ ν : Type} [DecidableEq κ] {m : List (κ × ν)} {k : κ} {d : ν} {x : κ} : x ∈ (putM m k d).map (·.1) ↔ x = k ∨ x ∈ m.map (·.1) := by
  unfold putM
  split
  · rename_i h
    have e : (m.map fun p => if p.1 = k then (p.1, d) else p).map (·.1) = m.map (·.1) := by
      rw [List.map_map]; refine List.map_congr_left fun p _ => ?_
      show (if p.1 = k then (p.1, d) else p).1 = p.1
      split <;> rfl
    rw [e]
    refine ⟨.inr, fun z => z.elim (fun z => ?_) id⟩
    obtain ⟨p, hp, ep⟩ := List.any_eq_true.mp h
    rw [z, ← of_decide_eq_true ep]
    exact List.mem_map.mpr ⟨p, hp, rfl⟩
  · rw [List.map_append, List.mem_append]
    show x ∈ m.map (·.1) ∨ x ∈ [k] ↔ _
    rw [List.mem_singleton]
    exact Or.comm
theorem bookD_facts (mk : List Int → Rule) (picks : List Int) : ∀ n : Nat, (((List.range n).foldl (bookF mk picks) []).map (·.1)).Nodup ∧ ∀ r ∈ ((List.range n).foldl (bookF mk picks) []).map (·.1), ∃ k, k < n ∧ r = mk (picks.drop (2 + 6 * k))
  | 0 => ⟨List.nodup_nil, fun r hr => by cases hr⟩
  | n + 1 => by
    obtain ⟨h1, h2⟩ := bookD_facts mk picks n
    rw [List.range_succ, List.foldl_append]
    refine ⟨putM_keys_nodup h1 _ _, fun r hr => ?_⟩
    rcases putM_keys.1 hr with z | z
    · exact ⟨n, Nat.lt_succ_self _, z⟩
    · obtain ⟨k, hk, e⟩ := h2 r z
      exact ⟨k, Nat.lt_succ_of_lt hk, e⟩
/-- no rule twice, all by the maker of numbers enough -/
theorem bookOf_nodup (mk : List Int → Rule) (cell : Int) (most : Nat) : (bookOf mk cell most).Nodup := (bookOf_perm mk cell most).nodup_iff.mpr (bookD_facts mk _ _).1
theorem bookOf_len (mk : List Int → Rule) (cell : Int) (most : Nat) : (bookOf mk cell most).length ≤ most := by
  rw [(bookOf_perm mk cell most).length_eq, List.length_map]
  exact bookD_len _ _ _
theorem bookOf_mem {mk : List Int → Rule} {cell : Int} {most : Nat} {r : Rule} (h : r ∈ bookOf mk cell most) : ∃ xs : List Int, 6 ≤ xs.length ∧ (∀ x ∈ xs, 0 ≤ x ∧ x < 1000) ∧ r = mk xs := by
  have h2 := (bookOf_perm mk cell most).mem_iff.mp h
  obtain ⟨k, hk, e⟩ := (bookD_facts mk _ _).2 r h2
  refine ⟨(draws cell (6 * most + 2) 1000).drop (2 + 6 * k), ?_, fun x hx => draws_in (by decide) _ _ x (List.mem_of_mem_drop hx), e⟩
  rw [List.length_drop, draws_len (by decide)]
  have := bookN_le (draws cell (6 * most + 2) 1000) most
  omega
end PH

set_option Elab.async false
set_option linter.all false
set_option maxRecDepth 100000
set_option maxHeartbeats 4000000
/-! M4: k02's own rules; sets of parts, machines, days. -/
namespace PH
open PySem PySem.Spec L2
open PySem.W (Datum DatumOrd Tup T3)
def partOf (pick : Int) : Part := if pick % 19 = 0 then ("zzzzzzzz", 999999 - pick) else ((["a", "b", "acme"] : List Str).getD (pick % 3).toNat "", 1 + pick / 3 % 4)
def otherOf (one : Part) (x : Int) : Part := if one = partOf x then ("new", 1 + x % 9) else partOf x
def kinds3 : List Str := ["over", "over", "both"]
def machs6 : List (Tup Str) := [⟨[]⟩, ⟨[]⟩, ⟨["m"]⟩, ⟨["m", "p"]⟩, ⟨["p"]⟩, ⟨["mill", "p"]⟩]
def days7 (x : Int) : List Int := [0, 3, 7, 30, 31, 10 ^ 9, x]
def aRule (xs : List Int) : Rule where
  kind := kinds3.getD (nth0 xs 2 % 3).toNat ""
  one := partOf (nth0 xs 0)
  other := otherOf (partOf (nth0 xs 0)) (nth0 xs 1)
  day := (days7 (nth0 xs 3)).getD (nth0 xs 4 % 7).toNat 0
  machs := machs6.getD (nth0 xs 5 % 6).toNat ⟨[]⟩
/-- found by both ends -/
def partsU (b : List Rule) : List Part := srt (uniq (b.map (·.one) ++ b.map (·.other)))
def daysU (b : List Rule) : List Int := srt (uniq ([0] ++ b.map (·.day)))
def machsE (b : List Rule) : List Str := srt ((b.foldl machsF [(("" : Str), PyData.bool true)]).map (·.1))
end PH

set_option Elab.async false
set_option linter.all false
set_option maxRecDepth 100000
set_option maxHeartbeats 4000000
/-! M5: the plain law of k02: the program's lists are the law's. -/
namespace PH
open PySem PySem.Spec L2
open PySem.W (Datum DatumOrd Tup T3)
theorem stepsD_facts (m : Str) (day : Int) : ∀ (b : List Rule) (s : Pairs2), (s.map (·.1)).Nodup → ((b.foldl (stepsF m day) s).map (·.1)).Nodup ∧
    ∀ x, x ∈ (b.foldl (stepsF m day) s).map (·.1) ↔ x ∈ s.map (·.1) ∨ ∃ r ∈ b, holdsR r m day = true ∧ (x = (r.one, r.other) ∨ (r.kind = "both" ∧ x = (r.other, r.one)))
  | [], s, h => ⟨h, fun x => by simp⟩
  | r :: b, s, h => by
    have hn : ((stepsF m day s r).map (·.1)).Nodup := by
      unfold stepsF
      split
      · split
        · exact putM_keys_nodup (putM_keys_nodup h _ _) _ _
        · exact putM_keys_nodup h _ _
      · exact h
    have hm : ∀ x, x ∈ (stepsF m day s r).map (·.1) ↔ x ∈ s.map (·.1) ∨ (holdsR r m day = true ∧ (x = (r.one, r.other) ∨ (r.kind = "both" ∧ x = (r.other, r.one)))) := by
      intro x
      unfold stepsF
      split
      · rename_i h1
        split
        · rename_i h2
          rw [putM_keys, putM_keys]
          constructor
          · rintro (z | z | z)
            · exact .inr ⟨h1, .inr ⟨h2, z⟩⟩
            · exact .inr ⟨h1, .inl z⟩
            · exact .inl z
          · rintro (z | ⟨_, z | ⟨_, z⟩⟩)
            · exact .inr (.inr z)
            · exact .inr (.inl z)
            · exact .inl z
        · rename_i h2
          rw [putM_keys]
          constructor
          · rintro (z | z)
            · exact .inr ⟨h1, .inl z⟩
            · exact .inl z
          · rintro (z | ⟨_, z | ⟨z2, _⟩⟩)
            · exact .inr z
            · exact .inl z
            · exact absurd z2 h2
      · rename_i h1
        exact ⟨.inl, fun z => z.elim id fun z => absurd z.1 h1⟩
    obtain ⟨i1, i2⟩ := stepsD_facts m day b (stepsF m day s r) hn
    refine ⟨by rw [List.foldl_cons]; exact i1, fun x => ?_⟩
    rw [List.foldl_cons, i2 x, hm x]
    constructor
    · rintro ((z | z) | ⟨q, hq, z⟩)
      · exact .inl z
      · exact .inr ⟨r, List.mem_cons_self, z⟩
      · exact .inr ⟨q, List.mem_cons_of_mem _ hq, z⟩
    · rintro (z | ⟨q, hq, z⟩)
      · exact .inl (.inl z)
      · rcases List.mem_cons.mp hq with e | e
        · exact .inl (.inr (e ▸ z))
        · exact .inr ⟨q, e, z⟩
theorem stepsL_congr {b c : List Rule} (h : ∀ r, r ∈ b ↔ r ∈ c) (m : Str) (day : Int) : stepsL b m day = stepsL c m day := by
  obtain ⟨n1, m1⟩ := stepsD_facts m day b [] List.nodup_nil
  obtain ⟨n2, m2⟩ := stepsD_facts m day c [] List.nodup_nil
  refine srt_eq ((List.perm_ext_iff_of_nodup n1 n2).mpr fun x => ?_)
  rw [m1 x, m2 x]
  constructor
  · rintro (z | ⟨r, hr, z⟩)
    · exact .inl z
    · exact .inr ⟨r, (h r).1 hr, z⟩
  · rintro (z | ⟨r, hr, z⟩)
    · exact .inl z
    · exact .inr ⟨r, (h r).2 hr, z⟩
theorem partsD_facts : ∀ (b : List Rule) (s : List (Part × PyData)), (s.map (·.1)).Nodup → ((b.foldl partsF s).map (·.1)).Nodup ∧ ∀ x, x ∈ (b.foldl partsF s).map (·.1) ↔ x ∈ s.map (·.1) ∨ ∃ r ∈ b, x = r.one ∨ x = r.other
  | [], s, h => ⟨h, fun x => by simp⟩
  | r :: b, s, h => by
    obtain ⟨i1, i2⟩ := partsD_facts b (partsF s r) (putM_keys_nodup (putM_keys_nodup h _ _) _ _)
    refine ⟨by rw [List.foldl_cons]; exact i1, fun x => ?_⟩
    rw [List.foldl_cons, i2 x]
    unfold partsF
    rw [putM_keys, putM_keys]
    constructor
    · rintro ((z | z | z) | ⟨q, hq, z⟩)
      · exact .inr ⟨r, List.mem_cons_self, .inr z⟩
      · exact .inr ⟨r, List.mem_cons_self, .inl z⟩
      · exact .inl z
      · exact .inr ⟨q, List.mem_cons_of_mem _ hq, z⟩
    · rintro (z | ⟨q, hq, z⟩)
      · exact .inl (.inr (.inr z))
      · rcases List.mem_cons.mp hq with e | e
        · subst e
          rcases z with z | z
          · exact .inl (.inr (.inl z))
          · exact .inl (.inl z)
        · exact .inr ⟨q, e, z⟩
/-- all parts, found either way, in any order of the rules -/
theorem partsL_eq {b c : List Rule} (h : ∀ r, r ∈ b ↔ r ∈ c) : partsL b = partsU c := by
  obtain ⟨n1, m1⟩ := partsD_facts b [] List.nodup_nil
  refine srt_eq (uniq_perm n1 fun x => ?_)
  rw [m1 x, List.mem_append, List.mem_map (l := c), List.mem_map (l := c)]
  constructor
  · rintro (z | ⟨r, hr, z | z⟩)
    · cases z
    · exact .inl ⟨r, (h r).1 hr, z.symm⟩
    · exact .inr ⟨r, (h r).1 hr, z.symm⟩
  · rintro (⟨r, hr, z⟩ | ⟨r, hr, z⟩)
    · exact .inr ⟨r, (h r).2 hr, .inl z.symm⟩
    · exact .inr ⟨r, (h r).2 hr, .inr z.symm⟩
theorem machF_facts : ∀ (ms : List Str) (s : List (Str × PyData)), (s.map (·.1)).Nodup → ((ms.foldl machF s).map (·.1)).Nodup ∧ ∀ x, x ∈ (ms.foldl machF s).map (·.1) ↔ x ∈ s.map (·.1) ∨ x ∈ ms
  | [], s, h => ⟨h, fun x => by simp⟩
  | m :: ms, s, h => by
    obtain ⟨i1, i2⟩ := machF_facts ms (machF s m) (putM_keys_nodup h _ _)
    refine ⟨by rw [List.foldl_cons]; exact i1, fun x => ?_⟩
    rw [List.foldl_cons, i2 x]
    unfold machF
    rw [putM_keys, List.mem_cons]
    constructor
    · rintro ((z | z) | z)
      · exact .inr (.inl z)
      · exact .inl z
      · exact .inr (.inr z)
    · rintro (z | z | z)
      · exact .inl (.inr z)
      · exact .inl (.inl z)
      · exact .inr z
theorem machsD_facts : ∀ (b : List Rule) (s : List (Str × PyData)), (s.map (·.1)).Nodup → ((b.foldl machsF s).map (·.1)).Nodup ∧ ∀ x, x ∈ (b.foldl machsF s).map (·.1) ↔ x ∈ s.map (·.1) ∨ ∃ r ∈ b, x ∈ r.machs.items
  | [], s, h => ⟨h, fun x => by simp⟩
  | r :: b, s, h => by
    obtain ⟨j1, j2⟩ := machF_facts r.machs.items s h
    obtain ⟨i1, i2⟩ := machsD_facts b (machsF s r) j1
    refine ⟨by rw [List.foldl_cons]; exact i1, fun x => ?_⟩
    rw [List.foldl_cons, i2 x]
    unfold machsF
    rw [j2 x]
    constructor
    · rintro ((z | z) | ⟨q, hq, z⟩)
      · exact .inl z
      · exact .inr ⟨r, List.mem_cons_self, z⟩
      · exact .inr ⟨q, List.mem_cons_of_mem _ hq, z⟩
    · rintro (z | ⟨q, hq, z⟩)
      · exact .inl (.inl z)
      · rcases List.mem_cons.mp hq with e | e
        · exact .inl (.inr (e ▸ z))
        · exact .inr ⟨q, e, z⟩
theorem str_ge_empty (x : Str) : leT (α := Str) "" x = true := by
  show (!decide (x.cps.toList < ("" : Str).cps.toList)) = true
  have e : ("" : Str).cps.toList = [] := rfl
  rw [e]
  simp
/-- the machines: the law's list begins with the empty text -/
theorem machsE_eq {b c : List Rule} (h : ∀ r, r ∈ b ↔ r ∈ c) (hn : ∀ r ∈ b, ∀ m ∈ r.machs.items, m ≠ "") : machsE c = ("" : Str) :: machsL b := by
  obtain ⟨n1, m1⟩ := machsD_facts b [] List.nodup_nil
  obtain ⟨n2, m2⟩ := machsD_facts c [(("" : Str), PyData.bool true)] (by simp)
  have nm : ("" : Str) ∉ (b.foldl machsF []).map (·.1) := fun z => by
    rcases (m1 _).1 z with z | ⟨r, hr, z⟩
    · cases z
    · exact hn r hr _ z rfl
  have pm : ((c.foldl machsF [(("" : Str), PyData.bool true)]).map (·.1)).Perm (("" : Str) :: (b.foldl machsF []).map (·.1)) := by
    refine (List.perm_ext_iff_of_nodup n2 (List.nodup_cons.mpr ⟨nm, n1⟩)).mpr fun x => ?_
    rw [m2 x, List.mem_cons, m1 x]
    constructor
    · rintro (z | ⟨r, hr, z⟩)
      · exact .inl (by simpa using z)
      · exact .inr (.inr ⟨r, (h r).2 hr, z⟩)
    · rintro (z | z | ⟨r, hr, z⟩)
      · exact .inl (by simp [z])
      · cases z
      · exact .inr ⟨r, (h r).1 hr, z⟩
  unfold machsE machsL
  rw [srt_eq pm]
  refine (srt_eq ((srt_perm _).cons ("" : Str)).symm).trans (srt_id ?_)
  exact List.pairwise_cons.mpr ⟨fun x _ => str_ge_empty x, srt_le _⟩
/-! ### the rules drawn are rules -/
theorem isPart_of {x : Int} (h0 : 0 ≤ x) (h1 : x < 1000) : isPart (partOf x) = true ∧ smallP (partOf x) := by
  have n1 : isName "zzzzzzzz" = true := by decide +kernel
  have n2 : ∀ s ∈ (["a", "b", "acme"] : List Str), isName s = true ∧ s.length ≤ 1000 := by decide +kernel
  unfold partOf
  split
  · refine ⟨?_, by show (Str.length "zzzzzzzz") ≤ 1000; decide +kernel⟩
    unfold isPart fromTo
    rw [n1]
    simp only [Bool.true_and, Bool.and_eq_true, decide_eq_true_eq]
    omega
  · have hl : (x % 3).toNat < (["a", "b", "acme"] : List Str).length := by show (x % 3).toNat < 3; omega
    have hm : (["a", "b", "acme"] : List Str).getD (x % 3).toNat "" ∈ (["a", "b", "acme"] : List Str) := by
      rw [List.getD_eq_getElem?_getD, List.getElem?_eq_getElem hl]
      exact List.getElem_mem hl
    obtain ⟨a1, a2⟩ := n2 _ hm
    refine ⟨?_, a2⟩
    unfold isPart fromTo
    rw [a1]
    simp only [Bool.true_and, Bool.and_eq_true, decide_eq_true_eq]
    omega
theorem isPart_other {one : Part} {x : Int} (h0 : 0 ≤ x) (h1 : x < 1000) : isPart (otherOf one x) = true ∧ smallP (otherOf one x) := by
  unfold otherOf
  split
  · refine ⟨?_, by show (Str.length "new") ≤ 1000; decide +kernel⟩
    have n1 : isName "new" = true := by decide +kernel
    unfold isPart fromTo
    rw [n1]
    simp only [Bool.true_and, Bool.and_eq_true, decide_eq_true_eq]
    omega
  · exact isPart_of h0 h1
theorem other_ne (y x : Int) : partOf y ≠ otherOf (partOf y) x := by
  unfold otherOf
  split
  · intro e
    have e1 : (partOf y).1 = "new" := by rw [e]
    unfold partOf at e1
    split at e1
    · exact absurd (show ("zzzzzzzz" : Str) = "new" from e1) (by decide +kernel)
    · have hl : (y % 3).toNat < (["a", "b", "acme"] : List Str).length := by show (y % 3).toNat < 3; omega
      have hm : (["a", "b", "acme"] : List Str).getD (y % 3).toNat "" ∈ (["a", "b", "acme"] : List Str) := by
        rw [List.getD_eq_getElem?_getD, List.getElem?_eq_getElem hl]
        exact List.getElem_mem hl
      have e2 : (["a", "b", "acme"] : List Str).getD (y % 3).toNat "" = "new" := e1
      rw [e2] at hm
      exact absurd hm (by decide +kernel)
  · assumption
theorem getD_mem {α : Type} {xs : List α} {i : Nat} {d : α} (h : i < xs.length) : xs.getD i d ∈ xs := by
  rw [List.getD_eq_getElem?_getD, List.getElem?_eq_getElem h]
  exact List.getElem_mem h
theorem nth_in {xs : List Int} (hx : ∀ x ∈ xs, 0 ≤ x ∧ x < 1000) (j : Nat) : 0 ≤ nth0 xs j ∧ nth0 xs j < 1000 := by
  unfold nth0
  rw [List.getD_eq_getElem?_getD]
  cases h : xs[j]? with
  | none => exact ⟨Int.le_refl _, by decide⟩
  | some x => exact hx x (List.mem_of_getElem? h)
theorem aRule_ok {xs : List Int} (hx : ∀ x ∈ xs, 0 ≤ x ∧ x < 1000) : isRule (aRule xs) = true ∧ smallR (aRule xs) ∧ (aRule xs).machs.items.length ≤ 6 ∧ (∀ m ∈ (aRule xs).machs.items, isName m = true ∧ m ≠ "" ∧ m.length ≤ 8) ∧ 0 ≤ (aRule xs).day := by
  have a0 := nth_in hx 0
  have a1 := nth_in hx 1
  have a3 := nth_in hx 3
  have a4 := nth_in hx 4
  have p1 := isPart_of a0.1 a0.2
  have p2 := isPart_other (one := partOf (nth0 xs 0)) a1.1 a1.2
  have hk : (aRule xs).kind ∈ kinds3 := getD_mem (by show _ < 3; omega)
  have hm : (aRule xs).machs ∈ machs6 := getD_mem (by show _ < 6; omega)
  have hd : (aRule xs).day ∈ days7 (nth0 xs 3) := getD_mem (by show _ < 7; omega)
  have k1 : ∀ s ∈ kinds3, decide (s ∈ (["over", "both"] : List Str)) = true := by decide +kernel
  have m1 : ∀ t ∈ machs6, areMachines t = true ∧ t.items.length ≤ 6 ∧ ∀ m ∈ t.items, isName m = true ∧ m ≠ "" ∧ m.length ≤ 8 := by decide +kernel
  have d1 : 0 ≤ (aRule xs).day ∧ (aRule xs).day ≤ 1000000000 := by
    have e : days7 (nth0 xs 3) = [0, 3, 7, 30, 31, 1000000000, nth0 xs 3] := rfl
    rw [e] at hd
    simp only [List.mem_cons, List.not_mem_nil, or_false] at hd
    omega
  obtain ⟨b1, b2, b3⟩ := m1 _ hm
  refine ⟨?_, ⟨p1.2, p2.2, by omega, fun m h => by have := (b3 m h).2.2; omega⟩, b2, b3, d1.1⟩
  unfold isRule
  rw [k1 _ hk]
  have e1 : isPart (aRule xs).one = true := p1.1
  have e2 : isPart (aRule xs).other = true := p2.1
  have e3 : decide ((aRule xs).one = (aRule xs).other) = false := decide_eq_false (other_ne _ _)
  rw [e1, e2, e3, b1]
  unfold fromTo
  rw [decide_eq_true d1.1, decide_eq_true d1.2]
  rfl
theorem isBook_of {b : List Rule} (h1 : b.length ≤ 60) (h2 : b.Nodup) (h3 : ∀ r ∈ b, isRule r = true) : isBook b = true := by
  unfold isBook
  rw [if_neg (by omega), if_neg, uniq_len, decide_eq_true h2]
  have e : ((b.map isRule).all fun b => b) = true := by
    rw [List.all_eq_true]
    intro x hx
    obtain ⟨r, hr, e⟩ := List.mem_map.mp hx
    rw [← e]
    exact h3 r hr
  rw [e]
  decide
end PH

set_option Elab.async false
set_option linter.all false
set_option maxRecDepth 100000
set_option maxHeartbeats 4000000
/-! P25: dicts by typed keys: k in d, k not in d, d[k]. -/
namespace PH
open PySem PySem.Spec PyProof.Rows L2
open PySem.W (Datum DatumOrd Tup)

theorem paired_any {α β : Type} {G : α → β → Prop} {f : α → Bool} {g : β → Bool} (h : ∀ x y, G x y → f x = g y) : ∀ {l : List α} {m : List β}, Paired G l m → l.any f = m.any g
  | _, _, .nil => rfl
  | _, _, .cons a t => by rw [List.any_cons, List.any_cons, h _ _ a, paired_any h t]
/-- the first that is so, on both sides -/
theorem paired_find {α β : Type} {G : α → β → Prop} {f : α → Bool} {g : β → Bool} (h : ∀ x y, G x y → f x = g y) : ∀ {l : List α} {m : List β}, Paired G l m → (l.find? f = none ∧ m.find? g = none) ∨ ∃ x y, l.find? f = some x ∧ m.find? g = some y ∧ G x y
  | _, _, .nil => .inl ⟨rfl, rfl⟩
  | _, _, @Paired.cons _ _ _ x y l m a t => by
    rw [List.find?_cons, List.find?_cons, ← h _ _ a]
    cases f x with
    | true => exact .inr ⟨x, y, rfl, rfl, a⟩
    | false => exact paired_find h t
theorem at_atoms {xs : List (NestedKey × V × V)} {L : List (Key × Value)} {k : Key} (p : Paired (fun (x : NestedKey × V × V) (l : Key × Value) => x.1 = keyN l.1 ∧ x.2.1 = kV l.1 ∧ RelV x.2.2 l.2) xs L) :
    (getX xs (keyN k) = none ∧ valueAt L k = none) ∨ ∃ v u, getX xs (keyN k) = some v ∧ valueAt L k = some u ∧ RelV v u := by
  unfold getX valueAt
  rcases paired_find (f := fun x => decide (x.1 = keyN k)) (g := fun l => decide (l.1 = k)) (fun x y g => decide_eq_decide.mpr ⟨fun z => keyN_inj (g.1.symm.trans z), fun z => g.1.trans (by rw [z])⟩) p with ⟨a, b⟩ | ⟨x, y, a, b, g⟩
  · exact .inl ⟨by rw [a]; rfl, by rw [b]; rfl⟩
  · exact .inr ⟨_, _, by rw [a]; rfl, by rw [b]; rfl, g.2.2⟩
theorem at_tups {xs : List (NestedKey × V × V)} {L : List (NestedKey × Addr × Value)} {k : NestedKey} (p : Paired (fun (x : NestedKey × V × V) (l : NestedKey × Addr × Value) => x.1 = l.1 ∧ x.2.1 = .ref l.2.1 ∧ RelV x.2.2 l.2.2) xs L) :
    (getX xs k = none ∧ atKey L k = none) ∨ ∃ v q, getX xs k = some v ∧ atKey L k = some q ∧ RelV v q.2 := by
  unfold getX atKey
  rcases paired_find (f := fun x => decide (x.1 = k)) (g := fun l => decide (l.1 = k)) (fun x y g => by rw [g.1]) p with ⟨a, b⟩ | ⟨x, y, a, b, g⟩
  · exact .inl ⟨by rw [a]; rfl, by rw [b]; rfl⟩
  · exact .inr ⟨_, _, by rw [a]; rfl, by rw [b]; rfl, g.2.2⟩
section
variable {X : Cx} {Γ : List Bd} {a b : Expr} {pos : Pos} {κ : Type} [DecidableEq κ] [Datum κ] [DKey κ] {m : List (κ × PyData)} {k : κ}
/-- k in d -/
def rInDT (P : Program) (w : World) (K : PySem.W.Frag) (κ : Type) [DecidableEq κ] [Datum κ] (neg : Bool) : R2 := fun x y H Q => ∃ (p : Addr) (F : Hp) (m : List (κ × PyData)) (k : κ), y = .ref p ∧ Sub F H ∧ DictIn P w K F H p (kvD m) ∧ Rep P w K F x (Datum.toD k) ∧ Datum.depth κ ≤ 8 ∧
  Q (.bl (if neg then !(getM m k).isSome else (getM m k).isSome)) H
theorem op_inDT (hu : X.A.units + 200 < cLine) : OpR X (compareOp .In) (rInDT X.prog X.w X.K κ false) := by
  intro pins s σ H x y v u Q I rx ry h
  obtain ⟨p, F, m, k, rfl, hF, hd, rk, hdp, q⟩ := h
  cases (show u = Value.ref p from ry)
  obtain ⟨ob, xs, ha, e1, r1, r2⟩ := hd.typed
  obtain ⟨ho, dok⟩ := dictO_get I ha
  have hs := dok.1
  have fin : ∀ (tk : Nat) (c : Bool), (getX xs (keyT k)).isSome = c → EP X pins σ Q (.bool c) { s with toks := tk } := fun tk c e => by
    refine ⟨.bl c, H, I.tok _, rfl, ?_⟩
    have e2 : c = (getM m k).isSome := by
      rw [← e]
      rcases getX_rep (k := k) e1 r2 with ⟨g1, g2⟩ | ⟨_, _, g1, g2, _⟩ <;> rw [g1, g2] <;> rfl
    rw [e2]
    exact q
  rcases (DKey.kind : TupK κ ∨ AtomK κ) with kt | ka
  · obtain ⟨L, dd, pr⟩ := tups_raw I hF kt ho dok e1 r1
    obtain ⟨b, eb⟩ := tup_v kt rk
    have z := Rep.nested I hF _ _ _ (DKey.ok k) rk rx
    subst eb
    cases (show v = Value.ref b from rx)
    refine wpAny_in_heap (knd := nestedKind X.prog X.w) (k := keyT k) (show X.A.in1.units + 8 < cLine by simp only [Around.in1_units]; omega) (show IsK X.prog X.w s.heap (keyT k) b from ⟨z, Nat.le_trans (keyT_depth k) hdp⟩) hs dd (fin _ _ ?_)
    rcases at_tups (k := keyT k) pr with ⟨g1, g2⟩ | ⟨_, _, g1, g2, _⟩ <;> rw [g1, g2] <;> rfl
  · obtain ⟨L, dd, pr⟩ := atoms_raw (P := X.prog) ka ho dok e1 r1
    have ev := atom_v ka rk
    subst ev
    refine wpAny_in_of (kV_is rx) hs dd.mapOf (fin _ _ ?_)
    rw [atom_keyN ka]
    rcases at_atoms (k := keyM (Datum.toD k)) pr with ⟨g1, g2⟩ | ⟨_, _, g1, g2, _⟩ <;> rw [g1, g2] <;> rfl
theorem op_ninDT (hu : X.A.units + 200 < cLine) : OpR X (compareOp .NotIn) (rInDT X.prog X.w X.K κ true) := by
  intro pins s σ H x y v u Q I rx ry h
  obtain ⟨p, F, m, k, rfl, hF, hd, rk, hdp, q⟩ := h
  cases (show u = Value.ref p from ry)
  obtain ⟨ob, xs, ha, e1, r1, r2⟩ := hd.typed
  obtain ⟨ho, dok⟩ := dictO_get I ha
  have hs := dok.1
  have fin : ∀ (tk : Nat) (c : Bool), (getX xs (keyT k)).isSome = c → EP X pins σ Q (.bool (!c)) { s with toks := tk } := fun tk c e => by
    refine ⟨.bl (!c), H, I.tok _, rfl, ?_⟩
    have e2 : c = (getM m k).isSome := by
      rw [← e]
      rcases getX_rep (k := k) e1 r2 with ⟨g1, g2⟩ | ⟨_, _, g1, g2, _⟩ <;> rw [g1, g2] <;> rfl
    rw [e2]
    exact q
  rcases (DKey.kind : TupK κ ∨ AtomK κ) with kt | ka
  · obtain ⟨L, dd, pr⟩ := tups_raw I hF kt ho dok e1 r1
    obtain ⟨b, eb⟩ := tup_v kt rk
    have z := Rep.nested I hF _ _ _ (DKey.ok k) rk rx
    subst eb
    cases (show v = Value.ref b from rx)
    refine wpAny_notIn_heap (knd := nestedKind X.prog X.w) (k := keyT k) (show X.A.in1.units + 8 < cLine by simp only [Around.in1_units]; omega) (show IsK X.prog X.w s.heap (keyT k) b from ⟨z, Nat.le_trans (keyT_depth k) hdp⟩) hs dd (fin _ _ ?_)
    rcases at_tups (k := keyT k) pr with ⟨g1, g2⟩ | ⟨_, _, g1, g2, _⟩ <;> rw [g1, g2] <;> rfl
  · obtain ⟨L, dd, pr⟩ := atoms_raw (P := X.prog) ka ho dok e1 r1
    have ev := atom_v ka rk
    subst ev
    refine wpAny_notIn_of (kV_is rx) hs dd.mapOf (fin _ _ ?_)
    rw [atom_keyN ka]
    rcases at_atoms (k := keyM (Datum.toD k)) pr with ⟨g1, g2⟩ | ⟨_, _, g1, g2, _⟩ <;> rw [g1, g2] <;> rfl
theorem dc_inD (hu : X.A.units + 200 < cLine) (ha : DE X Γ a (Datum.toD k)) (hb : DM X Γ b (kvD m)) (hd : Datum.depth κ ≤ 8 := by decide) : DC X Γ .In a b (getM m k).isSome := fun B =>
  ⟨_, _, _, op_inDT (κ := κ) hu, ha B, hb B, fun σ H Q ⟨F, A, kk⟩ => ⟨F, A, fun va F1 H1 s1 t1 A1 r1 => ⟨F1, A1, fun p F2 H2 s2 t2 A2 hdi => ⟨p, F2, m, k, rfl, A2.fh, hdi, r1.mono s2, hd, kk F2 H2 (s1.trans s2) (t1.trans t2) A2⟩⟩⟩⟩
theorem dc_ninD (hu : X.A.units + 200 < cLine) (ha : DE X Γ a (Datum.toD k)) (hb : DM X Γ b (kvD m)) (hd : Datum.depth κ ≤ 8 := by decide) : DC X Γ .NotIn a b (!(getM m k).isSome) := fun B =>
  ⟨_, _, _, op_ninDT (κ := κ) hu, ha B, hb B, fun σ H Q ⟨F, A, kk⟩ => ⟨F, A, fun va F1 H1 s1 t1 A1 r1 => ⟨F1, A1, fun p F2 H2 s2 t2 A2 hdi => ⟨p, F2, m, k, rfl, A2.fh, hdi, r1.mono s2, hd, kk F2 H2 (s1.trans s2) (t1.trans t2) A2⟩⟩⟩⟩
/-- d[k] -/
def rIxDT (P : Program) (w : World) (K : PySem.W.Frag) (κ : Type) [DecidableEq κ] [Datum κ] : R2 := fun x y H Q => ∃ (p : Addr) (F : Hp) (m : List (κ × PyData)) (k : κ) (d : PyData), x = .ref p ∧ Sub F H ∧ DictIn P w K F H p (kvD m) ∧ Rep P w K F y (Datum.toD k) ∧ Datum.depth κ ≤ 8 ∧
  getM m k = some d ∧ ∀ v, Rep P w K F v d → Q v H
theorem ix_dictT (hu : X.A.units + 200 < cLine) : IxR X (rIxDT X.prog X.w X.K κ) := by
  intro value slice pins s σ H x y v u Q I rx ry h hs'
  obtain ⟨p, F, m, k, d, rfl, hF, hd, rk, hdp, hg, q⟩ := h
  cases (show v = Value.ref p from rx)
  obtain ⟨ob, xs, ha, e1, r1, r2⟩ := hd.typed
  obtain ⟨ho, dok⟩ := dictO_get I ha
  have hs := dok.1
  obtain ⟨z, d', gm, gx, rz⟩ : ∃ z d', getM m k = some d' ∧ getX xs (keyT k) = some z ∧ Rep X.prog X.w X.K F z d' := by
    rcases getX_rep (k := k) e1 r2 with ⟨g1, g2⟩ | y
    · rw [hg] at g1; cases g1
    · exact y
  rw [hg] at gm
  cases gm
  have fin : ∀ (tk : Nat) (c : Value), RelV z c → EP X pins σ Q c { s with toks := tk } := fun tk c e => ⟨z, H, I.tok _, e, q z rz⟩
  rcases (DKey.kind : TupK κ ∨ AtomK κ) with kt | ka
  · obtain ⟨L, dd, pr⟩ := tups_raw I hF kt ho dok e1 r1
    obtain ⟨b, eb⟩ := tup_v kt rk
    have zz := Rep.nested I hF _ _ _ (DKey.ok k) rk ry
    subst eb
    cases (show u = Value.ref b from ry)
    rcases at_tups (k := keyT k) pr with ⟨g1, g2⟩ | ⟨z', c, g1, g2, rc⟩
    · rw [gx] at g1; cases g1
    rw [gx] at g1
    cases g1
    exact subscriptTail_builtinR (x := c.2) dd.typeIs slot_dict_getitem.lookup
      (wpAny_getItem_heap (Q := fun r s' => r = c.2 ∧ EP X pins σ Q r s') (knd := nestedKind X.prog X.w) (k := keyT k) (show X.A.in1.units + 8 < cLine by simp only [Around.in1_units]; omega) (show IsK X.prog X.w s.heap (keyT k) b from ⟨zz, Nat.le_trans (keyT_depth k) hdp⟩) dd g2 ⟨rfl, fin _ _ rc⟩) hs'
  · obtain ⟨L, dd, pr⟩ := atoms_raw (P := X.prog) ka ho dok e1 r1
    have ev := atom_v ka rk
    subst ev
    rw [atom_keyN ka] at gx
    rcases at_atoms (k := keyM (Datum.toD k)) pr with ⟨g1, g2⟩ | ⟨z', c, g1, g2, rc⟩
    · rw [gx] at g1; cases g1
    rw [gx] at g1
    cases g1
    exact subscriptTail_builtinR (x := c) dd.mapOf.typeIs slot_dict_getitem.lookup
      (wpAny_getItem_of (Q := fun r s' => r = c ∧ EP X pins σ Q r s') (kV_is ry) dd.mapOf g2 ⟨rfl, fin _ _ rc⟩) hs'
theorem de_ixD {d : PyData} (hu : X.A.units + 200 < cLine) (ha : DM X Γ a (kvD m)) (hb : DE X Γ b (Datum.toD k)) (h : getM m k = some d) (hs : PlainIx b := by exact fun _ _ => rfl) (hd : Datum.depth κ ≤ 8 := by decide) : DE X Γ (.Subscript a b pos) d := fun B => pe_imp (pe_ix (ix_dictT (κ := κ) hu) (ha B) (hb B) hs) fun σ H Q ⟨F, A, kk⟩ =>
  ⟨F, A, fun p F1 H1 s1 t1 A1 hdi => ⟨F1, A1, fun vb F2 H2 s2 t2 A2 r2 => ⟨p, F2, m, k, d, rfl, A2.fh, hdi.mono s2 (by obtain ⟨o, xs, ds, hh, _⟩ := id hdi; exact (t2 _ _ hh).trans hh.symm), r2, hd, h, fun v rv => kk v F2 H2 (s1.trans s2) (t1.trans t2) A2 rv⟩⟩⟩
end
end PH

set_option Elab.async false
set_option linter.all false
set_option maxRecDepth 100000
set_option maxHeartbeats 4000000
/-! P26: x = xs.pop(0). -/
namespace PH
open PySem PySem.Spec PyProof.Rows L2
section
variable {X : Cx} {Γ : List Bd} {P : Po} {i n : Nat} {x x' : Str} {d : PyData} {ds : List PyData} {p1 ap cp ip pos' pos : Pos} {j : Nat}
/-- x = xs.pop(0) -/
theorem ds_pop0 (hx : StoreAt X i x) (hv : VarAt X n x') (hΓ : Γ[n]? = some (.ol (d :: ds))) (hp : P.nx ((Γ.set n (.ol ds)).set i (.fz d)))
    (hs : swapsWith (.Call (.Attribute (.Name x' p1) "pop" ap) [.Constant (.int 0) j ip] [] cp) (some (.Name x pos')) pos.line X.env = pure false := by rfl)
    (hbase : attributeBase (.Name x' p1) "pop" X.env (eval (.Name x' p1) X.env) = eval (.Name x' p1) X.env := by rfl)
    (hfew : ((backTo cp (starEach [.Constant (.int 0) j ip] X.env)).all (fun x => !x.1) && (backToKw cp (keywordEach [] X.env)).all (fun x => x.1.isSome) && decide ([Expr.Constant (.int 0) j ip].length + ([] : List Keyword).length + (if ([] : List Keyword).isEmpty then 0 else 1) < 30)) = true := by rfl)
    (hline : (ap.endLine == cp.line) = true := by rfl) (hst : starEach [.Constant (.int 0) j ip] X.env = [(false, eval (.Constant (.int 0) j ip) X.env)] := by rfl) :
    DS X Γ (.Assign [.Name x pos'] (.Call (.Attribute (.Name x' p1) "pop" ap) [.Constant (.int 0) j ip] [] cp) pos) P := fun B =>
  ps_imp (ps_setAt hx (pe_bm PySem.F.plainAttrs_list PySem.F.slot_list_pop PySem.F.type_list_pop mt_popAt hv.pe (pa_cons pe_int pa_nil hst) hbase hfew hline hst rfl) hs) fun D σ H ⟨F, A, k, _⟩ => by
    obtain ⟨l, vs, h1, h2, h3, h4, h5⟩ := A.sl n _ hΓ
    cases h5 with
    | @cons v _ vs' _ r1 r2 =>
      refine ⟨_, h1, .inl ⟨rfl, _, SqL.of h4⟩, l, _, 0, 0, v, rfl, rfl, h4, by decide, by decide, seqIndex_of (by decide) (by rw [List.length_cons]; omega), rfl, ?_⟩
      exact k _ F _ _ hp ((A.chL hΓ rfl h1 r2).setF r1)
end
end PH

set_option Elab.async false
set_option linter.all false
set_option maxRecDepth 100000
set_option maxHeartbeats 4000000
/-! P27: dicts by typed keys: d.get(k, x), d.setdefault(k, x), {k: v} with a tuple as key. -/
namespace PH
open PySem PySem.Spec PyProof.Rows L2
open PySem.W (Datum DatumOrd Tup)

/-- a dict stands there -/
def tyD (w : World) (x : V) (H : Hp) : Prop := ∃ a o xs, x = .ref a ∧ H a = some (DictO w a o xs)
theorem tyD_ok {X : Cx} : TyOk X "dict" (tyD X.w) := by
  intro pins σ H s x v I r ty
  obtain ⟨a, o, xs, rfl, ha⟩ := ty
  obtain ⟨ho, dok⟩ := dictO_get I ha
  cases (show v = Value.ref a from r)
  have ex := dok.2.2.2.2.1
  exact ⟨⟨o, ho, ex.1⟩, fun b e => by cases e; exact ⟨o, ho, ex.2.1⟩⟩
theorem DictIn.ty {P : Program} {w : World} {K : PySem.W.Frag} {F H : Hp} {a : Addr} {kvs : List (NestedKey × PyData)} (h : DictIn P w K F H a kvs) : tyD w (.ref a) H := by
  obtain ⟨o, xs, ds, h1, _⟩ := h
  exact ⟨a, o, xs, rfl, h1⟩
section
variable {X : Cx} {Γ : List Bd} {a b e ek ev : Expr} {pos ap cp : Pos} {κ : Type} [DecidableEq κ] [Datum κ] [DKey κ] {m : List (κ × PyData)} {k : κ} {d d0 : PyData}
/-! ### d.get(k, x) -/
def rGetT (P : Program) (w : World) (K : PySem.W.Frag) (κ : Type) [DecidableEq κ] [Datum κ] : V → List V → Hp → VK → Prop := fun x vs H Q => ∃ (p : Addr) (F : Hp) (m : List (κ × PyData)) (k : κ) (kv dv : V), x = .ref p ∧ vs = [kv, dv] ∧ Sub F H ∧ DictIn P w K F H p (kvD m) ∧ Rep P w K F kv (Datum.toD k) ∧ Datum.depth κ ≤ 8 ∧
  (∀ v d, getM m k = some d → Rep P w K F v d → Q v H) ∧ (getM m k = none → Q dv H)
theorem mt_get (hu : X.A.units + 200 < cLine) : MtR X "dict.get" (rGetT X.prog X.w X.K κ) := by
  intro pins s σ H x vs v us Q I rx rv h
  obtain ⟨p, F, m, k, kv, dv, rfl, rfl, hF, hd, rk, hdp, q1, q2⟩ := h
  cases (show v = Value.ref p from rx)
  obtain ⟨ku, du, rfl, rku, rdu⟩ := vals2 rv
  obtain ⟨ob, xs, ha, e1, r1, r2⟩ := hd.typed
  obtain ⟨ho, dok⟩ := dictO_get I ha
  have hs := dok.1
  rcases (DKey.kind : TupK κ ∨ AtomK κ) with kt | ka
  · obtain ⟨L, dd, pr⟩ := tups_raw I hF kt ho dok e1 r1
    obtain ⟨b, eb⟩ := tup_v kt rk
    have zz := Rep.nested I hF _ _ _ (DKey.ok k) rk rku
    subst eb
    cases (show ku = Value.ref b from rku)
    refine call_meetsIn PySem.F.slot_dict_get dd.typeIs PySem.F.entry_dict_get (PySem.F.args_dict_get_3 _ _ _) (meetsH_dict_get_default (nestedKind X.prog X.w) p b hs du) ⟨(show X.A.in1.units + 8 < cLine by simp only [Around.in1_units]; omega), keyT k, L, ⟨zz, Nat.le_trans (keyT_depth k) hdp⟩, dd, ?_⟩
    rcases at_tups (k := keyT k) pr with ⟨g1, g2⟩ | ⟨z', c, g1, g2, rc⟩
    · rw [g2]
      rcases getX_rep (k := k) e1 r2 with ⟨g3, g4⟩ | ⟨_, _, g3, g4, _⟩
      · exact ⟨dv, H, I.tok _, rdu, q2 g3⟩
      · rw [g1] at g4; cases g4
    · rw [g2]
      rcases getX_rep (k := k) e1 r2 with ⟨g3, g4⟩ | ⟨v', d', g3, g4, rr⟩
      · rw [g1] at g4; cases g4
      · rw [g1] at g4; cases g4
        exact ⟨_, H, I.tok _, rc, q1 _ _ g3 rr⟩
  · obtain ⟨L, dd, pr⟩ := atoms_raw (P := X.prog) ka ho dok e1 r1
    have ev := atom_v ka rk
    subst ev
    refine call_meetsIn PySem.F.slot_dict_get dd.mapOf.typeIs PySem.F.entry_dict_get (PySem.F.args_dict_get_3 _ _ _) (meets_dict_get_default (mixKind X.prog X.w) p (kV_is rku) hs du) ⟨_, dd.mapOf, ?_⟩
    rcases at_atoms (k := keyM (Datum.toD k)) pr with ⟨g1, g2⟩ | ⟨z', c, g1, g2, rc⟩
    · rw [← atom_keyN ka] at g1
      rcases getX_rep (k := k) e1 r2 with ⟨g3, g4⟩ | ⟨_, _, g3, g4, _⟩
      · rw [g2]; exact ⟨dv, H, I.tok _, rdu, q2 g3⟩
      · rw [g1] at g4; cases g4
    · rw [← atom_keyN ka] at g1
      rcases getX_rep (k := k) e1 r2 with ⟨g3, g4⟩ | ⟨v', d', g3, g4, rr⟩
      · rw [g1] at g4; cases g4
      · rw [g1] at g4; cases g4
        rw [g2]; exact ⟨_, H, I.tok _, rc, q1 _ _ g3 rr⟩
theorem de_getD (hu : X.A.units + 200 < cLine) (ha : DM X Γ a (kvD m)) (hk : DE X Γ ek (Datum.toD k)) (hv : DE X Γ ev d0) (hd : Datum.depth κ ≤ 8 := by decide)
    (hbase : attributeBase a "get" X.env (eval a X.env) = eval a X.env := by rfl)
    (hfew : ((backTo cp (starEach [ek, ev] X.env)).all (fun x => !x.1) && (backToKw cp (keywordEach [] X.env)).all (fun x => x.1.isSome)
      && decide ([ek, ev].length + ([] : List Keyword).length + (if ([] : List Keyword).isEmpty then 0 else 1) < 30)) = true := by rfl)
    (hline : (ap.endLine == cp.line) = true := by rfl) (hs : starEach [ek, ev] X.env = (false, eval ek X.env) :: starEach [ev] X.env := by rfl) (hs2 : starEach [ev] X.env = [(false, eval ev X.env)] := by rfl) (hplain : (backTo cp (starEach [ev] X.env)).any (·.1) = false := by rfl) :
    DE X Γ (.Call (.Attribute a "get" ap) [ek, ev] [] cp) ((getM m k).getD d0) := fun B =>
  pe_imp (pe_mG tyD_ok PySem.F.plainAttrs_dict PySem.F.slot_dict_get PySem.F.type_dict_get (mt_get (κ := κ) hu) (ha B) (pa_cons (hk B) (pa_cons (hv B) pa_nil hs2) hs) hbase hfew hline hs hplain) fun σ H Q ⟨F, A, kk⟩ =>
    ⟨F, A, fun p F1 H1 s1 t1 A1 hdi => ⟨hdi.ty, F1, A1, fun kv F2 H2 s2 t2 A2 r2 => ⟨F2, A2, fun dv F3 H3 s3 t3 A3 r3 => by
      have hdi3 := hdi.mono (s2.trans s3) (by obtain ⟨o, xs, ds, hh, _⟩ := id hdi; exact ((t2.trans t3) _ _ hh).trans hh.symm)
      refine ⟨p, F3, m, k, kv, dv, rfl, rfl, A3.fh, hdi3, r2.mono s3, hd, fun v d e rv => ?_, fun e => ?_⟩
      · rw [e] at kk; exact kk v F3 H3 (s1.trans (s2.trans s3)) (t1.trans (t2.trans t3)) A3 rv
      · rw [e] at kk; exact kk dv F3 H3 (s1.trans (s2.trans s3)) (t1.trans (t2.trans t3)) A3 r3⟩⟩⟩
/-! ### d.setdefault(k, x) -/
def rSetdT (P : Program) (w : World) (K : PySem.W.Frag) (κ : Type) [DecidableEq κ] [Datum κ] : V → List V → Hp → VK → Prop := fun x vs H Q => ∃ (p : Addr) (o : Obj) (xs : List (NestedKey × V × V)) (F : Hp) (m : List (κ × PyData)) (k : κ) (kv dv : V), x = .ref p ∧ vs = [kv, dv] ∧ H p = some (DictO w p o xs) ∧ Sub F H ∧
  xs.map (·.1) = (m.map fun p => keyT p.1) ∧ RepL P w K F (xs.map fun x => x.2.1) (m.map fun p => Datum.toD p.1) ∧ Rep P w K F kv (Datum.toD k) ∧ Datum.depth κ ≤ 8 ∧ m.length < 4000 ∧
  (∀ v, getX xs (keyT k) = some v → Q v H) ∧ (getX xs (keyT k) = none → ∀ o', Q dv (upd H p (DictO w p o' (putX xs (keyT k) kv dv))))
theorem mt_setd (hu : X.A.units + 200 < cLine) : MtR X "dict.setdefault" (rSetdT X.prog X.w X.K κ) := by
  intro pins s σ H x vs v us Q I rx rv h
  obtain ⟨p, ob, xs, F, m, k, kv, dv, rfl, rfl, ha, hF, e1, r1, rk, hdp, hz, q1, q2⟩ := h
  cases (show v = Value.ref p from rx)
  obtain ⟨ku, du, rfl, rku, rdu⟩ := vals2 rv
  obtain ⟨ho, dok⟩ := dictO_get I ha
  have hs := dok.1
  have hxl : xs.length = m.length := by have := congrArg List.length e1; rw [List.length_map, List.length_map] at this; exact this
  have hl2 : (putX xs (keyT k) kv dv).length ≤ sizeLine := by
    have := congrArg List.length (putX_keys (k := k) (kx := kv) (v := dv) (d := .none) e1)
    rw [List.length_map, List.length_map] at this
    have h2 := putM_len m k PyData.none
    rw [sizeLine_eq]; omega
  have fin : getX xs (keyT k) = none → ∀ (h' : Heap) (tk : Nat), Heap.SameBut p s.heap h' → (∃ o', h'.get? p = some o' ∧ DictOk X.w p o' (putX xs (keyT k) kv dv)) → EP X pins σ Q du { s with heap := h', toks := tk } := fun hn h' tk sb ⟨o', ho', dk'⟩ => by
    exact ⟨dv, upd H p (DictO X.w p o' (putX xs (keyT k) kv dv)), I.write (x := p) (e := p) (by rw [ha]; exact True.intro) (.inl rfl) (fun b q hb z => (sb.2 b hb).trans z) ⟨o', ho'⟩ (dictO_new ho' dk'), rdu, q2 hn o'⟩
  rcases (DKey.kind : TupK κ ∨ AtomK κ) with kt | ka
  · obtain ⟨L, dd, pr⟩ := tups_raw I hF kt ho dok e1 r1
    obtain ⟨b, eb⟩ := tup_v kt rk
    have zz := Rep.nested I hF _ _ _ (DKey.ok k) rk rku
    subst eb
    cases (show ku = Value.ref b from rku)
    have hLl : L.length = m.length := by rw [← paired_len pr]; exact hxl
    refine call_setdefault_heap (knd := nestedKind X.prog X.w) (k := keyT k) (show X.A.in1.units + 8 < cLine by simp only [Around.in1_units]; omega) ⟨zz, Nat.le_trans (keyT_depth k) hdp⟩ hs dd (fun c g2 => ?_) (fun g2 h' dd' sb => ?_) (by rw [sizeLine_eq]; omega)
    · rcases at_tups (k := keyT k) pr with ⟨g1, g3⟩ | ⟨z', c', g1, g3, rc⟩
      · rw [g2] at g3; cases g3
      · rw [g2] at g3; cases g3
        exact ⟨z', H, I.tok _, rc, q1 _ g1⟩
    · rcases at_tups (k := keyT k) pr with ⟨g1, g3⟩ | ⟨z', c', g1, g3, rc⟩
      · exact fin g1 h' _ sb (tups_back hs hl2 dd' (put_tups pr rdu))
      · rw [g2] at g3; cases g3
  · obtain ⟨L, dd, pr⟩ := atoms_raw (P := X.prog) ka ho dok e1 r1
    have ev := atom_v ka rk
    subst ev
    have hLl : L.length = m.length := by rw [← paired_len pr]; exact hxl
    refine call_meetsIn PySem.F.slot_dict_setdefault dd.typeIs PySem.F.entry_dict_setdefault (PySem.F.args_dict_setdefault_3 _ _ _) (kt_meets_setdefault (mixKind X.prog X.w) p (kV_is rku) hs du) ⟨L, dd, by rw [sizeLine_eq]; omega, fun c g2 => ?_, fun g2 h' dd' sb => ?_⟩
    · rcases at_atoms (k := keyM (Datum.toD k)) pr with ⟨g1, g3⟩ | ⟨z', c', g1, g3, rc⟩
      · rw [g2] at g3; cases g3
      · rw [g2] at g3; cases g3
        rw [← atom_keyN ka] at g1
        exact ⟨z', H, I.tok _, rc, q1 _ g1⟩
    · rcases at_atoms (k := keyM (Datum.toD k)) pr with ⟨g1, g3⟩ | ⟨z', c', g1, g3, rc⟩
      · rw [← atom_keyN ka] at g1
        refine fin g1 h' _ sb ?_
        rw [atom_keyN ka] at hl2 ⊢
        exact atoms_back hs hl2 dd' (put_atoms pr rdu)
      · rw [g2] at g3; cases g3
/-! ### {k: v}, k a tuple -/
theorem dn_dispT {kk : κ} (kt : TupK κ) (hu : X.A.units + 200 < cLine) (hk : DE X Γ ek (Datum.toD kk)) (hv : DE X Γ ev d) (hd : Datum.depth κ ≤ 8 := by decide) : DN X Γ (.Dict [some ek] [ev] pos) (kvD [(kk, d)]) := fun B => ⟨fun pins s σ H Q I h => by
  obtain ⟨F, A, k⟩ := h
  have hp : H s.heap.objs.size = none := I.hok.fresh (Nat.le_refl _)
  have hg : (s.heap.push { cls := .type "dict", data := .dict #[] }).get? s.heap.objs.size = some { cls := .type "dict", data := .dict #[] } := Heap.get?_push_size _ rfl
  have dk : DictOk X.w s.heap.objs.size { cls := .type "dict", data := .dict #[] } [] := by
    refine ⟨?_, Nat.zero_le _, List.nodup_nil, fun x hx => (by cases hx), ⟨rfl, rfl, rfl⟩, #[], 0, rfl, .nil⟩
    have := I.big
    exact beq_false_of_ne (Nat.ne_of_gt this)
  generalize eo : DictO X.w s.heap.objs.size { cls := .type "dict", data := .dict #[] } [] = o0
  have I1 : Inv X pins σ (upd H s.heap.objs.size o0) { s with heap := s.heap.push { cls := .type "dict", data := .dict #[] }, toks := s.toks } := I.laid (t' := s.toks) (fun _ _ q => Heap.get?_push_of_some _ q) (Nat.le_refl _) (by rw [← eo]; exact dictO_new hg dk)
  have fp : B.F0 s.heap.objs.size = none := A.f0.free (A.fh.free hp)
  have hp0 : B.H0 s.heap.objs.size = none := A.h0.free hp
  have A0 : At X ⟨B.F0, upd B.H0 s.heap.objs.size o0⟩ Γ F σ (upd H s.heap.objs.size o0) := A.pin hp
  have PP := pps_cons (pos := pos) (pe_anyB hk) (pe_anyB hv) (pps_nil (X := X) (pos := pos))
  rw [arm_eval_Dict, zip_pairTrees [some ek] [ev] X.env pos rfl rfl, dictDisplay_pairs (pairTrees [some ek] [ev] X.env pos) (by simp [pairTrees]) (by simp [pairTrees])]
  refine wpAny_bind (wpAny_standAt (wpAny_bind (wpAny_subDictH (knd := nestedKind X.prog X.w) (Q := fun d s' => wpAny (model X.prog X.w) X.A (pure (Value.ref d)) (EP X pins σ Q) X.xe s') (show X.A.units + 8 < cLine by omega) (by simp [pairTrees]) ?_)))
  refine thn (PP.run pins _ σ _ (fun ps H2 => ∃ kx vx F2, ps = [(kx, vx)] ∧ Sub F F2 ∧ Sub (upd H s.heap.objs.size o0) H2 ∧ At X ⟨B.F0, upd B.H0 s.heap.objs.size o0⟩ Γ F2 σ H2 ∧ Rp X F2 kx (Datum.toD kk) ∧ Rp X F2 vx d) I1 ?_) fun ws s2 ⟨ps, H2, I2, rel, kx, vx, F2, ep, sF, tH, A2, rk, rv⟩ => ?_
  · exact ⟨⟨B.F0, upd B.H0 s.heap.objs.size o0⟩, F, A0, fun kx F1 H1 s1 t1 A1 r1 => ⟨⟨B.F0, upd B.H0 s.heap.objs.size o0⟩, F1, A1, fun vx F2 H2 s2 t2 A2 r2 => ⟨kx, vx, F2, rfl, s1.trans s2, t1.trans t2, A2, r1.mono s2, r2⟩⟩⟩
  · subst ep
    obtain ⟨g1, g2, g3⟩ := A2.held fp
    cases rel with
    | @cons _ q _ _ hq hn =>
      cases hn
      obtain ⟨ku, vu⟩ := q
      obtain ⟨rku, rvu⟩ := hq
      obtain ⟨b, eb⟩ := tup_v kt rk
      have zz := Rep.nested I2 A2.fh _ _ _ (DKey.ok kk) rk rku
      subst eb
      cases (show ku = Value.ref b from rku)
      have g2' := g2
      rw [← eo] at g2'
      obtain ⟨ho2, dok2⟩ := dictO_get I2 g2'
      obtain ⟨L, dd, pr⟩ := tups_raw I2 A2.fh kt (m := ([] : List (κ × PyData))) ho2 dok2 rfl .nil
      cases pr
      refine ⟨[(keyT kk, b, vu)], ⟨rfl, rfl, ⟨zz, Nat.le_trans (keyT_depth kk) hd⟩, trivial⟩, dd, fun h' tk dd' sb => wpAny_pure ?_⟩
      have pr' : Paired (fun (x : NestedKey × V × V) (l : NestedKey × Addr × Value) => x.1 = l.1 ∧ x.2.1 = .ref l.2.1 ∧ RelV x.2.2 l.2.2) [(keyT kk, .ref b, vx)] (storedAllH [] [(keyT kk, b, vu)]) := .cons ⟨rfl, rfl, rvu⟩ .nil
      obtain ⟨o', ho', dk'⟩ := tups_back dok2.1 (by rw [sizeLine_eq]; simp) dd' pr'
      refine ⟨.ref s.heap.objs.size, upd H2 s.heap.objs.size (DictO X.w s.heap.objs.size o' [(keyT kk, .ref b, vx)]), I2.write (x := s.heap.objs.size) (e := s.heap.objs.size) (by rw [g2, ← eo]; exact True.intro) (.inl rfl) (fun b q hb z => (sb.2 b hb).trans z) ⟨o', ho'⟩ (dictO_new ho' dk'), rfl, ?_⟩
      refine k _ F2 _ sF ?_ (A2.turn fp hp0) g1 hp0 ?_ g3
      · intro b' u e
        have hb : b' ≠ s.heap.objs.size := ne_of_none e hp
        rw [upd_ne hb]
        exact tH _ _ (by rw [upd_ne hb]; exact e)
      · exact DictIn.ofT upd_same rfl (.cons rk .nil) (.cons rv .nil)⟩
end
end PH

set_option Elab.async false
set_option linter.all false
set_option maxRecDepth 100000
set_option maxHeartbeats 4000000
/-! P28: for k, x in ..: d.setdefault(k, []).append(x), from an empty dict. -/
namespace PH
open PySem PySem.Spec PyProof.Rows L2
open PySem.W (Datum DatumOrd Tup)

/-! ### what is held, in the base -/
section
variable {P : Program} {w : World} {K : PySem.W.Frag} {F0 Hd H0 F H : Hp} {Γ : List Bd} {σ : L2.St} {p : Addr} {o u : HO}
theorem AtF.heldG (A : AtF P w K F0 Hd Γ F σ H) (hd : Hd p = some o) (hp : F0 p = none) : F p = none ∧ H p = some o ∧ Loose Γ σ p := by
  refine ⟨?_, A.h0 _ _ hd, fun i c e oc z => ?_⟩
  · cases q : F p with
    | none => rfl
    | some u =>
      rcases A.fr p u q with z | z
      · rw [hp] at z; cases z
      · rw [hd] at z; cases z
  · obtain ⟨a, u, h1, _, h3, _⟩ := (A.sl i c e).addr oc
    rw [h1] at z; cases z
    rw [hd] at h3; cases h3
/-- a held one is given another state -/
theorem AtF.re (A : AtF P w K F0 Hd Γ F σ H) (hd : Hd p = some o) (hp : F0 p = none) : AtF P w K F0 (upd Hd p u) Γ F σ (upd H p u) := by
  obtain ⟨fp, hq, lo⟩ := A.heldG hd hp
  refine ⟨A.len, A.f0, A.h0.upd2, A.fh.mut fp, fun q v e => ?_, fun i b e => ?_, A.inj⟩
  · by_cases c : q = p
    · subst c; rw [fp] at e; cases e
    · rw [upd_ne c]; exact A.fr q v e
  · have h := A.sl i b e
    cases b with
    | un => trivial
    | fz d => exact h
    | rf v => exact h
    | ob v φ => exact h
    | sc ns => exact h
    | ol ds =>
      obtain ⟨a', vs', h1, h2, h3, h4, h5⟩ := h
      have hn : a' ≠ p := fun z => lo i _ e rfl (z ▸ h1)
      exact ⟨a', vs', h1, h2, by rw [upd_ne hn]; exact h3, by rw [upd_ne hn]; exact h4, h5⟩
    | od kvs =>
      obtain ⟨a', h1, h2, h3, h4⟩ := h
      have hn : a' ≠ p := fun z => lo i _ e rfl (z ▸ h1)
      exact ⟨a', h1, h2, by rw [upd_ne hn]; exact h3, h4.mono (Sub.refl F) (upd_ne hn)⟩
/-- nothing is held any more -/
theorem AtF.unheld (A : AtF P w K F0 Hd Γ F σ H) (s : Sub H0 Hd) : AtF P w K F0 H0 Γ F σ H where
  len := A.len
  f0 := A.f0
  h0 := s.trans A.h0
  fh := A.fh
  fr := fun q u e => by
    rcases A.fr q u e with z | z
    · exact .inl z
    · exact .inr (s.free z)
  sl := fun i b e => by
    have h := A.sl i b e
    cases b with
    | un => trivial
    | fz d => exact h
    | rf v => exact h
    | ob v φ => exact h
    | sc ns => exact h
    | ol ds => obtain ⟨a', vs', h1, h2, h3, h4, h5⟩ := h; exact ⟨a', vs', h1, h2, s.free h3, h4, h5⟩
    | od kvs => obtain ⟨a', h1, h2, h3, h4⟩ := h; exact ⟨a', h1, h2, s.free h3, h4⟩
  inj := A.inj
theorem AtF.unat (A : AtF P w K F0 H0 Γ F σ H) (i : Nat) : AtF P w K F0 H0 (Γ.set i .un) F σ H := by
  by_cases hi : i < σ.length
  · have A2 : AtF P w K F0 H0 (Γ.set i .un) F (σ.set i (σ[i])) H := A.setU
    rw [List.set_getElem_self hi] at A2
    exact A2
  · have hi' : Γ.length ≤ i := by rw [← A.len]; omega
    have e : Γ.set i .un = Γ := List.set_eq_of_length_le hi'
    rw [e]
    exact A
end
/-! ### groups -/
def groupF {κ : Type} [DecidableEq κ] (m : List (κ × List PyData)) (e : κ × PyData) : List (κ × List PyData) := putM m e.1 ((getM m e.1).getD [] ++ [e.2])
def groups {κ : Type} [DecidableEq κ] (es : List (κ × PyData)) : List (κ × List PyData) := es.foldl groupF []
section
variable {P : Program} {w : World} {K : PySem.W.Frag} {F F' H H0 F1 Hd : Hp} {a : Addr} {κ : Type} [DecidableEq κ] [Datum κ] [DKey κ] {Γ : List Bd} {σ : L2.St} {k : κ} {v : V}
/-- an entry: its key, its list -/
def GE (P : Program) (w : World) (K : PySem.W.Frag) (F F1 H0 Hd : Hp) (a : Addr) (x : NestedKey × V × V) (p : κ × List PyData) : Prop :=
  x.1 = keyT p.1 ∧ ∃ q us, x.2.2 = .ref q ∧ q ≠ a ∧ Hd q = some (.lst us) ∧ F1 q = none ∧ H0 q = none ∧ RepL P w K F us p.2
theorem GE.mono {x : NestedKey × V × V} {p : κ × List PyData} (h : GE P w K F F1 H0 Hd a x p) (s : Sub F F') : GE P w K F' F1 H0 Hd a x p := by
  obtain ⟨h1, q, us, h2, h3, h4, h5, h6, h7⟩ := h
  exact ⟨h1, q, us, h2, h3, h4, h5, h6, h7.mono s⟩
theorem GE.upd {x : NestedKey × V × V} {p : κ × List PyData} {b : Addr} {u : HO} (h : GE P w K F F1 H0 Hd a x p) (n : x.2.2 ≠ .ref b) : GE P w K F F1 H0 (L2.upd Hd b u) a x p := by
  obtain ⟨h1, q, us, h2, h3, h4, h5, h6, h7⟩ := h
  exact ⟨h1, q, us, h2, h3, by rw [upd_ne (fun z => n (by rw [h2, z]))]; exact h4, h5, h6, h7⟩
theorem paired_imp {α β : Type} {G G' : α → β → Prop} : ∀ {l : List α} {m : List β}, Paired G l m → (∀ x ∈ l, ∀ y, G x y → G' x y) → Paired G' l m
  | _, _, .nil, _ => .nil
  | _, _, .cons a t, h => .cons (h _ List.mem_cons_self _ a) (paired_imp t fun x hx => h x (List.mem_cons_of_mem _ hx))
theorem paired_mem1 {α β : Type} {G : α → β → Prop} : ∀ {l : List α} {m : List β}, Paired G l m → ∀ x ∈ l, ∃ y, G x y
  | _, _, .nil, _, h => by cases h
  | _, _, .cons a t, x, h => by
    rcases List.mem_cons.mp h with z | z
    · rw [z]; exact ⟨_, a⟩
    · exact paired_mem1 t x z
theorem ge_keys : ∀ {xs : List (NestedKey × V × V)} {m : List (κ × List PyData)}, Paired (GE P w K F F1 H0 Hd a) xs m → xs.map (·.1) = m.map fun p => keyT p.1
  | _, _, .nil => rfl
  | _, _, .cons g t => by rw [List.map_cons, List.map_cons, ge_keys t, g.1]
theorem ge_there : ∀ {xs : List (NestedKey × V × V)} {m : List (κ × List PyData)}, Paired (GE P w K F F1 H0 Hd a) xs m → (xs.map fun x => x.2.2).Nodup → (m.map (·.1)).Nodup → getX xs (keyT k) = some v →
    ∃ q us ds, v = .ref q ∧ getM m k = some ds ∧ q ≠ a ∧ Hd q = some (.lst us) ∧ F1 q = none ∧ H0 q = none ∧ RepL P w K F us ds ∧
      ∀ us' ds', RepL P w K F us' ds' → Paired (GE P w K F F1 H0 (upd Hd q (.lst us')) a) xs (m.map fun p => if p.1 = k then (p.1, ds') else p)
  | _, _, .nil, _, _, h => by cases h
  | x :: xs, p :: m, .cons g t, n1, n2, h => by
    rw [List.map_cons, List.nodup_cons] at n1 n2
    unfold getX at h
    rw [List.find?_cons] at h
    unfold getM
    rw [List.find?_cons]
    by_cases c : p.1 = k
    · rw [decide_eq_true (g.1.trans (congrArg keyT c))] at h
      rw [decide_eq_true c]
      obtain ⟨g1, q, us, g2, g3, g4, g5, g6, g7⟩ := g
      cases h
      refine ⟨q, us, p.2, g2, rfl, g3, g4, g5, g6, g7, fun us' ds' r => ?_⟩
      rw [List.map_cons, if_pos c]
      have e : (m.map fun p => if p.1 = k then (p.1, ds') else p) = m := by
        refine (List.map_congr_left fun p' hp' => ?_).trans (List.map_id m)
        rw [if_neg fun z => n2.1 (List.mem_map.mpr ⟨p', hp', z.trans c.symm⟩)]
        rfl
      rw [e]
      refine .cons ⟨g1, q, us', g2, g3, upd_same, g5, g6, r⟩ (paired_imp t fun x' hx' y gy => gy.upd fun z => n1.1 ?_)
      rw [g2]
      exact List.mem_map.mpr ⟨x', hx', z⟩
    · rw [decide_eq_false (fun z => c (keyT_inj (g.1.symm.trans z)))] at h
      rw [decide_eq_false c]
      obtain ⟨q, us, ds, h1, h2, h3, h4, h5, h6, h7, h8⟩ := ge_there t n1.2 n2.2 h
      refine ⟨q, us, ds, h1, h2, h3, h4, h5, h6, h7, fun us' ds' r => ?_⟩
      rw [List.map_cons, if_neg c]
      refine .cons (g.upd fun z => ?_) (h8 us' ds' r)
      have hv : v ∈ xs.map fun x => x.2.2 := by
        obtain ⟨x', hx', e'⟩ := Option.map_eq_some_iff.mp h
        exact List.mem_map.mpr ⟨x', List.mem_of_find?_eq_some hx', e'⟩
      rw [h1] at hv
      exact n1.1 (by rw [z]; exact hv)
theorem ge_none : ∀ {xs : List (NestedKey × V × V)} {m : List (κ × List PyData)}, Paired (GE P w K F F1 H0 Hd a) xs m → getX xs (keyT k) = none → getM m k = none ∧ m.any (fun p => decide (p.1 = k)) = false ∧ xs.any (fun x => decide (x.1 = keyT k)) = false
  | _, _, .nil, _ => ⟨rfl, rfl, rfl⟩
  | x :: xs, p :: m, .cons g t, h => by
    unfold getX at h
    rw [List.find?_cons] at h
    unfold getM
    rw [List.find?_cons, List.any_cons, List.any_cons]
    by_cases c : p.1 = k
    · rw [decide_eq_true (g.1.trans (congrArg keyT c))] at h
      cases h
    · have c' : ¬ x.1 = keyT k := fun z => c (keyT_inj (g.1.symm.trans z))
      rw [decide_eq_false c'] at h ⊢
      rw [decide_eq_false c]
      obtain ⟨h1, h2, h3⟩ := ge_none t h
      exact ⟨h1, by rw [h2]; rfl, by rw [h3]; rfl⟩
theorem getM_some_any {κ ν : Type} [DecidableEq κ] {m : List (κ × ν)} {k : κ} {d : ν} (h : getM m k = some d) : m.any (fun p => decide (p.1 = k)) = true := by
  obtain ⟨p, hp, _⟩ := Option.map_eq_some_iff.mp h
  have := List.find?_some hp
  exact List.any_eq_true.mpr ⟨p, List.mem_of_find?_eq_some hp, this⟩
/-- the lists are kept for good -/
theorem ge_freeze {F0 : Hp} : ∀ {xs : List (NestedKey × V × V)} {m : List (κ × List PyData)} {F : Hp}, Paired (fun (x : NestedKey × V × V) (p : κ × List PyData) => ∃ q us, x.2.2 = .ref q ∧ q ≠ a ∧ H q = some (.lst us) ∧ F q = none ∧ H0 q = none ∧ Loose Γ σ q ∧ RepL P w K F us p.2) xs m → (xs.map fun x => x.2.2).Nodup →
    AtF P w K F0 H0 Γ F σ H → F a = none → ∃ F', Sub F F' ∧ AtF P w K F0 H0 Γ F' σ H ∧ F' a = none ∧ RepL P w K F' (xs.map fun x => x.2.2) (m.map fun p => PyData.list p.2)
  | _, _, F, .nil, _, A, hf => ⟨F, Sub.refl F, A, hf, .nil⟩
  | x :: xs, p :: m, F, .cons g t, n, A, hf => by
    rw [List.map_cons, List.nodup_cons] at n
    obtain ⟨q, us, g1, g2, g3, g4, g5, g6, g7⟩ := g
    have A2 := A.keep g3 g4 g5 g6
    have s : Sub F (upd F q (.lst us)) := Sub.new g4
    obtain ⟨F', s', A', hf', r⟩ := ge_freeze (paired_imp t fun x' hx' y ⟨q', us', k1, k2, k3, k4, k5, k6, k7⟩ => ⟨q', us', k1, k2, k3, by rw [upd_ne (fun z => n.1 (by rw [g1, ← z, ← k1]; exact List.mem_map.mpr ⟨x', hx', rfl⟩))]; exact k4, k5, k6, k7.mono s⟩) n.2 A2 (by rw [upd_ne g2.symm]; exact hf)
    refine ⟨F', s.trans s', A', hf', ?_⟩
    rw [List.map_cons, List.map_cons, g1]
    exact .cons (.lst (s' _ _ upd_same) (g7.mono (s.trans s'))) r
end
section
variable {X : Cx} {Γ : List Bd} {e : Expr} {rest : List Stmt} {P : Po} {i j1 j2 : Nat} {on x1 x2 : Str} {κ : Type} [DecidableEq κ] [Datum κ] [DKey κ] {es : List (κ × PyData)}
theorem groups_nodup : ∀ (es : List (κ × PyData)) (m : List (κ × List PyData)), (m.map (·.1)).Nodup → ((es.foldl groupF m).map (·.1)).Nodup
  | [], _, h => h
  | e :: es, m, h => groups_nodup es _ (putM_keys_nodup h _ _)
theorem groups_len : ∀ (es : List (κ × PyData)) (m : List (κ × List PyData)), (es.foldl groupF m).length ≤ m.length + es.length
  | [], m => Nat.le_refl _
  | e :: es, m => by
    have h1 := groups_len es (groupF m e)
    have h2 : (groupF m e).length ≤ m.length + 1 := putM_len _ _ _
    rw [List.foldl_cons, List.length_cons]
    omega
theorem groups_item : ∀ (es : List (κ × PyData)) (m : List (κ × List PyData)) (n : Nat), (∀ p ∈ m, p.2.length ≤ n) → ∀ p ∈ es.foldl groupF m, p.2.length ≤ n + es.length
  | [], m, n, h => fun p hp => Nat.le_trans (h p hp) (Nat.le_add_right _ _)
  | e :: es, m, n, h => fun p hp => by
    have h2 : ∀ p ∈ groupF m e, p.2.length ≤ n + 1 := fun p hp => by
      have hl : ((getM m e.1).getD [] ++ [e.2]).length ≤ n + 1 := by
        rw [List.length_append]
        show _ + 1 ≤ _
        cases q : getM m e.1 with
        | none => simp
        | some ds =>
          obtain ⟨p', hp', e'⟩ := Option.map_eq_some_iff.mp q
          have := h p' (List.mem_of_find?_eq_some hp')
          rw [e'] at this
          show ds.length + 1 ≤ _
          omega
      unfold groupF putM at hp
      split at hp
      · obtain ⟨p', hp', rfl⟩ := List.mem_map.mp hp
        have := h p' hp'
        split
        · exact hl
        · omega
      · rcases List.mem_append.mp hp with z | z
        · have := h p z
          omega
        · rw [List.mem_singleton.mp z]; exact hl
    have := groups_item es (groupF m e) (n + 1) h2 p hp
    rw [List.length_cons]
    omega
theorem dss_groups {p1 p2 p3 lp ap1 cp1 ap2 cp2 epos fpos tp t1 t2 : Pos} {kk : Nat} (hp : PassesOwn (model X.prog X.w) X.A X.env X.xe) (hc : X.calm = true) (hu : X.A.units + 200 < cLine) (von : VarAt X i on) (v1 : VarAt X j1 x1) (v2 : VarAt X j2 x2)
    (hi : DI X (Γ.set i (.od [])) (.Tuple [.Name x1 t1, .Name x2 t2] kk tp) e (es.map fun p => PyData.tuple [Datum.toD p.1, p.2])) (hg : DG X (.Tuple [.Name x1 t1, .Name x2 t2] kk tp) (.tp [j1, j2])) (hil : i < Γ.length) (n1 : i ≠ j1) (n2 : i ≠ j2) (n12 : j1 ≠ j2) (u1 : Γ[j1]? = some .un) (u2 : Γ[j2]? = some .un)
    (hz : es.length < 4000) (hd : Datum.depth κ ≤ 8) (hr : DSs X (Γ.set i (.od (kvD ((groups es).map fun p => (p.1, PyData.list p.2))))) rest P)
    (hs : ∀ x, foldedSetIterable e X.env x = pure x := by intro _; rfl)
    (hb1 : attributeBase (.Name on p1) "setdefault" X.env (eval (.Name on p1) X.env) = eval (.Name on p1) X.env := by rfl)
    (hf1 : ((backTo cp1 (starEach [.Name x1 p2, .List [] lp] X.env)).all (fun x => !x.1) && (backToKw cp1 (keywordEach [] X.env)).all (fun x => x.1.isSome) && decide ([Expr.Name x1 p2, .List [] lp].length + ([] : List Keyword).length + (if ([] : List Keyword).isEmpty then 0 else 1) < 30)) = true := by rfl)
    (hl1 : (ap1.endLine == cp1.line) = true := by rfl) (hs1 : starEach [.Name x1 p2, .List [] lp] X.env = (false, eval (.Name x1 p2) X.env) :: starEach [.List [] lp] X.env := by rfl) (hs2 : starEach [.List [] lp] X.env = [(false, eval (.List [] lp) X.env)] := by rfl) (hq1 : (backTo cp1 (starEach [.List [] lp] X.env)).any (·.1) = false := by rfl)
    (hb2 : attributeBase (.Call (.Attribute (.Name on p1) "setdefault" ap1) [.Name x1 p2, .List [] lp] [] cp1) "append" X.env (eval (.Call (.Attribute (.Name on p1) "setdefault" ap1) [.Name x1 p2, .List [] lp] [] cp1) X.env) = eval (.Call (.Attribute (.Name on p1) "setdefault" ap1) [.Name x1 p2, .List [] lp] [] cp1) X.env := by rfl)
    (hf2 : ((backTo cp2 (starEach [.Name x2 p3] X.env)).all (fun x => !x.1) && (backToKw cp2 (keywordEach [] X.env)).all (fun x => x.1.isSome) && decide ([Expr.Name x2 p3].length + ([] : List Keyword).length + (if ([] : List Keyword).isEmpty then 0 else 1) < 30)) = true := by rfl)
    (hl2 : (ap2.endLine == cp2.line) = true := by rfl) (hs3 : starEach [.Name x2 p3] X.env = [(false, eval (.Name x2 p3) X.env)] := by rfl)
    (hsw : swapsWith (.Call (.Attribute (.Call (.Attribute (.Name on p1) "setdefault" ap1) [.Name x1 p2, .List [] lp] [] cp1) "append" ap2) [.Name x2 p3] [] cp2) none epos.line X.env = pure false := by rfl) :
    DSs X (Γ.set i (.od [])) (.For (.Tuple [.Name x1 t1, .Name x2 t2] kk tp) e [.Expr (.Call (.Attribute (.Call (.Attribute (.Name on p1) "setdefault" ap1) [.Name x1 p2, .List [] lp] [] cp1) "append" ap2) [.Name x2 p3] [] cp2) epos] [] fpos :: rest) P := fun B => by
  refine pss_imp (pss_cons (ps_for (g := fun v σ H Q => ∃ B' : Bs, tG X B' (.tp [j1, j2]) v σ H Q) hp hc (hi B) ⟨fun pins s σ H v u Q I' r hw => ?_⟩
    (pss_one (ps_expr (pe_bm PySem.F.plainAttrs_list PySem.F.slot_list_append PySem.F.type_list_append mt_append
      (pe_mG tyD_ok PySem.F.plainAttrs_dict PySem.F.slot_dict_setdefault PySem.F.type_dict_setdefault (mt_setd (κ := κ) hu) von.pe (pa_cons v1.pe (pa_cons (pe_lst pa_nil) pa_nil hs2) hs1) hb1 hf1 hl1 hs1 hq1)
      (pa_cons v2.pe pa_nil hs3) hb2 hf2 hl2 hs3 rfl) hsw)) hs) (pss_anyS hr)) fun D σ H ⟨F, A, k1, k2, k3, k4⟩ => ?_
  · obtain ⟨B', hw⟩ := hw
    exact (hg B').run pins s σ H v u Q I' r hw
  refine ⟨F, A, fun J F1 H1 s1 t1 A1 st => ?_⟩
  have gi : (Γ.set i (.od []))[i]? = some (.od []) := List.getElem?_set_self hil
  obtain ⟨a, a1, a2, a3, a4⟩ := A1.sl i _ gi
  obtain ⟨o0, xs0, ha0, e0, _, _⟩ := (show DictIn X.prog X.w X.K F1 H1 a (kvD (κ := κ) []) from a4).typed
  have hx0 : xs0 = [] := List.map_eq_nil_iff.mp e0
  subst hx0
  -- the dict is held
  have Ar : At X B ((Γ.set i (.od [])).set i .un) F1 σ H1 := A1.unat i
  have lo : Loose ((Γ.set i (.od [])).set i .un) σ a := fun j c e oc z => by
    rcases getSet e with ⟨rfl, rfl⟩ | ⟨ne, e⟩
    · cases oc
    · exact ne (A1.inj j i c _ a e gi oc rfl z a1)
  have Ap : At X ⟨B.F0, upd B.H0 a (DictO X.w a o0 [])⟩ ((Γ.set i (.od [])).set i .un) F1 σ H1 := Ar.pin2 ha0 a2 a3 lo
  have Aq : At X ⟨F1, upd B.H0 a (DictO X.w a o0 [])⟩ (Γ.set i (.rf (.ref a))) F1 σ H1 := by
    have z := (Ap.base Ap.f0 (Sub.refl F1)).setR (j := i) (v := .ref a)
    rw [List.set_set, List.set_set] at z
    have e : σ.set i (some (V.ref a)) = σ := set_id a1
    rw [e] at z
    exact z
  have ri : (Γ.set i (.rf (.ref a)))[i]? = some (.rf (.ref a)) := List.getElem?_set_self hil
  refine ⟨fun n mm σ' H' => mm = es.length - n ∧ n ≤ es.length ∧ ∃ F' Hd o xs, At X ⟨F1, Hd⟩ (Γ.set i (.rf (.ref a))) F' σ' H' ∧ Sub B.H0 Hd ∧ Hd a = some (DictO X.w a o xs) ∧ Paired (GE X.prog X.w X.K F' F1 B.H0 Hd a) xs (groups (es.take n)) ∧
      RpL X F' (xs.map fun x => x.2.1) ((groups (es.take n)).map fun p => Datum.toD p.1) ∧ (xs.map fun x => x.2.2).Nodup,
    ⟨es.length, by simp, Nat.zero_le _, F1, _, o0, [], Aq, Sub.new a3, upd_same, .nil, .nil, List.nodup_nil⟩, ?_⟩
  rintro n mm σ' H' ⟨rfl, hle, F', Hd, o, xs, A', sHd, hHd, hpr, hkx, hnd⟩
  obtain ⟨go, stop⟩ := st F' H' A'.f0 A'.fh
  by_cases hlt : n < es.length
  · obtain ⟨⟨key, val⟩, hE⟩ : ∃ z, es[n] = z := ⟨_, rfl⟩
    have hget : (es.map fun p => PyData.tuple [Datum.toD p.1, p.2])[n]? = some (PyData.tuple [Datum.toD key, val]) := by
      rw [List.getElem?_map, List.getElem?_eq_getElem hlt, hE]; rfl
    have htk : groups (es.take (n + 1)) = groupF (groups (es.take n)) (key, val) := by
      unfold groups
      rw [List.take_add_one, List.getElem?_eq_getElem hlt, hE, List.foldl_append]
      rfl
    have hml : (groups (es.take n)).length < 4000 := by
      have z := groups_len (es.take n) []
      rw [List.length_take, List.length_nil] at z
      unfold groups
      omega
    have hmi : ∀ p ∈ groups (es.take n), p.2.length ≤ 4000 := fun p hp => by
      have z := groups_item (es.take n) [] 0 (fun p hp => by cases hp) p hp
      rw [List.length_take] at z
      omega
    have hmn := groups_nodup (es.take n) [] List.nodup_nil
    change ((groups (es.take n)).map (·.1)).Nodup at hmn
    generalize groups (es.take n) = m at hpr hkx htk hml hmi hmn
    obtain ⟨hgo, hy⟩ := go n _ hget
    refine .inr ⟨hgo, fun σ2 H2 => ∃ F' Hd o xs, At X ⟨F1, Hd⟩ (Γ.set i (.rf (.ref a))) F' σ2 H2 ∧ Sub B.H0 Hd ∧ Hd a = some (DictO X.w a o xs) ∧ Paired (GE X.prog X.w X.K F' F1 B.H0 Hd a) xs (groups (es.take (n + 1))) ∧
      RpL X F' (xs.map fun x => x.2.1) ((groups (es.take (n + 1))).map fun p => Datum.toD p.1) ∧ (xs.map fun x => x.2.2).Nodup, fun σ2 H2 h2 => ⟨es.length - (n + 1), by omega, rfl, hlt, h2⟩, fun x H2 hyl => ?_⟩
    obtain ⟨F2, f1, f2, f3, f4, rx⟩ := hy x H2 hyl
    have A2 : At X ⟨F1, Hd⟩ (Γ.set i (.rf (.ref a))) F2 σ' H2 := A'.grow f1 f2 f3 f4
    refine ⟨⟨F1, Hd⟩, F2, _, ((Γ.set i (.rf (.ref a))).set j1 (.fz (Datum.toD key))).set j2 (.fz val), _, A2, rx, rfl, fun σ2 _ A3 => ?_⟩
    have gi2 : (((Γ.set i (.rf (.ref a))).set j1 (.fz (Datum.toD key))).set j2 (.fz val))[i]? = some (.rf (.ref a)) := by
      rw [List.getElem?_set_ne n2.symm, List.getElem?_set_ne n1.symm]; exact ri
    have hj1 : j1 < Γ.length := (List.getElem?_eq_some_iff.mp u1).1
    have hj2 : j2 < Γ.length := (List.getElem?_eq_some_iff.mp u2).1
    have g1 : (((Γ.set i (.rf (.ref a))).set j1 (.fz (Datum.toD key))).set j2 (.fz val))[j1]? = some (.fz (Datum.toD key)) := by
      rw [List.getElem?_set_ne n12.symm, List.getElem?_set_self (by rw [List.length_set]; exact hj1)]
    have g2 : (((Γ.set i (.rf (.ref a))).set j1 (.fz (Datum.toD key))).set j2 (.fz val))[j2]? = some (.fz val) := by
      rw [List.getElem?_set_self (by rw [List.length_set, List.length_set]; exact hj2)]
    have eΓ : ((((Γ.set i (.rf (.ref a))).set j1 (.fz (Datum.toD key))).set j2 (.fz val)).set j1 .un).set j2 .un = Γ.set i (.rf (.ref a)) := by
      rw [List.set_comm _ _ n12.symm, List.set_set, List.set_set, List.set_comm _ _ n1, set_id u1] 
      rw [List.set_comm _ _ n2, set_id u2]
    have s1 : σ2[i]? = some (some (.ref a)) := A3.sl i _ gi2
    obtain ⟨w1, s2, rw1⟩ := A3.sl j1 _ g1
    obtain ⟨w2, s3, rw2⟩ := A3.sl j2 _ g2
    have F1a : F1 a = none := a2
    obtain ⟨fa, hHa, loa⟩ := A3.heldG hHd F1a
    have hpr2 : Paired (GE X.prog X.w X.K F2 F1 B.H0 Hd a) xs m := paired_imp hpr fun x _ y g => g.mono f1
    have hkx2 : RpL X F2 (xs.map fun x => x.2.1) (m.map fun p => Datum.toD p.1) := hkx.mono f1
    refine ⟨.ref a, s1, ⟨a, o, xs, rfl, hHa⟩, w1, s2, few_le (by show 0 ≤ 10000000; decide), fun p hp => ?_⟩
    have npa : a ≠ p := fun z => by rw [z, hp] at hHa; cases hHa
    have A4 : At X ⟨F1, Hd⟩ _ F2 σ2 (upd H2 p (.lst [])) := A3.lay0 hp
    have em : (m.map fun p => (p.1, PyData.none)).map (fun p => keyT p.1) = m.map fun p => keyT p.1 := by rw [List.map_map]; rfl
    have em2 : (m.map fun p => (p.1, PyData.none)).map (fun p => Datum.toD p.1) = m.map fun p => Datum.toD p.1 := by rw [List.map_map]; rfl
    refine ⟨a, o, xs, F2, m.map fun p => (p.1, .none), key, w1, .ref p, rfl, rfl, by rw [upd_ne npa]; exact hHa, A4.fh, by rw [em]; exact ge_keys hpr2, by rw [em2]; exact hkx2, rw1, hd, by rw [List.length_map]; exact hml, fun v hv => ?_, fun hv o' => ?_⟩
    · -- there
      obtain ⟨q, us, ds, rfl, c1, c2, c3, c4, c5, c6, c7⟩ := ge_there hpr2 hnd hmn hv
      obtain ⟨fq, hHq, loq⟩ := A4.heldG c3 c4
      have hlen : us.length < sizeLine := by
        obtain ⟨p', hp', e'⟩ := Option.map_eq_some_iff.mp c1
        have z := hmi p' (List.mem_of_find?_eq_some hp')
        rw [e'] at z
        exact few_lt (by rw [c6.length]; omega)
      refine ⟨.inl ⟨rfl, us, SqL.of hHq⟩, w2, s3, q, us, w2, rfl, rfl, hHq, hlen, ?_⟩
      have A5 := (A4.re (u := .lst (us ++ [w2])) c3 c4)
      have A6 := (A5.unat j1).unat j2
      rw [eΓ] at A6
      refine ⟨F2, upd Hd q (.lst (us ++ [w2])), o, xs, A6, fun b u e => ?_, by rw [upd_ne c2.symm]; exact hHd, ?_, ?_, hnd⟩
      · rw [upd_ne (ne_of_none e c5)]; exact sHd b u e
      · rw [htk]
        unfold groupF putM
        rw [if_pos (getM_some_any c1), c1]
        exact c7 _ _ (c6.append (.cons rw2 .nil))
      · rw [htk]
        have ek : (groupF m (key, val)).map (fun p => Datum.toD p.1) = m.map fun p => Datum.toD p.1 := by
          unfold groupF putM
          rw [if_pos (getM_some_any c1), List.map_map]
          refine List.map_congr_left fun p' _ => ?_
          show Datum.toD (if p'.1 = key then (p'.1, _) else p').1 = _
          split <;> rfl
        rw [ek]
        exact hkx2
    · -- new
      obtain ⟨c1, c2, c3⟩ := ge_none hpr2 hv
      have ex : putX xs (keyT key) w1 (.ref p) = xs ++ [(keyT key, w1, .ref p)] := by
        unfold putX
        rw [c3]
        rfl
      rw [ex]
      have hF1p : F1 p = none := (A3.f0.trans A3.fh).free hp
      have hHdp : Hd p = none := A3.h0.free hp
      have hB0p : B.H0 p = none := sHd.free hHdp
      have A5 : At X ⟨F1, upd Hd p (.lst [])⟩ _ F2 σ2 (upd H2 p (.lst [])) := A3.pin hp
      have A6 : At X ⟨F1, upd (upd Hd p (.lst [])) a (DictO X.w a o' (xs ++ [(keyT key, w1, .ref p)]))⟩ _ F2 σ2 (upd (upd H2 p (.lst [])) a (DictO X.w a o' (xs ++ [(keyT key, w1, .ref p)]))) := A5.re (by show upd Hd p (.lst []) a = _; rw [upd_ne npa]; exact hHd) F1a
      have hHp : upd (upd H2 p (.lst [])) a (DictO X.w a o' (xs ++ [(keyT key, w1, .ref p)])) p = some (.lst []) := by rw [upd_ne npa.symm, upd_same]
      have hHdp2 : upd (upd Hd p (.lst [])) a (DictO X.w a o' (xs ++ [(keyT key, w1, .ref p)])) p = some (.lst []) := by rw [upd_ne npa.symm, upd_same]
      refine ⟨.inl ⟨rfl, [], SqL.of hHp⟩, w2, s3, p, [], w2, rfl, rfl, hHp, few_lt (by show 0 ≤ 10000000; decide), ?_⟩
      have A7 := ((A6.re (u := .lst ([] ++ [w2])) hHdp2 hF1p).unat j1).unat j2
      rw [eΓ] at A7
      refine ⟨F2, upd (upd (upd Hd p (.lst [])) a (DictO X.w a o' (xs ++ [(keyT key, w1, .ref p)]))) p (.lst ([] ++ [w2])), o', xs ++ [(keyT key, w1, .ref p)], A7, fun b u e => ?_, by rw [upd_ne npa, upd_same], ?_, ?_, ?_⟩
      · rw [upd_ne (ne_of_none e hB0p), upd_ne (ne_of_none e a3), upd_ne (ne_of_none e hB0p)]; exact sHd b u e
      · rw [htk]
        unfold groupF putM
        rw [c2, if_neg Bool.false_ne_true, c1]
        refine Paired.snoc (paired_imp hpr2 fun x hx y g => ?_) ⟨rfl, p, [w2], rfl, npa.symm, upd_same, hF1p, hB0p, .cons rw2 .nil⟩
        have hxp : x.2.2 ≠ .ref p := fun z => by
          obtain ⟨_, q, us, k1, _, k3, _⟩ := g
          rw [k1] at z
          cases z
          rw [hHdp] at k3; cases k3
        have hxa : x.2.2 ≠ .ref a := fun z => by
          obtain ⟨_, q, us, k1, k2, _⟩ := g
          rw [k1] at z
          cases z
          exact k2 rfl
        exact ((g.upd hxp).upd hxa).upd hxp
      · rw [htk]
        unfold groupF putM
        rw [c2, if_neg Bool.false_ne_true, List.map_append, List.map_append]
        exact hkx2.append (.cons rw1 .nil)
      · rw [List.map_append, List.nodup_append]
        refine ⟨hnd, by simp, fun y hy z hz e => ?_⟩
        rw [List.map_cons, List.map_nil, List.mem_singleton] at hz
        obtain ⟨x, hx, rfl⟩ := List.mem_map.mp hy
        have hgx : ∃ y, GE X.prog X.w X.K F2 F1 B.H0 Hd a x y := paired_mem1 hpr2 x hx
        obtain ⟨y, _, q, us, k1, _, k3, _⟩ := hgx
        have e' : V.ref q = V.ref p := k1.symm.trans (e.trans hz)
        cases e'
        rw [hHdp] at k3; cases k3
  · have en : n = es.length := by omega
    subst en
    refine .inl ⟨by rw [List.length_map] at stop; exact stop, ?_⟩
    rw [List.take_length] at hpr hkx
    have A2 : At X ⟨F1, B.H0⟩ (Γ.set i (.rf (.ref a))) F' σ' H' := A'.unheld sHd
    have A3 : At X B (Γ.set i (.rf (.ref a))) F' σ' H' := A2.unbase A1.f0 A1.fr
    obtain ⟨fa, hHa, loa⟩ := A'.heldG hHd a2
    obtain ⟨F2, sF, A4, f2a, rvals⟩ := ge_freeze (paired_imp hpr fun x _ y ⟨_, q, us, k1, k2, k3, k4, k5, k6⟩ => by
      obtain ⟨fq, hHq, loq⟩ := A'.heldG k3 k4
      exact ⟨q, us, k1, k2, hHq, fq, k5, loq, k6⟩) hnd A3 fa
    have si : σ'[i]? = some (some (.ref a)) := A4.sl i _ ri
    have hdi : DictIn X.prog X.w X.K F2 H' a (kvD ((groups es).map fun p => (p.1, PyData.list p.2))) := by
      refine DictIn.ofT hHa ?_ ?_ ?_
      · rw [List.map_map]; exact ge_keys hpr
      · rw [List.map_map]; exact hkx.mono sF
      · rw [List.map_map]; exact rvals
    have A5 := A4.setD (j := i) f2a a3 hdi loa
    have e : σ'.set i (some (V.ref a)) = σ' := set_id si
    rw [e, List.set_set] at A5
    exact ⟨B, F2, A5, k1, k2, k3, k4⟩
end
end PH

set_option Elab.async false
set_option linter.all false
set_option maxRecDepth 100000
set_option maxHeartbeats 4000000
/-! P29: loops that may hand back; comprehensions over pairs; targets of four; more in short. -/
namespace PH
open PySem PySem.Spec L2
open PySem.W (Datum DatumOrd Tup T3 T4)

/-- x is in l, by one way to decide -/
def memB {α : Type} [DecidableEq α] (x : α) (l : List α) : Bool := decide (x ∈ l)
theorem memB_iff {α : Type} [DecidableEq α] {x : α} {l : List α} : memB x l = true ↔ x ∈ l := decide_eq_true_iff
theorem memB_not {α : Type} [DecidableEq α] {x : α} {l : List α} : (!memB x l) = true ↔ x ∉ l := by
  rw [Bool.not_eq_true']
  unfold memB
  exact decide_eq_false_iff_not
def foldE {α S : Type} (step : S → α → Except Bd S) : List α → S → Except Bd S
  | [], s => .ok s
  | x :: xs, s => match step s x with
    | .ok s' => foldE step xs s'
    | .error b => .error b
theorem foldE_cons {α S : Type} {step : S → α → Except Bd S} (x : α) (xs : List α) (s : S) : foldE step (x :: xs) s = match step s x with | .ok s' => foldE step xs s' | .error b => .error b := rfl
theorem foldE_append {α S : Type} {step : S → α → Except Bd S} : ∀ (xs ys : List α) (s : S), foldE step (xs ++ ys) s = match foldE step xs s with | .ok s' => foldE step ys s' | .error b => .error b
  | [], ys, s => rfl
  | x :: xs, ys, s => by
    have e : ∀ zs : List α, foldE step (x :: zs) s = match step s x with | .ok s' => foldE step zs s' | .error b => .error b := fun zs => rfl
    rw [List.cons_append, e, e]
    cases step s x with
    | ok s' => exact foldE_append xs ys s'
    | error b => rfl
theorem foldE_take {α S : Type} {step : S → α → Except Bd S} {xs : List α} {i : Nat} {x : α} {s0 s : S} (hx : xs[i]? = some x) (h : foldE step (xs.take i) s0 = .ok s) : foldE step (xs.take (i + 1)) s0 = step s x := by
  rw [List.take_add_one, hx, foldE_append, h]
  show foldE step [x] s = _
  unfold foldE
  cases step s x with
  | ok s' => rfl
  | error b => rfl
theorem foldE_stop {α S : Type} {step : S → α → Except Bd S} {xs : List α} {i : Nat} {b : Bd} {s0 : S} (h : foldE step (xs.take i) s0 = .error b) : foldE step xs s0 = .error b := by
  have e := foldE_append (step := step) (xs.take i) (xs.drop i) s0
  rw [List.take_append_drop, h] at e
  exact e
section
variable {X : Cx} {Γ : List Bd} {e tg : Expr} {body : List Stmt} {pos : Pos} {t : Pat} {P : Po} {α S : Type} {g : α → PyData} {xs : List α}
theorem ds_forE (G : S → List Bd) (step : S → α → Except Bd S) (s0 : S) (hp : PassesOwn (model X.prog X.w) X.A X.env X.xe) (hc : X.calm = true) (h0 : Γ = G s0) (hi : DI X Γ tg e (xs.map g)) (hg : DG X tg t)
    (hb : ∀ (i : Nat) (x : α) (s : S), xs[i]? = some x → foldE step (xs.take i) s0 = .ok s → ∃ Γ2, t.bind (G s) (g x) = some Γ2 ∧
      DSs X Γ2 body { nx := fun Γ' => ∃ s', step s x = .ok s' ∧ Γ' = G s', rt := fun b => step s x = .error b, bk := fun _ => False, ct := fun Γ' => ∃ s', step s x = .ok s' ∧ Γ' = G s' })
    (hd : ∀ s, foldE step xs s0 = .ok s → P.nx (G s)) (he : ∀ b, foldE step xs s0 = .error b → P.rt b) (hs : ∀ x, foldedSetIterable e X.env x = pure x := by intro _; rfl) : DS X Γ (.For tg e body [] pos) P :=
  ds_for (fun i Γ' => ∃ s, foldE step (xs.take i) s0 = .ok s ∧ Γ' = G s) hp hc hi hg ⟨s0, by rw [List.take_zero]; rfl, h0⟩ (fun i d Γ' hd' hI => by
    rw [List.getElem?_map] at hd'
    obtain ⟨x, hx, rfl⟩ := Option.map_eq_some_iff.mp hd'
    obtain ⟨s, hs1, rfl⟩ := hI
    obtain ⟨Γ2, h1, h2⟩ := hb i x s hx hs1
    refine ⟨Γ2, h1, h2.imp (fun Γ' ⟨s', z1, z2⟩ => ⟨s', (foldE_take hx hs1).trans z1, z2⟩) (fun b z => he b (foldE_stop ((foldE_take hx hs1).trans z))) (fun _ z => z.elim) fun Γ' ⟨s', z1, z2⟩ => ⟨s', (foldE_take hx hs1).trans z1, z2⟩⟩) (fun Γ' ⟨s, z1, z2⟩ => by
      subst z2
      rw [List.length_map, List.take_length] at z1
      exact hd s z1) hs
end
section
variable {X : Cx} {P : Program} {w : World} {K : PySem.W.Frag} {mg : Str → Option Value} {base : Heap} {N : List Str} {sc : Scope} {k : Nat} {x y x1 x2 x3 x4 : Str} {top : Bool} {R : List PyData → Bd → Prop} {Γ : List Bd}
  {a b e elt : Expr} {es : List Expr} {pos p1 p2 p3 q1 q2 ap cp ip tp pa pb pc pd : Pos} {d : PyData} {ds : List PyData} {kvs : List (NestedKey × PyData)} {Q : Po} {kk j : Nat}
theorem FnCx.tg4 (c : FnCx X P w K mg base N sc k true) (i1 i2 i3 i4 : Nat) (h1 : locB N sc i1 x1 = true := by decide +kernel) (h2 : locB N sc i2 x2 = true := by decide +kernel) (h3 : locB N sc i3 x3 = true := by decide +kernel) (h4 : locB N sc i4 x4 = true := by decide +kernel)
    (hs : (assignEach [.Name x1 pa, .Name x2 pb, .Name x3 pc, .Name x4 pd] X.env).map (·.2) = assign (.Name x1 pa) X.env :: (assignEach [.Name x2 pb, .Name x3 pc, .Name x4 pd] X.env).map (·.2) := by rfl)
    (hs2 : (assignEach [.Name x2 pb, .Name x3 pc, .Name x4 pd] X.env).map (·.2) = assign (.Name x2 pb) X.env :: (assignEach [.Name x3 pc, .Name x4 pd] X.env).map (·.2) := by rfl)
    (hs3 : (assignEach [.Name x3 pc, .Name x4 pd] X.env).map (·.2) = assign (.Name x3 pc) X.env :: (assignEach [.Name x4 pd] X.env).map (·.2) := by rfl)
    (hs4 : (assignEach [.Name x4 pd] X.env).map (·.2) = assign (.Name x4 pd) X.env :: (assignEach [] X.env).map (·.2) := by rfl)
    (hn : (assignEach [.Name x1 pa, .Name x2 pb, .Name x3 pc, .Name x4 pd] X.env).length = [i1, i2, i3, i4].length := by rfl) (hst : (assignEach [.Name x1 pa, .Name x2 pb, .Name x3 pc, .Name x4 pd] X.env).findIdx? (·.1) = none := by rfl) :
    DG X (.Tuple [.Name x1 pa, .Name x2 pb, .Name x3 pc, .Name x4 pd] kk pos) (.tp [i1, i2, i3, i4]) := dg_tup c.calm (dgs_cons (c.store h1) (dgs_cons (c.store h2) (dgs_cons (c.store h3) (dgs_cons (c.store h4) dgs_nil hs4) hs3) hs2) hs) hn hst
theorem FnCx.callD (c : FnCx X P w K mg base N sc k top) (h : Fn P w K mg base x j R) (ha : DA X Γ (e :: es) ds) (hR : R ds (.od kvs)) (hk : j ≤ k := by decide) (hg : glB sc x = true := by decide +kernel) (nd : (x == ("__debug__" : Str)) = false := by decide)
    (he : starEach (e :: es) X.env = (false, eval e X.env) :: starEach es X.env := by rfl) (hpl : (backTo pos (starEach es X.env)).any (·.1) = false := by rfl) : DN X Γ (.Call (.Name x p1) (e :: es) [] pos) kvs := dn_call (h.callee c hk nd) (c.gl hg) ha hR he hpl
/-- x = xs.pop(0) -/
theorem FnCx.pop0 (c : FnCx X P w K mg base N sc k true) (n i : Nat) {ip : Pos} (hp : Q.nx ((Γ.set n (.ol ds)).set i (.fz d))) (hΓ : Γ[n]? = some (.ol (d :: ds)) := by rfl) (hx : locB N sc i x = true := by decide +kernel) (hv : visB N sc n y = true := by decide +kernel)
    (hs : swapsWith (.Call (.Attribute (.Name y p1) "pop" ap) [.Constant (.int 0) j ip] [] cp) (some (.Name x p2)) pos.line X.env = pure false := by rfl)
    (hbase : attributeBase (.Name y p1) "pop" X.env (eval (.Name y p1) X.env) = eval (.Name y p1) X.env := by rfl)
    (hfew : ((backTo cp (starEach [.Constant (.int 0) j ip] X.env)).all (fun x => !x.1) && (backToKw cp (keywordEach [] X.env)).all (fun x => x.1.isSome) && decide ([Expr.Constant (.int 0) j ip].length + ([] : List Keyword).length + (if ([] : List Keyword).isEmpty then 0 else 1) < 30)) = true := by rfl)
    (hline : (ap.endLine == cp.line) = true := by rfl) (hst : starEach [.Constant (.int 0) j ip] X.env = [(false, eval (.Constant (.int 0) j ip) X.env)] := by rfl) :
    DS X Γ (.Assign [.Name x p2] (.Call (.Attribute (.Name y p1) "pop" ap) [.Constant (.int 0) j ip] [] cp) pos) Q := ds_pop0 (c.store hx) (c.var hv) hΓ hp hs hbase hfew hline hst
/-! comprehensions over pairs -/
section
variable {α : Type} {zs : List α} {f : α → PyData} {ifs : List Expr} {scope : Scope} {g1 g2 : α → PyData} {b' : α → Bool} {i l : Nat}
theorem FnCx.lcOk2 (c : FnCx X P w K mg base N sc k top) (hb : BlkOk N sc scope [(x1, i), (x2, l)]) (hl1 : locB N scope i x1 = true) (hl2 : locB N scope l x2 = true) (inj : ∀ x y, PyData.tuple [g1 x, g2 x] = .tuple [g1 y, g2 y] → x = y)
    (src : DI X Γ (.Tuple [.Name x1 q1, .Name x2 q2] kk tp) e (zs.map fun x => .tuple [g1 x, g2 x])) (few : zs.length ≤ sizeLine) (no1 : (Γ[i]?.map Bd.own).getD false = false) (no2 : (Γ[l]?.map Bd.own).getD false = false)
    (turn : ∀ X', FnCx X' P w K mg base N (relS scope sc) k false → ∀ x ∈ zs, DTs X' ((((Γ.set l .un).set i .un).set i (.fz (g1 x))).set l (.fz (g2 x))) ifs (b' x) ∧ (b' x = true → DE X' ((((Γ.set l .un).set i .un).set i (.fz (g1 x))).set l (.fz (g2 x))) elt (f x)))
    (hs : ∀ X' : Cx, (assignEach [.Name x1 q1, .Name x2 q2] X'.env).map (·.2) = assign (.Name x1 q1) X'.env :: (assignEach [.Name x2 q2] X'.env).map (·.2) := by intro _; rfl) (hs2 : ∀ X' : Cx, (assignEach [.Name x2 q2] X'.env).map (·.2) = assign (.Name x2 q2) X'.env :: (assignEach [] X'.env).map (·.2) := by intro _; rfl)
    (hn : ∀ X' : Cx, (assignEach [.Name x1 q1, .Name x2 q2] X'.env).length = [i, l].length := by intro _; rfl) (hst : ∀ X' : Cx, (assignEach [.Name x1 q1, .Name x2 q2] X'.env).findIdx? (·.1) = none := by intro _; rfl) :
    LcOk X Γ (.Tuple [.Name x1 q1, .Name x2 q2] kk tp) e elt ifs scope [(x1, i), (x2, l)] (.tp [i, l]) (zs.map fun x => .tuple [g1 x, g2 x]) (fun d => ((unG (fun x => PyData.tuple [g1 x, g2 x]) d).map b').getD false) (fun d => ((unG (fun x => PyData.tuple [g1 x, g2 x]) d).map f).getD .none) :=
  lcT inj src few (fun q hq bd e => by
    have : q = i ∨ q = l := by simpa using hq
    rcases this with z | z
    · subst z; rw [e] at no1; exact no1
    · subst z; rw [e] at no2; exact no2) (fun q hq => by simpa [Pat.slots] using hq) (c.bok hb) (fun X' hX => dg_tup (by obtain ⟨s, H, C, cl, fp, rfl⟩ := hX; exact c.calm) (dgs_cons (c.own hX hl1) (dgs_cons (c.own hX hl2) dgs_nil (hs2 X')) (hs X')) (hn X') (hst X')) fun X' hX x hx => ⟨_, rfl, turn X' (c.blk hX) x hx⟩
/-- [elt for y, z in e if t] -/
theorem FnCx.lc2If (c : FnCx X P w K mg base N sc k top) (i l : Nat) (g1 g2 : α → PyData) (zs : List α) (b' : α → Bool) (f : α → PyData) (src : DI X Γ (.Tuple [.Name x1 q1, .Name x2 q2] kk tp) e (zs.map fun x => .tuple [g1 x, g2 x])) (few : zs.length ≤ sizeLine)
    (turn : ∀ X', FnCx X' P w K mg base N (relS scope sc) k false → ∀ x ∈ zs, DT X' ((((Γ.set l .un).set i .un).set i (.fz (g1 x))).set l (.fz (g2 x))) a (b' x) ∧ (b' x = true → DE X' ((((Γ.set l .un).set i .un).set i (.fz (g1 x))).set l (.fz (g2 x))) elt (f x)))
    (inj : ∀ x y, PyData.tuple [g1 x, g2 x] = .tuple [g1 y, g2 y] → x = y := by exact fun _ _ h => datum_inj h) (no1 : (Γ[i]?.map Bd.own).getD false = false := by rfl) (no2 : (Γ[l]?.map Bd.own).getD false = false := by rfl) (hb : BlkOk N sc scope [(x1, i), (x2, l)] := by constructor <;> first | rfl | decide +kernel) (hl1 : locB N scope i x1 = true := by decide +kernel) (hl2 : locB N scope l x2 = true := by decide +kernel)
    (hs : ∀ X' : Cx, (assignEach [.Name x1 q1, .Name x2 q2] X'.env).map (·.2) = assign (.Name x1 q1) X'.env :: (assignEach [.Name x2 q2] X'.env).map (·.2) := by intro _; rfl) (hs2 : ∀ X' : Cx, (assignEach [.Name x2 q2] X'.env).map (·.2) = assign (.Name x2 q2) X'.env :: (assignEach [] X'.env).map (·.2) := by intro _; rfl)
    (hn : ∀ X' : Cx, (assignEach [.Name x1 q1, .Name x2 q2] X'.env).length = [i, l].length := by intro _; rfl) (hst : ∀ X' : Cx, (assignEach [.Name x1 q1, .Name x2 q2] X'.env).findIdx? (·.1) = none := by intro _; rfl) (hf : ∀ x, foldedSetIterable e X.env x = pure x := by intro _; rfl) :
    DL X Γ (.ListComp elt [⟨.Tuple [.Name x1 q1, .Name x2 q2] kk tp, e, [a], 0⟩] scope pos) ((zs.filter b').map f) := by
  have z := dl_lc (pos := pos) c.calm c.nodup (c.lcOk2 hb hl1 hl2 inj src few no1 no2 (fun X' c' x hx => ⟨dts_one (turn X' c' x hx).1, (turn X' c' x hx).2⟩) hs hs2 hn hst) hf
  rw [lcOut_map inj] at z
  exact z
/-- [elt for y, z in e] -/
theorem FnCx.lc2 (c : FnCx X P w K mg base N sc k top) (i l : Nat) (g1 g2 : α → PyData) (zs : List α) (f : α → PyData) (src : DI X Γ (.Tuple [.Name x1 q1, .Name x2 q2] kk tp) e (zs.map fun x => .tuple [g1 x, g2 x])) (few : zs.length ≤ sizeLine)
    (turn : ∀ X', FnCx X' P w K mg base N (relS scope sc) k false → ∀ x ∈ zs, DE X' ((((Γ.set l .un).set i .un).set i (.fz (g1 x))).set l (.fz (g2 x))) elt (f x))
    (inj : ∀ x y, PyData.tuple [g1 x, g2 x] = .tuple [g1 y, g2 y] → x = y := by exact fun _ _ h => datum_inj h) (no1 : (Γ[i]?.map Bd.own).getD false = false := by rfl) (no2 : (Γ[l]?.map Bd.own).getD false = false := by rfl) (hb : BlkOk N sc scope [(x1, i), (x2, l)] := by constructor <;> first | rfl | decide +kernel) (hl1 : locB N scope i x1 = true := by decide +kernel) (hl2 : locB N scope l x2 = true := by decide +kernel)
    (hs : ∀ X' : Cx, (assignEach [.Name x1 q1, .Name x2 q2] X'.env).map (·.2) = assign (.Name x1 q1) X'.env :: (assignEach [.Name x2 q2] X'.env).map (·.2) := by intro _; rfl) (hs2 : ∀ X' : Cx, (assignEach [.Name x2 q2] X'.env).map (·.2) = assign (.Name x2 q2) X'.env :: (assignEach [] X'.env).map (·.2) := by intro _; rfl)
    (hn : ∀ X' : Cx, (assignEach [.Name x1 q1, .Name x2 q2] X'.env).length = [i, l].length := by intro _; rfl) (hst : ∀ X' : Cx, (assignEach [.Name x1 q1, .Name x2 q2] X'.env).findIdx? (·.1) = none := by intro _; rfl) (hf : ∀ x, foldedSetIterable e X.env x = pure x := by intro _; rfl) :
    DL X Γ (.ListComp elt [⟨.Tuple [.Name x1 q1, .Name x2 q2] kk tp, e, [], 0⟩] scope pos) (zs.map f) := by
  have z := dl_lc (pos := pos) c.calm c.nodup (c.lcOk2 (b' := fun _ => true) hb hl1 hl2 inj src few no1 no2 (fun X' c' x hx => ⟨dts_nil, fun _ => turn X' c' x hx⟩) hs hs2 hn hst) hf
  rw [lcOut_map inj, List.filter_eq_self.mpr (fun _ _ => rfl)] at z
  exact z
end
end
section
variable {α β γ δ : Type} [DecidableEq α] [Datum α] [DecidableEq β] [Datum β] [DecidableEq γ] [Datum γ] [DecidableEq δ] [Datum δ] [DKey α] [DKey β] [DKey γ] [DKey δ]
instance : DKey (T4 α β γ δ) := ⟨fun a => by
  show keyable (.tuple [Datum.toD a.a, Datum.toD a.b, Datum.toD a.c, Datum.toD a.d]) = true
  simp only [keyable, keyables, DKey.ok, Bool.and_self], .inl fun a => ⟨_, rfl⟩⟩
end
/-! ### while, by a number of turns -/
section
variable {X : Cx} {Γ : List Bd} {c : Expr} {body : List Stmt} {pos : Pos} {P : Po} {S : Type}
def iter {S : Type} (step : S → S) : Nat → S → S
  | 0, s => s
  | n + 1, s => iter step n (step s)
theorem iter_succ {S : Type} (step : S → S) : ∀ (n : Nat) (s : S), iter step (n + 1) s = step (iter step n s)
  | 0, s => rfl
  | n + 1, s => by rw [iter, iter_succ step n (step s)]; rfl
/-- while c: body, a state that goes on by step while the test says so; m turns are enough -/
theorem ds_whileF (G : S → List Bd) (step : S → S) (tst : S → Bool) (s0 : S) (m : Nat) (hp : PassesOwn (model X.prog X.w) X.A X.env X.xe) (h0 : Γ = G s0) (hend : tst (iter step m s0) = false) (hstay : ∀ s, tst s = false → step s = s)
    (ht : ∀ n, n ≤ m → DT X (G (iter step n s0)) c (tst (iter step n s0))) (hb : ∀ n, n < m → tst (iter step n s0) = true → DSs X (G (iter step n s0)) body { nx := fun Γ' => Γ' = G (step (iter step n s0)), rt := P.rt, bk := fun _ => False, ct := fun Γ' => Γ' = G (step (iter step n s0)) })
    (hd : P.nx (G (iter step m s0))) : DS X Γ (.While c body [] pos) P := by
  have stay : ∀ n s, tst s = false → iter step n s = s := fun n => by
    induction n with
    | zero => intro s _; rfl
    | succ n ih => intro s h; rw [iter, hstay s h, ih s h]
  refine ds_while (fun r Γ' => ∃ n, n + r = m ∧ Γ' = G (iter step n s0)) hp (m := m) ⟨0, by omega, h0⟩ fun r Γ' ⟨n, hn, e⟩ => ?_
  subst e
  refine ⟨tst (iter step n s0), ht n (by omega), fun z => ?_, fun z => ?_⟩
  · have hlt : n < m := by
      rcases Nat.lt_or_ge n m with q | q
      · exact q
      · have : n = m := by omega
        subst this
        rw [hend] at z; cases z
    refine (hb n hlt z).imp (fun Γ' e => ⟨r - 1, by omega, n + 1, by omega, by rw [e, iter_succ]⟩) (fun _ z => z) (fun _ z => z.elim) fun Γ' e => ⟨r - 1, by omega, n + 1, by omega, by rw [e, iter_succ]⟩
  · have e : iter step m s0 = iter step n s0 := by
      have : m = n + r := hn.symm
      rw [this]
      have go : ∀ r, iter step (n + r) s0 = iter step n s0 := fun r => by
        induction r with
        | zero => rfl
        | succ r ih => rw [← Nat.add_assoc, iter_succ, ih, hstay _ z]
      exact go r
    rw [e] at hd
    exact hd
end
end PH

set_option Elab.async false
set_option linter.all false
set_option maxRecDepth 100000
set_option maxHeartbeats 4000000
/-! M6: ways from a part: breadth first; who serves. -/
namespace PH
open PySem PySem.Spec L2
open PySem.W (Datum DatumOrd Tup T3)
section
variable {κ ν μ : Type} [DecidableEq κ]
theorem getM_map (f : ν → μ) (m : List (κ × ν)) (k : κ) : getM (m.map fun p => (p.1, f p.2)) k = (getM m k).map f := by
  unfold getM
  induction m with
  | nil => rfl
  | cons p m ih =>
    rw [List.map_cons, List.find?_cons, List.find?_cons]
    cases decide (p.1 = k)
    · exact ih
    · rfl
theorem putM_map (f : ν → μ) (m : List (κ × ν)) (k : κ) (d : ν) : (putM m k d).map (fun p => (p.1, f p.2)) = putM (m.map fun p => (p.1, f p.2)) k (f d) := by
  unfold putM
  have e : (m.map fun p => (p.1, f p.2)).any (fun p => decide (p.1 = k)) = m.any fun p => decide (p.1 = k) := by rw [List.any_map]; rfl
  rw [e]
  split
  · rw [List.map_map, List.map_map]
    refine List.map_congr_left fun p _ => ?_
    show ((if p.1 = k then (p.1, d) else p).1, f (if p.1 = k then (p.1, d) else p).2) = if p.1 = k then (p.1, f d) else (p.1, f p.2)
    split <;> rfl
  · rw [List.map_append]; rfl
theorem getM_none {m : List (κ × ν)} {k : κ} : getM m k = none ↔ k ∉ m.map (·.1) := by
  unfold getM
  rw [Option.map_eq_none_iff, List.find?_eq_none]
  constructor
  · intro h z
    obtain ⟨p, hp, e⟩ := List.mem_map.mp z
    exact h p hp (decide_eq_true e)
  · intro h p hp z
    exact h (List.mem_map.mpr ⟨p, hp, of_decide_eq_true z⟩)
theorem getM_isSome {m : List (κ × ν)} {k : κ} : (getM m k).isSome = true ↔ k ∈ m.map (·.1) := by
  cases h : getM m k with
  | none => exact ⟨fun z => (nomatch z), fun z => absurd z (getM_none.1 h)⟩
  | some d => exact ⟨fun _ => Classical.byContradiction fun z => (by rw [getM_none.2 z] at h; cases h), fun _ => rfl⟩
theorem getM_putM {m : List (κ × ν)} {k k' : κ} {d : ν} : getM (putM m k d) k' = if k = k' then some d else getM m k' := by
  have aux : ∀ (m : List (κ × ν)), getM (m.map fun p => if p.1 = k then (p.1, d) else p) k' = if k = k' then (if m.any (fun p => decide (p.1 = k)) = true then some d else none) else getM m k' := by
    intro m
    unfold getM
    induction m with
    | nil => split <;> rfl
    | cons p m ih =>
      rw [List.map_cons, List.find?_cons, List.find?_cons, List.any_cons]
      have e1 : (if p.1 = k then (p.1, d) else p).1 = p.1 := by split <;> rfl
      rw [e1]
      by_cases c : p.1 = k'
      · rw [decide_eq_true c]
        by_cases c2 : k = k'
        · have c3 : p.1 = k := c.trans c2.symm
          rw [if_pos c2, if_pos c3, decide_eq_true c3]
          rfl
        · have c3 : ¬ p.1 = k := fun z => c2 (z.symm.trans c)
          rw [if_neg c2, if_neg c3]
      · rw [decide_eq_false c]
        dsimp only
        rw [ih]
        by_cases c2 : k = k'
        · have c3 : ¬ p.1 = k := fun z => c (z.trans c2)
          rw [if_pos c2, if_pos c2, decide_eq_false c3, Bool.false_or]
        · rw [if_neg c2, if_neg c2]
  unfold putM
  split
  · rename_i h
    rw [aux, if_pos h]
  · rename_i h
    unfold getM
    rw [List.find?_append]
    by_cases c : k = k'
    · rw [if_pos c]
      have e : m.find? (fun p => decide (p.1 = k')) = none := by
        rw [List.find?_eq_none]
        intro p hp z
        exact h (List.any_eq_true.mpr ⟨p, hp, by rw [c]; exact z⟩)
      rw [e, Option.none_or, List.find?_cons]
      dsimp only
      rw [decide_eq_true c]
      rfl
    · rw [if_neg c]
      have e : List.find? (fun p : κ × ν => decide (p.1 = k')) [(k, d)] = none := by
        rw [List.find?_cons, decide_eq_false c]; rfl
      rw [e, Option.or_none]
end
/-- the groups: of each key what stands beside it, in order -/
theorem groups_get {κ : Type} [DecidableEq κ] (k : κ) : ∀ (es : List (κ × PyData)) (m : List (κ × List PyData)), (getM (es.foldl groupF m) k).getD [] = (getM m k).getD [] ++ (es.filter fun e => decide (e.1 = k)).map (·.2)
  | [], m => by simp
  | e :: es, m => by
    rw [List.foldl_cons, groups_get k es (groupF m e), List.filter_cons]
    unfold groupF
    rw [getM_putM]
    by_cases c : e.1 = k
    · rw [if_pos c, decide_eq_true c, if_pos rfl, List.map_cons, c]
      simp
    · rw [if_neg c, decide_eq_false c, if_neg Bool.false_ne_true]
abbrev Step := Part × Part
def succs (st : List Step) (p : Part) : List Part := (st.filter fun e => decide (e.1 = p)).map (·.2)
theorem mem_succs {st : List Step} {p q : Part} : q ∈ succs st p ↔ (p, q) ∈ st := by
  unfold succs
  rw [List.mem_map]
  constructor
  · rintro ⟨⟨a, b⟩, h, rfl⟩
    rw [List.mem_filter] at h
    have e : a = p := of_decide_eq_true h.2
    subst e
    exact h.1
  · intro h
    exact ⟨(p, q), List.mem_filter.mpr ⟨h, decide_eq_true rfl⟩, rfl⟩
theorem onward_get (st : List Step) (p : Part) : (getM ((groups (st.map fun e => (e.1, (Datum.toD e.2 : PyData)))).map fun p => (p.1, PyData.list p.2)) p).getD (.list []) = .list ((succs st p).map Datum.toD) := by
  have h := groups_get p (st.map fun e => (e.1, (Datum.toD e.2 : PyData))) []
  have e1 : (getM ([] : List (Part × List PyData)) p).getD [] = [] := rfl
  rw [e1, List.nil_append] at h
  rw [getM_map]
  have e2 : ∀ o : Option (List PyData), (o.map PyData.list).getD (.list []) = .list (o.getD []) := fun o => by cases o <;> rfl
  rw [e2]
  unfold groups
  rw [h]
  congr 1
  unfold succs
  rw [List.filter_map, List.map_map, List.map_map]
  rfl
abbrev WaysM := List (Part × List Part)
structure Bfs where
  found : WaysM
  line : List Part
def visit (here : Part) (s : Bfs) (there : Part) : Bfs := if (getM s.found there).isSome = true then s else ⟨putM s.found there ((getM s.found here).getD [] ++ [there]), s.line ++ [there]⟩
def bfsStep (st : List Step) (s : Bfs) : Bfs := match s.line with
  | [] => s
  | here :: rest => (succs st here).foldl (visit here) ⟨s.found, rest⟩
def bfs0 (p : Part) : Bfs := ⟨[(p, [p])], [p]⟩
def bfsN (st : List Step) : Nat := 2 * st.length + 2
def ways (st : List Step) (p : Part) : WaysM := (iter (bfsStep st) (bfsN st) (bfs0 p)).found
def served (st : List Step) (p : Part) : List Part := srt ((ways st p).map (·.1))
inductive Reach (st : List Step) (p : Part) : Part → Prop
  | refl : Reach st p p
  | step {q r : Part} : Reach st p q → (q, r) ∈ st → Reach st p r
theorem Reach.trans {st : List Step} {p q r : Part} (h1 : Reach st p q) (h2 : Reach st q r) : Reach st p r := by
  induction h2 with
  | refl => exact h1
  | step _ e ih => exact .step ih e
theorem Reach.mono {st st' : List Step} (h : ∀ e ∈ st, e ∈ st') {p q : Part} (r : Reach st p q) : Reach st' p q := by
  induction r with
  | refl => exact .refl
  | step _ e ih => exact .step ih (h _ e)
def keysB (s : Bfs) : List Part := s.found.map (·.1)
/-- what is so of the state; H: the parts whose successors may be still to come, beside those in line -/
structure BInv (st : List Step) (p : Part) (H : Part → Prop) (s : Bfs) : Prop where
  nd : (keysB s).Nodup
  sub : ∀ q ∈ keysB s, q ∈ p :: st.map (·.2)
  line : ∀ q ∈ s.line, q ∈ keysB s
  root : p ∈ keysB s
  reach : ∀ q ∈ keysB s, Reach st p q
  shut : ∀ q ∈ keysB s, q ∉ s.line → ¬ H q → ∀ r, (q, r) ∈ st → r ∈ keysB s
def mu (st : List Step) (s : Bfs) : Nat := 2 * (st.length + 1 - s.found.length) + s.line.length
theorem nodup_sub_length {α : Type} [DecidableEq α] : ∀ {l m : List α}, l.Nodup → (∀ x ∈ l, x ∈ m) → l.length ≤ m.length
  | [], m, _, _ => Nat.zero_le _
  | x :: l, m, n, h => by
    rw [List.nodup_cons] at n
    have hx := h x List.mem_cons_self
    have h2 := nodup_sub_length (l := l) (m := m.erase x) n.2 fun y hy => (List.mem_erase_of_ne (fun e => n.1 (by rw [← e]; exact hy))).mpr (h y (List.mem_cons_of_mem _ hy))
    rw [List.length_erase_of_mem hx] at h2
    have : 0 < m.length := List.length_pos_of_mem hx
    rw [List.length_cons]
    omega
theorem BInv.len {st : List Step} {p : Part} {H : Part → Prop} {s : Bfs} (I : BInv st p H s) : s.found.length ≤ st.length + 1 := by
  have := nodup_sub_length I.nd I.sub
  unfold keysB at this
  rw [List.length_map, List.length_cons, List.length_map] at this
  exact this
theorem visit_inv {st : List Step} {p here there : Part} {H : Part → Prop} {s : Bfs} (I : BInv st p H s) (hh : here ∈ keysB s) (ht : (here, there) ∈ st) :
    BInv st p H (visit here s there) ∧ mu st (visit here s there) ≤ mu st s ∧ (∀ q ∈ keysB s, q ∈ keysB (visit here s there)) ∧ there ∈ keysB (visit here s there) := by
  unfold visit
  by_cases c : (getM s.found there).isSome = true
  · rw [if_pos c]
    rw [getM_isSome] at c
    exact ⟨I, Nat.le_refl _, fun q h => h, c⟩
  · rw [if_neg c]
    rw [getM_isSome] at c
    have km : ∀ q, q ∈ keysB ⟨putM s.found there ((getM s.found here).getD [] ++ [there]), s.line ++ [there]⟩ ↔ q = there ∨ q ∈ keysB s := fun q => putM_keys
    have I' : BInv st p H ⟨putM s.found there ((getM s.found here).getD [] ++ [there]), s.line ++ [there]⟩ := by
      refine ⟨putM_keys_nodup I.nd _ _, fun q hq => ?_, fun q hq => ?_, (km p).2 (.inr I.root), fun q hq => ?_, fun q hq hl hn r hr => ?_⟩
      · rcases (km q).1 hq with z | z
        · rw [z]; exact List.mem_cons_of_mem _ (List.mem_map.mpr ⟨_, ht, rfl⟩)
        · exact I.sub q z
      · rcases List.mem_append.mp hq with z | z
        · exact (km q).2 (.inr (I.line q z))
        · exact (km q).2 (.inl (List.mem_singleton.mp z))
      · rcases (km q).1 hq with z | z
        · rw [z]; exact .step (I.reach here hh) ht
        · exact I.reach q z
      · have hl' : q ∉ s.line ++ [there] := hl
        rw [List.mem_append, not_or] at hl'
        rcases (km q).1 hq with z | z
        · exact absurd (List.mem_singleton.mpr z) hl'.2
        · exact (km r).2 (.inr (I.shut q z hl'.1 hn r hr))
    refine ⟨I', ?_, fun q hq => (km q).2 (.inr hq), (km there).2 (.inl rfl)⟩
    have h1 := I'.len
    have e : (putM s.found there ((getM s.found here).getD [] ++ [there])).length = s.found.length + 1 := by
      unfold putM
      rw [if_neg, List.length_append]
      · rfl
      · intro z
        obtain ⟨q, hq, e⟩ := List.any_eq_true.mp z
        exact c (List.mem_map.mpr ⟨q, hq, of_decide_eq_true e⟩)
    have h1' : (putM s.found there ((getM s.found here).getD [] ++ [there])).length ≤ st.length + 1 := h1
    rw [e] at h1'
    unfold mu
    dsimp only
    rw [e, List.length_append]
    show 2 * (st.length + 1 - (s.found.length + 1)) + (s.line.length + 1) ≤ _
    omega
theorem visits_inv {st : List Step} {p here : Part} {H : Part → Prop} : ∀ (ts : List Part) {s : Bfs}, BInv st p H s → here ∈ keysB s → (∀ t ∈ ts, (here, t) ∈ st) →
    BInv st p H (ts.foldl (visit here) s) ∧ mu st (ts.foldl (visit here) s) ≤ mu st s ∧ (∀ q ∈ keysB s, q ∈ keysB (ts.foldl (visit here) s)) ∧ ∀ t ∈ ts, t ∈ keysB (ts.foldl (visit here) s)
  | [], s, I, hh, ht => ⟨I, Nat.le_refl _, fun q h => h, fun t h => by cases h⟩
  | t :: ts, s, I, hh, ht => by
    obtain ⟨a1, a2, a3, a4⟩ := visit_inv I hh (ht t List.mem_cons_self)
    obtain ⟨b1, b2, b3, b4⟩ := visits_inv ts a1 (a3 here hh) fun x hx => ht x (List.mem_cons_of_mem _ hx)
    rw [List.foldl_cons]
    refine ⟨b1, Nat.le_trans b2 a2, fun q hq => b3 q (a3 q hq), fun x hx => ?_⟩
    rcases List.mem_cons.mp hx with z | z
    · rw [z]; exact b3 t a4
    · exact b4 x z
theorem bfsStep_inv {st : List Step} {p : Part} {s : Bfs} (I : BInv st p (fun _ => False) s) : BInv st p (fun _ => False) (bfsStep st s) ∧ (s.line ≠ [] → mu st (bfsStep st s) + 1 ≤ mu st s) := by
  unfold bfsStep
  cases hl : s.line with
  | nil => exact ⟨I, fun z => absurd rfl z⟩
  | cons here rest =>
    have hh : here ∈ keysB s := I.line here (by rw [hl]; exact List.mem_cons_self)
    have I1 : BInv st p (fun q => q = here) ⟨s.found, rest⟩ := by
      refine ⟨I.nd, I.sub, fun q hq => I.line q (by rw [hl]; exact List.mem_cons_of_mem _ hq), I.root, I.reach, fun q hq hn hne r hr => I.shut q hq (by rw [hl, List.mem_cons, not_or]; exact ⟨hne, hn⟩) id r hr⟩
    obtain ⟨b1, b2, b3, b4⟩ := visits_inv (succs st here) (s := ⟨s.found, rest⟩) I1 hh fun t ht => mem_succs.1 ht
    refine ⟨⟨b1.nd, b1.sub, b1.line, b1.root, b1.reach, fun q hq hn _ r hr => ?_⟩, fun _ => ?_⟩
    · by_cases c : q = here
      · subst c; exact b4 r (mem_succs.2 hr)
      · exact b1.shut q hq hn c r hr
    · have e : mu st ⟨s.found, rest⟩ + 1 = mu st s := by
        unfold mu
        rw [hl, List.length_cons]
        dsimp only
        omega
      show mu st ((succs st here).foldl (visit here) ⟨s.found, rest⟩) + 1 ≤ mu st s
      omega
theorem bfs0_inv (st : List Step) (p : Part) : BInv st p (fun _ => False) (bfs0 p) := by
  have hk : keysB (bfs0 p) = [p] := rfl
  refine ⟨by rw [hk]; simp, fun q hq => ?_, fun q hq => hq, by rw [hk]; simp, fun q hq => ?_, fun q hq hn => absurd hq hn⟩
  · rw [hk] at hq; rw [List.mem_singleton.mp hq]; exact List.mem_cons_self
  · rw [hk] at hq; rw [List.mem_singleton.mp hq]; exact .refl
theorem bfs_inv (st : List Step) (p : Part) : ∀ n, BInv st p (fun _ => False) (iter (bfsStep st) n (bfs0 p)) ∧ ((iter (bfsStep st) n (bfs0 p)).line ≠ [] → mu st (iter (bfsStep st) n (bfs0 p)) + n ≤ 2 * st.length + 1)
  | 0 => ⟨bfs0_inv st p, fun _ => by
    show 2 * (st.length + 1 - 1) + 1 + 0 ≤ _
    omega⟩
  | n + 1 => by
    obtain ⟨a1, a2⟩ := bfs_inv st p n
    rw [iter_succ]
    obtain ⟨b1, b2⟩ := bfsStep_inv a1
    refine ⟨b1, fun h => ?_⟩
    have hl : (iter (bfsStep st) n (bfs0 p)).line ≠ [] := fun z => by
      have e : bfsStep st (iter (bfsStep st) n (bfs0 p)) = iter (bfsStep st) n (bfs0 p) := by
        generalize iter (bfsStep st) n (bfs0 p) = s at z
        unfold bfsStep
        rw [z]
      rw [e] at h
      exact h z
    have := a2 hl
    have := b2 hl
    omega
theorem bfs_end (st : List Step) (p : Part) : (iter (bfsStep st) (bfsN st) (bfs0 p)).line = [] := by
  obtain ⟨a1, a2⟩ := bfs_inv st p (bfsN st)
  refine Classical.byContradiction fun h => ?_
  have := a2 h
  have : bfsN st = 2 * st.length + 2 := rfl
  omega
theorem ways_nodup (st : List Step) (p : Part) : ((ways st p).map (·.1)).Nodup := (bfs_inv st p (bfsN st)).1.nd
theorem ways_len (st : List Step) (p : Part) : (ways st p).length ≤ st.length + 1 := (bfs_inv st p (bfsN st)).1.len
/-- just what steps lead to -/
theorem ways_mem {st : List Step} {p q : Part} : q ∈ (ways st p).map (·.1) ↔ Reach st p q := by
  obtain ⟨I, _⟩ := bfs_inv st p (bfsN st)
  refine ⟨fun h => I.reach q h, fun h => ?_⟩
  have he := bfs_end st p
  induction h with
  | refl => exact I.root
  | step _ e ih => exact I.shut _ ih (by rw [he]; exact fun z => by cases z) id _ e
theorem mem_served {st : List Step} {p q : Part} : q ∈ served st p ↔ Reach st p q := by
  unfold served
  rw [mem_srt, ways_mem]
theorem steps_mem {bk : List Rule} {m : Str} {day : Int} {e : Step} : e ∈ stepsL bk m day ↔ ∃ r ∈ bk, holdsR r m day = true ∧ (e = (r.one, r.other) ∨ (r.kind = "both" ∧ e = (r.other, r.one))) := by
  obtain ⟨n1, m1⟩ := stepsD_facts m day bk [] List.nodup_nil
  unfold stepsL stepsD
  rw [mem_srt, m1 e]
  exact ⟨fun z => z.elim (fun z => by cases z) id, .inr⟩
theorem stepsL_len (bk : List Rule) (m : Str) (day : Int) : (stepsL bk m day).length ≤ 2 * bk.length := by
  unfold stepsL
  rw [(srt_perm _).length_eq, List.length_map]
  have z := foldl_len (stepsF_len m day) bk []
  unfold stepsD
  rw [List.length_nil] at z
  omega
end PH

set_option Elab.async false
set_option linter.all false
set_option maxRecDepth 100000
set_option maxHeartbeats 4000000
/-! M6b: bounds of the search. -/
namespace PH
open PySem PySem.Spec L2
open PySem.W (Datum DatumOrd Tup T3)
def PInv (s : Bfs) : Prop := ∀ q ∈ s.found, q.2.length ≤ s.found.length
theorem getM_mem {κ ν : Type} [DecidableEq κ] {m : List (κ × ν)} {k : κ} {d : ν} (h : getM m k = some d) : (k, d) ∈ m := by
  obtain ⟨p, hp, e⟩ := Option.map_eq_some_iff.mp h
  have h1 := List.mem_of_find?_eq_some hp
  have h3 := List.find?_some hp
  have h2 : p.1 = k := of_decide_eq_true h3
  subst h2; subst e
  exact h1
theorem visit_path {here there : Part} {s : Bfs} (h : PInv s) : PInv (visit here s there) := by
  unfold visit
  by_cases c : (getM s.found there).isSome = true
  · rw [if_pos c]; exact h
  · rw [if_neg c]
    rw [getM_isSome] at c
    have e : putM s.found there ((getM s.found here).getD [] ++ [there]) = s.found ++ [(there, (getM s.found here).getD [] ++ [there])] := by
      unfold putM
      rw [if_neg]
      intro z
      obtain ⟨q, hq, e⟩ := List.any_eq_true.mp z
      exact c (List.mem_map.mpr ⟨q, hq, of_decide_eq_true e⟩)
    intro q hq
    dsimp only at hq ⊢
    rw [e] at hq ⊢
    rw [List.length_append]
    show _ ≤ s.found.length + 1
    rcases List.mem_append.mp hq with z | z
    · have := h q z
      omega
    · rw [List.mem_singleton.mp z]
      show ((getM s.found here).getD [] ++ [there]).length ≤ _
      rw [List.length_append]
      show _ + 1 ≤ _
      cases g : getM s.found here with
      | none => simp
      | some d =>
        have := h _ (getM_mem g)
        show d.length + 1 ≤ _
        have e2 : (here, d).2.length = d.length := rfl
        omega
theorem visits_path {here : Part} : ∀ (ts : List Part) {s : Bfs}, PInv s → PInv (ts.foldl (visit here) s)
  | [], s, h => h
  | t :: ts, s, h => visits_path ts (visit_path h)
theorem bfs_path (st : List Step) (p : Part) : ∀ n, PInv (iter (bfsStep st) n (bfs0 p))
  | 0 => fun q hq => by
    have : q = (p, [p]) := List.mem_singleton.mp hq
    rw [this]
    exact Nat.le_refl 1
  | n + 1 => by
    rw [iter_succ]
    have h := bfs_path st p n
    generalize iter (bfsStep st) n (bfs0 p) = s at h
    unfold bfsStep
    cases hl : s.line with
    | nil => exact h
    | cons here rest => exact visits_path _ h
theorem pop_inv {st : List Step} {p here : Part} {rest : List Part} {s : Bfs} (I : BInv st p (fun _ => False) s) (hl : s.line = here :: rest) : BInv st p (fun q => q = here) ⟨s.found, rest⟩ ∧ here ∈ keysB s ∧ mu st ⟨s.found, rest⟩ + 1 = mu st s := by
  refine ⟨⟨I.nd, I.sub, fun q hq => I.line q (by rw [hl]; exact List.mem_cons_of_mem _ hq), I.root, I.reach, fun q hq hn hne r hr => I.shut q hq (by rw [hl, List.mem_cons, not_or]; exact ⟨hne, hn⟩) id r hr⟩, I.line here (by rw [hl]; exact List.mem_cons_self), ?_⟩
  unfold mu
  rw [hl, List.length_cons]
  dsimp only
  omega
theorem bfsStep_cons {st : List Step} {here : Part} {rest : List Part} {s : Bfs} (hl : s.line = here :: rest) : bfsStep st s = (succs st here).foldl (visit here) ⟨s.found, rest⟩ := by
  unfold bfsStep
  rw [hl]
theorem bfsStep_nil {st : List Step} {s : Bfs} (hl : s.line = []) : bfsStep st s = s := by
  unfold bfsStep
  rw [hl]
end PH

set_option Elab.async false
set_option linter.all false
set_option maxRecDepth 100000
set_option maxHeartbeats 4000000
/-! P30: name = [.. for ..]. -/
namespace PH
open PySem PySem.Spec L2
open PySem.W (Datum DatumOrd Tup T3 T4)
section
variable {X : Cx} {P : Program} {w : World} {K : PySem.W.Frag} {mg : Str → Option Value} {base : Heap} {N : List Str} {sc scope : Scope} {k : Nat} {x1 x2 y nm : Str} {top : Bool} {Γ : List Bd}
  {a e elt tg : Expr} {ifs : List Expr} {pos p1 p2 py q1 q2 tp : Pos} {Q : Po} {kk : Nat} {own : List (Str × Nat)} {t : Pat} {ds zs' : List PyData} {b : PyData → Bool} {f' : PyData → PyData}
theorem FnCx.setLcG (c : FnCx X P w K mg base N sc k true) (m : Nat) (L : LcOk X Γ tg e elt ifs scope own t ds b f') (out : lcOut ds b f' = zs') (hp : Q.nx (Γ.set m (.ol zs'))) (hx : locB N sc m nm = true) (hs : ∀ x, foldedSetIterable e X.env x = pure x := by intro _; rfl) :
    DS X Γ (.Assign [.Name nm py] (.ListComp elt [⟨tg, e, ifs, 0⟩] scope p2) pos) Q := by
  have hkd : X.env.scope.names.lookup nm = some .local ∨ X.env.scope.names.lookup nm = some .cell := (c.store hx).loc
  have e1 : swapsWith (.ListComp elt [⟨tg, e, ifs, 0⟩] scope p2) (some (.Name nm py)) pos.line X.env = pure (X.env.blockKind == .function && X.env.kindOf nm == some .local && py.line == (Expr.ListComp elt [⟨tg, e, ifs, 0⟩] scope p2).pos.line && !(scope.names.any fun (n, k) => n == nm && (k == .local || k == .cell))) := rfl
  cases h : (X.env.blockKind == .function && X.env.kindOf nm == some .local && py.line == (Expr.ListComp elt [⟨tg, e, ifs, 0⟩] scope p2).pos.line && !(scope.names.any fun (n, k) => n == nm && (k == .local || k == .cell))) with
  | true =>
    rw [h] at e1
    have hl : X.env.scope.names.lookup nm = some .local := by
      rcases hkd with z | z
      · exact z
      · have z' : X.env.kindOf nm = some .cell := z
        rw [z'] at h
        have : ((some NameKind.cell == some NameKind.local) = false) := by decide
        rw [this] at h
        simp at h
    exact ds_setLc c.calm (c.store hx) hl L (by rw [out]; exact hp) e1 hs
  | false =>
    rw [h] at e1
    have z := dl_lc (pos := p2) c.calm c.nodup L hs
    rw [out] at z
    exact ds_setL (c.store hx) z hp e1
variable {α : Type} {g : α → PyData} {zs : List α} {f : α → PyData} {b' : α → Bool} {g1 g2 : α → PyData}
/-- name = [elt for y in e] -/
theorem FnCx.setLc (c : FnCx X P w K mg base N sc k true) (m i : Nat) (g : α → PyData) (zs : List α) (f : α → PyData) (src : DI X Γ (.Name y p1) e (zs.map g)) (few : zs.length ≤ sizeLine) (turn : ∀ X', FnCx X' P w K mg base N (relS scope sc) k false → ∀ x ∈ zs, DE X' (Γ.set i (.fz (g x))) elt (f x)) (hp : Q.nx (Γ.set m (.ol (zs.map f))))
    (inj : ∀ x y, g x = g y → x = y := by exact fun _ _ h => datum_inj h) (no : (Γ[i]?.map Bd.own).getD false = false := by rfl) (hb : BlkOk N sc scope [(y, i)] := by constructor <;> first | rfl | decide +kernel) (hl : locB N scope i y = true := by decide +kernel) (hx : locB N sc m nm = true := by decide +kernel) (hs : ∀ x, foldedSetIterable e X.env x = pure x := by intro _; rfl) :
    DS X Γ (.Assign [.Name nm py] (.ListComp elt [⟨.Name y p1, e, [], 0⟩] scope p2) pos) Q :=
  c.setLcG m (c.lcOk1 (b := fun _ => true) hb hl inj src few no fun X' c' x hx => ⟨dts_nil, fun _ => turn X' c' x hx⟩) (by rw [lcOut_map inj, List.filter_eq_self.mpr (fun _ _ => rfl)]) hp hx hs
/-- name = [elt for y in e if t] -/
theorem FnCx.setLcIf (c : FnCx X P w K mg base N sc k true) (m i : Nat) (g : α → PyData) (zs : List α) (b' : α → Bool) (f : α → PyData) (src : DI X Γ (.Name y p1) e (zs.map g)) (few : zs.length ≤ sizeLine) (turn : ∀ X', FnCx X' P w K mg base N (relS scope sc) k false → ∀ x ∈ zs, DT X' (Γ.set i (.fz (g x))) a (b' x) ∧ (b' x = true → DE X' (Γ.set i (.fz (g x))) elt (f x))) (hp : Q.nx (Γ.set m (.ol ((zs.filter b').map f))))
    (inj : ∀ x y, g x = g y → x = y := by exact fun _ _ h => datum_inj h) (no : (Γ[i]?.map Bd.own).getD false = false := by rfl) (hb : BlkOk N sc scope [(y, i)] := by constructor <;> first | rfl | decide +kernel) (hl : locB N scope i y = true := by decide +kernel) (hx : locB N sc m nm = true := by decide +kernel) (hs : ∀ x, foldedSetIterable e X.env x = pure x := by intro _; rfl) :
    DS X Γ (.Assign [.Name nm py] (.ListComp elt [⟨.Name y p1, e, [a], 0⟩] scope p2) pos) Q :=
  c.setLcG m (c.lcOk1 hb hl inj src few no fun X' c' x hx => ⟨dts_one (turn X' c' x hx).1, (turn X' c' x hx).2⟩) (lcOut_map inj zs) hp hx hs
/-- name = [elt for y, z in e if t] -/
theorem FnCx.setLc2If (c : FnCx X P w K mg base N sc k true) (m i l : Nat) (g1 g2 : α → PyData) (zs : List α) (b' : α → Bool) (f : α → PyData) (src : DI X Γ (.Tuple [.Name x1 q1, .Name x2 q2] kk tp) e (zs.map fun x => .tuple [g1 x, g2 x])) (few : zs.length ≤ sizeLine)
    (turn : ∀ X', FnCx X' P w K mg base N (relS scope sc) k false → ∀ x ∈ zs, DT X' ((((Γ.set l .un).set i .un).set i (.fz (g1 x))).set l (.fz (g2 x))) a (b' x) ∧ (b' x = true → DE X' ((((Γ.set l .un).set i .un).set i (.fz (g1 x))).set l (.fz (g2 x))) elt (f x))) (hp : Q.nx (Γ.set m (.ol ((zs.filter b').map f))))
    (inj : ∀ x y, PyData.tuple [g1 x, g2 x] = .tuple [g1 y, g2 y] → x = y := by exact fun _ _ h => datum_inj h) (no1 : (Γ[i]?.map Bd.own).getD false = false := by rfl) (no2 : (Γ[l]?.map Bd.own).getD false = false := by rfl) (hb : BlkOk N sc scope [(x1, i), (x2, l)] := by constructor <;> first | rfl | decide +kernel) (hl1 : locB N scope i x1 = true := by decide +kernel) (hl2 : locB N scope l x2 = true := by decide +kernel) (hx : locB N sc m nm = true := by decide +kernel) (hf : ∀ x, foldedSetIterable e X.env x = pure x := by intro _; rfl) :
    DS X Γ (.Assign [.Name nm py] (.ListComp elt [⟨.Tuple [.Name x1 q1, .Name x2 q2] kk tp, e, [a], 0⟩] scope p2) pos) Q :=
  c.setLcG m (c.lcOk2 hb hl1 hl2 inj src few no1 no2 fun X' c' x hx => ⟨dts_one (turn X' c' x hx).1, (turn X' c' x hx).2⟩) (lcOut_map inj zs) hp hx hf
/-- name = [elt for y, z in e] -/
theorem FnCx.setLc2 (c : FnCx X P w K mg base N sc k true) (m i l : Nat) (g1 g2 : α → PyData) (zs : List α) (f : α → PyData) (src : DI X Γ (.Tuple [.Name x1 q1, .Name x2 q2] kk tp) e (zs.map fun x => .tuple [g1 x, g2 x])) (few : zs.length ≤ sizeLine)
    (turn : ∀ X', FnCx X' P w K mg base N (relS scope sc) k false → ∀ x ∈ zs, DE X' ((((Γ.set l .un).set i .un).set i (.fz (g1 x))).set l (.fz (g2 x))) elt (f x)) (hp : Q.nx (Γ.set m (.ol (zs.map f))))
    (inj : ∀ x y, PyData.tuple [g1 x, g2 x] = .tuple [g1 y, g2 y] → x = y := by exact fun _ _ h => datum_inj h) (no1 : (Γ[i]?.map Bd.own).getD false = false := by rfl) (no2 : (Γ[l]?.map Bd.own).getD false = false := by rfl) (hb : BlkOk N sc scope [(x1, i), (x2, l)] := by constructor <;> first | rfl | decide +kernel) (hl1 : locB N scope i x1 = true := by decide +kernel) (hl2 : locB N scope l x2 = true := by decide +kernel) (hx : locB N sc m nm = true := by decide +kernel) (hf : ∀ x, foldedSetIterable e X.env x = pure x := by intro _; rfl) :
    DS X Γ (.Assign [.Name nm py] (.ListComp elt [⟨.Tuple [.Name x1 q1, .Name x2 q2] kk tp, e, [], 0⟩] scope p2) pos) Q :=
  c.setLcG m (c.lcOk2 (b' := fun _ => true) hb hl1 hl2 inj src few no1 no2 fun X' c' x hx => ⟨dts_nil, fun _ => turn X' c' x hx⟩) (by rw [lcOut_map inj, List.filter_eq_self.mpr (fun _ _ => rfl)]) hp hx hf
end
end PH

set_option Elab.async false
set_option linter.all false
set_option maxRecDepth 100000
set_option maxHeartbeats 4000000
/-! P31: for k in d; bits of numbers; enumerate of a typed list. -/
namespace PH
open PySem PySem.Spec PyProof.Rows L2
open PySem.W (Datum DatumOrd Tup)
section
variable {P : Program} {w : World} {K : PySem.W.Frag} {tg : Expr} {a : Addr} {o : Obj} {xs : List (NestedKey × V × V)} {es : Array DictEntry} {ep : Nat}
theorem turn_keyD (it : Addr) (hod : o.data = .dict es ep) : Turn P w K tg (ItKeyD w a o xs) [it] it (fun i h => h.IsKeyIter it a i xs.length ep) where
  mem := by simp
  obj := fun i h st b hb => by
    have e : b = it := by simpa using hb
    subst e
    obtain ⟨oi, e, c, dd⟩ := st
    exact ⟨oi, e, fun v z => by rw [dd] at z; cases z⟩
  keep := fun i h h' st k => st.at fun oi e => k it (by simp) oi e
  item := by
    intro X hP hw hK hc i pins s σ H E I hf st hg
    subst hP hw hK
    obtain ⟨hd, hi⟩ := hg
    obtain ⟨f0, f1, f2, f3, f4, f5⟩ := hf it (by simp)
    obtain ⟨raw, hsz, vk⟩ := raw_same I hd hod
    rw [← hsz] at st
    have hi2 : i < es.size := by omega
    refine wpAny_pyNext_keys_item_raw st raw hi2 fun h' st' sb => ?_
    obtain ⟨kx, hkx, rk⟩ : ∃ kx, (xs[i]?).map (·.2.1) = some kx ∧ RelV kx es[i].key := by
      have hx : (xs.map fun x => x.2.1)[i]? = some (xs[i].2.1) := by rw [List.getElem?_map, List.getElem?_eq_getElem hi]; rfl
      obtain ⟨u', hu', ru⟩ := vk.get hx
      rw [List.getElem?_map, Array.getElem?_toList, Array.getElem?_eq_getElem hi2] at hu'
      refine ⟨_, by rw [List.getElem?_eq_getElem hi]; rfl, ?_⟩
      have e2 : es[i].key = u' := Option.some.inj hu'
      rw [e2]; exact ru
    have I1 : Inv X pins σ H { s with heap := h' } := I.turned (t' := s.toks) (fun b ob hb e => (sb.2 b hb).trans e) f0 f1 f3 f4 f5
    obtain ⟨oi, e, c, dd⟩ := id st'
    refine ⟨_, rfl, go_of (s := { s with heap := h' }) e c dd (by decide) ⟨kx, H, I1, rk, ⟨rfl, hkx⟩, ?_, fun b hb => (hf b hb).1⟩⟩
    rw [hsz] at st'
    exact st'
  done := by
    intro X hP hw hK hc i pins s σ H E I hf st hg
    subst hP hw hK
    obtain ⟨hd, hi⟩ := hg
    obtain ⟨f0, f1, f2, f3, f4, f5⟩ := hf it (by simp)
    obtain ⟨raw, hsz, vk⟩ := raw_same I hd hod
    obtain ⟨ho, _⟩ := dictO_get I hd
    exact next_key_end (I.ok.hd hc) st ho hod hsz (by omega) fun h' eb => ⟨rfl, I.turned (t' := s.toks) (fun b ob hb e => eb b ob hb e) f0 f1 f3 f4 f5⟩
  self := fun A i s Q E st h => wpAny_pyIter_keyiter st h
end
def iKeyD (w : World) (td : TE) : TI := fun σ H R => td σ H fun v H1 => ∃ a o xs, v = .ref a ∧ H1 a = some (DictO w a o xs) ∧ R (ItKeyD w a o xs) H1
theorem pi_keyD {X : Cx} {e tg : Expr} {td : TE} (he : PE X e td) : PI X tg e (iKeyD X.w td) := by
  refine ⟨fun pins s σ H R I h => ?_⟩
  refine thn (he.run pins s σ H _ I h) fun u s1 ⟨x, H1, I1, rx, a, o, xs, ex, hd, q⟩ => ?_
  subst ex
  obtain rfl : u = Value.ref a := rx
  obtain ⟨es, ep, raw, hs, hl, hsz, _, _⟩ := dict_raw I1 hd
  obtain ⟨o', ho', hx, hod⟩ := id raw
  obtain ⟨ho, _⟩ := dictO_get I1 hd
  rw [ho] at ho'
  cases ho'
  refine iter_keys hs ho hx hod (pi_one (tk := s1.toks) I1 _ (turn_keyD _ hod) ⟨_, Heap.get?_push_size _ rfl, rfl, ?_⟩ q)
  rw [← hl] <;> rfl
section
variable {X : Cx} {Γ : List Bd} {a b tg : Expr} {pos p1 tpos : Pos} {F : Hp}
theorem steps_keyD {l : Addr} {o : Obj} {xs : List (NestedKey × V × V)} {ds : List PyData} (hl : F l = some (DictO X.w l o xs)) (r : RpL X F (xs.map fun x => x.2.1) ds) : Steps X (ItKeyD X.w l o xs) F ds := fun F' H s t => by
  have hd : H l = some (DictO X.w l o xs) := t _ _ (s _ _ hl)
  have hlen := r.length
  rw [List.length_map] at hlen
  refine ⟨fun i d hdd => ?_, hd, by exact hlen.symm⟩
  obtain ⟨v, hv, rv⟩ := r.get hdd
  rw [List.getElem?_map] at hv
  have hi : i < xs.length := by
    have := (List.getElem?_eq_some_iff.mp hdd).1
    omega
  refine ⟨⟨hd, hi⟩, fun x H' ⟨e2, e3⟩ => ?_⟩
  subst e2
  rw [hv] at e3
  cases e3
  exact ⟨F', Sub.refl _, Sub.refl _, t, fun _ _ z => .inl z, rv.mono s⟩
/-- for k in d -/
theorem di_dict {κ : Type} [DecidableEq κ] [Datum κ] [DKey κ] {m : List (κ × PyData)} (h : DE X Γ a (.dict ((kvD m).map fun p => (p.1.data, p.2)))) : DI X Γ tg a (m.map fun p => Datum.toD p.1) := fun B =>
  pi_imp (pi_keyD (h B)) fun σ H R ⟨F, A, k⟩ => ⟨F, A, fun v F' H' s t A' r => by
    have e0 : ∀ {d : PyData} {v : V}, Rp X F' v d → ∀ dd, d = .dict dd → ∃ l o xs ds, v = .ref l ∧ F' l = some (DictO X.w l o xs) ∧ RpL X F' (xs.map fun x => x.2.1) (xs.map fun x => x.1.data) ∧ RpL X F' (xs.map fun x => x.2.2) ds ∧ dd = (xs.map fun x => x.1.data).zip ds := by
      intro d v r dd e
      cases r with
      | dct h1 h2 h3 => cases e; exact ⟨_, _, _, _, rfl, h1, h2, h3, rfl⟩
      | _ => cases e
    obtain ⟨l, o, xs, ds, rfl, h1, h2, h3, h4⟩ := e0 r _ rfl
    refine ⟨l, o, xs, rfl, A'.fh _ _ h1, k _ F' H' s t A' ?_⟩
    have hl : xs.length = ds.length := by have := h3.length; rw [List.length_map] at this; exact this
    have e1 : (m.map fun p => Datum.toD p.1) = xs.map fun x => x.1.data := by
      have z := congrArg (List.map Prod.fst) h4
      rw [List.map_fst_zip (by rw [List.length_map, hl]; exact Nat.le_refl _)] at z
      rw [← z]
      unfold kvD
      rw [List.map_map, List.map_map]
      exact List.map_congr_left fun p _ => (keyT_data p.1).symm
    rw [e1]
    exact steps_keyD h1 h2⟩
/-! ### bits -/
variable {i j : Nat}
theorem de_or' (ha : DW X Γ a (.int (i : Int))) (hb : DW X Γ b (.int (j : Int))) : DE X Γ (.BinOp a .BitOr b pos) (.int ((i ||| j : Nat) : Int)) := by
  have z := de_i0 (pos := pos) op_or ha hb
  rw [bitOr_nn (Int.natCast_nonneg _) (Int.natCast_nonneg _)] at z
  exact z
theorem de_and' (ha : DW X Γ a (.int (i : Int))) (hb : DW X Γ b (.int (j : Int))) : DE X Γ (.BinOp a .BitAnd b pos) (.int ((i &&& j : Nat) : Int)) := by
  have z := de_i0 (pos := pos) op_and ha hb
  have e : Builtin.bitAnd (i : Int) (j : Int) = ((i &&& j : Nat) : Int) := by
    unfold Builtin.bitAnd
    rw [decide_eq_true (Int.natCast_nonneg i), decide_eq_true (Int.natCast_nonneg j)]
    rfl
  rw [e] at z
  exact z
theorem de_xor' (ha : DW X Γ a (.int (i : Int))) (hb : DW X Γ b (.int (j : Int))) : DE X Γ (.BinOp a .BitXor b pos) (.int (((i ||| j : Nat) : Int) - ((i &&& j : Nat) : Int))) := by
  have z := de_i0 (pos := pos) op_xor ha hb
  have e : Builtin.bitXor (i : Int) (j : Int) = ((i ||| j : Nat) : Int) - ((i &&& j : Nat) : Int) := by
    have e1 : Builtin.bitAnd (i : Int) (j : Int) = ((i &&& j : Nat) : Int) := by
      unfold Builtin.bitAnd
      rw [decide_eq_true (Int.natCast_nonneg i), decide_eq_true (Int.natCast_nonneg j)]
      rfl
    have e2 : Builtin.bitOr (i : Int) (j : Int) = ((i ||| j : Nat) : Int) := bitOr_nn (Int.natCast_nonneg _) (Int.natCast_nonneg _)
    unfold Builtin.bitXor
    rw [e1, e2]
  rw [e] at z
  exact z
/-- 1 << j, below 2 ^ 60 -/
theorem de_shl1 (ha : DW X Γ a (.int 1)) (hb : DW X Γ b (.int (j : Int))) (hj : j ≤ 60) : DE X Γ (.BinOp a .LShift b pos) (.int ((2 ^ j : Nat) : Int)) := by
  have z := de_iC (pos := pos) op_shl ha hb ⟨by omega, by omega, by decide⟩
  have e : (1 : Int) * 2 ^ ((j : Int)).toNat = ((2 ^ j : Nat) : Int) := by
    rw [Int.toNat_natCast, Int.one_mul]
    exact (Int.natCast_pow 2 j).symm
  rw [e] at z
  exact z
theorem de_shr' (ha : DW X Γ a (.int (i : Int))) (hb : DW X Γ b (.int (j : Int))) : DE X Γ (.BinOp a .RShift b pos) (.int ((i / 2 ^ j : Nat) : Int)) := by
  have z := de_iC (pos := pos) op_shr ha hb (Int.natCast_nonneg j)
  have e : (i : Int) / 2 ^ ((j : Int)).toNat = ((i / 2 ^ j : Nat) : Int) := by
    rw [Int.toNat_natCast]
    have : ((2 : Int) ^ j) = ((2 ^ j : Nat) : Int) := (Int.natCast_pow 2 j).symm
    rw [this]
    rfl
  rw [e] at z
  exact z
end
/-- a number from 0 on -/
def natD (n : Nat) : PyData := .int (n : Int)
theorem natD_inj (a b : Nat) (h : natD a = natD b) : a = b := by
  unfold natD at h
  injection h with h
  omega
section
variable {X : Cx} {P : Program} {w : World} {K : PySem.W.Frag} {mg : Str → Option Value} {base : Heap} {N : List Str} {sc : Scope} {k : Nat} {x y : Str} {top : Bool} {Γ : List Bd} {a tgt : Expr} {i : Int} {pos p1 tpos : Pos} {α : Type}
/-- for i, x in enumerate(xs) -/
theorem FnCx.enumL (c : FnCx X P w K mg base N sc k top) (B : Blt mg) (g : α → PyData) (xs : List α) {elts : List Expr} {kk : Nat} (h : DE X Γ a (.list (xs.map g))) (hg : glB sc "enumerate" = true := by decide +kernel) (hs : starEach [a] X.env = [(false, eval a X.env)] := by rfl) :
    DI X Γ (.Tuple elts kk tpos) (.Call (.Name "enumerate" p1) [a] [] pos) (xs.zipIdx.map fun p => .tuple [.int (p.2 : Nat), g p.1]) := by
  have z := di_enum (elts := elts) (kk := kk) (tpos := tpos) (pos := pos) (p1 := p1) (c.gl hg) (c.m B.enumerate) h hs
  rw [enumD_map] at z
  exact z
/-- for k in range(n) -/
theorem FnCx.rangeNat (c : FnCx X P w K mg base N sc k top) (B : Blt mg) (n : Nat) (h : DE X Γ a (.int i)) (hi : i = n) (hz : n ≤ 1000000000) (hg : glB sc "range" = true := by decide +kernel) (hs : starEach [a] X.env = [(false, eval a X.env)] := by rfl) : DI X Γ tgt (.Call (.Name "range" p1) [a] [] pos) ((List.range n).map natD) := by
  have z := c.rangeN (tgt := tgt) (p1 := p1) (pos := pos) B n h hi hz hg hs
  have e : ((List.range n).map fun k : Nat => PyData.int (0 + (k : Int))) = (List.range n).map natD := List.map_congr_left fun k _ => by unfold natD; rw [Int.zero_add]
  rw [e] at z
  exact z
end
end PH

set_option Elab.async false
set_option linter.all false
set_option maxRecDepth 100000
set_option maxHeartbeats 4000000
/-! P32: tuples cut and joined; cuts in plain words. -/
namespace PH
open PySem PySem.Spec L2
open PySem.W (Datum DatumOrd Tup)
section
variable {X : Cx} {Γ : List Bd} {a b : Expr} {pos : Pos} {xs ys : List PyData}
/-- t[lo:hi] of a tuple -/
theorem de_sliceT {lo hi : Option Expr} {l h : Option Int} {p2 : Pos} (ha : DE X Γ a (.tuple xs)) (hl : DO X Γ lo l) (hh : DO X Γ hi h) : DE X Γ (.Subscript a (.Slice lo hi none p2) pos) (.tuple (cutD xs l h)) := fun B =>
  pe_imp (pe_slice sl_tupA (ha B) (hl B) (hh B)) fun σ H Q ⟨F, A, k⟩ => ⟨F, A, fun v F1 H1 s1 t1 A1 r1 => ⟨F1, A1, fun F2 H2 s2 t2 A2 => ⟨F2, A2, fun F3 H3 s3 t3 A3 => by
    cases r1 with
    | @tup a0 vs _ h1 rl =>
      have s13 := s2.trans s3
      refine ⟨a0, vs, rfl, SqT.of (A3.fh _ _ (s13 _ _ h1)), fun hw => ?_, fun _ p hp => ?_⟩
      · have e : cutD xs l h = xs := by
          unfold cutD
          rw [← rl.length, hw.1, hw.2, List.drop_zero, Nat.sub_zero, List.take_of_length_le (by rw [rl.length]; exact Nat.le_refl _)]
        rw [e] at k
        exact k _ F3 H3 (s1.trans s13) (t1.trans (t2.trans t3)) A3 (.tup (s13 _ _ h1) (rl.mono s13))
      · exact k _ (upd F3 p (.tup (cutV vs l h))) _ ((s1.trans s13).trans (Sub.new (A3.fh.free hp))) ((t1.trans (t2.trans t3)).trans (Sub.new hp)) (A3.lay hp) (.tup upd_same ((rl.mono s13).cut.mono (Sub.new (A3.fh.free hp))))⟩⟩⟩
/-- t + u of tuples -/
theorem de_catT (ha : DE X Γ a (.tuple xs)) (hb : DE X Γ b (.tuple ys)) (hz : xs.length + ys.length ≤ sizeLine) : DE X Γ (.BinOp a .Add b pos) (.tuple (xs ++ ys)) := fun B =>
  pe_imp (pe_op op_catA (ha B) (hb B)) fun σ H Q ⟨F, A, k⟩ => ⟨F, A, fun v F1 H1 s1 t1 A1 r1 => ⟨F1, A1, fun u F2 H2 s2 t2 A2 r2 => by
    cases r1 with
    | @tup a0 vs _ h1 rl =>
      cases r2 with
      | @tup b0 us _ h2 ru =>
        refine ⟨a0, b0, vs, us, rfl, rfl, SqT.of (A2.fh _ _ (s2 _ _ h1)), SqT.of (A2.fh _ _ h2), by rw [rl.length, ru.length]; exact hz, fun hv => ?_, fun hv hu => ?_, fun _ _ p hp => ?_⟩
        · subst hv
          cases rl
          exact k _ F2 H2 (s1.trans s2) (t1.trans t2) A2 (.tup h2 ru)
        · subst hu
          cases ru
          rw [List.append_nil] at k
          exact k _ F2 H2 (s1.trans s2) (t1.trans t2) A2 (.tup (s2 _ _ h1) (rl.mono s2))
        · exact k _ (upd F2 p (.tup (vs ++ us))) _ ((s1.trans s2).trans (Sub.new (A2.fh.free hp))) ((t1.trans t2).trans (Sub.new hp)) (A2.lay hp) (.tup upd_same (((rl.mono s2).append ru).mono (Sub.new (A2.fh.free hp))))⟩⟩
/-- a bound below nought -/
theorem do_neg1 {j : Nat} {p1 p2 : Pos} : DO X Γ (some (.UnaryOp .USub (.Constant (.int 1) j p1) p2)) (some (-1)) := do_some (de_neg (un := un_neg) de_int.dw).dw
end
/-! ### cuts in plain words -/
def cutT {α : Type} (xs : List α) (lo hi : Option Int) : List α := (xs.drop (HT.sIx xs.length 0 lo)).take (HT.sIx xs.length xs.length hi - HT.sIx xs.length 0 lo)
theorem cutT_map {α : Type} {f : α → PyData} {xs : List α} {lo hi : Option Int} : cutD (xs.map f) lo hi = (cutT xs lo hi).map f := by
  unfold cutD cutT
  rw [List.length_map, List.map_take, List.map_drop]
theorem cutT_take {α : Type} {xs : List α} {k : Int} {n : Nat} (h : k = n) : cutT xs none (some k) = xs.take n := by
  subst h
  unfold cutT
  rw [HT.sIx_none, HT.sIx_nat, List.drop_zero, Nat.sub_zero]
  by_cases c : n ≤ xs.length
  · rw [Nat.min_eq_left c]
  · rw [Nat.min_eq_right (by omega), List.take_of_length_le (Nat.le_refl _), List.take_of_length_le (by omega)]
theorem cutT_drop {α : Type} {xs : List α} {k : Int} {n : Nat} (h : k = n) : cutT xs (some k) none = xs.drop n := by
  subst h
  unfold cutT
  rw [HT.sIx_none, HT.sIx_nat]
  by_cases c : n ≤ xs.length
  · rw [Nat.min_eq_left c, List.take_of_length_le (by rw [List.length_drop]; omega)]
  · rw [Nat.min_eq_right (by omega), List.drop_eq_nil_of_le (Nat.le_refl _), List.drop_eq_nil_of_le (by omega)]
    exact List.take_nil
theorem cutT_last {α : Type} {xs : List α} : cutT xs none (some (-1)) = xs.dropLast := by
  have e : HT.sIx xs.length xs.length (some (-1)) = xs.length - 1 := by
    show (if (-1 : Int) < 0 then ((-1 : Int) + (xs.length : Int)).toNat else min (-1 : Int).toNat xs.length) = _
    rw [if_pos (by decide)]
    omega
  unfold cutT
  rw [HT.sIx_none, e, List.drop_zero, Nat.sub_zero, List.dropLast_eq_take]
section
variable {X : Cx} {Γ : List Bd} {a : Expr} {pos : Pos} {α : Type} {g : α → PyData} {zs : List α}
/-- zs[:n], zs[n:], zs[:-1] -/
theorem dl_take {e : Expr} {p2 : Pos} {k : Int} (n : Nat) (ha : DB X Γ a (zs.map g)) (he : DE X Γ e (.int k)) (h : k = n) : DL X Γ (.Subscript a (.Slice none (some e) none p2) pos) ((zs.take n).map g) := by
  have z := dl_slice (p2 := p2) (pos := pos) ha do_none (do_some he.dw)
  rw [cutT_map, cutT_take h] at z
  exact z
theorem dl_drop {e : Expr} {p2 : Pos} {k : Int} (n : Nat) (ha : DB X Γ a (zs.map g)) (he : DE X Γ e (.int k)) (h : k = n) : DL X Γ (.Subscript a (.Slice (some e) none none p2) pos) ((zs.drop n).map g) := by
  have z := dl_slice (p2 := p2) (pos := pos) ha (do_some he.dw) do_none
  rw [cutT_map, cutT_drop h] at z
  exact z
theorem dl_last {j : Nat} {p1 p2 p3 : Pos} (ha : DB X Γ a (zs.map g)) : DL X Γ (.Subscript a (.Slice none (some (.UnaryOp .USub (.Constant (.int 1) j p1) p3)) none p2) pos) (zs.dropLast.map g) := by
  have z := dl_slice (p2 := p2) (pos := pos) ha do_none (do_neg1 (j := j) (p1 := p1) (p2 := p3))
  rw [cutT_map, cutT_last] at z
  exact z
end
end PH

set_option Elab.async false
set_option linter.all false
set_option maxRecDepth 100000
set_option maxHeartbeats 4000000
/-! P33: list(d.values()); min of a list; a dict that stands for good. -/
namespace PH
open PySem PySem.Spec PyProof.Rows L2
open PySem.W (Datum DatumOrd Tup)
mutual
theorem key_back : ∀ k : NestedKey, keyOfD k.data = k
  | .none => rfl
  | .num i => rfl
  | .text x => rfl
  | .tup ks => congrArg NestedKey.tup (keys_back ks)
theorem keys_back : ∀ ks : List NestedKey, keysOfD (NestedKey.datas ks) = ks
  | [] => rfl
  | k :: ks => congr (congrArg List.cons (key_back k)) (keys_back ks)
end
section
variable {X : Cx} {Γ : List Bd} {a b e : Expr} {pos p1 ap mp : Pos} {kvs : List (NestedKey × PyData)} {d : PyData}
/-- a dict that stands for good, as a dict to be asked of -/
theorem DE.dm (h : DE X Γ e (.dict (kvs.map fun p => (p.1.data, p.2)))) : DM X Γ e kvs := fun B => pe_imp (h B) fun σ H Q ⟨F, A, k⟩ => ⟨F, A, fun v F' H' s t A' r => by
  have e0 : ∀ {d : PyData} {v : V}, Rp X F' v d → ∀ dd, d = .dict dd → ∃ l o xs ds, v = .ref l ∧ F' l = some (DictO X.w l o xs) ∧ RpL X F' (xs.map fun x => x.2.1) (xs.map fun x => x.1.data) ∧ RpL X F' (xs.map fun x => x.2.2) ds ∧ dd = (xs.map fun x => x.1.data).zip ds := by
    intro d v r dd e
    cases r with
    | dct h1 h2 h3 => cases e; exact ⟨_, _, _, _, rfl, h1, h2, h3, rfl⟩
    | _ => cases e
  obtain ⟨l, o, xs, ds, rfl, h1, h2, h3, h4⟩ := e0 r _ rfl
  refine k l F' H' s t A' ⟨o, xs, ds, A'.fh _ _ h1, h2, h3, ?_⟩
  have z := congrArg (List.map fun p : PyData × PyData => (keyOfD p.1, p.2)) h4
  rw [List.map_map] at z
  have e1 : kvs.map ((fun p : PyData × PyData => (keyOfD p.1, p.2)) ∘ fun p : NestedKey × PyData => (p.1.data, p.2)) = kvs := by
    rw [List.map_congr_left (g := id) fun p _ => by show (keyOfD p.1.data, p.2) = p; rw [key_back]]
    exact List.map_id _
  rw [e1] at z
  rw [z]
  have e2 : ∀ (xs : List (NestedKey × V × V)) (ds : List PyData), ((xs.map fun x => x.1.data).zip ds).map (fun p : PyData × PyData => (keyOfD p.1, p.2)) = (xs.map (·.1)).zip ds := by
    intro xs
    induction xs with
    | nil => intro ds; rfl
    | cons x xs ih =>
      intro ds
      cases ds with
      | nil => rfl
      | cons d ds =>
        show (keyOfD x.1.data, d) :: _ = _
        rw [key_back]
        exact congrArg _ (ih ds)
  exact e2 xs ds⟩
/-! ### list(d.values()) -/
def ViewV (p a : Addr) : HO := .ext fun h => h.IsValuesView p a
def rVals (w : World) : V → List V → Hp → VK → Prop := fun v us H Q => ∃ (a : Addr) (o : Obj) (xs : List (NestedKey × V × V)), v = .ref a ∧ us = [] ∧ H a = some (DictO w a o xs) ∧ ∀ p, H p = none → Q (.ref p) (upd H p (ViewV p a))
theorem mt_vals : MtR X "dict.values" (rVals X.w) := by
  intro pins s σ H x vs v us Q I r1 r2 h
  obtain ⟨a, o, xs, rfl, rfl, hd, q⟩ := h
  obtain rfl : v = Value.ref a := r1
  cases r2
  obtain ⟨es, ep, raw, hs, _⟩ := dict_raw I hd
  refine call_meetsIn PySem.F.slot_dict_values raw.typeIs PySem.F.entry_dict_values (PySem.F.args_dict_values_1 _) (meets_dict_values_raw a hs) ⟨⟨es, ep, raw⟩, ?_⟩
  have hv : (s.heap.push { cls := .type "dict_values", data := .fields #[.ref a] }).IsValuesView s.heap.objs.size a := ⟨_, Heap.get?_push_size _ rfl, rfl, rfl⟩
  refine ⟨.ref s.heap.objs.size, upd H s.heap.objs.size (ViewV s.heap.objs.size a), I.laid (t' := s.toks) (fun b o e => Heap.get?_push_of_some _ e) (Nat.le_refl _) ?_, rfl, q _ (I.hok.fresh (Nat.le_refl _))⟩
  exact ⟨hv, ⟨_, Heap.get?_push_size _ rfl⟩, fun h1 h2 ⟨o, ho, r⟩ k => ⟨o, k o ho, r⟩⟩
def rListView (w : World) : List V → Hp → VK → Prop := fun vs H Q => ∃ (p a : Addr) (o : Obj) (xs : List (NestedKey × V × V)), vs = [.ref p] ∧ H p = some (ViewV p a) ∧ H a = some (DictO w a o xs) ∧ ∀ q, H q = none → Q (.ref q) (upd H q (.lst (xs.map fun x => x.2.2)))
theorem cr_listView (hc : X.calm = true) : CallR X (.type "list") (rListView X.w) := by
  intro pins s σ H vs us Q I r h
  obtain ⟨p, a, o, xs, rfl, hp, hd, q⟩ := h
  rw [Vals.ref1 r]
  have hv : s.heap.IsValuesView p a := (I.hok p _ hp).1
  obtain ⟨es, ep, raw, hs, hl, hsz, _, rv⟩ := dict_raw I hd
  refine PySem.W.kdl_call (KdlSrc.rawValues (r := p) (d := a) (es := es) (ep := ep)) (I.ok.hd hc) ⟨hv, raw⟩ hsz fun h' tk acc' c' hk hS hit => ?_
  have e := items_eq (f := fun e : DictEntry => e.val) hit fun i v hh => hh
  have ea : acc' = (es.toList.map (·.val)).toArray := by rw [← e]
  refine ⟨.ref s.heap.objs.size, upd H s.heap.objs.size (.lst (xs.map fun x => x.2.2)), I.laid (t' := tk) hk (Nat.le_refl _) ⟨by rw [List.length_map, ← hl]; exact hsz, es.toList.map (·.val), c', rv, by rw [hS, ea]⟩, rfl, q _ (I.hok.fresh (Nat.le_refl _))⟩
theorem dl_listVals (hc : X.calm = true) (hg : Gl X "list") (hm : X.mg "list" = none) (ha : DM X Γ a kvs) (hbase : attributeBase a "values" X.env (eval a X.env) = eval a X.env := by rfl) (hline : (ap.endLine == mp.line) = true := by rfl)
    (he : starEach [Expr.Call (.Attribute a "values" ap) [] [] mp] X.env = [(false, eval (Expr.Call (.Attribute a "values" ap) [] [] mp) X.env)] := by rfl) :
    DL X Γ (.Call (.Name "list" p1) [.Call (.Attribute a "values" ap) [] [] mp] [] pos) (kvs.map (·.2)) := fun B =>
  pe_imp (pe_callTy (cr_listView hc) hg hm (by decide +kernel) (pa_cons (pe_mG0 tyD_ok PySem.F.plainAttrs_dict PySem.F.slot_dict_values PySem.F.type_dict_values mt_vals (ha B) hbase hline) pa_nil he) (he := he) (hpl := rfl)) fun σ H Q ⟨F, A, k⟩ => ⟨F, A, fun a F1 H1 s1 t1 A1 hdi => ⟨hdi.ty, by
    obtain ⟨o, xs, ds, hh, r1, r2, e⟩ := hdi
    refine ⟨a, o, xs, rfl, rfl, hh, fun p hp => ⟨p, a, o, xs, rfl, upd_same, (Sub.new hp) _ _ hh, fun q hq => ?_⟩⟩
    have hq1 : H1 q = none := (Sub.new hp).free hq
    have e2 : kvs.map (·.2) = ds := by
      rw [e, List.map_snd_zip]
      have := r2.length
      rw [List.length_map] at this
      rw [List.length_map]
      omega
    rw [e2] at k
    have A2 := A1.lay0 (o := ViewV p a) hp
    exact k q _ F1 _ s1 (t1.trans ((Sub.new hp).trans (Sub.new hq))) (A2.lay0 hq) (A2.fh.free hq) (A2.h0.free hq) upd_same r2 (A2.loose hq)⟩⟩
theorem FnCx.listVals {P : Program} {w : World} {K : PySem.W.Frag} {mg : Str → Option Value} {base : Heap} {N : List Str} {sc : Scope} {k : Nat} {top : Bool} (c : FnCx X P w K mg base N sc k top) (B : Blt mg) (ha : DM X Γ a kvs) (hg : glB sc "list" = true := by decide +kernel) (hbase : attributeBase a "values" X.env (eval a X.env) = eval a X.env := by rfl) (hline : (ap.endLine == mp.line) = true := by rfl)
    (he : starEach [Expr.Call (.Attribute a "values" ap) [] [] mp] X.env = [(false, eval (Expr.Call (.Attribute a "values" ap) [] [] mp) X.env)] := by rfl) :
    DL X Γ (.Call (.Name "list" p1) [.Call (.Attribute a "values" ap) [] [] mp] [] pos) (kvs.map (·.2)) := dl_listVals c.calm (c.gl hg) (c.m B.list) ha hbase hline he
/-! ### min(xs) -/
theorem de_minL {ns : List Int} {m : Int} (hc : X.calm = true) (hg : Gl X "min") (hm : X.mg "min" = none) (ha : DW X Γ a (.list (ns.map PyData.int))) (h1 : m ∈ ns) (h2 : ∀ y ∈ ns, m ≤ y) (he : starEach [a] X.env = [(false, eval a X.env)] := by rfl) : DE X Γ (.Call (.Name "min" p1) [a] [] pos) (.int m) :=
  de_cbS (v := .int m) (cr_min hc) hg hm (by decide +kernel) (daw_cons ha daw_nil he) (fun _ => .int _) (fun H vs Q r hq => by
    cases r with
    | cons r rr =>
      cases rr
      cases r with
      | @lst a0 vs0 _ hh rl =>
        have ev := RepL.of_ints rl
        refine ⟨a0, ns, rfl, SqL.of (by rw [hh, ev]), List.length_pos_of_mem h1, fun m' hm1 hm2 => ?_⟩
        have : m' = m := Int.le_antisymm (hm2 m h1) (h2 m' hm1)
        rw [this]; exact hq) (he := he) (hpl := rfl)
theorem FnCx.minL {P : Program} {w : World} {K : PySem.W.Frag} {mg : Str → Option Value} {base : Heap} {N : List Str} {sc : Scope} {k : Nat} {top : Bool} (c : FnCx X P w K mg base N sc k top) (B : Blt mg) {ns : List Int} {m : Int} (ha : DW X Γ a (.list (ns.map PyData.int))) (h1 : m ∈ ns) (h2 : ∀ y ∈ ns, m ≤ y) (hg : glB sc "min" = true := by decide +kernel) (he : starEach [a] X.env = [(false, eval a X.env)] := by rfl) : DE X Γ (.Call (.Name "min" p1) [a] [] pos) (.int m) := de_minL c.calm (c.gl hg) (c.m B.min) ha h1 h2 he
end
end PH

set_option Elab.async false
set_option linter.all false
set_option maxRecDepth 100000
set_option maxHeartbeats 4000000
/-! P34: len of a dict; all but the last. -/
namespace PH
open PySem PySem.Spec PyProof.Rows L2
open PySem.W (Datum DatumOrd Tup)
section
variable {X : Cx} {Γ : List Bd} {a b e : Expr} {pos p1 p2 p3 : Pos} {kvs : List (NestedKey × PyData)} {d : PyData} {xs : List PyData}
def rLenDict (w : World) : List V → Hp → VK → Prop := fun vs H Q => ∃ (a : Addr) (o : Obj) (xs : List (NestedKey × V × V)), vs = [.ref a] ∧ H a = some (DictO w a o xs) ∧ Q (.int (xs.length : Int)) H
theorem cr_lenDict : CallR X (.builtin "len") (rLenDict X.w) := by
  intro pins s σ H vs us Q I r h
  obtain ⟨a, o, xs, rfl, hd, q⟩ := h
  obtain ⟨es, ep, raw, hs, hl, hsz, _⟩ := dict_raw I hd
  have hz := sizeLine_eq
  rw [Vals.ref1 r]
  refine call_len_slot (n := (es.size : Int)) raw.typeIs PySem.F.slot_dict_len (fun Q' h => call_len_raw hs raw h) (by omega) (by omega) ⟨.int (xs.length : Int), H, I.tok _, ⟨_, by rw [hl]⟩, q⟩
theorem de_lenDict (hg : Gl X "len") (hm : X.mg "len" = none) (ha : DM X Γ a kvs) (he : starEach [a] X.env = [(false, eval a X.env)] := by rfl) : DE X Γ (.Call (.Name "len" p1) [a] [] pos) (.int (kvs.length : Int)) := fun B =>
  pe_imp (pe_callB cr_lenDict hg hm boot_len' (pa_cons (ha B) pa_nil he) (he := he) (hpl := rfl)) fun σ H Q ⟨F, A, k⟩ => ⟨F, A, fun a F1 H1 s1 t1 A1 hdi => by
    obtain ⟨o, xs, ds, hh, r1, r2, e⟩ := hdi
    have hl : kvs.length = xs.length := by
      rw [e, List.length_zip, List.length_map]
      have := r2.length
      rw [List.length_map] at this
      omega
    exact ⟨a, o, xs, rfl, hh, by rw [← hl]; exact k _ F1 H1 s1 t1 A1 (.int _)⟩⟩
theorem FnCx.lenDict {P : Program} {w : World} {K : PySem.W.Frag} {mg : Str → Option Value} {base : Heap} {N : List Str} {sc : Scope} {k : Nat} {top : Bool} (c : FnCx X P w K mg base N sc k top) (B : Blt mg) (ha : DM X Γ a kvs) (hg : glB sc "len" = true := by decide +kernel) (he : starEach [a] X.env = [(false, eval a X.env)] := by rfl) : DE X Γ (.Call (.Name "len" p1) [a] [] pos) (.int (kvs.length : Int)) := de_lenDict (c.gl hg) (c.m B.len) ha he
/-- xs[:-1] of xs and one more -/
theorem dl_last1 {j : Nat} (ha : DB X Γ a (xs ++ [d])) : DL X Γ (.Subscript a (.Slice none (some (.UnaryOp .USub (.Constant (.int 1) j p1) p3)) none p2) pos) xs := by
  have z := dl_slice (p2 := p2) (pos := pos) ha do_none (do_neg1 (j := j) (p1 := p1) (p2 := p3))
  have e : cutD (xs ++ [d]) none (some (-1)) = xs := (cutT_last (xs := xs ++ [d])).trans List.dropLast_concat
  rw [e] at z
  exact z
end
end PH

set_option Elab.async false
set_option linter.all false
set_option maxRecDepth 100000
set_option maxHeartbeats 4000000
/-! P40: min, max of typed lists; max with default=. -/
namespace PH
open PySem PySem.Spec PyProof.Rows L2
open PySem.W (Datum DatumOrd Tup)
section
variable {X : Cx} {Γ : List Bd} {a b e : Expr} {pos p1 : Pos} {α : Type} [DecidableEq α] [DatumOrd α]
def rMinT (P : Program) (w : World) (K : PySem.W.Frag) (α : Type) [DecidableEq α] [DatumOrd α] (f : α → List α → α) : List V → Hp → VK → Prop := fun vs H Q => ∃ (a : Addr) (xs : List V) (F : Hp) (b : α) (bs : List α), vs = [.ref a] ∧ H a = some (.lst xs) ∧ Sub F H ∧ RepL P w K F xs ((b :: bs).map Datum.toD) ∧ Datum.depth α ≤ 64 ∧
  ∀ x, Rep P w K F x (Datum.toD (f b bs)) → Q x H
/-- the item that a min, a max gives -/
theorem minT_item {F H : Hp} {pins : List (Addr × Obj)} {σ : L2.St} {s : Shared} {its : List Value} {xs : List V} {bs : List α} {m : α} {i : Nat} {v : Value} {h' : Heap} (I : Inv X pins σ H s) (hF : Sub F H) (rv : Vals xs its) (hr : RepL X.prog X.w X.K F xs (bs.map Datum.toD)) (hi : its.toArray[i]? = some v) (hh : PySem.W.Holds h' v m) (hk : ∀ b o, s.heap.get? b = some o → h'.get? b = some o) : ∃ x, RelV x v ∧ Rep X.prog X.w X.K F x (Datum.toD m) := by
  have hi' : its[i]? = some v := by simpa using hi
  have hl := (List.getElem?_eq_some_iff.mp hi').1
  have hx : i < xs.length := by rw [rv.length]; exact hl
  obtain ⟨u, hu, ru⟩ := rv.get (List.getElem?_eq_getElem hx)
  rw [hi'] at hu
  cases hu
  obtain ⟨d, hd, rd⟩ := hr.get' (List.getElem?_eq_getElem hx)
  rw [List.getElem?_map] at hd
  obtain ⟨c, hc, rfl⟩ := Option.map_eq_some_iff.mp hd
  obtain ⟨as, r1⟩ := Dp.reads I _ _ _ ((rd.mono hF).dp (Datum.plain _)) ru
  obtain ⟨as', r2⟩ := hh
  have e := ((Reads.keeps hk r1).unique _ _ r2).1
  rw [← e]
  exact ⟨_, ru, rd⟩
theorem cr_minT (hc : X.calm = true) (hu : X.A.units + 200 < cLine) : CallR X (.builtin "min") (rMinT X.prog X.w X.K α PySem.W.minOf) := by
  intro pins s σ H vs us Q I r h
  obtain ⟨a, xs, F, b, bs, rfl, hl, hF, hr, hz, q⟩ := h
  obtain ⟨its, rv, pl, hlen⟩ := I.list (SqL.of hl)
  rw [Vals.ref1 r]
  refine PySem.W.min_list_datum (I.ok.hd hc) pl.isList (x := b) (xs := bs) (Dp.readsAll I _ xs its ((hr.mono hF).dp (PySem.W.plainAll_map _)) rv) (by omega) fun i v h' tk hi hh hk => ?_
  obtain ⟨x, rx, rp⟩ := minT_item I hF rv hr hi hh hk
  exact ⟨x, H, I.kept hk, rx, q x rp⟩
theorem cr_maxT (hc : X.calm = true) (hu : X.A.units + 200 < cLine) : CallR X (.builtin "max") (rMinT X.prog X.w X.K α PySem.W.maxOf) := by
  intro pins s σ H vs us Q I r h
  obtain ⟨a, xs, F, b, bs, rfl, hl, hF, hr, hz, q⟩ := h
  obtain ⟨its, rv, pl, hlen⟩ := I.list (SqL.of hl)
  rw [Vals.ref1 r]
  refine PySem.W.max_list_datum (I.ok.hd hc) pl.isList (x := b) (xs := bs) (Dp.readsAll I _ xs its ((hr.mono hF).dp (PySem.W.plainAll_map _)) rv) (by omega) fun i v h' tk hi hh hk => ?_
  obtain ⟨x, rx, rp⟩ := minT_item I hF rv hr hi hh hk
  exact ⟨x, H, I.kept hk, rx, q x rp⟩
theorem de_minT {x : α} {bs : List α} (hc : X.calm = true) (hu : X.A.units + 200 < cLine) (hg : Gl X "min") (hm : X.mg "min" = none) (ha : DB X Γ a ((x :: bs).map Datum.toD)) (hd : Datum.depth α ≤ 64 := by decide) (he : starEach [a] X.env = [(false, eval a X.env)] := by rfl) :
    DE X Γ (.Call (.Name "min" p1) [a] [] pos) (Datum.toD (PySem.W.minOf x bs)) := fun B =>
  pe_imp (pe_callB (cr_minT (α := α) hc hu) hg hm (by decide +kernel) (pa_cons (ha B) pa_nil he) (he := he) (hpl := rfl)) fun σ H Q ⟨F, A, k⟩ => ⟨F, A, fun a vs F1 H1 s1 t1 A1 hl r =>
    ⟨a, vs, F1, x, bs, rfl, hl, A1.fh, r, hd, fun v rv => k v F1 H1 s1 t1 A1 rv⟩⟩
theorem de_maxT {x : α} {bs : List α} (hc : X.calm = true) (hu : X.A.units + 200 < cLine) (hg : Gl X "max") (hm : X.mg "max" = none) (ha : DB X Γ a ((x :: bs).map Datum.toD)) (hd : Datum.depth α ≤ 64 := by decide) (he : starEach [a] X.env = [(false, eval a X.env)] := by rfl) :
    DE X Γ (.Call (.Name "max" p1) [a] [] pos) (Datum.toD (PySem.W.maxOf x bs)) := fun B =>
  pe_imp (pe_callB (cr_maxT (α := α) hc hu) hg hm (by decide +kernel) (pa_cons (ha B) pa_nil he) (he := he) (hpl := rfl)) fun σ H Q ⟨F, A, k⟩ => ⟨F, A, fun a vs F1 H1 s1 t1 A1 hl r =>
    ⟨a, vs, F1, x, bs, rfl, hl, A1.fh, r, hd, fun v rv => k v F1 H1 s1 t1 A1 rv⟩⟩
/-! ### max(xs, default=i) of ints -/
def max0 (d : Int) : List Int → Int
  | [] => d
  | x :: xs => PySem.W.maxOf x xs
def rMaxD (P : Program) (w : World) (K : PySem.W.Frag) : List V → List V → Hp → VK → Prop := fun vs zs H Q => ∃ (a : Addr) (ns : List Int) (d : Int), vs = [.ref a] ∧ zs = [.int d] ∧ H a = some (.lst (ns.map V.int)) ∧ Q (.int (max0 d ns)) H
theorem cr_maxD (hc : X.calm = true) (hu : X.A.units + 200 < cLine) : CallRK X (.builtin "max") [Str.ofString "default"] (rMaxD X.prog X.w X.K) := by
  intro pins s σ H vs zs us ws Q I r rz h
  obtain ⟨a, ns, d, rfl, rfl, hl, q⟩ := h
  obtain ⟨its, rv, pl, hlen⟩ := I.list (SqL.of hl)
  rw [Vals.ref1 r]
  obtain ⟨w1, rfl, e1⟩ := Vals.one rz
  have hr : RepL X.prog X.w X.K H (ns.map V.int) (ns.map Datum.toD) := RepL.ints ns
  have hi0 : Datum.depth Int = 0 := rfl
  refine PySem.W.max_list_datum_default (α := Int) (I.ok.hd hc) pl.isList (xs := ns) (Dp.readsAll I _ _ its (hr.dp (PySem.W.plainAll_map _)) rv) (by omega) (fun e h' tk hk => ?_) fun y ys i v h' tk e hi hh hk => ?_
  · subst e
    exact ⟨.int d, H, I.kept hk, e1, q⟩
  · subst e
    obtain ⟨x, rx, rp⟩ := minT_item I (Sub.refl H) rv hr hi hh hk
    cases rp
    exact ⟨_, H, I.kept hk, rx, q⟩
theorem de_maxD {ns : List Int} {d : Int} {ee : Expr} {kp : Pos} (hc : X.calm = true) (hu : X.A.units + 200 < cLine) (hg : Gl X "max") (hm : X.mg "max" = none) (ha : DB X Γ a (ns.map PyData.int)) (hd : DE X Γ ee (.int d))
    (he : backTo pos (starEach [a] X.env) = (false, eval a X.env) :: backTo pos (starEach [] X.env) := by rfl) (hpl : (backTo pos (starEach [a] X.env)).any (·.1) = false := by rfl) (he1 : starEach [a] X.env = [(false, eval a X.env)] := by rfl)
    (hall : (backToKw pos (keywordEach [⟨some "default", ee, kp⟩] X.env)).all (·.1.isSome) = true := by rfl) (hnone : (backToKw pos (keywordEach [⟨some "default", ee, kp⟩] X.env)).any (·.1.isNone) = false := by rfl) (hks : (backToKw pos (keywordEach [⟨some "default", ee, kp⟩] X.env)).filterMap (·.1) = [Str.ofString "default"] := by rfl) :
    DE X Γ (.Call (.Name "max" p1) [a] [⟨some "default", ee, kp⟩] pos) (.int (max0 d ns)) := fun B =>
  pe_imp (pe_callBK (cr_maxD hc hu) hg hm (by decide +kernel) (pa_cons (ha B) pa_nil he1) (pk_cons (hd B) pk_nil) (he := he) (hpl := hpl) (hall := hall) (hnone := hnone) (hks := hks)) fun σ H Q ⟨F, A, k⟩ => ⟨F, A, fun a vs F1 H1 s1 t1 A1 hl r => by
    have ev := RepL.of_ints r
    subst ev
    exact ⟨F1, A1, fun v F2 H2 s2 t2 A2 rv => by
      cases rv
      exact ⟨a, ns, d, rfl, rfl, t2 _ _ hl, k _ F2 H2 (s1.trans s2) (t1.trans t2) A2 (.int _)⟩⟩⟩
end
section
variable {X : Cx} {P : Program} {w : World} {K : PySem.W.Frag} {mg : Str → Option Value} {base : Heap} {N : List Str} {sc : Scope} {k : Nat} {top : Bool} {Γ : List Bd} {a b e : Expr} {pos p1 : Pos}
theorem FnCx.minT {α : Type} [DecidableEq α] [DatumOrd α] {x : α} {bs : List α} (c : FnCx X P w K mg base N sc k top) (B : Blt mg) (ha : DB X Γ a ((x :: bs).map Datum.toD)) (hg : glB sc "min" = true := by decide +kernel) (hd : Datum.depth α ≤ 64 := by decide) (he : starEach [a] X.env = [(false, eval a X.env)] := by rfl) : DE X Γ (.Call (.Name "min" p1) [a] [] pos) (Datum.toD (PySem.W.minOf x bs)) := de_minT c.calm c.hu (c.gl hg) (c.m B.min) ha hd he
theorem FnCx.maxT {α : Type} [DecidableEq α] [DatumOrd α] {x : α} {bs : List α} (c : FnCx X P w K mg base N sc k top) (B : Blt mg) (ha : DB X Γ a ((x :: bs).map Datum.toD)) (hg : glB sc "max" = true := by decide +kernel) (hd : Datum.depth α ≤ 64 := by decide) (he : starEach [a] X.env = [(false, eval a X.env)] := by rfl) : DE X Γ (.Call (.Name "max" p1) [a] [] pos) (Datum.toD (PySem.W.maxOf x bs)) := de_maxT c.calm c.hu (c.gl hg) (c.m B.max) ha hd he
theorem FnCx.maxD {ns : List Int} {d : Int} {ee : Expr} {kp : Pos} (c : FnCx X P w K mg base N sc k top) (B : Blt mg) (ha : DB X Γ a (ns.map PyData.int)) (hd : DE X Γ ee (.int d)) (hg : glB sc "max" = true := by decide +kernel)
    (he : backTo pos (starEach [a] X.env) = (false, eval a X.env) :: backTo pos (starEach [] X.env) := by rfl) (hpl : (backTo pos (starEach [a] X.env)).any (·.1) = false := by rfl) (he1 : starEach [a] X.env = [(false, eval a X.env)] := by rfl)
    (hall : (backToKw pos (keywordEach [⟨some "default", ee, kp⟩] X.env)).all (·.1.isSome) = true := by rfl) (hnone : (backToKw pos (keywordEach [⟨some "default", ee, kp⟩] X.env)).any (·.1.isNone) = false := by rfl) (hks : (backToKw pos (keywordEach [⟨some "default", ee, kp⟩] X.env)).filterMap (·.1) = [Str.ofString "default"] := by rfl) :
    DE X Γ (.Call (.Name "max" p1) [a] [⟨some "default", ee, kp⟩] pos) (.int (max0 d ns)) := de_maxD c.calm c.hu (c.gl hg) (c.m B.max) ha hd he hpl he1 hall hnone hks
end
end PH

set_option Elab.async false
set_option linter.all false
set_option maxRecDepth 100000
set_option maxHeartbeats 4000000
/-! M16: next ones, rows, heirs. -/
namespace PH
open PySem PySem.Spec L2
open PySem.W (Datum DatumOrd Tup T3)
def overB (r : Rule) (p : Part) (m : Str) (day : Int) : Bool := decide (r.kind = "over") && (decide (r.one = p) && holdsR r m day)
def cands (bk : List Rule) (p : Part) (m : Str) (day : Int) : List Rule := bk.filter fun r => overB r p m day
def latest (s : List Rule) : Int := max0 0 (s.map (·.day))
def newest (s : List Rule) : List Rule := s.filter fun r => decide (r.day = latest s)
def namedR (r : Rule) : Bool := !decide (r.machs = ⟨[]⟩)
def bestR (s : List Rule) : List Rule := if (newest s).filter namedR = [] then newest s else (newest s).filter namedR
def nextP (bk : List Rule) (p : Part) (m : Str) (day : Int) : List Part := srt (uniq ((bestR (cands bk p m day)).map (·.other)))
def rank (r : Rule) : Int × Int := (r.day, if namedR r = true then 1 else 0)
theorem lt_rank (r r' : Rule) : DatumOrd.lt (rank r) (rank r') = true ↔ r.day < r'.day ∨ (r.day = r'.day ∧ namedR r = false ∧ namedR r' = true) := by
  show (if r.day = r'.day then decide (_ < _) else decide (r.day < r'.day)) = true ↔ _
  by_cases c : r.day = r'.day
  · rw [if_pos c]
    unfold rank
    cases namedR r <;> cases namedR r' <;> simp <;> omega
  · rw [if_neg c]
    simp [c]
theorem maxOf_spec : ∀ (xs : List Int) (x : Int), PySem.W.maxOf x xs ∈ x :: xs ∧ ∀ y ∈ x :: xs, y ≤ PySem.W.maxOf x xs
  | [], x => ⟨List.mem_cons_self, fun y hy => by rw [List.mem_singleton.mp hy]; exact Int.le_refl _⟩
  | z :: xs, x => by
    have e : PySem.W.maxOf x (z :: xs) = PySem.W.maxOf (if DatumOrd.lt x z = true then z else x) xs := rfl
    obtain ⟨h1, h2⟩ := maxOf_spec xs (if DatumOrd.lt x z = true then z else x)
    rw [e]
    have e2 : (DatumOrd.lt x z = true) ↔ x < z := by show decide (x < z) = true ↔ _; exact decide_eq_true_iff
    by_cases c : x < z
    · rw [if_pos (e2.2 c)] at h1 h2 ⊢
      refine ⟨List.mem_cons_of_mem _ h1, fun y hy => ?_⟩
      rcases List.mem_cons.mp hy with q | q
      · have := h2 z List.mem_cons_self; omega
      · exact h2 y q
    · rw [if_neg (fun q => c (e2.1 q))] at h1 h2 ⊢
      refine ⟨?_, fun y hy => ?_⟩
      · rcases List.mem_cons.mp h1 with q | q
        · rw [q]; exact List.mem_cons_self
        · exact List.mem_cons_of_mem _ (List.mem_cons_of_mem _ q)
      · rcases List.mem_cons.mp hy with q | q
        · rw [q]; exact h2 x List.mem_cons_self
        · rcases List.mem_cons.mp q with q | q
          · have := h2 x List.mem_cons_self; omega
          · exact h2 y (List.mem_cons_of_mem _ q)
theorem latest_spec {s : List Rule} (h : s ≠ []) : (∃ r ∈ s, r.day = latest s) ∧ ∀ r ∈ s, r.day ≤ latest s := by
  cases s with
  | nil => exact absurd rfl h
  | cons r s =>
    obtain ⟨h1, h2⟩ := maxOf_spec (s.map (·.day)) r.day
    have e : latest (r :: s) = PySem.W.maxOf r.day (s.map (·.day)) := rfl
    rw [e]
    rw [← List.map_cons (f := fun r : Rule => r.day)] at h1 h2
    refine ⟨?_, fun x hx => h2 _ (List.mem_map.mpr ⟨x, hx, rfl⟩)⟩
    obtain ⟨x, hx, ex⟩ := List.mem_map.mp h1
    exact ⟨x, hx, ex⟩
theorem bestR_mem {s : List Rule} {r : Rule} : r ∈ bestR s ↔ r ∈ s ∧ ∀ r' ∈ s, DatumOrd.lt (rank r) (rank r') = false := by
  have nm : ∀ {x}, x ∈ newest s ↔ x ∈ s ∧ x.day = latest s := fun {x} => by
    unfold newest
    rw [List.mem_filter, decide_eq_true_eq]
  have ltf : ∀ {x y : Rule}, DatumOrd.lt (rank x) (rank y) = false ↔ ¬ (x.day < y.day ∨ (x.day = y.day ∧ namedR x = false ∧ namedR y = true)) := fun {x y} => by
    rw [← lt_rank, Bool.not_eq_true]
  constructor
  · intro h
    have hn : r ∈ newest s ∧ ((newest s).filter namedR = [] ∨ namedR r = true) := by
      unfold bestR at h
      split at h
      · exact ⟨h, .inl (by assumption)⟩
      · rw [List.mem_filter] at h
        exact ⟨h.1, .inr h.2⟩
    obtain ⟨h1, h2⟩ := nm.1 hn.1
    have hs : s ≠ [] := fun z => by rw [z] at h1; cases h1
    refine ⟨h1, fun r' hr' => ltf.2 ?_⟩
    have hle := (latest_spec hs).2 r' hr'
    rintro (z | ⟨z1, z2, z3⟩)
    · omega
    · rcases hn.2 with q | q
      · have : r' ∈ (newest s).filter namedR := List.mem_filter.mpr ⟨nm.2 ⟨hr', by omega⟩, z3⟩
        rw [q] at this
        cases this
      · rw [z2] at q; cases q
  · rintro ⟨h1, h2⟩
    have hs : s ≠ [] := fun z => by rw [z] at h1; cases h1
    obtain ⟨⟨x, hx, ex⟩, hle⟩ := latest_spec hs
    have hd : r.day = latest s := by
      have := hle r h1
      have z := ltf.1 (h2 x hx)
      omega
    have hn : r ∈ newest s := nm.2 ⟨h1, hd⟩
    unfold bestR
    split
    · exact hn
    · rename_i hne
      refine List.mem_filter.mpr ⟨hn, ?_⟩
      obtain ⟨y, hy⟩ := List.exists_mem_of_ne_nil _ hne
      rw [List.mem_filter] at hy
      obtain ⟨y1, y2⟩ := nm.1 hy.1
      have z := ltf.1 (h2 y y1)
      cases q : namedR r with
      | true => rfl
      | false => exact absurd (.inr ⟨by omega, q, hy.2⟩) z
theorem nextP_mem {bk : List Rule} {p q : Part} {m : Str} {day : Int} : q ∈ nextP bk p m day ↔ ∃ r ∈ cands bk p m day, (∀ r' ∈ cands bk p m day, DatumOrd.lt (rank r) (rank r') = false) ∧ r.other = q := by
  unfold nextP
  rw [mem_srt, mem_uniq, List.mem_map]
  constructor
  · rintro ⟨r, hr, e⟩
    obtain ⟨h1, h2⟩ := bestR_mem.1 hr
    exact ⟨r, h1, h2, e⟩
  · rintro ⟨r, h1, h2, e⟩
    exact ⟨r, bestR_mem.2 ⟨h1, h2⟩, e⟩
theorem nextP_nodup (bk : List Rule) (p : Part) (m : Str) (day : Int) : (nextP bk p m day).Nodup := (srt_perm _).nodup_iff.mpr (uniq_nodup _)
theorem nextP_other {bk : List Rule} {p q : Part} {m : Str} {day : Int} (h : q ∈ nextP bk p m day) : q ∈ bk.map (·.other) := by
  obtain ⟨r, h1, _, e⟩ := nextP_mem.1 h
  unfold cands at h1
  exact List.mem_map.mpr ⟨r, (List.mem_filter.mp h1).1, e⟩
/-! ### the law's own: the best rank so far -/
structure Bst where
  best : Option (Int × Int)
  found : List Part
def betterB (b : Option (Int × Int)) (k : Int × Int) : Bool := match b with
  | none => true
  | some b => DatumOrd.lt b k
def bst1 (s : Bst) (r : Rule) : Bst := if betterB s.best (rank r) = true then ⟨some (rank r), []⟩ else s
def bst2 (s : Bst) (r : Rule) : Bst := if (decide (some (rank r) = s.best) && !memB r.other s.found) = true then ⟨s.best, s.found ++ [r.other]⟩ else s
def bestF (p : Part) (m : Str) (day : Int) (s : Bst) (r : Rule) : Bst := if overB r p m day = true then bst2 (bst1 s r) r else s
structure BstI (p : Part) (m : Str) (day : Int) (L : List Rule) (s : Bst) : Prop where
  no : s.best = none → (∀ r ∈ L, overB r p m day = false) ∧ s.found = []
  yes : ∀ b, s.best = some b → (∃ r ∈ L, overB r p m day = true ∧ rank r = b) ∧ ∀ r ∈ L, overB r p m day = true → DatumOrd.lt b (rank r) = false
  nd : s.found.Nodup
  mem : ∀ q, q ∈ s.found ↔ ∃ r ∈ L, overB r p m day = true ∧ s.best = some (rank r) ∧ r.other = q
theorem lt_self {α : Type} [DecidableEq α] [DatumOrd α] (a : α) : DatumOrd.lt a a = false := by
  have z := leT_total a a
  unfold leT at z
  simpa using z
theorem lt_le {α : Type} [DecidableEq α] [DatumOrd α] {a b c : α} (h1 : DatumOrd.lt a b = true) (h2 : DatumOrd.lt a c = false) : DatumOrd.lt b c = false := by
  -- c ≤ a < b
  cases q : DatumOrd.lt b c with
  | false => rfl
  | true =>
    have h3 : leT c a = true := by unfold leT; rw [h2]; rfl
    have h4 : leT b c = true := by
      have t := leT_total b c
      have n : leT c b = false := by unfold leT; rw [q]; rfl
      rw [n, Bool.or_false] at t
      exact t
    have h5 := leT_trans b c a h4 h3
    unfold leT at h5
    rw [h1] at h5
    cases h5
theorem best_inv (p : Part) (m : Str) (day : Int) {L : List Rule} {s : Bst} {r : Rule} (I : BstI p m day L s) : BstI p m day (L ++ [r]) (bestF p m day s r) := by
  unfold bestF
  by_cases ho : overB r p m day = true
  · rw [if_pos ho]
    -- the new best one
    have I1 : (bst1 s r).best ≠ none ∧ (∀ b, (bst1 s r).best = some b → (∃ x ∈ L ++ [r], overB x p m day = true ∧ rank x = b) ∧ ∀ x ∈ L ++ [r], overB x p m day = true → DatumOrd.lt b (rank x) = false) ∧ (bst1 s r).found.Nodup ∧
        ∀ q, q ∈ (bst1 s r).found ↔ ∃ x ∈ L, overB x p m day = true ∧ (bst1 s r).best = some (rank x) ∧ x.other = q := by
      unfold bst1
      by_cases hb : betterB s.best (rank r) = true
      · rw [if_pos hb]
        refine ⟨fun z => (nomatch z), fun b e => ?_, List.nodup_nil, fun q => ⟨fun z => (nomatch z), ?_⟩⟩
        · cases e
          refine ⟨⟨r, List.mem_append_right _ List.mem_cons_self, ho, rfl⟩, fun x hx hox => ?_⟩
          rcases List.mem_append.mp hx with z | z
          · cases e : s.best with
            | none => rw [(I.no e).1 x z] at hox; cases hox
            | some b =>
              rw [e] at hb
              exact lt_le hb ((I.yes b e).2 x z hox)
          · rw [List.mem_singleton.mp z]; exact lt_self _
        · rintro ⟨x, hx, hox, e, _⟩
          have e : some (rank r) = some (rank x) := e
          exfalso
          cases es : s.best with
          | none => rw [(I.no es).1 x hx] at hox; cases hox
          | some b =>
            rw [es] at hb
            have hb : DatumOrd.lt b (rank r) = true := hb
            rw [Option.some.inj e, (I.yes b es).2 x hx hox] at hb
            cases hb
      · rw [if_neg hb]
        cases es : s.best with
        | none => rw [es] at hb; exact absurd rfl hb
        | some b =>
          rw [es] at hb
          refine ⟨fun z => (nomatch z), fun b' e => ?_, I.nd, fun q => by rw [← es]; exact I.mem q⟩
          cases e
          refine ⟨?_, fun x hx hox => ?_⟩
          · obtain ⟨x, hx, h1, h2⟩ := (I.yes b es).1
            exact ⟨x, List.mem_append_left _ hx, h1, h2⟩
          · rcases List.mem_append.mp hx with z | z
            · exact (I.yes b es).2 x z hox
            · rw [List.mem_singleton.mp z]
              rw [Bool.not_eq_true] at hb
              exact hb
    obtain ⟨i1, i2, i3, i4⟩ := I1
    generalize bst1 s r = t at i1 i2 i3 i4
    unfold bst2
    by_cases hc : (decide (some (rank r) = t.best) && !memB r.other t.found) = true
    · rw [if_pos hc]
      rw [Bool.and_eq_true, decide_eq_true_eq, memB_not] at hc
      refine ⟨fun z => absurd z i1, i2, List.nodup_append.mpr ⟨i3, by simp, fun a ha b hb e => hc.2 (by rw [List.mem_singleton.mp hb] at e; rw [← e]; exact ha)⟩, fun q => ?_⟩
      rw [List.mem_append, i4 q, List.mem_singleton]
      constructor
      · rintro (⟨x, hx, z⟩ | z)
        · exact ⟨x, List.mem_append_left _ hx, z⟩
        · exact ⟨r, List.mem_append_right _ List.mem_cons_self, ho, hc.1.symm, z.symm⟩
      · rintro ⟨x, hx, z1, z2, z3⟩
        rcases List.mem_append.mp hx with h | h
        · exact .inl ⟨x, h, z1, z2, z3⟩
        · rw [List.mem_singleton.mp h] at z3
          exact .inr z3.symm
    · rw [if_neg hc]
      refine ⟨fun z => absurd z i1, i2, i3, fun q => ?_⟩
      rw [i4 q]
      constructor
      · rintro ⟨x, hx, z⟩
        exact ⟨x, List.mem_append_left _ hx, z⟩
      · rintro ⟨x, hx, z1, z2, z3⟩
        rcases List.mem_append.mp hx with h | h
        · exact ⟨x, h, z1, z2, z3⟩
        · have ex := List.mem_singleton.mp h
          subst ex
          have hin : x.other ∈ t.found := by
            refine Classical.byContradiction fun n => hc ?_
            rw [Bool.and_eq_true, decide_eq_true_eq, memB_not]
            exact ⟨z2.symm, n⟩
          rw [z3] at hin
          exact (i4 q).1 hin
  · rw [if_neg ho]
    have ho' : overB r p m day = false := by simpa using ho
    have ap : ∀ x, x ∈ L ++ [r] → overB x p m day = true → x ∈ L := fun x hx hox => by
      rcases List.mem_append.mp hx with h | h
      · exact h
      · rw [List.mem_singleton.mp h, ho'] at hox; cases hox
    refine ⟨fun z => ⟨fun x hx => ?_, (I.no z).2⟩, fun b e => ⟨?_, fun x hx hox => (I.yes b e).2 x (ap x hx hox) hox⟩, I.nd, fun q => ?_⟩
    · cases q : overB x p m day with
      | false => rfl
      | true => rw [(I.no z).1 x (ap x hx q)] at q; cases q
    · obtain ⟨x, hx, h1, h2⟩ := (I.yes b e).1
      exact ⟨x, List.mem_append_left _ hx, h1, h2⟩
    · rw [I.mem q]
      constructor
      · rintro ⟨x, hx, z⟩
        exact ⟨x, List.mem_append_left _ hx, z⟩
      · rintro ⟨x, hx, z1, z⟩
        exact ⟨x, ap x hx z1, z1, z⟩
theorem best_all (p : Part) (m : Str) (day : Int) : ∀ (L L0 : List Rule) (s : Bst), BstI p m day L0 s → BstI p m day (L0 ++ L) (L.foldl (bestF p m day) s)
  | [], L0, s, I => by rw [List.append_nil]; exact I
  | r :: L, L0, s, I => by
    have z := best_all p m day L (L0 ++ [r]) _ (best_inv p m day (r := r) I)
    rw [List.append_assoc] at z
    exact z
def bst0 : Bst := ⟨none, []⟩
theorem best_start (p : Part) (m : Str) (day : Int) : BstI p m day [] bst0 := ⟨fun _ => ⟨fun r hr => (nomatch hr), rfl⟩, fun b e => (nomatch e), List.nodup_nil, fun q => ⟨fun z => (nomatch z), fun ⟨r, hr, _⟩ => (nomatch hr)⟩⟩
theorem best_next (bk : List Rule) (p : Part) (m : Str) (day : Int) : srt (bk.foldl (bestF p m day) bst0).found = nextP bk p m day := by
  have I := best_all p m day bk [] bst0 (best_start p m day)
  rw [List.nil_append] at I
  generalize bk.foldl (bestF p m day) bst0 = s at I
  refine srt_eq (uniq_perm I.nd fun q => ?_)
  rw [I.mem q, List.mem_map]
  have cm : ∀ {x}, x ∈ cands bk p m day ↔ x ∈ bk ∧ overB x p m day = true := fun {x} => by unfold cands; rw [List.mem_filter]
  constructor
  · rintro ⟨r, hr, ho, e, z⟩
    refine ⟨r, bestR_mem.2 ⟨cm.2 ⟨hr, ho⟩, fun r' hr' => ?_⟩, z⟩
    exact (I.yes _ e).2 r' (cm.1 hr').1 (cm.1 hr').2
  · rintro ⟨r, hr, z⟩
    obtain ⟨h1, h2⟩ := bestR_mem.1 hr
    obtain ⟨hb, ho⟩ := cm.1 h1
    refine ⟨r, hb, ho, ?_, z⟩
    cases e : s.best with
    | none => rw [(I.no e).1 r hb] at ho; cases ho
    | some b =>
      obtain ⟨⟨x, hx, hox, ex⟩, hle⟩ := I.yes b e
      have z1 := h2 x (cm.2 ⟨hx, hox⟩)
      have z2 := hle r hb ho
      rw [ex] at z1
      refine congrArg some (leT_anti ?_ ?_)
      · unfold leT; rw [z1]; rfl
      · unfold leT; rw [z2]; rfl
/-! ### rows -/
structure RowS where
  row : List Part
  others : List Part
section
variable (nx : Part → List Part)
def rowStep (s : RowS) : RowS := match s.others with
  | [q] => if memB q s.row = true then s else ⟨s.row ++ [q], nx q⟩
  | _ => s
def rowTst (s : RowS) : Bool := match s.others with
  | [q] => !memB q s.row
  | _ => false
def row0 (p : Part) : RowS := ⟨[p], nx p⟩
theorem rowStep_stay {s : RowS} (h : rowTst s = false) : rowStep nx s = s := by
  unfold rowTst at h
  unfold rowStep
  split
  · rename_i q e
    rw [e] at h
    have h : (!memB q s.row) = false := h
    rw [if_pos (by simpa using h)]
  · rfl
theorem rowTst_true {s : RowS} (h : rowTst s = true) : ∃ q, s.others = [q] ∧ q ∉ s.row ∧ rowStep nx s = ⟨s.row ++ [q], nx q⟩ := by
  unfold rowTst at h
  split at h
  · rename_i q e
    rw [memB_not] at h
    refine ⟨q, e, h, ?_⟩
    unfold rowStep
    rw [e]
    exact if_neg (by rw [memB_iff]; exact h)
  · cases h
structure RowI (U : List Part) (s : RowS) : Prop where
  nd : s.row.Nodup
  sub : ∀ q ∈ s.row, q ∈ U
  last : ∃ q, s.row.getLast? = some q ∧ s.others = nx q
theorem row_inv {U : List Part} {p : Part} (hp : p ∈ U) (hU : ∀ q, ∀ x ∈ nx q, x ∈ U) : ∀ n, RowI nx U (iter (rowStep nx) n (row0 nx p)) ∧ (rowTst (iter (rowStep nx) n (row0 nx p)) = false ∨ (iter (rowStep nx) n (row0 nx p)).row.length = n + 1)
  | 0 => ⟨⟨by show [p].Nodup; simp, fun q hq => by rw [List.mem_singleton.mp (show q ∈ [p] from hq)]; exact hp, ⟨p, rfl, rfl⟩⟩, .inr rfl⟩
  | n + 1 => by
    obtain ⟨I, h⟩ := row_inv hp hU n
    rw [iter_succ]
    generalize iter (rowStep nx) n (row0 nx p) = s at I h
    cases ht : rowTst s with
    | false => rw [rowStep_stay nx ht]; exact ⟨I, .inl ht⟩
    | true =>
      obtain ⟨q, e1, e2, e3⟩ := rowTst_true nx ht
      have hl : s.row.length = n + 1 := by
        rcases h with h | h
        · rw [h] at ht; cases ht
        · exact h
      obtain ⟨l, l1, l2⟩ := I.last
      rw [e3]
      refine ⟨⟨List.nodup_append.mpr ⟨I.nd, by simp, fun a ha b hb e => e2 (by rw [List.mem_singleton.mp hb] at e; rw [← e]; exact ha)⟩, fun x hx => ?_, ⟨q, by simp, rfl⟩⟩, .inr (by show (s.row ++ [q]).length = _; rw [List.length_append, hl]; rfl)⟩
      rcases List.mem_append.mp hx with z | z
      · exact I.sub x z
      · rw [List.mem_singleton.mp z]
        exact hU l q (by rw [← l2, e1]; exact List.mem_cons_self)
theorem row_end {U : List Part} {p : Part} (hp : p ∈ U) (hU : ∀ q, ∀ x ∈ nx q, x ∈ U) : rowTst (iter (rowStep nx) U.length (row0 nx p)) = false := by
  obtain ⟨I, h⟩ := row_inv nx hp hU U.length
  rcases h with h | h
  · exact h
  · have z := nodup_sub_length I.nd I.sub
    omega
end
def nxt (bk : List Rule) (m : Str) (day : Int) (p : Part) : List Part := nextP bk p m day
def rowU (bk : List Rule) (p : Part) : List Part := p :: bk.map (·.other)
def rowN (bk : List Rule) : Nat := bk.length + 1
def rowE (bk : List Rule) (p : Part) (m : Str) (day : Int) : RowS := iter (rowStep (nxt bk m day)) (rowN bk) (row0 (nxt bk m day) p)
theorem rowU_in (bk : List Rule) (p : Part) (m : Str) (day : Int) : ∀ q, ∀ x ∈ nxt bk m day q, x ∈ rowU bk p := fun q x hx => List.mem_cons_of_mem _ (nextP_other hx)
theorem rowU_len (bk : List Rule) (p : Part) : (rowU bk p).length = rowN bk := by unfold rowU rowN; rw [List.length_cons, List.length_map]
theorem rowE_end (bk : List Rule) (p : Part) (m : Str) (day : Int) : rowTst (iter (rowStep (nxt bk m day)) (rowN bk) (row0 (nxt bk m day) p)) = false := by
  rw [← rowU_len bk p]
  exact row_end (nxt bk m day) List.mem_cons_self (rowU_in bk p m day)
theorem row_at (bk : List Rule) (p : Part) (m : Str) (day : Int) (n : Nat) : RowI (nxt bk m day) (rowU bk p) (iter (rowStep (nxt bk m day)) n (row0 (nxt bk m day) p)) := (row_inv (nxt bk m day) List.mem_cons_self (rowU_in bk p m day) n).1
theorem RowI.len {nx : Part → List Part} {bk : List Rule} {p : Part} {s : RowS} (I : RowI nx (rowU bk p) s) : s.row.length ≤ bk.length + 1 := by
  have z := nodup_sub_length I.nd I.sub
  rw [rowU_len] at z
  exact z
/-- what row_on tells -/
def rowD (s : RowS) : PyData := if s.others = [] then .tuple [.str "row", .list (s.row.map Datum.toD)] else if 1 < s.others.length then .tuple [.str "clash", .list (s.row.map Datum.toD), .list (s.others.map Datum.toD)] else .tuple [.str "round", .list (s.row.map Datum.toD)]
def heirM (bk : List Rule) (p : Part) (m : Str) (day : Int) : Option Part := if (rowE bk p m day).others = [] then (rowE bk p m day).row.getLast? else none
theorem heir_last {bk : List Rule} {p : Part} {m : Str} {day : Int} (h : (rowE bk p m day).others = []) : ∃ q, (rowE bk p m day).row.getLast? = some q ∧ heirM bk p m day = some q := by
  obtain ⟨q, h1, _⟩ := (row_at bk p m day (rowN bk)).last
  refine ⟨q, h1, ?_⟩
  unfold heirM
  rw [if_pos h]
  exact h1
theorem heir_none {bk : List Rule} {p : Part} {m : Str} {day : Int} (h : (rowE bk p m day).others ≠ []) : heirM bk p m day = none := by
  unfold heirM
  rw [if_neg h]
end PH

set_option Elab.async false
set_option linter.all false
set_option maxRecDepth 100000
set_option maxHeartbeats 4000000
/-! M15: alike parts: the day from which on each serves for the other. -/
namespace PH
open PySem PySem.Spec L2
open PySem.W (Datum DatumOrd Tup T3)
/-! ### days, by a dict -/
def daysF (s : List (Int × PyData)) (r : Rule) : List (Int × PyData) := putM s r.day (.bool true)
def daysL (b : List Rule) : List Int := srt ((b.foldl daysF [((0 : Int), PyData.bool true)]).map (·.1))
theorem daysF_len (s : List (Int × PyData)) (r : Rule) : (daysF s r).length ≤ s.length + 1 := putM_len _ _ _
theorem daysF_facts : ∀ (b : List Rule) (s : List (Int × PyData)), (s.map (·.1)).Nodup → ((b.foldl daysF s).map (·.1)).Nodup ∧ ∀ x, x ∈ (b.foldl daysF s).map (·.1) ↔ x ∈ s.map (·.1) ∨ ∃ r ∈ b, x = r.day
  | [], s, h => ⟨h, fun x => by simp⟩
  | r :: b, s, h => by
    obtain ⟨i1, i2⟩ := daysF_facts b (daysF s r) (putM_keys_nodup h _ _)
    refine ⟨by rw [List.foldl_cons]; exact i1, fun x => ?_⟩
    rw [List.foldl_cons, i2 x]
    unfold daysF
    rw [putM_keys]
    constructor
    · rintro ((z | z) | ⟨q, hq, z⟩)
      · exact .inr ⟨r, List.mem_cons_self, z⟩
      · exact .inl z
      · exact .inr ⟨q, List.mem_cons_of_mem _ hq, z⟩
    · rintro (z | ⟨q, hq, z⟩)
      · exact .inl (.inr z)
      · rcases List.mem_cons.mp hq with e | e
        · exact .inl (.inl (e ▸ z))
        · exact .inr ⟨q, e, z⟩
theorem daysL_eq (b : List Rule) : daysL b = daysU b := by
  obtain ⟨n1, m1⟩ := daysF_facts b [((0 : Int), PyData.bool true)] (by simp)
  refine srt_eq (uniq_perm n1 fun x => ?_)
  rw [m1 x, List.mem_append, List.mem_map (l := b)]
  constructor
  · rintro (z | ⟨r, hr, z⟩)
    · exact .inl (by simpa using z)
    · exact .inr ⟨r, hr, z.symm⟩
  · rintro (z | ⟨r, hr, z⟩)
    · exact .inl (by simpa using z)
    · exact .inr ⟨r, hr, z.symm⟩
theorem mem_daysU {b : List Rule} {d : Int} : d ∈ daysU b ↔ d = 0 ∨ ∃ r ∈ b, r.day = d := by
  unfold daysU
  rw [mem_srt, mem_uniq, List.mem_append, List.mem_map, List.mem_singleton]
theorem daysU_len (b : List Rule) : (daysU b).length ≤ b.length + 1 := by
  unfold daysU
  rw [(srt_perm _).length_eq]
  have z := uniq_len_le ([(0 : Int)] ++ b.map (·.day))
  rw [List.length_append, List.length_map] at z
  simp only [List.length_cons, List.length_nil] at z
  omega
theorem daysU_le (b : List Rule) : (daysU b).Pairwise (· ≤ ·) := by
  refine (srt_le _).imp fun {x y} h => ?_
  have h' : (!decide (y < x)) = true := h
  simp at h'
  omega
/-! ### checks in a loop -/
def chkT {α : Type} (q : α → Bool) (_ : Unit) (x : α) : Except Bd Unit := if q x = true then .ok () else .error (.fz (.bool false))
theorem chkT_all {α : Type} (q : α → Bool) : ∀ xs : List α, foldE (chkT q) xs () = if xs.all q = true then .ok () else .error (.fz (.bool false))
  | [] => rfl
  | x :: xs => by
    rw [foldE_cons, List.all_cons]
    unfold chkT
    cases e : q x with
    | true =>
      rw [if_pos rfl, Bool.true_and]
      exact chkT_all q xs
    | false => rfl
def fndT (q : Int → Bool) (_ : Unit) (x : Int) : Except Bd Unit := if q x = true then .error (.fz (.int x)) else .ok ()
theorem fndT_find (q : Int → Bool) : ∀ xs : List Int, foldE (fndT q) xs () = match xs.find? q with | some d => .error (.fz (.int d)) | none => .ok ()
  | [] => rfl
  | x :: xs => by
    rw [foldE_cons, List.find?_cons]
    unfold fndT
    cases e : q x with
    | true => rfl
    | false => exact fndT_find q xs
/-! ### alike -/
def srvB (bk : List Rule) (m : Str) (day : Int) (a b : Part) : Bool := memB b (served (stepsL bk m day) a)
theorem srvB_iff {bk : List Rule} {m : Str} {day : Int} {a b : Part} : srvB bk m day a b = true ↔ Reach (stepsL bk m day) a b := by
  unfold srvB
  rw [memB_iff, mem_served]
theorem getM_srv (bk : List Rule) (m : Str) (day : Int) (a b : Part) : (getM (ways (stepsL bk m day) a) b).isSome = srvB bk m day a b := by
  rw [Bool.eq_iff_iff, getM_isSome, srvB_iff, ways_mem]
def alikeM (bk : List Rule) (a b : Part) (day : Int) (m : Str) : Bool := srvB bk m day a b && srvB bk m day b a
def alikeOn (bk : List Rule) (a b : Part) (day : Int) : Bool := (("" : Str) :: machsL bk).all (alikeM bk a b day)
def alikeFrom (bk : List Rule) (a b : Part) : Option Int := (daysU bk).find? (alikeOn bk a b)
def goodF (bk : List Rule) (a b : Part) (day : Int) (g : Bool) (m : Str) : Bool := if alikeM bk a b day m = true then g else false
theorem goodF_all (bk : List Rule) (a b : Part) (day : Int) : ∀ (ms : List Str) (g : Bool), ms.foldl (goodF bk a b day) g = (g && ms.all (alikeM bk a b day))
  | [], g => by simp
  | m :: ms, g => by
    rw [List.foldl_cons, goodF_all bk a b day ms, List.all_cons]
    unfold goodF
    cases alikeM bk a b day m <;> simp
theorem alikeOn_iff {bk : List Rule} {a b : Part} {day : Int} : alikeOn bk a b day = true ↔ ∀ m : Str, m = "" ∨ m ∈ machsL bk → Reach (stepsL bk m day) a b ∧ Reach (stepsL bk m day) b a := by
  unfold alikeOn
  rw [List.all_eq_true]
  constructor
  · intro h m hm
    have z := h m (List.mem_cons.mpr hm)
    unfold alikeM at z
    rw [Bool.and_eq_true, srvB_iff, srvB_iff] at z
    exact z
  · intro h m hm
    unfold alikeM
    rw [Bool.and_eq_true, srvB_iff, srvB_iff]
    exact h m (List.mem_cons.mp hm)
theorem alikeM_comm (bk : List Rule) (a b : Part) (day : Int) : alikeM bk a b day = alikeM bk b a day := by
  funext m
  unfold alikeM
  rw [Bool.and_comm]
theorem alikeFrom_comm (bk : List Rule) (a b : Part) : alikeFrom bk a b = alikeFrom bk b a := by
  have e : alikeOn bk a b = alikeOn bk b a := by
    funext d
    unfold alikeOn
    rw [alikeM_comm]
  unfold alikeFrom
  rw [e]
theorem holds_later {r : Rule} {m : Str} {d d' : Int} (h : d ≤ d') (z : holdsR r m d = true) : holdsR r m d' = true := by
  unfold holdsR at z ⊢
  rw [Bool.and_eq_true, decide_eq_true_eq] at z ⊢
  exact ⟨by omega, z.2⟩
theorem reach_later {bk : List Rule} {m : Str} {d d' : Int} (h : d ≤ d') {a b : Part} (r : Reach (stepsL bk m d) a b) : Reach (stepsL bk m d') a b := r.mono fun e he => by
  rw [steps_mem] at he ⊢
  obtain ⟨r, hr, h1, h2⟩ := he
  exact ⟨r, hr, holds_later h h1, h2⟩
theorem alikeOn_later {bk : List Rule} {a b : Part} {d d' : Int} (h : d ≤ d') (z : alikeOn bk a b d = true) : alikeOn bk a b d' = true := by
  rw [alikeOn_iff] at z ⊢
  exact fun m hm => ⟨reach_later h (z m hm).1, reach_later h (z m hm).2⟩
theorem alikeOn_trans {bk : List Rule} {a b c : Part} {d : Int} (z : alikeOn bk a b d = true) (z2 : alikeOn bk b c d = true) : alikeOn bk a c d = true := by
  rw [alikeOn_iff] at z z2 ⊢
  exact fun m hm => ⟨(z m hm).1.trans (z2 m hm).1, (z2 m hm).2.trans (z m hm).2⟩
theorem alikeOn_self (bk : List Rule) (a : Part) (d : Int) : alikeOn bk a a d = true := by
  rw [alikeOn_iff]
  exact fun m _ => ⟨.refl, .refl⟩
theorem find_le {q : Int → Bool} : ∀ {xs : List Int} {d : Int}, xs.Pairwise (· ≤ ·) → d ∈ xs → q d = true → ∃ e, xs.find? q = some e ∧ e ≤ d
  | [], _, _, h, _ => by cases h
  | x :: xs, d, hp, hd, hq => by
    rw [List.find?_cons]
    cases e : q x with
    | true =>
      refine ⟨x, rfl, ?_⟩
      rcases List.mem_cons.mp hd with z | z
      · omega
      · exact (List.pairwise_cons.mp hp).1 d z
    | false =>
      rcases List.mem_cons.mp hd with z | z
      · rw [z, e] at hq; cases hq
      · exact find_le (List.pairwise_cons.mp hp).2 z hq
theorem alikeFrom_some {bk : List Rule} {a b : Part} {d : Int} (h : alikeFrom bk a b = some d) : d ∈ daysU bk ∧ alikeOn bk a b d = true := ⟨List.mem_of_find?_eq_some h, List.find?_some h⟩
theorem alikeFrom_le {bk : List Rule} {a b : Part} {d : Int} (h1 : d ∈ daysU bk) (h2 : alikeOn bk a b d = true) : ∃ e, alikeFrom bk a b = some e ∧ e ≤ d := find_le (daysU_le bk) h1 h2
theorem alikeFrom_self {bk : List Rule} (h : ∀ r ∈ bk, 0 ≤ r.day) (a : Part) : alikeFrom bk a a = some 0 := by
  obtain ⟨e, h1, h2⟩ := alikeFrom_le (bk := bk) (a := a) (b := a) (mem_daysU.2 (.inl rfl)) (alikeOn_self bk a 0)
  obtain ⟨h3, _⟩ := alikeFrom_some h1
  have : 0 ≤ e := by
    rcases mem_daysU.1 h3 with z | ⟨r, hr, z⟩
    · omega
    · have := h r hr; omega
  rw [h1]
  exact congrArg some (by omega)
theorem alikeFrom_three {bk : List Rule} {a b c : Part} {d1 d2 : Int} (h1 : alikeFrom bk a b = some d1) (h2 : alikeFrom bk b c = some d2) : ∃ d3, alikeFrom bk a c = some d3 ∧ d3 ≤ max d1 d2 := by
  obtain ⟨a1, a2⟩ := alikeFrom_some h1
  obtain ⟨b1, b2⟩ := alikeFrom_some h2
  refine alikeFrom_le ?_ (alikeOn_trans (alikeOn_later (Int.le_max_left d1 d2) a2) (alikeOn_later (Int.le_max_right d1 d2) b2))
  rcases Int.le_total d1 d2 with z | z
  · rw [Int.max_eq_right z]; exact b1
  · rw [Int.max_eq_left z]; exact a1
theorem maxOf_two (a b : Int) : PySem.W.maxOf a [b] = max a b := by
  unfold PySem.W.maxOf
  show (if DatumOrd.lt a b = true then b else a) = _
  have e : DatumOrd.lt a b = decide (a < b) := rfl
  rw [e]
  by_cases c : a < b
  · rw [if_pos (decide_eq_true c)]; omega
  · rw [if_neg (by simpa using c)]; omega
/-- on a machine that no rule names all is as on any other such -/
theorem steps_unnamed {bk : List Rule} {m m' : Str} (h : ∀ r ∈ bk, m ∉ r.machs.items ∧ m' ∉ r.machs.items) (day : Int) : stepsL bk m day = stepsL bk m' day := by
  have e : ∀ (b : List Rule) (s : Pairs2), (∀ r ∈ b, m ∉ r.machs.items ∧ m' ∉ r.machs.items) → b.foldl (stepsF m day) s = b.foldl (stepsF m' day) s := by
    intro b
    induction b with
    | nil => intro s _; rfl
    | cons r b ih =>
      intro s hb
      rw [List.foldl_cons, List.foldl_cons]
      have z := hb r List.mem_cons_self
      have e1 : holdsR r m day = holdsR r m' day := by
        unfold holdsR
        rw [decide_eq_false z.1, decide_eq_false z.2]
      have e2 : stepsF m day s r = stepsF m' day s r := by
        unfold stepsF
        rw [e1]
      rw [e2]
      exact ih _ fun x hx => hb x (List.mem_cons_of_mem _ hx)
  unfold stepsL stepsD
  rw [e bk [] h]
/-- what is alike serves for the same -/
theorem alike_serve {bk : List Rule} {a b w : Part} {d d' : Int} {m : Str} (h : alikeOn bk a b d = true) (hd : d ≤ d') (hm : m ∈ machsL bk ∨ ∀ r ∈ bk, m ∉ r.machs.items ∧ ("" : Str) ∉ r.machs.items) : srvB bk m d' w a = srvB bk m d' w b := by
  have z := alikeOn_iff.1 (alikeOn_later hd h)
  have r2 : Reach (stepsL bk m d') a b ∧ Reach (stepsL bk m d') b a := by
    rcases hm with hm | hm
    · exact z m (.inr hm)
    · rw [steps_unnamed (m' := "") hm]
      exact z "" (.inl rfl)
  rw [Bool.eq_iff_iff, srvB_iff, srvB_iff]
  exact ⟨fun q => q.trans r2.1, fun q => q.trans r2.2⟩
/-! ### a dict filled by keys -/
def fillF {κ : Type} [DecidableEq κ] (f : κ → PyData) (m : List (κ × PyData)) (k : κ) : List (κ × PyData) := putM m k (f k)
theorem fill_get {κ : Type} [DecidableEq κ] (f : κ → PyData) : ∀ (ks : List κ) (m : List (κ × PyData)) (k : κ), (k ∈ ks ∨ getM m k = some (f k)) → getM (ks.foldl (fillF f) m) k = some (f k)
  | [], m, k, h => h.resolve_left (by simp)
  | x :: ks, m, k, h => by
    rw [List.foldl_cons]
    refine fill_get f ks _ k ?_
    by_cases e : x = k
    · exact .inr (by unfold fillF; rw [getM_putM, if_pos e, e])
    · rcases h with h | h
      · rcases List.mem_cons.mp h with z | z
        · exact absurd z.symm e
        · exact .inl z
      · exact .inr (by unfold fillF; rw [getM_putM, if_neg e, h])
theorem fill_len {κ : Type} [DecidableEq κ] (f : κ → PyData) (ks : List κ) (m : List (κ × PyData)) : (ks.foldl (fillF f) m).length ≤ m.length + ks.length := by
  have z := foldl_len (c := 1) (f := fillF f) (fun s x => putM_len _ _ _) ks m
  omega
end PH

set_option Elab.async false
set_option linter.all false
set_option maxRecDepth 100000
set_option maxHeartbeats 4000000
/-! M49: stretches of next ones (printed by gen_runs.py from M27). -/
namespace PH
open PySem PySem.Spec L2
open PySem.W (Datum DatumOrd Tup T3)
abbrev HP := List Part
abbrev Str3 := T3 Int (Option Int) HP
/-! ### runs -/
def runF (s : List (Int × HP)) (x : Int × HP) : List (Int × HP) := match s.getLast? with
  | some g => if g.2 = x.2 then s else s ++ [x]
  | none => s ++ [x]
def runs (xs : List (Int × HP)) : List (Int × HP) := xs.foldl runF []
/-- the runs with the days up to which they go; the last one up to fin -/
def rowsOf (fin : Option Int) : List (Int × HP) → List Str3
  | [] => []
  | [x] => [⟨x.1, fin, x.2⟩]
  | x :: y :: r => ⟨x.1, some (y.1 - 1), x.2⟩ :: rowsOf fin (y :: r)
theorem rowsOf_snoc (fin : Option Int) : ∀ (r : List (Int × HP)) (y x : Int × HP), rowsOf fin (r ++ [y] ++ [x]) = rowsOf (some (x.1 - 1)) (r ++ [y]) ++ [⟨x.1, fin, x.2⟩]
  | [], y, x => rfl
  | [z], y, x => rfl
  | z :: z2 :: r, y, x => by
    show _ :: rowsOf fin (z2 :: r ++ [y] ++ [x]) = (_ :: rowsOf _ (z2 :: r ++ [y])) ++ _
    rw [rowsOf_snoc fin (z2 :: r) y x]
    rfl
theorem rowsOf_one (fin : Option Int) : ∀ (r : List (Int × HP)) (x : Int × HP), ∃ a, rowsOf fin (r ++ [x]) = a ++ [⟨x.1, fin, x.2⟩] ∧ ∀ fin', rowsOf fin' (r ++ [x]) = a ++ [⟨x.1, fin', x.2⟩]
  | [], x => ⟨[], rfl, fun _ => rfl⟩
  | [y], x => ⟨[⟨y.1, some (x.1 - 1), y.2⟩], rfl, fun _ => rfl⟩
  | y :: y2 :: r, x => by
    obtain ⟨a, h1, h2⟩ := rowsOf_one fin (y2 :: r) x
    refine ⟨⟨y.1, some (y2.1 - 1), y.2⟩ :: a, ?_, fun fin' => ?_⟩
    · show _ :: rowsOf fin (y2 :: r ++ [x]) = _
      rw [h1]; rfl
    · show _ :: rowsOf fin' (y2 :: r ++ [x]) = _
      rw [h2 fin']; rfl
/-! ### the program's stretches -/
def strF (days : List Int) (told : List HP) (s : List Str3) (k : Nat) : List Str3 :=
  let last : Option Int := if k + 1 < days.length then some (days.getD (k + 1) 0 - 1) else none
  match s.getLast? with
  | some g => if g.c = told.getD k ([] : List Part) then s.dropLast ++ [⟨g.a, last, told.getD k ([] : List Part)⟩] else s ++ [⟨days.getD k 0, last, told.getD k ([] : List Part)⟩]
  | none => s ++ [⟨days.getD k 0, last, told.getD k ([] : List Part)⟩]
def finK (days : List Int) (k : Nat) : Option Int := if k < days.length then some (days.getD k 0 - 1) else none
theorem strF_runs (days : List Int) (told : List HP) (s : List (Int × HP)) (k : Nat) (fin : Option Int) (hf : s = [] ∨ fin = some (days.getD k 0 - 1)) : strF days told (rowsOf fin s) k = rowsOf (finK days (k + 1)) (runF s (days.getD k 0, told.getD k ([] : List Part))) := by
  rcases List.eq_nil_or_concat s with rfl | ⟨r, x, rfl⟩
  · rfl
  · rw [List.concat_eq_append] at hf ⊢
    have hfin : fin = some (days.getD k 0 - 1) := hf.elim (fun z => absurd z (by simp)) id
    obtain ⟨a, h1, h2⟩ := rowsOf_one fin r x
    unfold strF runF
    rw [h1]
    simp only [List.getLast?_append, List.getLast?_singleton, Option.or_some, Option.some_or, List.dropLast_concat]
    by_cases hc : x.2 = told.getD k ([] : List Part)
    · rw [if_pos hc, if_pos hc, h2 (finK days (k + 1))]
      unfold finK
      rw [hc]
    · rw [if_neg hc, if_neg hc, rowsOf_snoc, h2, hfin]
      rfl
theorem str_upto (days : List Int) (told : List HP) (hl : days.length = told.length) : ∀ n, n ≤ days.length → (List.range n).foldl (strF days told) [] = rowsOf (finK days n) (((days.zip told).take n).foldl runF [])
  | 0, _ => rfl
  | n + 1, h => by
    rw [List.range_succ, List.foldl_append, str_upto days told hl n (by omega)]
    have hz : (days.zip told)[n]? = some (days.getD n 0, told.getD n ([] : List Part)) := by
      rw [List.getElem?_zip_eq_some]
      exact ⟨by show days[n]? = some (days.getD n 0); rw [List.getD_eq_getElem?_getD, List.getElem?_eq_getElem (by omega)]; rfl, by show told[n]? = some (told.getD n ([] : List Part)); rw [List.getD_eq_getElem?_getD, List.getElem?_eq_getElem (by omega)]; rfl⟩
    rw [List.take_add_one, hz, List.foldl_append]
    show strF days told (rowsOf (finK days n) _) n = rowsOf (finK days (n + 1)) (runF _ _)
    refine strF_runs days told _ n _ (.inr ?_)
    unfold finK
    rw [if_pos (by omega)]
theorem str_all (days : List Int) (told : List HP) (hl : days.length = told.length) : (List.range days.length).foldl (strF days told) [] = rowsOf none (runs (days.zip told)) := by
  rw [str_upto days told hl _ (Nat.le_refl _)]
  have e1 : finK days days.length = none := by unfold finK; rw [if_neg (by omega)]
  have e2 : (days.zip told).take days.length = days.zip told := List.take_of_length_le (by rw [List.length_zip]; omega)
  rw [e1, e2]
  rfl
def lastP (rs : List (Int × HP)) : Option HP := rs.getLast?.map (·.2)
end PH

set_option Elab.async false
set_option linter.all false
set_option maxRecDepth 100000
set_option maxHeartbeats 4000000
/-! M49b: what stretches tell of a day (printed by gen_runs.py from M28). -/
namespace PH
open PySem PySem.Spec L2
open PySem.W (Datum DatumOrd Tup T3)
def qIn (q : Int) (s : Str3) : Bool := decide (s.a ≤ q) && (match s.b with | none => true | some e => decide (q ≤ e))
def upTo (q : Int) (xs : List (Int × HP)) : List (Int × HP) := xs.filter fun x => decide (x.1 ≤ q)
theorem upTo_none {q : Int} {xs : List (Int × HP)} (h : ∀ x ∈ xs, q < x.1) : upTo q xs = [] := List.filter_eq_nil_iff.mpr fun x hx => by have := h x hx; simp; omega
/-- rows of a rising list, asked at a day that is not ahead of it -/
theorem q_rows (q : Int) : ∀ (r : List (Int × HP)) (x : Int × HP), (x :: r).Pairwise (fun a b => a.1 < b.1) → x.1 ≤ q → ∃ s : Str3, (rowsOf none (x :: r)).filter (qIn q) = [s] ∧ lastP (upTo q (x :: r)) = some s.c
  | [], x, _, hq => by
    refine ⟨⟨x.1, none, x.2⟩, ?_, ?_⟩
    · simp [rowsOf, qIn, hq]
    · simp [upTo, lastP, hq]
  | y :: r, x, hs, hq => by
    have hs2 := List.pairwise_cons.mp hs
    have hxy : x.1 < y.1 := hs2.1 y List.mem_cons_self
    have e : rowsOf none (x :: y :: r) = ⟨x.1, some (y.1 - 1), x.2⟩ :: rowsOf none (y :: r) := rfl
    rw [e]
    by_cases hy : y.1 ≤ q
    · obtain ⟨s, h1, h2⟩ := q_rows q r y hs2.2 hy
      refine ⟨s, ?_, ?_⟩
      · rw [List.filter_cons]
        have z : qIn q ⟨x.1, some (y.1 - 1), x.2⟩ = false := by unfold qIn; simp; omega
        rw [z, if_neg Bool.false_ne_true]
        exact h1
      · have z : upTo q (x :: y :: r) = x :: upTo q (y :: r) := by unfold upTo; rw [List.filter_cons, if_pos (decide_eq_true hq)]
        have z2 : upTo q (y :: r) ≠ [] := by unfold upTo; rw [List.filter_cons, if_pos (decide_eq_true hy)]; simp
        rw [z]
        unfold lastP at h2 ⊢
        rw [List.getLast?_cons_of_ne_nil z2]
        exact h2
    · have hall : ∀ z ∈ y :: r, q < z.1 := fun z hz => by
        rcases List.mem_cons.mp hz with rfl | hz
        · omega
        · have := (List.pairwise_cons.mp hs2.2).1 z hz
          omega
      refine ⟨⟨x.1, some (y.1 - 1), x.2⟩, ?_, ?_⟩
      · rw [List.filter_cons]
        have z : qIn q ⟨x.1, some (y.1 - 1), x.2⟩ = true := by unfold qIn; simp; omega
        rw [z, if_pos rfl]
        have z2 : ∀ (l : List (Int × HP)), (∀ v ∈ l, q < v.1) → (rowsOf none l).filter (qIn q) = [] := fun l => by
          induction l with
          | nil => intro _; rfl
          | cons a l ih =>
            intro h
            have ha := h a List.mem_cons_self
            cases l with
            | nil =>
              show [(⟨a.1, none, a.2⟩ : Str3)].filter (qIn q) = []
              have : qIn q ⟨a.1, none, a.2⟩ = false := by unfold qIn; simp; omega
              rw [List.filter_cons, this]
              rfl
            | cons b l =>
              show ((⟨a.1, some (b.1 - 1), a.2⟩ : Str3) :: rowsOf none (b :: l)).filter (qIn q) = []
              have : qIn q ⟨a.1, some (b.1 - 1), a.2⟩ = false := by unfold qIn; simp; omega
              rw [List.filter_cons, this, if_neg Bool.false_ne_true]
              exact ih fun v hv => h v (List.mem_cons_of_mem _ hv)
        rw [z2 _ hall]
      · have z : upTo q (x :: y :: r) = [x] := by
          have z3 := upTo_none hall
          unfold upTo at z3 ⊢
          rw [List.filter_cons, if_pos (decide_eq_true hq), z3]
        rw [z]
        rfl
/-! ### runs and days -/
theorem runF_mem {s : List (Int × HP)} {x y : Int × HP} (h : y ∈ runF s x) : y ∈ s ∨ y = x := by
  unfold runF at h
  split at h
  · split at h
    · exact .inl h
    · rcases List.mem_append.mp h with z | z
      · exact .inl z
      · exact .inr (List.mem_singleton.mp z)
  · rcases List.mem_append.mp h with z | z
    · exact .inl z
    · exact .inr (List.mem_singleton.mp z)
theorem runF_last (s : List (Int × HP)) (x : Int × HP) : lastP (runF s x) = some x.2 := by
  unfold runF lastP
  cases h : s.getLast? with
  | none => simp
  | some g =>
    by_cases c : g.2 = x.2
    · simp [c, h]
    · simp [c]
theorem runs_snoc (xs : List (Int × HP)) (x : Int × HP) : runs (xs ++ [x]) = runF (runs xs) x := by unfold runs; rw [List.foldl_append]; rfl
theorem runs_mem : ∀ (n : Nat) (xs : List (Int × HP)), xs.length = n → ∀ y ∈ runs xs, y ∈ xs
  | 0, xs, h, y, hy => by rw [List.length_eq_zero_iff.mp h] at hy; cases hy
  | n + 1, xs, h, y, hy => by
    rcases List.eq_nil_or_concat xs with rfl | ⟨r, x, rfl⟩
    · cases hy
    · rw [List.concat_eq_append] at h hy ⊢
      rw [List.length_append] at h
      rw [runs_snoc] at hy
      rcases runF_mem hy with z | z
      · exact List.mem_append_left _ (runs_mem n r (by simpa using h) y z)
      · rw [z]; exact List.mem_append_right _ List.mem_cons_self
theorem runs_last : ∀ xs : List (Int × HP), lastP (runs xs) = lastP xs := fun xs => by
  rcases List.eq_nil_or_concat xs with rfl | ⟨r, x, rfl⟩
  · rfl
  · rw [List.concat_eq_append, runs_snoc, runF_last]
    unfold lastP; simp
theorem runs_sorted : ∀ (n : Nat) (xs : List (Int × HP)), xs.length = n → xs.Pairwise (fun a b => a.1 < b.1) → (runs xs).Pairwise (fun a b => a.1 < b.1)
  | 0, xs, h, _ => by rw [List.length_eq_zero_iff.mp h]; exact List.Pairwise.nil
  | n + 1, xs, h, hp => by
    rcases List.eq_nil_or_concat xs with rfl | ⟨r, x, rfl⟩
    · exact List.Pairwise.nil
    · rw [List.concat_eq_append] at h hp ⊢
      rw [List.length_append] at h
      obtain ⟨p1, _, p3⟩ := List.pairwise_append.mp hp
      have ih := runs_sorted n r (by simpa using h) p1
      rw [runs_snoc]
      have hap : (runs r ++ [x]).Pairwise (fun a b => a.1 < b.1) := List.pairwise_append.mpr ⟨ih, List.pairwise_singleton _ _, fun a ha b hb => p3 a (runs_mem _ r rfl a ha) b hb⟩
      unfold runF
      split
      · split
        · exact ih
        · exact hap
      · exact hap
theorem runs_upTo (q : Int) : ∀ (n : Nat) (xs : List (Int × HP)), xs.length = n → xs.Pairwise (fun a b => a.1 < b.1) → upTo q (runs xs) = runs (upTo q xs)
  | 0, xs, h, _ => by rw [List.length_eq_zero_iff.mp h]; rfl
  | n + 1, xs, h, hp => by
    rcases List.eq_nil_or_concat xs with rfl | ⟨r, x, rfl⟩
    · rfl
    · rw [List.concat_eq_append] at h hp ⊢
      rw [List.length_append] at h
      obtain ⟨p1, _, p3⟩ := List.pairwise_append.mp hp
      have ih := runs_upTo q n r (by simpa using h) p1
      rw [runs_snoc]
      by_cases hx : x.1 ≤ q
      · have hall : ∀ l : List (Int × HP), (∀ y ∈ l, y ∈ r ∨ y = x) → upTo q l = l := fun l hl => List.filter_eq_self.mpr fun y hy => by
          rcases hl y hy with z | z
          · have := p3 y z x List.mem_cons_self
            simp; omega
          · rw [z]; simp [hx]
        rw [hall (runF (runs r) x) fun y hy => (runF_mem hy).imp (runs_mem _ r rfl y) id, hall (r ++ [x]) fun y hy => (List.mem_append.mp hy).imp id List.mem_singleton.mp, runs_snoc]
      · have e1 : upTo q (r ++ [x]) = upTo q r := by unfold upTo; rw [List.filter_append]; simp [hx]
        have e2 : upTo q (runF (runs r) x) = upTo q (runs r) := by
          unfold runF
          split
          · split
            · rfl
            · unfold upTo; rw [List.filter_append]; simp [hx]
          · unfold upTo; rw [List.filter_append]; simp [hx]
        rw [e1, e2, ih]
/-- the rows at a day: just one, with what is told at the last day up to then -/
theorem runs_at (q : Int) {xs : List (Int × HP)} {x : Int × HP} {r : List (Int × HP)} (he : xs = x :: r) (hs : xs.Pairwise (fun a b => a.1 < b.1)) (hx : x.1 ≤ q) : ∃ s : Str3, (rowsOf none (runs xs)).filter (qIn q) = [s] ∧ lastP (upTo q xs) = some s.c := by
  have h1 := runs_upTo q _ xs rfl hs
  have h2 : upTo q xs ≠ [] := by rw [he]; unfold upTo; rw [List.filter_cons, if_pos (decide_eq_true hx)]; simp
  have h3 : runs xs ≠ [] := fun z => by
    rw [z] at h1
    have z2 := runs_last (upTo q xs)
    rw [← h1] at z2
    have z3 : lastP (upTo q xs) = none := z2.symm
    unfold lastP at z3
    rw [Option.map_eq_none_iff, List.getLast?_eq_none_iff] at z3
    exact h2 z3
  have hso := runs_sorted _ xs rfl hs
  cases hr : runs xs with
  | nil => exact absurd hr h3
  | cons y t =>
    rw [hr] at hso h1
    have hy : y.1 ≤ q := by
      have hm : y ∈ xs := runs_mem _ xs rfl y (by rw [hr]; exact List.mem_cons_self)
      refine Classical.byContradiction fun hn => ?_
      have : upTo q (y :: t) = [] := upTo_none fun z hz => by
        rcases List.mem_cons.mp hz with rfl | hz
        · omega
        · have := (List.pairwise_cons.mp hso).1 z hz
          omega
      rw [this] at h1
      have z2 := runs_last (upTo q xs)
      rw [← h1] at z2
      have z3 : lastP (upTo q xs) = none := z2.symm
      unfold lastP at z3
      rw [Option.map_eq_none_iff, List.getLast?_eq_none_iff] at z3
      exact h2 z3
    obtain ⟨s, s1, s2⟩ := q_rows q t y hso hy
    refine ⟨s, s1, ?_⟩
    rw [← runs_last, ← h1]
    exact s2
end PH

set_option Elab.async false
set_option linter.all false
set_option maxRecDepth 100000
set_option maxHeartbeats 4000000
/-! M26a: heirs hang on the rules that hold. -/
namespace PH
open PySem PySem.Spec L2
open PySem.W (Datum DatumOrd Tup T3)
/-! ### heirs -/
theorem iter_more {f : RowS → RowS} {s : RowS} (h : f s = s) : ∀ n, iter f n s = s
  | 0 => rfl
  | n + 1 => by rw [iter_succ, iter_more h n, h]
theorem iter_add (f : RowS → RowS) (s : RowS) (m : Nat) : ∀ n, iter f (m + n) s = iter f n (iter f m s)
  | 0 => rfl
  | n + 1 => by rw [← Nat.add_assoc, iter_succ, iter_add f s m n, iter_succ]
theorem nextP_srt (bk : List Rule) (p : Part) (m : Str) (day : Int) : srt (nextP bk p m day) = nextP bk p m day := srt_id (srt_le _)
theorem nextP_same {bk bk' : List Rule} {m : Str} {day : Int} (h : ∀ r : Rule, r.day ≤ day → (r ∈ bk ↔ r ∈ bk')) (p : Part) : nextP bk p m day = nextP bk' p m day := by
  have hc : ∀ r, r ∈ cands bk p m day ↔ r ∈ cands bk' p m day := fun r => by
    unfold cands
    rw [List.mem_filter, List.mem_filter]
    constructor
    · rintro ⟨h1, h2⟩
      have hd : r.day ≤ day := by
        unfold overB holdsR at h2
        simp only [Bool.and_eq_true, decide_eq_true_eq] at h2
        exact h2.2.2.1
      exact ⟨(h r hd).mp h1, h2⟩
    · rintro ⟨h1, h2⟩
      have hd : r.day ≤ day := by
        unfold overB holdsR at h2
        simp only [Bool.and_eq_true, decide_eq_true_eq] at h2
        exact h2.2.2.1
      exact ⟨(h r hd).mpr h1, h2⟩
  have hm : ∀ q, q ∈ nextP bk p m day ↔ q ∈ nextP bk' p m day := fun q => by
    rw [nextP_mem, nextP_mem]
    constructor
    · rintro ⟨r, h1, h2, e⟩
      exact ⟨r, (hc r).mp h1, fun r' hr' => h2 r' ((hc r').mpr hr'), e⟩
    · rintro ⟨r, h1, h2, e⟩
      exact ⟨r, (hc r).mpr h1, fun r' hr' => h2 r' ((hc r').mp hr'), e⟩
  rw [← nextP_srt bk, ← nextP_srt bk']
  exact srt_eq ((List.perm_ext_iff_of_nodup (nextP_nodup _ _ _ _) (nextP_nodup _ _ _ _)).mpr hm)
theorem rowE_le {bk : List Rule} {p : Part} {m : Str} {day : Int} {n : Nat} (hn : rowN bk ≤ n) : iter (rowStep (nxt bk m day)) n (row0 (nxt bk m day) p) = rowE bk p m day := by
  obtain ⟨j, rfl⟩ := Nat.exists_eq_add_of_le hn
  rw [iter_add]
  exact iter_more (rowStep_stay _ (rowE_end bk p m day)) j
theorem heir_same {bk bk' : List Rule} {m : Str} {day : Int} (h : ∀ r : Rule, r.day ≤ day → (r ∈ bk ↔ r ∈ bk')) (p : Part) : heirM bk p m day = heirM bk' p m day := by
  have e : nxt bk m day = nxt bk' m day := funext fun q => nextP_same h q
  have e2 : rowE bk p m day = rowE bk' p m day := by
    rw [← rowE_le (bk := bk) (n := rowN bk + rowN bk') (Nat.le_add_right _ _), ← rowE_le (bk := bk') (n := rowN bk + rowN bk') (Nat.le_add_left _ _), e]
  unfold heirM
  rw [e2]
theorem heir_nil (p : Part) (m : Str) (day : Int) : heirM [] p m day = some p := by
  have e : ∀ q, nxt [] m day q = [] := fun q => by
    cases z : nxt [] m day q with
    | nil => rfl
    | cons x xs =>
      have hx : x ∈ nxt [] m day q := by rw [z]; exact List.mem_cons_self
      have := nextP_other hx
      cases this
  have e2 : rowE [] p m day = ⟨[p], []⟩ := by
    have h0 : row0 (nxt [] m day) p = ⟨[p], []⟩ := by unfold row0; rw [e]
    unfold rowE
    rw [h0]
    exact iter_more rfl _
  unfold heirM
  rw [e2]
  rfl
end PH

set_option Elab.async false
set_option linter.all false
set_option maxRecDepth 100000
set_option maxHeartbeats 4000000
/-! The places of the defs in the law's top. -/
namespace PH
open PySem PySem.Spec L2
def topS (i : Nat) : Stmt := PySem.Challenge.pw_partheir_k05_clashes.main.body.getD i (.Pass ⟨0, 0, 0, 0⟩)
abbrev s_HeirError : Stmt := topS 1
abbrev s_NoBook : Stmt := topS 2
abbrev s_whole : Stmt := topS 9
abbrev s_from_to : Stmt := topS 10
abbrev s_is_name : Stmt := topS 11
abbrev s_is_part : Stmt := topS 12
abbrev s_rises : Stmt := topS 13
abbrev s_are_machines : Stmt := topS 14
abbrev s_is_rule : Stmt := topS 15
abbrev s_is_book : Stmt := topS 16
abbrev s_need_book : Stmt := topS 17
abbrev s_holds : Stmt := topS 18
abbrev s_all_parts : Stmt := topS 19
abbrev s_all_machines : Stmt := topS 20
abbrev s_all_days : Stmt := topS 21
abbrev s_next_ones : Stmt := topS 23
abbrev s_stretches : Stmt := topS 24
abbrev s_clashes : Stmt := topS 25
abbrev l_cell_at : Stmt := topS 27
abbrev l_draws : Stmt := topS 28
abbrev l_a_part : Stmt := topS 29
abbrev l_a_rule : Stmt := topS 30
abbrev l_a_book : Stmt := topS 31
abbrev l_holds : Stmt := topS 32
abbrev l_a_next : Stmt := topS 33
abbrev l_parts_of : Stmt := topS 34
abbrev l_machines_of : Stmt := topS 35
abbrev l_days_of : Stmt := topS 36
abbrev l_a_due : Stmt := topS 37
abbrev l_crowded : Stmt := topS 38
abbrev l_law : Stmt := topS 39
end PH

set_option Elab.async false
set_option linter.all false
set_option maxRecDepth 100000
set_option maxHeartbeats 4000000
namespace PH
open PySem PySem.Spec L2
open PySem.W (Datum DatumOrd Tup T3)
/-! W1: the walks. -/
section
variable {P : Program} {w : World} {K : PySem.W.Frag} {mg : Str → Option Value} {base : Heap}
def rWhole (ds : List PyData) (b : Bd) : Prop := ∃ i : Int, ds = [.int i] ∧ b = .fz (.bool true)
theorem fn_whole (B : Blt mg) (D : Df K mg "whole" s_whole) : Fn P w K mg base "whole" 1 rWhole := by
  refine D.fn (N := ["thing"]) (ps := ["thing"]) ⟨rfl, rfl, rfl, by decide +kernel, rfl, by decide +kernel, by decide +kernel⟩ (fun ds b ⟨i, h, _⟩ => by rw [h]; rfl) (fun _ _ _ _ _ _ us hl => match us, hl with | [_], _ => rfl) ?_
  rintro X c ds b ⟨i, rfl, rfl⟩
  exact dss_one (ds_ret (de_and (p := true) (q := true) (c.isa B "int" B.int (c.dv 0).dw rfl rfl) fun _ => de_one (de_not (p := false) (c.isa B "bool" B.bool (c.dv 0).dw rfl rfl))) rfl)
def rFromTo (ds : List PyData) (b : Bd) : Prop := ∃ i lo hi : Int, ds = [.int i, .int lo, .int hi] ∧ b = .fz (.bool (fromTo i lo hi))
theorem fn_from_to (B : Blt mg) (D : Df K mg "from_to" s_from_to) (f1 : Fn P w K mg base "whole" 1 rWhole) : Fn P w K mg base "from_to" 2 rFromTo := by
  refine D.fn (N := ["thing", "low", "high"]) (ps := ["thing", "low", "high"]) ⟨rfl, rfl, rfl, by decide +kernel, rfl, by decide +kernel, by decide +kernel⟩ (fun ds b ⟨i, _, _, h, _⟩ => by rw [h]; rfl) (fun _ _ _ _ _ _ us hl => match us, hl with | [_, _, _], _ => rfl) ?_
  rintro X c ds b ⟨i, lo, hi, rfl, rfl⟩
  exact dss_one (ds_ret (de_and (p := true) (q := fromTo i lo hi) (c.call f1 (da_cons (c.dv 0) da_nil) ⟨i, rfl, rfl⟩) fun _ => de_one (de_lele (c.dv 1).dw (c.dv 0).dw (c.dv 2).dw)) rfl)
def rIsName (ds : List PyData) (b : Bd) : Prop := ∃ x : Str, ds = [.str x] ∧ x.length ≤ 1000 ∧ b = .fz (.bool (isName x))
theorem fn_is_name (B : Blt mg) (D : Df K mg "is_name" s_is_name) {tl : Tok} (gl : mg "LETTERS" = some (.str letters tl)) : Fn P w K mg base "is_name" 1 rIsName := by
  refine D.fn (N := ["thing", "sign"]) (ps := ["thing"]) ⟨rfl, rfl, rfl, by decide +kernel, rfl, by decide +kernel, by decide +kernel⟩ (fun ds b ⟨i, h, _⟩ => by rw [h]; rfl) (fun _ _ _ _ _ _ us hl => match us, hl with | [_], _ => rfl) ?_
  rintro X c ds b ⟨x, rfl, hx, rfl⟩
  refine dss_one (ds_ret (d := .bool (true && isName x)) ?_ rfl)
  refine de_and (c.isa B "str" B.str (c.dv 0).dw rfl rfl) fun _ => ?_
  refine de_and (de_lele de_int.dw (c.len B (c.dv 0).dw (n := x.length) (by exact if_pos (by omega))).dw de_int.dw) fun _ => de_one ?_
  exact c.allLc B 1 (fun ch : Nat => PyData.str ⟨#[ch]⟩) x.cps.toList (fun ch => decide (ch ∈ letters.cps.toList)) (di_str (c.dv 0)) (few_le (by rw [cps_len]; omega)) (fun X' c' ch _ => de_cmp (dc_sign (c'.dv 1).dw (c'.gs gl).dw)) (fun a b h => by simpa using h)
def rIsPart (ds : List PyData) (b : Bd) : Prop := ∃ p : Part, ds = [Datum.toD p] ∧ smallP p ∧ b = .fz (.bool (isPart p))
theorem fn_is_part (B : Blt mg) (D : Df K mg "is_part" s_is_part) (f1 : Fn P w K mg base "is_name" 1 rIsName) (f2 : Fn P w K mg base "from_to" 2 rFromTo) {tn : Tok} (gn : mg "MOST_NUMBER" = some (.int 999999 tn)) : Fn P w K mg base "is_part" 3 rIsPart := by
  refine D.fn (N := ["thing"]) (ps := ["thing"]) ⟨rfl, rfl, rfl, by decide +kernel, rfl, by decide +kernel, by decide +kernel⟩ (fun ds b ⟨i, h, _⟩ => by rw [h]; rfl) (fun _ _ _ _ _ _ us hl => match us, hl with | [_], _ => rfl) ?_
  rintro X c ds b ⟨p, rfl, hp, rfl⟩
  refine dss_to (Γ1 := gam0 1 [Datum.toD p]) (ds_unless (p := false) (DWh.dt (dh_or (p := false) (dt_not (p := true) (dt_of (c.isa B "tuple" B.tuple (c.dv 0).dw rfl rfl))) fun _ => dh_or1 (dt_cmp (dc_neT (α := Int) (xa := 2) (ya := 2) c.hu64 (c.len B (c.dv 0).dw rfl).dw de_int.dw)))) rfl rfl) ?_
  exact dss_one (ds_ret (de_and (c.call f1 (da_cons (de_ixT (c.dv 0) de_int.dw (d := .str p.1) rfl) da_nil) ⟨p.1, rfl, hp, rfl⟩) fun _ => de_one (c.call f2 (da_cons (de_ixT (c.dv 0) de_int.dw (d := .int p.2) rfl) (da_cons de_int (da_cons (c.gi gn) da_nil))) ⟨p.2, 1, 999999, rfl, rfl⟩)) rfl)
def rRises (ds : List PyData) (b : Bd) : Prop := ∃ t : Tup Str, ds = [Datum.toD t] ∧ t.items.length ≤ 1000 ∧ b = .fz (.bool (risesS t.items))
theorem fn_rises (B : Blt mg) (D : Df K mg "rises" s_rises) : Fn P w K mg base "rises" 1 rRises := by
  refine D.fn (N := ["some", "k"]) (ps := ["some"]) ⟨rfl, rfl, rfl, by decide +kernel, rfl, by decide +kernel, by decide +kernel⟩ (fun ds b ⟨i, h, _⟩ => by rw [h]; rfl) (fun _ _ _ _ _ _ us hl => match us, hl with | [_], _ => rfl) ?_
  rintro X c ds b ⟨t, rfl, ht, rfl⟩
  refine dss_one (ds_ret (d := .bool (risesS t.items)) ?_ rfl)
  exact c.allLc B 1 (fun k : Nat => PyData.int (0 + (k : Int))) (List.range (((t.items.length : Nat) : Int) - 1).toNat) (fun k => DatumOrd.lt (t.items.getD k "") (t.items.getD (k + 1) ""))
    (c.range1 B (de_sub (c.len B (c.dv 0).dw (n := t.items.length) (by show some _ = _; rw [List.length_map])).dw de_int.dw) (by omega) (by omega)) (few_le (by rw [List.length_range]; omega))
    (fun X' c' k hk => by
      have hk2 := List.mem_range.mp hk
      exact de_cmp (dc_ltT c'.hu64 (de_ixT (c'.dv 0) (c'.dv 1).dw (atI_at (f := Datum.toD) (by omega) (by omega))).dw (de_ixT (c'.dv 0) (de_add (c'.dv 1).dw de_int.dw).dw (atI_at (f := Datum.toD) (by omega) (by omega))).dw)) (fun a b h => by injection h with h; omega)
def rAreMachines (ds : List PyData) (b : Bd) : Prop := ∃ t : Tup Str, ds = [Datum.toD t] ∧ smallT t ∧ b = .fz (.bool (areMachines t))
theorem fn_are_machines (B : Blt mg) (D : Df K mg "are_machines" s_are_machines) (f1 : Fn P w K mg base "is_name" 1 rIsName) (f2 : Fn P w K mg base "rises" 1 rRises) {tn : Tok} (gn : mg "MOST_MACHINES" = some (.int 6 tn)) : Fn P w K mg base "are_machines" 2 rAreMachines := by
  refine D.fn (N := ["thing", "name"]) (ps := ["thing"]) ⟨rfl, rfl, rfl, by decide +kernel, rfl, by decide +kernel, by decide +kernel⟩ (fun ds b ⟨i, h, _⟩ => by rw [h]; rfl) (fun _ _ _ _ _ _ us hl => match us, hl with | [_], _ => rfl) ?_
  rintro X c ds b ⟨t, rfl, ht, rfl⟩
  have hlen : lenD (Datum.toD t) = some t.items.length := by show some _ = _; rw [List.length_map]
  refine dss_cons (fun Γ' => Γ' = gam0 2 [Datum.toD t] ∧ ¬ (6 : Int) < t.items.length) (ds_if (fun _ => True) (p := decide ((6 : Int) < t.items.length)) (DWh.dt (dh_or (p := false) (dt_not (p := true) (dt_of (c.isa B "tuple" B.tuple (c.dv 0).dw (Datum.plain t) rfl))) fun _ => dh_or1 (dt_cmp (dc_gt (c.len B (c.dv 0).dw hlen).dw (c.gi gn).dw)))) (fun z => ?_) fun z => dss_nil ⟨rfl, of_decide_eq_false z⟩) ?_
  · exact dss_one (ds_ret de_bool (by show Bd.fz (.bool false) = _; unfold areMachines; rw [if_pos (of_decide_eq_true z)]))
  · rintro Γ' ⟨rfl, hn⟩
    refine dss_one (ds_ret (d := .bool (areMachines t)) ?_ rfl)
    unfold areMachines
    rw [if_neg hn]
    exact de_and (c.allLc B 1 (fun m : Str => PyData.str m) t.items isName (di_tup (c.dv 0)) (few_le (by have := ht.1; omega)) (fun X' c' m hm => c'.call f1 (da_cons (c'.dv 1) da_nil) ⟨m, rfl, ht.2 m hm, rfl⟩) (fun a b h => by injection h)) fun _ => de_one (c.call f2 (da_cons (c.dv 0) da_nil) ⟨t, rfl, ht.1, rfl⟩)
end
end PH

set_option Elab.async false
set_option linter.all false
set_option maxRecDepth 100000
set_option maxHeartbeats 4000000
/-! W2b: is_rule, is_book, the needs, holds, steps, parts, machines. -/
namespace PH
open PySem PySem.Spec L2
open PySem.W (Datum DatumOrd Tup T3)
section
variable {P : Program} {w : World} {K : PySem.W.Frag} {mg : Str → Option Value} {base : Heap}
def rIsRule (ds : List PyData) (b : Bd) : Prop := ∃ r : Rule, ds = [Datum.toD r] ∧ smallR r ∧ b = .fz (.bool (isRule r))
theorem fn_is_rule (B : Blt mg) (D : Df K mg "is_rule" s_is_rule) (f1 : Fn P w K mg base "is_part" 3 rIsPart) (f2 : Fn P w K mg base "from_to" 2 rFromTo) (f3 : Fn P w K mg base "are_machines" 2 rAreMachines) {tn : Tok} (gn : mg "MOST_DAY" = some (.int 1000000000 tn)) : Fn P w K mg base "is_rule" 4 rIsRule := by
  refine D.fn (N := ["thing"]) (ps := ["thing"]) ⟨rfl, rfl, rfl, by decide +kernel, rfl, by decide +kernel, by decide +kernel⟩ (fun ds b ⟨i, h, _⟩ => by rw [h]; rfl) (fun _ _ _ _ _ _ us hl => match us, hl with | [_], _ => rfl) ?_
  rintro X c ds b ⟨r, rfl, hr, rfl⟩
  refine dss_to (Γ1 := gam0 1 [Datum.toD r]) (ds_unless (p := false) (DWh.dt (dh_or (p := false) (dt_not (p := true) (dt_of (c.isa B "tuple" B.tuple (c.dv 0).dw (Datum.plain r) rfl))) fun _ => dh_or1 (dt_cmp (dc_neT (α := Int) (xa := 5) (ya := 5) c.hu64 (c.len B (c.dv 0).dw rfl).dw de_int.dw)))) rfl rfl) ?_
  refine dss_cons (fun Γ' => Γ' = gam0 1 [Datum.toD r] ∧ ¬ (!decide (r.kind ∈ (["over", "both"] : List Str))) = true)
    (ds_if (fun _ => True) (p := !decide (r.kind ∈ (["over", "both"] : List Str))) (DWh.dt (dh_or (p := false) (dt_not (p := true) (dt_of (c.isa B "str" B.str (de_ixT (c.dv 0) de_int.dw (d := .str r.kind) rfl).dw rfl rfl)))
      fun _ => dh_or1 (dt_cmp (dc_ninT (α := Str) (xa := r.kind) (ls := ["over", "both"]) c.hu65 (de_ixT (c.dv 0) de_int.dw (d := .str r.kind) rfl).dw (de_tup (da_cons de_str (da_cons de_str da_nil)) (by decide)).dw)))) (fun z => ?_) fun z => dss_nil ⟨rfl, by rw [z]; decide⟩) ?_
  · exact dss_one (ds_ret de_bool (by show Bd.fz (.bool false) = _; unfold isRule; rw [if_pos z]))
  rintro Γ' ⟨rfl, h1⟩
  refine dss_cons (fun Γ' => Γ' = gam0 1 [Datum.toD r] ∧ ¬ (!isPart r.one || (!isPart r.other || decide (r.one = r.other))) = true)
    (ds_if (fun _ => True) (p := !isPart r.one || (!isPart r.other || decide (r.one = r.other))) (DWh.dt (dh_or (dt_not (dt_of (c.call f1 (da_cons (de_ixT (c.dv 0) de_int.dw (d := Datum.toD r.one) rfl) da_nil) ⟨r.one, rfl, hr.1, rfl⟩)))
      fun _ => dh_or (dt_not (dt_of (c.call f1 (da_cons (de_ixT (c.dv 0) de_int.dw (d := Datum.toD r.other) rfl) da_nil) ⟨r.other, rfl, hr.2.1, rfl⟩)))
      fun _ => dh_or1 (dt_cmp (dc_eqT c.hu64 (de_ixT (c.dv 0) de_int.dw (d := Datum.toD r.one) rfl).dw (de_ixT (c.dv 0) de_int.dw (d := Datum.toD r.other) rfl).dw)))) (fun z => ?_) fun z => dss_nil ⟨rfl, by rw [z]; decide⟩) ?_
  · exact dss_one (ds_ret de_bool (by show Bd.fz (.bool false) = _; unfold isRule; rw [if_neg h1, if_pos z]))
  rintro Γ' ⟨rfl, h2⟩
  refine dss_one (ds_ret (d := .bool (isRule r)) ?_ rfl)
  unfold isRule
  rw [if_neg h1, if_neg h2]
  exact de_and (c.call f2 (da_cons (de_ixT (c.dv 0) de_int.dw (d := .int r.day) rfl) (da_cons de_int (da_cons (c.gi gn) da_nil))) ⟨r.day, 0, 1000000000, rfl, rfl⟩) fun _ => de_one (c.call f3 (da_cons (de_ixT (c.dv 0) de_int.dw (d := Datum.toD r.machs) rfl) da_nil) ⟨r.machs, rfl, hr.2.2, rfl⟩)
def rIsBook (ds : List PyData) (b : Bd) : Prop := ∃ bk : List Rule, ds = [Datum.toD bk] ∧ bk.length ≤ 1000 ∧ (∀ r ∈ bk, smallR r) ∧ b = .fz (.bool (isBook bk))
theorem fn_is_book (B : Blt mg) (D : Df K mg "is_book" s_is_book) (f1 : Fn P w K mg base "is_rule" 4 rIsRule) {tn : Tok} (gn : mg "MOST_RULES" = some (.int 60 tn)) : Fn P w K mg base "is_book" 5 rIsBook := by
  refine D.fn (N := ["thing", "rule"]) (ps := ["thing"]) ⟨rfl, rfl, rfl, by decide +kernel, rfl, by decide +kernel, by decide +kernel⟩ (fun ds b ⟨i, h, _⟩ => by rw [h]; rfl) (fun _ _ _ _ _ _ us hl => match us, hl with | [_], _ => rfl) ?_
  rintro X c ds b ⟨bk, rfl, hl, hr, rfl⟩
  have hlen : lenD (Datum.toD bk) = some bk.length := by show some _ = _; rw [List.length_map]
  refine dss_cons (fun Γ' => Γ' = gam0 2 [Datum.toD bk] ∧ ¬ (60 : Int) < bk.length) (ds_if (fun _ => True) (p := decide ((60 : Int) < bk.length)) (DWh.dt (dh_or (p := false) (dt_not (p := true) (dt_of (c.isa B "list" B.list (c.dv 0).dw (Datum.plain bk) rfl))) fun _ => dh_or1 (dt_cmp (dc_gt (c.len B (c.dv 0).dw hlen).dw (c.gi gn).dw)))) (fun z => ?_) fun z => dss_nil ⟨rfl, of_decide_eq_false z⟩) ?_
  · exact dss_one (ds_ret de_bool (by show Bd.fz (.bool false) = _; unfold isBook; rw [if_pos (of_decide_eq_true z)]))
  rintro Γ' ⟨rfl, h1⟩
  refine dss_cons (fun Γ' => Γ' = gam0 2 [Datum.toD bk] ∧ ¬ (!((bk.map isRule).all fun b => b)) = true)
    (ds_if (fun _ => True) (p := !((bk.map isRule).all fun b => b)) (dt_not (dt_of (c.allLc B 1 (fun r : Rule => Datum.toD r) bk isRule (di_list (c.dv 0)) (few_le (by omega)) fun X' c' r hm => c'.call f1 (da_cons (c'.dv 1) da_nil) ⟨r, rfl, hr r hm, rfl⟩))) (fun z => ?_) fun z => dss_nil ⟨rfl, by rw [z]; decide⟩) ?_
  · exact dss_one (ds_ret de_bool (by show Bd.fz (.bool false) = _; unfold isBook; rw [if_neg h1, if_pos z]))
  rintro Γ' ⟨rfl, h2⟩
  refine dss_one (ds_ret (d := .bool (isBook bk)) ?_ rfl)
  unfold isBook
  rw [if_neg h1, if_neg h2]
  have hu := uniq_len_le bk
  exact de_cmp (dc_eqT (α := Int) c.hu64 (c.lenSet B (c.dv 0).db (by omega) (by omega)).dw (c.len B (c.dv 0).dw hlen).dw)
/-- a book that may be asked -/
def okBook (bk : List Rule) : Prop := bk.length ≤ 1000 ∧ (∀ r ∈ bk, smallR r) ∧ isBook bk = true
def rNeedBook (ds : List PyData) (b : Bd) : Prop := ∃ bk : List Rule, ds = [Datum.toD bk] ∧ okBook bk ∧ b = .fz .none
theorem fn_need_book (D : Df K mg "need_book" s_need_book) (f1 : Fn P w K mg base "is_book" 5 rIsBook) : Fn P w K mg base "need_book" 6 rNeedBook := by
  refine D.fn (N := ["book"]) (ps := ["book"]) ⟨rfl, rfl, rfl, by decide +kernel, rfl, by decide +kernel, by decide +kernel⟩ (fun ds b ⟨i, h, _⟩ => by rw [h]; rfl) (fun _ _ _ _ _ _ us hl => match us, hl with | [_], _ => rfl) ?_
  rintro X c ds b ⟨bk, rfl, hb, rfl⟩
  exact dss_one (ds_unless (p := !isBook bk) (dt_not (dt_of (c.call f1 (da_cons (c.dv 0) da_nil) ⟨bk, rfl, hb.1, hb.2.1, rfl⟩))) (by rw [hb.2.2]; rfl) rfl)
end
end PH

set_option Elab.async false
set_option linter.all false
set_option maxRecDepth 100000
set_option maxHeartbeats 4000000
/-! W4: the numbers drawn. -/
namespace PH
open PySem PySem.Spec L2
open PySem.W (Datum DatumOrd Tup T3)
section
variable {P : Program} {w : World} {K : PySem.W.Frag} {mg : Str → Option Value} {base : Heap}
def rDraws (ds : List PyData) (b : Bd) : Prop := ∃ (cell : Int) (many : Nat) (bs : Int), ds = [.int cell, .int many, .int bs] ∧ many ≤ 100000 ∧ 0 < bs ∧ bs ≤ 1000000 ∧ b = .ol ((draws cell many bs).map Datum.toD)
theorem fn_draws (B : Blt mg) (D : Df K mg "_law_draws" l_draws) : Fn P w K mg base "_law_draws" 1 rDraws := by
  refine D.fn (N := ["_law_cell", "_law_many", "_law_base", "_law_found", "_law_rest", "_law_stirred", "_law_k"]) (ps := ["_law_cell", "_law_many", "_law_base"]) ⟨rfl, rfl, rfl, by decide +kernel, rfl, by decide +kernel, by decide +kernel⟩ (fun ds b ⟨i, j, k, h, _⟩ => by rw [h]; rfl) (fun _ _ _ _ _ _ us hl => match us, hl with | [_, _, _], _ => rfl) ?_
  rintro X c ds b ⟨cell, many, bs, rfl, hm, hb, hb2, rfl⟩
  refine dss_to (c.setL 3 (dl_lst da_nil (few_le (by decide))) rfl) ?_
  refine dss_to (c.set 4 (de_mul (c.dv 0).dw (c.intB B (de_cmp (dc_ge (c.dv 0).dw (de_pow de_int.dw de_int.dw ⟨by decide, by decide, by decide⟩).dw)).dw).dw (.inr ⟨by split <;> decide, by split <;> decide⟩)) rfl) ?_
  refine dss_to (c.set 5 (de_mod (c.dv 0).dw de_int.dw (by decide)) rfl) ?_
  refine dss_to (ds_forF (fun s : Drw => [.fz (.int cell), .fz (.int many), .fz (.int bs), .ol (s.found.map Datum.toD), .fz (.int s.rest), .fz (.int s.stir), .un]) (drwStep bs) (drw0 cell) (xs := List.range (many + 3)) (g := fun k : Nat => PyData.int (0 + (k : Int))) c.pass c.calm rfl
    (c.rangeN B (many + 3) (de_add (c.dv 1).dw de_int.dw) (by omega) (by omega)) (c.tg 6) (fun i k hk => ?_) rfl) ?_
  · refine ⟨_, rfl, ?_⟩
    have hki : k = i := by
      have z := List.getElem?_eq_some_iff.mp hk
      obtain ⟨z1, z2⟩ := z
      rw [List.getElem_range] at z2
      exact z2.symm
    have hkl : k < many + 3 := List.mem_range.mp (List.mem_of_getElem? hk)
    have ht : (List.range (many + 3)).take i = List.range i := by rw [List.take_range]; congr 1; omega
    have hst := drw_stir cell bs i
    have hfo := drw_found hb cell i
    rw [ht]
    change DSs X _ _ _
    generalize hs : (List.range i).foldl (drwStep bs) (drw0 cell) = s
    have hs' : drwAt cell bs i = s := hs
    rw [hs'] at hst hfo
    have hlen : s.found.length ≤ 200000 := by omega
    have hM : drwM = 2305843009213693951 := rfl
    rw [hM] at hst
    -- stirred
    refine dss_to (c.set 5 (de_mod (de_add (de_add (de_add (de_mul (c.dv 5).dw (c.dv 5).dw (.inl ⟨by omega, by omega⟩)).dw (de_mul de_int.dw (c.dv 5).dw (.inl ⟨by decide, by decide⟩)).dw).dw (c.dv 6).dw).dw de_int.dw).dw de_int.dw (by decide)) rfl) ?_
    refine dss_cons (fun Γ' => Γ' = [.fz (.int cell), .fz (.int many), .fz (.int bs), .ol ((drwStep bs s k).found.map Datum.toD), .fz (.int (drwStep bs s k).rest), .fz (.int (drwStep bs s k).stir), .fz (.int (0 + (k : Int)))])
      (ds_if (fun _ => True) (p := decide ((2 : Int) < 0 + (k : Int)) && decide (0 < s.rest)) (DWh.dt (dh_and (dt_cmp (dc_gt (c.dv 6).dw de_int.dw)) fun _ => dh_and1 (dt_cmp (dc_gt (c.dv 4).dw de_int.dw)))) (fun z => ?_) fun z => ?_) ?_
    · refine dss_to (c.append (xs := s.found.map Datum.toD) 3 (de_mod (c.dv 4).dw (c.dv 2).dw hb) (few_lt (by rw [List.length_map]; omega)) rfl) ?_
      refine dss_one (c.set 4 (de_fdiv (c.dv 4).dw (c.dv 2).dw ⟨hb, by omega⟩) ?_)
      show _ = _
      unfold drwStep
      dsimp only
      rw [if_pos z, List.map_append]
      rfl
    · refine dss_one (ds_if (fun _ => True) (p := decide ((2 : Int) < 0 + (k : Int))) (dt_cmp (dc_gt (c.dv 6).dw de_int.dw)) (fun z2 => ?_) fun z2 => dss_nil ?_)
      · refine dss_one (c.append (xs := s.found.map Datum.toD) 3 (de_mod (de_fdiv (c.dv 5).dw de_int.dw ⟨by decide, by decide⟩).dw (c.dv 2).dw hb) (few_lt (by rw [List.length_map]; omega)) ?_)
        show _ = _
        unfold drwStep
        dsimp only
        rw [if_neg (by rw [z]; decide), if_pos (of_decide_eq_true z2), List.map_append]
        rfl
      · show _ = _
        unfold drwStep
        dsimp only
        rw [if_neg (by rw [z]; decide), if_neg (of_decide_eq_false z2)]
        rfl
    · rintro Γ' rfl
      exact dss_un (i := 6) (dss_nil rfl)
  · exact dss_one (c.retO 3 rfl)
theorem fn_cell_at (B : Blt mg) (D : Df K mg "_law_cell_at" l_cell_at) : CellFn P w K mg base "_law_cell_at" := by
  obtain ⟨f, fd, F, hm⟩ := D.ex
  refine ⟨f, fd, ["_law_script", "_law_k"], ?_, hm, F.kp, F.binds fun _ _ _ _ _ _ us hl => match us, hl with | [_, _], _ => rfl⟩
  have S : FnScope ["_law_script", "_law_k"] ["_law_script", "_law_k"] (defScope l_cell_at) := ⟨rfl, rfl, rfl, by decide +kernel, rfl, by decide +kernel, by decide +kernel⟩
  refine F.ok S (fun vs H Q E h => ?_) (fun cdv A outer s H vs Q E hr h => ?_)
  · obtain ⟨a, ns, k, rfl, _⟩ := h
    rfl
  · obtain ⟨a, ns, k, rfl, hS, hlen, q⟩ := h
    refine ⟨_, pss_cons (ps_if (pt_cmpR op_lt (pv 1) (pe_callB call_len_seq (by rfl) B.len PySem.boot_len (pa_cons (pv 0) pa_nil)) (nomark _)) (pss_one (ps_ret (pe_ix ix_list (pv 0) (pv 1) (fun _ _ => rfl)))) pss_nil) (pss_one (ps_ret pe_int)), ?_⟩
    refine ⟨_, rfl, .ref a, rfl, a, ns.map V.int, rfl, .inl hS, k, _, rfl, rfl, _, rfl, ite2 (fun e => ?_) (fun e => ?_)⟩
    · have h1 : k < ns.length := by
        have z := of_decide_eq_true e
        rw [List.length_map] at z
        omega
      refine ⟨.ref a, rfl, .int k, rfl, a, ns.map V.int, k, _, rfl, rfl, hS, atI_at (d := 0) rfl h1, q⟩
    · have h1 : ¬ k < ns.length := fun z => e (decide_eq_true (by rw [List.length_map]; omega))
      rw [List.getD_eq_getElem?_getD, List.getElem?_eq_none (by omega)] at q
      exact q
end
end PH

set_option Elab.async false
set_option linter.all false
set_option maxRecDepth 100000
set_option maxHeartbeats 4000000
/-! W5: a book drawn. -/
namespace PH
open PySem PySem.Spec L2
open PySem.W (Datum DatumOrd Tup T3)
section
variable {P : Program} {w : World} {K : PySem.W.Frag} {mg : Str → Option Value} {base : Heap}
def rARule (mk : List Int → Rule) (ds : List PyData) (b : Bd) : Prop := ∃ xs : List Int, ds = [.list (xs.map PyData.int)] ∧ 6 ≤ xs.length ∧ xs.length ≤ 10000 ∧ (∀ x ∈ xs, 0 ≤ x ∧ x < 1000) ∧ b = .fz (Datum.toD (mk xs))
def rABook (mk : List Int → Rule) (ds : List PyData) (b : Bd) : Prop := ∃ (cell : Int) (most : Nat), ds = [.int cell, .int most] ∧ most ≤ 100 ∧ b = .ol ((bookOf mk cell most).map Datum.toD)
theorem fn_a_book {j : Nat} {mk : List Int → Rule} (B : Blt mg) (D : Df K mg "_law_a_book" l_a_book) (f1 : Fn P w K mg base "_law_draws" 1 rDraws) (f2 : Fn P w K mg base "_law_a_rule" j (rARule mk)) (hj : 1 ≤ j) : Fn P w K mg base "_law_a_book" (j + 1) (rABook mk) := by
  refine D.fn (N := ["_law_cell", "_law_most", "_law_picks", "_law_found", "_law_k", "_law_order", "_law_rule"]) (ps := ["_law_cell", "_law_most"]) ⟨rfl, rfl, rfl, by decide +kernel, rfl, by decide +kernel, by decide +kernel⟩ (fun ds b ⟨i, j, h, _⟩ => by rw [h]; rfl) (fun _ _ _ _ _ _ us hl => match us, hl with | [_, _], _ => rfl) ?_
  rintro X c ds b ⟨cell, most, rfl, hm, rfl⟩
  refine dss_to (c.setL 2 (c.callL f1 (da_cons (c.dv 0) (da_cons (de_add (de_mul de_int.dw (c.dv 1).dw (.inl ⟨by decide, by decide⟩)).dw de_int.dw) (da_cons de_int da_nil))) ⟨cell, 6 * most + 2, 1000, by simp, by omega, by decide, by decide, rfl⟩ hj) rfl) ?_
  refine dss_to (c.setD 3 dn_new rfl) ?_
  unfold bookOf
  have hdl := draws_len (base := 1000) (by decide) cell (6 * most + 2)
  have hdi := draws_in (base := 1000) (by decide) cell (6 * most + 2)
  generalize draws cell (6 * most + 2) 1000 = picks at hdl hdi ⊢
  have p0 : ∀ {Γ : List Bd} {pos p1 : Pos} {jj : Nat} {p2 : Pos}, Γ[2]? = some (.ol (picks.map Datum.toD)) → DE X Γ (.Subscript (.Name "_law_picks" p1) (.Constant (.int 0) jj p2) pos) (.int (nth0 picks 0)) := fun h => de_ixL (c.bv 2 h) de_int.dw (atI_at (f := Datum.toD) rfl (by omega))
  have p1 : ∀ {Γ : List Bd} {pos p1 : Pos} {jj : Nat} {p2 : Pos}, Γ[2]? = some (.ol (picks.map Datum.toD)) → DE X Γ (.Subscript (.Name "_law_picks" p1) (.Constant (.int 1) jj p2) pos) (.int (nth0 picks 1)) := fun h => de_ixL (c.bv 2 h) de_int.dw (atI_at (f := Datum.toD) rfl (by omega))
  have hnn := Int.emod_nonneg (nth0 picks 0) (show ((most : Int) + 1) ≠ 0 by omega)
  have hbn := bookN_le picks most
  refine dss_to (ds_forF (fun s : RulesD => [.fz (.int cell), .fz (.int most), .ol (picks.map Datum.toD), .od (kvD s), .un, .un, .un]) (bookF mk picks) [] (xs := List.range (bookN picks most)) (g := fun k : Nat => PyData.int (0 + (k : Int))) c.pass c.calm rfl
    (c.rangeN B (bookN picks most) (de_mod (p0 rfl).dw (de_add (c.dv 1).dw de_int.dw).dw (by omega)) (by unfold bookN; omega) (by omega)) (c.tg 4) (fun i k hk => ?_) rfl) ?_
  · refine ⟨_, rfl, ?_⟩
    have hkl : k < bookN picks most := List.mem_range.mp (List.mem_of_getElem? hk)
    have hsl := foldl_len (bookF_len mk picks) ((List.range (bookN picks most)).take i) []
    generalize ((List.range (bookN picks most)).take i).foldl (bookF mk picks) [] = s at hsl ⊢
    rw [List.length_nil, List.length_take, List.length_range] at hsl
    refine dss_to (c.dput (κ := Rule) (m := s) (kk := mk (picks.drop (2 + 6 * k))) 3 de_bool (c.call f2 (da_cons (d := .list ((picks.drop (2 + 6 * k)).map PyData.int)) (DL.de ?_) da_nil) ⟨picks.drop (2 + 6 * k), rfl, by rw [List.length_drop]; omega, by rw [List.length_drop]; omega, fun x hx => hdi x (List.mem_of_mem_drop hx), rfl⟩ (Nat.le_refl j)) (by omega) rfl) ?_
    · rw [← cut_drop_map (f := PyData.int) (k := 2 + 6 * (0 + (k : Int))) (by omega)]
      exact dl_slice (c.bv 2) (do_some (de_add de_int.dw (de_mul de_int.dw (c.dv 4).dw (.inl ⟨by decide, by decide⟩)).dw).dw) do_none
    · exact dss_un (i := 4) (dss_nil rfl)
  · refine dss_frD (i := 3) rfl ?_
    refine dss_to (c.setL 5 (dl_lst da_nil (few_le (by decide))) rfl) ?_
    have hml := bookD_len mk picks most
    have hmd : (List.range (bookN picks most)).foldl (bookF mk picks) [] = bookD mk picks most := rfl
    rw [hmd]
    generalize bookD mk picks most = m at hml ⊢
    refine dss_to (ds_forF (fun s : List Rule => [.fz (.int cell), .fz (.int most), .ol (picks.map Datum.toD), .fz (.dict ((kvD m).map fun p => (p.1.data, p.2))), .un, .ol (s.map Datum.toD), .un]) (insF (nth0 picks 1)) [] (xs := (m.map (·.1)).zipIdx) (g := fun p : Rule × Nat => PyData.tuple [.int (p.2 : Nat), Datum.toD p.1]) c.pass c.calm rfl
      (c.enumDict B (c.dv 3)) (c.tg2 4 6) (fun i p hp => ?_) rfl) ?_
    · refine ⟨_, rfl, ?_⟩
      obtain ⟨r, k⟩ := p
      have hk : k < most := by
        have z := List.mem_zipIdx (List.mem_of_getElem? hp)
        rw [List.length_map] at z
        omega
      have hsl := (ins_perm (nth0 picks 1) ((m.map (·.1)).zipIdx.take i) []).length_eq
      generalize ((m.map (·.1)).zipIdx.take i).foldl (insF (nth0 picks 1)) [] = s at hsl ⊢
      rw [List.append_nil, List.length_map, List.length_take, List.length_zipIdx, List.length_map] at hsl
      have e1 := Int.emod_nonneg (nth0 picks 1 + 7 * (k : Int)) (show ((k : Int) + 1) ≠ 0 by omega)
      have e2 := Int.emod_lt_of_pos (nth0 picks 1 + 7 * (k : Int)) (show (0 : Int) < (k : Int) + 1 by omega)
      refine dss_to (c.insert (xs := s.map Datum.toD) 5 (de_mod (de_add (p1 rfl).dw (de_mul de_int.dw (c.dv 4).dw (.inl ⟨by decide, by decide⟩)).dw).dw (de_add (c.dv 4).dw de_int.dw).dw (by omega)) (c.dv 6) e1 (by omega) (few_lt (by rw [List.length_map]; omega)) rfl) ?_
      refine dss_un (i := 4) (dss_un (i := 6) (dss_nil ?_))
      show _ = _
      unfold insF
      rw [List.map_append, List.map_append, List.map_take, List.map_drop]
      rfl
    · exact dss_one (c.retO 5 rfl)
end
end PH

set_option Elab.async false
set_option linter.all false
set_option maxRecDepth 100000
set_option maxHeartbeats 4000000
/-! WR0: a part, a rule drawn. -/
namespace PH
open PySem PySem.Spec L2
open PySem.W (Datum DatumOrd Tup T3)
section
variable {P : Program} {w : World} {K : PySem.W.Frag} {mg : Str → Option Value} {base : Heap}
def rPart (ds : List PyData) (b : Bd) : Prop := ∃ x : Int, ds = [.int x] ∧ 0 ≤ x ∧ b = .fz (Datum.toD (partOf x))
theorem fn_a_part (D : Df K mg "_law_a_part" l_a_part) : Fn P w K mg base "_law_a_part" 1 rPart := by
  refine D.fn (N := ["_law_pick"]) (ps := ["_law_pick"]) ⟨rfl, rfl, rfl, by decide +kernel, rfl, by decide +kernel, by decide +kernel⟩ (fun ds b ⟨i, h, _⟩ => by rw [h]; rfl) (fun _ _ _ _ _ _ us hl => match us, hl with | [_], _ => rfl) ?_
  rintro X c ds b ⟨x, rfl, hx, rfl⟩
  refine dss_cons (fun Γ' => Γ' = gam0 1 [.int x] ∧ ¬ x % 19 = 0) (ds_if (fun _ => True) (p := decide (x % 19 = 0)) (dt_cmp (dc_eqT (α := Int) (xa := x % 19) (ya := 0) c.hu64 (de_mod (c.dv 0).dw de_int.dw (by decide)).dw de_int.dw)) (fun z => ?_) fun z => dss_nil ⟨rfl, of_decide_eq_false z⟩) ?_
  · refine dss_one (ds_ret (d := Datum.toD (("zzzzzzzz", 999999 - x) : Part)) (de_tup (da_cons de_str (da_cons (de_sub de_int.dw (c.dv 0).dw) da_nil)) (few_le (by show 2 ≤ 10000000; decide))) ?_)
    show _ = _
    unfold partOf
    rw [if_pos (of_decide_eq_true z)]
  · rintro Γ' ⟨rfl, hn⟩
    have e1 := Int.emod_nonneg x (show (3 : Int) ≠ 0 by decide)
    have e2 := Int.emod_lt_of_pos x (show (0 : Int) < 3 by decide)
    refine dss_one (ds_ret (d := Datum.toD (((["a", "b", "acme"] : List Str).getD (x % 3).toNat "", 1 + x / 3 % 4) : Part)) (de_tup (da_cons (de_ixL (dl_lst (da_cons de_str (da_cons de_str (da_cons de_str da_nil))) (few_le (by decide))).db (de_mod (c.dv 0).dw de_int.dw (by decide)).dw (atI_at (f := Datum.toD) (xs := (["a", "b", "acme"] : List Str)) (i := (x % 3).toNat) (by omega) (by show (x % 3).toNat < 3; omega)))
      (da_cons (de_add de_int.dw (de_mod (de_fdiv (c.dv 0).dw de_int.dw ⟨by decide, by decide⟩).dw de_int.dw (by decide)).dw) da_nil)) (few_le (by show 2 ≤ 10000000; decide))) ?_)
    show _ = _
    unfold partOf
    rw [if_neg hn]
theorem fn_a_rule (D : Df K mg "_law_a_rule" l_a_rule) (f1 : Fn P w K mg base "_law_a_part" 1 rPart) : Fn P w K mg base "_law_a_rule" 2 (rARule aRule) := by
  refine D.fn (N := ["_law_picks", "_law_one", "_law_other", "_law_day", "_law_machines"]) (ps := ["_law_picks"]) ⟨rfl, rfl, rfl, by decide +kernel, rfl, by decide +kernel, by decide +kernel⟩ (fun ds b ⟨i, h, _⟩ => by rw [h]; rfl) (fun _ _ _ _ _ _ us hl => match us, hl with | [_], _ => rfl) ?_
  rintro X c ds b ⟨xs, rfl, h6, hl, hx, rfl⟩
  have nn : ∀ j, 0 ≤ nth0 xs j ∧ nth0 xs j < 1000 := fun j => by
    unfold nth0
    rw [List.getD_eq_getElem?_getD]
    cases h : xs[j]? with
    | none => exact ⟨Int.le_refl _, by decide⟩
    | some x => exact hx x (List.mem_of_getElem? h)
  have pk : ∀ {Γ : List Bd} {pos p1 : Pos} {jj : Nat} {p2 : Pos} (j : Nat), j < 6 → Γ[0]? = some (.fz (.list (xs.map PyData.int))) → DE X Γ (.Subscript (.Name "_law_picks" p1) (.Constant (.int (j : Int)) jj p2) pos) (.int (nth0 xs j)) := fun j hj h =>
    de_ixL (c.dv 0 h).db de_int.dw (atI_at (f := PyData.int) rfl (by omega))
  have md : ∀ (z m : Int), 0 < m → 0 ≤ z % m ∧ z % m < m := fun z m hm => ⟨Int.emod_nonneg _ (by omega), Int.emod_lt_of_pos _ hm⟩
  refine dss_to (c.set 1 (c.call f1 (da_cons (pk 0 (by decide) rfl) da_nil) ⟨_, rfl, (nn 0).1, rfl⟩) rfl) ?_
  refine dss_to (c.set 2 (c.call f1 (da_cons (pk 1 (by decide) rfl) da_nil) ⟨_, rfl, (nn 1).1, rfl⟩) rfl) ?_
  refine dss_to (Γ1 := [.fz (.list (xs.map PyData.int)), .fz (Datum.toD (partOf (nth0 xs 0))), .fz (Datum.toD (otherOf (partOf (nth0 xs 0)) (nth0 xs 1))), .un, .un])
    (ds_if (fun _ => True) (p := decide (partOf (nth0 xs 0) = partOf (nth0 xs 1))) (dt_cmp (dc_eqT c.hu64 (c.dv 1).dw (c.dv 2).dw)) (fun z => ?_) fun z => dss_nil ?_) ?_
  · refine dss_one (c.set 2 (de_tup (da_cons de_str (da_cons (de_add de_int.dw (de_mod (pk 1 (by decide) rfl).dw de_int.dw (by decide)).dw) da_nil)) (few_le (by show 2 ≤ 10000000; decide))) ?_)
    show _ = _
    unfold otherOf
    rw [if_pos (of_decide_eq_true z)]
    rfl
  · show _ = _
    unfold otherOf
    rw [if_neg (of_decide_eq_false z)]
    rfl
  have m7 := md (nth0 xs 4) 7 (by decide)
  have m6 := md (nth0 xs 5) 6 (by decide)
  have m3 := md (nth0 xs 2) 3 (by decide)
  refine dss_to (c.set 3 (de_ixL (dl_lst (da_cons de_int (da_cons de_int (da_cons de_int (da_cons de_int (da_cons de_int (da_cons (de_pow de_int.dw de_int.dw ⟨by decide, by decide, by decide⟩) (da_cons (pk 3 (by decide) rfl) da_nil))))))) (few_le (by show 7 ≤ 10000000; decide))).db (de_mod (pk 4 (by decide) rfl).dw de_int.dw (by decide)).dw
    (atI_at (f := PyData.int) (xs := days7 (nth0 xs 3)) (d := 0) (i := (nth0 xs 4 % 7).toNat) (by omega) (by show (nth0 xs 4 % 7).toNat < 7; omega))) rfl) ?_
  have et : ∀ {Γ : List Bd} {kk : Nat} {pos : Pos}, DE X Γ (.Tuple [] kk pos) (.tuple []) := de_tup da_nil (few_le (by decide))
  refine dss_to (c.set 4 (de_ixL (dl_lst (da_cons et (da_cons et (da_cons (de_tup (da_cons de_str da_nil) (few_le (by decide))) (da_cons (de_tup (da_cons de_str (da_cons de_str da_nil)) (few_le (by decide))) (da_cons (de_tup (da_cons de_str da_nil) (few_le (by decide))) (da_cons (de_tup (da_cons de_str (da_cons de_str da_nil)) (few_le (by decide))) da_nil)))))) (few_le (by decide))).db (de_mod (pk 5 (by decide) rfl).dw de_int.dw (by decide)).dw
    (atI_at (f := Datum.toD) (xs := machs6) (d := ⟨[]⟩) (i := (nth0 xs 5 % 6).toNat) (by omega) (by show (nth0 xs 5 % 6).toNat < 6; omega))) rfl) ?_
  exact dss_one (ds_ret (de_tup (da_cons (de_ixL (dl_lst (da_cons de_str (da_cons de_str (da_cons de_str da_nil))) (few_le (by decide))).db (de_mod (pk 2 (by decide) rfl).dw de_int.dw (by decide)).dw (atI_at (f := Datum.toD) (xs := kinds3) (d := "") (i := (nth0 xs 2 % 3).toNat) (by omega) (by show (nth0 xs 2 % 3).toNat < 3; omega)))
    (da_cons (c.dv 1) (da_cons (c.dv 2) (da_cons (c.dv 3) (da_cons (c.dv 4) da_nil))))) (few_le (by show 5 ≤ 10000000; decide))) rfl)
end
end PH

set_option Elab.async false
set_option linter.all false
set_option maxRecDepth 100000
set_option maxHeartbeats 4000000
/-! WL0: what laws have in common: cuts of the script, a book drawn. -/
namespace PH
open PySem PySem.Spec L2
open PySem.W (Datum DatumOrd Tup T3)
def cutL {α : Type} (xs : List α) (lo hi : Option Int) : List α := (xs.drop (HT.sIx xs.length 0 lo)).take (HT.sIx xs.length xs.length hi - HT.sIx xs.length 0 lo)
theorem cutD_map {α : Type} {f : α → PyData} {xs : List α} {lo hi : Option Int} : cutD (xs.map f) lo hi = (cutL xs lo hi).map f := by
  unfold cutD cutL
  rw [List.length_map, List.map_take, List.map_drop]
theorem cutL_len {α : Type} (xs : List α) (lo hi : Option Int) : (cutL xs lo hi).length ≤ xs.length := by
  unfold cutL
  rw [List.length_take, List.length_drop]
  omega
/-- a rule drawn is one that may be asked of -/
theorem drawn_rule {cell : Int} {most : Nat} {r : Rule} (h : r ∈ bookOf aRule cell most) : isRule r = true ∧ smallR r ∧ r.machs.items.length ≤ 6 ∧ (∀ m ∈ r.machs.items, isName m = true ∧ m ≠ "" ∧ m.length ≤ 8) ∧ 0 ≤ r.day := by
  obtain ⟨xs, _, hx, e⟩ := bookOf_mem h
  rw [e]; exact aRule_ok hx
theorem okBook_of {bk : List Rule} (h1 : bk.length ≤ 60) (h2 : bk.Nodup) (h3 : ∀ r ∈ bk, isRule r = true ∧ smallR r) : okBook bk := ⟨by omega, fun r hr => (h3 r hr).2, isBook_of h1 h2 fun r hr => (h3 r hr).1⟩
end PH

set_option Elab.async false
set_option linter.all false
set_option maxRecDepth 100000
set_option maxHeartbeats 4000000
/-! M35: what is in lists of books; books as they are drawn (Bk6). -/
namespace PH
open PySem PySem.Spec L2
open PySem.W (Datum DatumOrd Tup T3)
theorem srtU_same {α : Type} [DecidableEq α] [DatumOrd α] {l m : List α} (h : ∀ a, a ∈ l ↔ a ∈ m) : srt (uniq l) = srt (uniq m) := srt_eq ((List.perm_ext_iff_of_nodup (uniq_nodup _) (uniq_nodup _)).mpr fun a => by rw [mem_uniq, mem_uniq]; exact h a)
theorem machsL_mem {b : List Rule} {m : Str} : m ∈ machsL b ↔ ∃ r ∈ b, m ∈ r.machs.items := by
  unfold machsL
  rw [mem_srt, (machsD_facts b [] List.nodup_nil).2 m]
  simp
theorem partsL_mem {b : List Rule} {p : Part} : p ∈ partsL b ↔ ∃ r ∈ b, p = r.one ∨ p = r.other := by
  unfold partsL
  rw [mem_srt, (partsD_facts b [] List.nodup_nil).2 p]
  constructor
  · rintro (z | ⟨r, hr, z⟩)
    · cases z
    · exact ⟨r, hr, z⟩
  · rintro ⟨r, hr, z⟩
    exact .inr ⟨r, hr, z⟩
theorem ex_perm {α : Type} {b c : List α} (h : b.Perm c) {q : α → Prop} : (∃ r ∈ b, q r) ↔ ∃ r ∈ c, q r := ⟨fun ⟨r, h1, h2⟩ => ⟨r, h.mem_iff.mp h1, h2⟩, fun ⟨r, h1, h2⟩ => ⟨r, h.mem_iff.mpr h1, h2⟩⟩
theorem mem_partsU {b : List Rule} {p : Part} : p ∈ partsU b ↔ ∃ r ∈ b, p = r.one ∨ p = r.other := by
  unfold partsU
  rw [mem_srt, mem_uniq, List.mem_append, List.mem_map, List.mem_map]
  constructor
  · rintro (⟨r, hr, e⟩ | ⟨r, hr, e⟩)
    · exact ⟨r, hr, .inl e.symm⟩
    · exact ⟨r, hr, .inr e.symm⟩
  · rintro ⟨r, hr, e | e⟩
    · exact .inl ⟨r, hr, e.symm⟩
    · exact .inr ⟨r, hr, e.symm⟩
theorem srtN_eq {α : Type} [DecidableEq α] [DatumOrd α] {l m : List α} (h1 : l.Nodup) (h2 : m.Nodup) (h : ∀ a, a ∈ l ↔ a ∈ m) : srt l = srt m := srt_eq ((List.perm_ext_iff_of_nodup h1 h2).mpr h)
def pnames : List Str := ["a", "b", "acme", "zzzzzzzz", "new"]
theorem partOf_name (x : Int) : (partOf x).1 ∈ pnames := by
  unfold partOf
  split
  · show ("zzzzzzzz" : Str) ∈ pnames
    decide +kernel
  · have h : (x % 3).toNat = 0 ∨ (x % 3).toNat = 1 ∨ (x % 3).toNat = 2 := by omega
    rcases h with h | h | h <;> rw [h]
    · show ("a" : Str) ∈ pnames
      decide +kernel
    · show ("b" : Str) ∈ pnames
      decide +kernel
    · show ("acme" : Str) ∈ pnames
      decide +kernel
theorem otherOf_name (one : Part) (x : Int) : (otherOf one x).1 ∈ pnames := by
  unfold otherOf
  split
  · show ("new" : Str) ∈ pnames
    decide +kernel
  · exact partOf_name x
def names6 : List Str := ["m", "p", "mill"]
structure Bk6 (n : Nat) (b : List Rule) : Prop where
  len : b.length ≤ n
  nd : b.Nodup
  rl : ∀ r ∈ b, isRule r = true ∧ smallR r
  ms : ∀ r ∈ b, r.machs ∈ machs6
  dy : ∀ r ∈ b, 0 ≤ r.day
  nm : ∀ r ∈ b, r.one.1 ∈ pnames ∧ r.other.1 ∈ pnames
theorem machs6_facts : ∀ t ∈ machs6, t.items.length ≤ 2 ∧ ∀ m ∈ t.items, m ∈ names6 ∧ m ≠ "" ∧ isName m = true ∧ m.length ≤ 8 := by decide +kernel
theorem aRule_machs {xs : List Int} (hx : ∀ x ∈ xs, 0 ≤ x ∧ x < 1000) : (aRule xs).machs ∈ machs6 := by
  have a5 := nth_in hx 5
  exact getD_mem (by show _ < 6; omega)
theorem bk6_drawn (cell : Int) {most : Nat} : Bk6 most (bookOf aRule cell most) := ⟨bookOf_len _ _ _, bookOf_nodup _ _ _, fun r hr => ⟨(drawn_rule hr).1, (drawn_rule hr).2.1⟩, fun r hr => by
  obtain ⟨xs, _, hx, e⟩ := bookOf_mem hr
  rw [e]; exact aRule_machs hx, fun r hr => (drawn_rule hr).2.2.2.2, fun r hr => by
  obtain ⟨xs, _, hx, e⟩ := bookOf_mem hr
  rw [e]; exact ⟨partOf_name _, otherOf_name _ _⟩⟩
theorem Bk6.perm {n : Nat} {b c : List Rule} (h : Bk6 n b) (p : b.Perm c) : Bk6 n c := ⟨by rw [← p.length_eq]; exact h.len, p.nodup_iff.mp h.nd, fun r hr => h.rl r (p.mem_iff.mpr hr), fun r hr => h.ms r (p.mem_iff.mpr hr), fun r hr => h.dy r (p.mem_iff.mpr hr), fun r hr => h.nm r (p.mem_iff.mpr hr)⟩
section
variable {n : Nat} {b : List Rule}
theorem Bk6.okB (h : Bk6 n b) (hn : n ≤ 60) : okBook b := okBook_of (by have := h.len; omega) h.nd h.rl
theorem Bk6.ne (h : Bk6 n b) : ∀ r ∈ b, ∀ m ∈ r.machs.items, m ≠ "" := fun r hr m hm => ((machs6_facts _ (h.ms r hr)).2 m hm).2.1
theorem Bk6.m30 (h : Bk6 n b) : ∀ r ∈ b, r.machs.items.length ≤ 30 := fun r hr => by have := (machs6_facts _ (h.ms r hr)).1; omega
theorem Bk6.names (h : Bk6 n b) : ∀ m ∈ machsL b, m ∈ names6 := fun m hm => by
  obtain ⟨r, hr, z⟩ := machsL_mem.1 hm
  exact ((machs6_facts _ (h.ms r hr)).2 m z).1
theorem machsL_nodup (b : List Rule) : (machsL b).Nodup := (srt_perm _).nodup_iff.mpr (machsD_facts b [] List.nodup_nil).1
theorem partsL_nodup (b : List Rule) : (partsL b).Nodup := (srt_perm _).nodup_iff.mpr (partsD_facts b [] List.nodup_nil).1
theorem Bk6.machsLen (h : Bk6 n b) : (machsL b).length ≤ 3 := nodup_sub_length (machsL_nodup b) (m := names6) h.names
theorem partsL_len (b : List Rule) : (partsL b).length ≤ 2 * b.length := by
  have z := nodup_sub_length (partsL_nodup b) (m := b.map (·.one) ++ b.map (·.other)) fun p hp => by
    obtain ⟨r, hr, e | e⟩ := partsL_mem.1 hp
    · exact List.mem_append_left _ (List.mem_map.mpr ⟨r, hr, e.symm⟩)
    · exact List.mem_append_right _ (List.mem_map.mpr ⟨r, hr, e.symm⟩)
  rw [List.length_append, List.length_map, List.length_map] at z
  omega
theorem uniqU_len (b : List Rule) : (uniq (b.map (·.one) ++ b.map (·.other))).length ≤ 2 * b.length := by
  have z := uniq_len_le (b.map (·.one) ++ b.map (·.other))
  rw [List.length_append, List.length_map, List.length_map] at z
  omega
end
theorem Bk6.more {n n' : Nat} {b : List Rule} (h : Bk6 n b) (hn : n ≤ n') : Bk6 n' b := ⟨Nat.le_trans h.len hn, h.nd, h.rl, h.ms, h.dy, h.nm⟩
end PH

set_option Elab.async false
set_option linter.all false
set_option maxRecDepth 100000
set_option maxHeartbeats 4000000
/-! M50: clashes of a book, plain (k05). -/
namespace PH
open PySem PySem.Spec L2
open PySem.W (Datum DatumOrd Tup T3)
structure CRow where
  p : Part
  m : Str
  s : Str3
theorem daysU_lt (b : List Rule) : (daysU b).Pairwise (· < ·) := by
  have h1 : (daysU b).Pairwise (fun a b => leT a b = true) := srt_le _
  have h2 : (daysU b).Nodup := (srt_perm _).nodup_iff.mpr (uniq_nodup _)
  refine (h1.and h2).imp fun {a b} ⟨z, n⟩ => ?_
  unfold leT at z
  have z : (!decide (b < a)) = true := z
  have : ¬ b < a := by simpa using z
  have n : a ≠ b := n
  omega
theorem next_days {bk : List Rule} {m : Str} {d d' : Int} (h : ∀ r ∈ bk, (r.day ≤ d ↔ r.day ≤ d')) (p : Part) : nextP bk p m d = nextP bk p m d' := by
  have hc : cands bk p m d = cands bk p m d' := by
    unfold cands
    refine List.filter_congr fun r hr => ?_
    unfold overB
    have e : holdsR r m d = holdsR r m d' := by
      unfold holdsR
      have e : decide (r.day ≤ d) = decide (r.day ≤ d') := by
        by_cases z : r.day ≤ d
        · rw [decide_eq_true z, decide_eq_true ((h r hr).mp z)]
        · rw [decide_eq_false z, decide_eq_false fun w => z ((h r hr).mpr w)]
      rw [e]
    rw [e]
  unfold nextP
  rw [hc]
def nday (bk : List Rule) (p : Part) (m : Str) : List (Int × HP) := (daysU bk).map fun d => (d, nextP bk p m d)
theorem nday_lt (bk : List Rule) (p : Part) (m : Str) : (nday bk p m).Pairwise (fun a b => a.1 < b.1) := by
  unfold nday
  rw [List.pairwise_map]
  exact daysU_lt bk
theorem lastle : ∀ {l : List Int} {d : Int}, l.Pairwise (· < ·) → l.getLast? = some d → ∀ x ∈ l, x ≤ d := fun {l d} hp hl x hx => by
  rcases List.eq_nil_or_concat l with rfl | ⟨r, y, rfl⟩
  · cases hx
  · rw [List.concat_eq_append] at hp hl hx
    simp at hl
    subst hl
    rcases List.mem_append.mp hx with z | z
    · have := (List.pairwise_append.mp hp).2.2 x z y List.mem_cons_self
      omega
    · rw [List.mem_singleton.mp z]; exact Int.le_refl _
theorem nlast (bk : List Rule) (p : Part) (m : Str) {q : Int} (hq : 0 ≤ q) : lastP (upTo q (nday bk p m)) = some (nextP bk p m q) := by
  have e : upTo q (nday bk p m) = ((daysU bk).filter fun d => decide (d ≤ q)).map fun d => (d, nextP bk p m d) := by
    unfold upTo nday
    rw [List.filter_map]
    rfl
  have h0 : (0 : Int) ∈ (daysU bk).filter fun d => decide (d ≤ q) := List.mem_filter.mpr ⟨mem_daysU.mpr (.inl rfl), decide_eq_true hq⟩
  cases hl : ((daysU bk).filter fun d => decide (d ≤ q)).getLast? with
  | none => rw [List.getLast?_eq_none_iff] at hl; rw [hl] at h0; cases h0
  | some d0 =>
    have hle := lastle ((daysU_lt bk).sublist List.filter_sublist) hl
    have hm := List.mem_filter.mp (List.mem_of_getLast? hl)
    have hd0 : d0 ≤ q := of_decide_eq_true hm.2
    have hd : ∀ r ∈ bk, (r.day ≤ d0 ↔ r.day ≤ q) := fun r hr => ⟨fun z => by omega, fun z => hle r.day (List.mem_filter.mpr ⟨mem_daysU.mpr (.inr ⟨r, hr, rfl⟩), decide_eq_true z⟩)⟩
    rw [e]
    unfold lastP
    rw [List.getLast?_map, hl]
    show some (nextP bk p m d0) = _
    rw [next_days hd]
def strC (bk : List Rule) (p : Part) (m : Str) : List Str3 := rowsOf none (runs (nday bk p m))
def big (x : Str3) : Bool := decide (1 < x.c.length)
theorem strC_at (bk : List Rule) (p : Part) (m : Str) {q : Int} (hq : 0 ≤ q) : (((strC bk p m).filter big).filter (qIn q)).map (·.c) = List.replicate (if 1 < (nextP bk p m q).length then 1 else 0) (nextP bk p m q) := by
  have h0 : (0 : Int) ∈ daysU bk := mem_daysU.mpr (.inl rfl)
  cases hd : daysU bk with
  | nil => rw [hd] at h0; cases h0
  | cons x r =>
    have hx : x ≤ q := by
      have z := daysU_lt bk
      rw [hd] at z h0
      rcases List.mem_cons.mp h0 with h | h
      · omega
      · have := (List.pairwise_cons.mp z).1 0 h
        omega
    have he : nday bk p m = (x, nextP bk p m x) :: r.map fun d => (d, nextP bk p m d) := by unfold nday; rw [hd]; rfl
    obtain ⟨s, h1, h2⟩ := runs_at q he (nday_lt bk p m) hx
    rw [nlast bk p m hq] at h2
    have hs : nextP bk p m q = s.c := Option.some.inj h2
    have hf : ((strC bk p m).filter big).filter (qIn q) = ((strC bk p m).filter (qIn q)).filter big := by
      rw [List.filter_filter, List.filter_filter]
      exact List.filter_congr fun a _ => Bool.and_comm _ _
    rw [hf]
    unfold strC
    rw [h1, hs]
    by_cases hb : 1 < s.c.length
    · have : big s = true := decide_eq_true hb
      rw [if_pos hb, List.filter_cons, if_pos this]
      rfl
    · have : ¬ big s = true := by unfold big; rw [decide_eq_false hb]; exact Bool.false_ne_true
      rw [if_neg hb, List.filter_cons, if_neg this]
      rfl
/-! ### the law's way -/
def mkC (p : Part) (m : Str) (s : Str3) : CRow := ⟨p, m, s⟩
def cF (p : Part) (m : Str) (days : List Int) (told : List HP) (s : List CRow) (k : Nat) : List CRow :=
  if 1 < (told.getD k []).length then
    match s.getLast? with
    | some g => if g.s.c = told.getD k [] ∧ g.s.b = some (days.getD k 0 - 1) then s.dropLast ++ [⟨g.p, g.m, ⟨g.s.a, finK days (k + 1), told.getD k []⟩⟩] else s ++ [⟨p, m, ⟨days.getD k 0, finK days (k + 1), told.getD k []⟩⟩]
    | none => s ++ [⟨p, m, ⟨days.getD k 0, finK days (k + 1), told.getD k []⟩⟩]
  else s
theorem rowsOf_end (fin : Option Int) : ∀ (l : List (Int × HP)) (g : Str3), g ∈ rowsOf fin l → (∃ y ∈ l, g.b = some (y.1 - 1)) ∨ ∃ r x, l = r ++ [x] ∧ g = ⟨x.1, fin, x.2⟩
  | [], g, h => nomatch h
  | [x], g, h => .inr ⟨[], x, rfl, List.mem_singleton.mp h⟩
  | x :: y :: r, g, h => by
    rcases List.mem_cons.mp h with z | z
    · exact .inl ⟨y, List.mem_cons_of_mem _ List.mem_cons_self, by rw [z]⟩
    · rcases rowsOf_end fin (y :: r) g z with ⟨v, hv, e⟩ | ⟨r2, v, e, e2⟩
      · exact .inl ⟨v, List.mem_cons_of_mem _ hv, e⟩
      · exact .inr ⟨x :: r2, v, by rw [e]; rfl, e2⟩
theorem cF_step (p : Part) (m : Str) (days : List Int) (told : List HP) (s : List (Int × HP)) (k : Nat) (fin : Option Int) (hf : s = [] ∨ fin = some (days.getD k 0 - 1)) (hs : ∀ y ∈ s, y.1 < days.getD k 0) :
    cF p m days told (((rowsOf fin s).filter big).map (mkC p m)) k = ((rowsOf (finK days (k + 1)) (runF s (days.getD k 0, told.getD k []))).filter big).map (mkC p m) := by
  generalize hd : days.getD k 0 = d at hf hs
  generalize ho : told.getD k [] = o
  unfold cF
  rw [hd, ho]
  generalize finK days (k + 1) = last
  have bo : ∀ (a : Int) (b : Option Int), big ⟨a, b, o⟩ = decide (1 < o.length) := fun _ _ => rfl
  rcases List.eq_nil_or_concat s with rfl | ⟨r, x, rfl⟩
  · show (if 1 < o.length then _ else _) = (([(⟨d, last, o⟩ : Str3)]).filter big).map (mkC p m)
    by_cases hb : 1 < o.length
    · rw [if_pos hb, List.filter_cons, if_pos (by rw [bo]; exact decide_eq_true hb)]
      rfl
    · rw [if_neg hb, List.filter_cons, if_neg (by rw [bo, decide_eq_false hb]; exact Bool.false_ne_true)]
      rfl
  · rw [List.concat_eq_append] at hf hs ⊢
    have hfin : fin = some (d - 1) := hf.elim (fun z => absurd z (by simp)) id
    subst hfin
    obtain ⟨a, h1, h2⟩ := rowsOf_one (some (d - 1)) r x
    by_cases hc : x.2 = o
    · have er : runF (r ++ [x]) (d, o) = r ++ [x] := by
        unfold runF
        simp only [List.getLast?_append, List.getLast?_singleton, Option.or_some, Option.some_or]
        rw [if_pos hc]
      rw [er, h2 last, h1, hc, List.filter_append, List.filter_append, List.map_append, List.map_append]
      by_cases hb : 1 < o.length
      · have e1 : ∀ b, ([(⟨x.1, b, o⟩ : Str3)].filter big).map (mkC p m) = [⟨p, m, ⟨x.1, b, o⟩⟩] := fun b => by
          rw [List.filter_cons, if_pos (by rw [bo]; exact decide_eq_true hb)]; rfl
        rw [if_pos hb, e1, e1]
        simp
      · have e1 : ∀ b, ([(⟨x.1, b, o⟩ : Str3)].filter big).map (mkC p m) = [] := fun b => by
          rw [List.filter_cons, if_neg (by rw [bo, decide_eq_false hb]; exact Bool.false_ne_true)]; rfl
        rw [if_neg hb, e1, e1]
    · have er : runF (r ++ [x]) (d, o) = r ++ [x] ++ [(d, o)] := by
        unfold runF
        simp only [List.getLast?_append, List.getLast?_singleton, Option.or_some, Option.some_or]
        rw [if_neg hc]
      rw [er, rowsOf_snoc, List.filter_append, List.map_append]
      show _ = ((rowsOf (some (d - 1)) (r ++ [x])).filter big).map (mkC p m) ++ ([(⟨d, last, o⟩ : Str3)].filter big).map (mkC p m)
      by_cases hb : 1 < o.length
      · have e1 : ([(⟨d, last, o⟩ : Str3)].filter big).map (mkC p m) = [⟨p, m, ⟨d, last, o⟩⟩] := by
          rw [List.filter_cons, if_pos (by rw [bo]; exact decide_eq_true hb)]; rfl
        rw [if_pos hb, e1]
        split
        · rename_i g hg
          rw [if_neg]
          rintro ⟨z1, z2⟩
          obtain ⟨t, ht, rfl⟩ := List.mem_map.mp (List.mem_of_getLast? hg)
          rcases rowsOf_end _ _ t (List.mem_filter.mp ht).1 with ⟨y, hy, e⟩ | ⟨r2, x2, e, e2⟩
          · have z2 : t.b = some (d - 1) := z2
            rw [e] at z2
            have := hs y hy
            injection z2 with z2
            omega
          · have ex : x2 = x := by
              have := congrArg List.getLast? e
              simp at this
              exact this.symm
            have z1 : t.c = o := z1
            rw [e2, ex] at z1
            exact hc z1
        · rfl
      · have e1 : ([(⟨d, last, o⟩ : Str3)].filter big).map (mkC p m) = [] := by
          rw [List.filter_cons, if_neg (by rw [bo, decide_eq_false hb]; exact Bool.false_ne_true)]; rfl
        rw [if_neg hb, e1, List.append_nil]
theorem cF_upto (p : Part) (m : Str) (days : List Int) (told : List HP) (hl : days.length = told.length) (hp : days.Pairwise (· < ·)) : ∀ n, n ≤ days.length → (List.range n).foldl (cF p m days told) [] = ((rowsOf (finK days n) (((days.zip told).take n).foldl runF [])).filter big).map (mkC p m)
  | 0, _ => rfl
  | n + 1, h => by
    rw [List.range_succ, List.foldl_append, cF_upto p m days told hl hp n (by omega)]
    have hz : (days.zip told)[n]? = some (days.getD n 0, told.getD n []) := by
      rw [List.getElem?_zip_eq_some]
      exact ⟨by show days[n]? = some (days.getD n 0); rw [List.getD_eq_getElem?_getD, List.getElem?_eq_getElem (by omega)]; rfl, by show told[n]? = some (told.getD n []); rw [List.getD_eq_getElem?_getD, List.getElem?_eq_getElem (by omega)]; rfl⟩
    rw [List.take_add_one, hz, List.foldl_append]
    show cF p m days told _ n = ((rowsOf (finK days (n + 1)) (runF _ _)).filter big).map (mkC p m)
    refine cF_step p m days told _ n _ (.inr ?_) fun y hy => ?_
    · unfold finK
      rw [if_pos (by omega)]
    · have hy := runs_mem _ ((days.zip told).take n) rfl y hy
      obtain ⟨j, hj⟩ := List.getElem?_of_mem hy
      rw [List.getElem?_take] at hj
      by_cases hjn : j < n
      · rw [if_pos hjn, List.getElem?_zip_eq_some] at hj
        have hjl : j < days.length := by omega
        have e1 : days[j]? = some y.1 := hj.1
        rw [List.getElem?_eq_getElem hjl] at e1
        have e1 : days[j] = y.1 := Option.some.inj e1
        have e2 : days.getD n 0 = days[n] := by rw [List.getD_eq_getElem?_getD, List.getElem?_eq_getElem (by omega)]; rfl
        rw [e2, ← e1]
        exact List.pairwise_iff_getElem.mp hp j n hjl (by omega) hjn
      · rw [if_neg hjn] at hj; cases hj
theorem zip_map_self {α β : Type} (f : α → β) : ∀ l : List α, l.zip (l.map f) = l.map fun d => (d, f d)
  | [] => rfl
  | x :: l => by rw [List.map_cons, List.zip_cons_cons, zip_map_self f l]; rfl
def crows (bk : List Rule) (p : Part) (m : Str) : List CRow := ((strC bk p m).filter big).map (mkC p m)
theorem cF_all (bk : List Rule) (p : Part) (m : Str) : (List.range (daysU bk).length).foldl (cF p m (daysU bk) ((daysU bk).map fun d => nextP bk p m d)) [] = crows bk p m := by
  rw [cF_upto p m _ _ (by rw [List.length_map]) (daysU_lt bk) _ (Nat.le_refl _)]
  have e1 : finK (daysU bk) (daysU bk).length = none := by unfold finK; rw [if_neg (by omega)]
  rw [e1, List.take_of_length_le (by rw [List.length_zip]; omega), zip_map_self]
  rfl
def machsA (bk : List Rule) : List Str := "" :: machsL bk
def clashM (bk : List Rule) : List CRow := (partsL bk).flatMap fun p => (machsA bk).flatMap fun m => crows bk p m
theorem clash_same {b c : List Rule} (h : b.Perm c) : clashM b = clashM c := by
  have hm : ∀ r, r ∈ b ↔ r ∈ c := fun r => h.mem_iff
  have e1 : partsL b = partsL c := by rw [partsL_eq hm, partsL_eq fun _ => Iff.rfl]
  have e2 : machsL b = machsL c := srtN_eq (machsD_facts b [] List.nodup_nil).1 (machsD_facts c [] List.nodup_nil).1 fun a => by
    have z : a ∈ machsL b ↔ a ∈ machsL c := by rw [machsL_mem, machsL_mem]; exact ex_perm h
    unfold machsL at z
    rw [mem_srt, mem_srt] at z
    exact z
  have e3 : daysU b = daysU c := by
    unfold daysU
    refine srtU_same fun a => ?_
    rw [List.mem_append, List.mem_append, List.mem_map, List.mem_map]
    exact or_congr Iff.rfl (ex_perm h (q := fun r => r.day = a))
  have e4 : ∀ p m, crows b p m = crows c p m := fun p m => by
    unfold crows strC nday
    rw [e3]
    have : (fun d => (d, nextP b p m d)) = fun d => (d, nextP c p m d) := funext fun d => by rw [nextP_same (bk := b) (bk' := c) (m := m) (day := d) (fun r _ => hm r) p]
    rw [this]
  unfold clashM machsA
  rw [e1, e2]
  congr 1
  funext p
  congr 1
  funext m
  exact e4 p m
end PH

set_option Elab.async false
set_option linter.all false
set_option maxRecDepth 100000
set_option maxHeartbeats 4000000
/-! W2: is_rule, is_book, the needs, holds, steps, parts, machines. -/
namespace PH
open PySem PySem.Spec L2
open PySem.W (Datum DatumOrd Tup T3)
section
variable {P : Program} {w : World} {K : PySem.W.Frag} {mg : Str → Option Value} {base : Heap}
def rHolds (ds : List PyData) (b : Bd) : Prop := ∃ (r : Rule) (m : Str) (day : Int), ds = [Datum.toD r, .str m, .int day] ∧ b = .fz (.bool (holdsR r m day))
theorem fn_holds (D : Df K mg "holds" s_holds) : Fn P w K mg base "holds" 1 rHolds := by
  refine D.fn (N := ["rule", "machine", "day"]) (ps := ["rule", "machine", "day"]) ⟨rfl, rfl, rfl, by decide +kernel, rfl, by decide +kernel, by decide +kernel⟩ (fun ds b ⟨i, j, k, h, _⟩ => by rw [h]; rfl) (fun _ _ _ _ _ _ us hl => match us, hl with | [_, _, _], _ => rfl) ?_
  rintro X c ds b ⟨r, m, day, rfl, rfl⟩
  refine dss_one (ds_ret (de_and (de_cmp (dc_le (de_ixT (c.dv 0) de_int.dw (d := .int r.day) rfl).dw (c.dv 2).dw)) fun _ => de_one ?_) rfl)
  exact de_or (de_cmp (dc_eqT (xa := r.machs) (ya := ⟨[]⟩) c.hu64 (de_ixT (c.dv 0) de_int.dw (d := Datum.toD r.machs) rfl).dw (de_tup da_nil (by decide)).dw)) fun _ => de_one (de_cmp (dc_inT (α := Str) (xa := m) (ls := r.machs.items) c.hu65 (c.dv 1).dw (de_ixT (c.dv 0) de_int.dw (d := Datum.toD r.machs) rfl).dw))
end
end PH

set_option Elab.async false
set_option linter.all false
set_option maxRecDepth 100000
set_option maxHeartbeats 4000000
/-! W3d: all_days. -/
namespace PH
open PySem PySem.Spec L2
open PySem.W (Datum DatumOrd Tup T3)
section
variable {P : Program} {w : World} {K : PySem.W.Frag} {mg : Str → Option Value} {base : Heap}
def rAllDays (ds : List PyData) (b : Bd) : Prop := ∃ (bk : List Rule), ds = [Datum.toD bk] ∧ bk.length ≤ 1000 ∧ b = .ol ((daysU bk).map Datum.toD)
theorem fn_all_days (B : Blt mg) (D : Df K mg "all_days" s_all_days) : Fn P w K mg base "all_days" 1 rAllDays := by
  refine D.fn (N := ["book", "found", "rule"]) (ps := ["book"]) ⟨rfl, rfl, rfl, by decide +kernel, rfl, by decide +kernel, by decide +kernel⟩ (fun ds b ⟨i, h, _⟩ => by rw [h]; rfl) (fun _ _ _ _ _ _ us hl => match us, hl with | [_], _ => rfl) ?_
  rintro X c ds b ⟨bk, rfl, hl, rfl⟩
  rw [← daysL_eq]
  refine dss_to (c.setD 1 (dn_disp1 (κ := Int) (kk := 0) (fun a => .inl ⟨a, rfl⟩) de_int de_bool) rfl) ?_
  refine dss_to (ds_forF (fun s : List (Int × PyData) => [.fz (Datum.toD bk), .od (kvD s), .un]) daysF [((0 : Int), PyData.bool true)] (xs := bk) (g := Datum.toD) c.pass c.calm rfl (di_list (c.dv 0)) (c.tg 2) (fun i r hr => ?_) rfl) ?_
  · refine ⟨_, rfl, ?_⟩
    generalize hs : (bk.take i).foldl daysF [((0 : Int), PyData.bool true)] = s
    have hsl : s.length ≤ 1001 := by
      have z := foldl_len daysF_len (bk.take i) [((0 : Int), PyData.bool true)]
      rw [hs, List.length_take] at z
      simp only [List.length_cons, List.length_nil] at z
      omega
    refine dss_to (c.dput (κ := Int) (m := s) (kk := r.day) 1 de_bool (de_ixT (c.dv 2) de_int.dw (d := .int r.day) rfl) (by omega) rfl) ?_
    exact dss_un (i := 2) (dss_nil rfl)
  · exact dss_one (ds_retL (c.sortedD B (α := Int) (c.mv 1) (PySem.W.Sortable.others (enc := fun p : Int × PyData => Datum.toD p.1) fun b => ⟨fun z => (nomatch z), fun _ z => (nomatch z)⟩)) rfl)
end
end PH

set_option Elab.async false
set_option linter.all false
set_option maxRecDepth 100000
set_option maxHeartbeats 4000000
/-! P52: [elt for x, y, z in e]. -/
namespace PH
open PySem PySem.Spec L2
open PySem.W (Datum DatumOrd Tup)
section
variable {X : Cx} {P : Program} {w : World} {K : PySem.W.Frag} {mg : Str → Option Value} {base : Heap} {N : List Str} {sc : Scope} {k : Nat} {x1 x2 x3 : Str} {top : Bool} {Γ : List Bd}
  {e elt : Expr} {pos q1 q2 q3 tp : Pos} {kk : Nat} {α : Type} {zs : List α} {f : α → PyData} {scope : Scope} {g1 g2 g3 : α → PyData} {i l m : Nat}
theorem FnCx.lcOk3 (c : FnCx X P w K mg base N sc k top) (hb : BlkOk N sc scope [(x1, i), (x2, l), (x3, m)]) (hl1 : locB N scope i x1 = true) (hl2 : locB N scope l x2 = true) (hl3 : locB N scope m x3 = true) (inj : ∀ x y, PyData.tuple [g1 x, g2 x, g3 x] = .tuple [g1 y, g2 y, g3 y] → x = y)
    (src : DI X Γ (.Tuple [.Name x1 q1, .Name x2 q2, .Name x3 q3] kk tp) e (zs.map fun x => .tuple [g1 x, g2 x, g3 x])) (few : zs.length ≤ sizeLine) (no1 : (Γ[i]?.map Bd.own).getD false = false) (no2 : (Γ[l]?.map Bd.own).getD false = false) (no3 : (Γ[m]?.map Bd.own).getD false = false)
    (turn : ∀ X', FnCx X' P w K mg base N (relS scope sc) k false → ∀ x ∈ zs, DE X' ((((((Γ.set m .un).set l .un).set i .un).set i (.fz (g1 x))).set l (.fz (g2 x))).set m (.fz (g3 x))) elt (f x))
    (hs : ∀ X' : Cx, (assignEach [.Name x1 q1, .Name x2 q2, .Name x3 q3] X'.env).map (·.2) = assign (.Name x1 q1) X'.env :: (assignEach [.Name x2 q2, .Name x3 q3] X'.env).map (·.2) := by intro _; rfl) (hs2 : ∀ X' : Cx, (assignEach [.Name x2 q2, .Name x3 q3] X'.env).map (·.2) = assign (.Name x2 q2) X'.env :: (assignEach [.Name x3 q3] X'.env).map (·.2) := by intro _; rfl)
    (hs3 : ∀ X' : Cx, (assignEach [.Name x3 q3] X'.env).map (·.2) = assign (.Name x3 q3) X'.env :: (assignEach [] X'.env).map (·.2) := by intro _; rfl)
    (hn : ∀ X' : Cx, (assignEach [.Name x1 q1, .Name x2 q2, .Name x3 q3] X'.env).length = [i, l, m].length := by intro _; rfl) (hst : ∀ X' : Cx, (assignEach [.Name x1 q1, .Name x2 q2, .Name x3 q3] X'.env).findIdx? (·.1) = none := by intro _; rfl) :
    LcOk X Γ (.Tuple [.Name x1 q1, .Name x2 q2, .Name x3 q3] kk tp) e elt [] scope [(x1, i), (x2, l), (x3, m)] (.tp [i, l, m]) (zs.map fun x => .tuple [g1 x, g2 x, g3 x]) (fun d => ((unG (fun x => PyData.tuple [g1 x, g2 x, g3 x]) d).map fun _ => true).getD false) (fun d => ((unG (fun x => PyData.tuple [g1 x, g2 x, g3 x]) d).map f).getD .none) :=
  lcT inj src few (fun q hq bd e => by
    have : q = i ∨ q = l ∨ q = m := by simpa using hq
    rcases this with z | z | z
    · subst z; rw [e] at no1; exact no1
    · subst z; rw [e] at no2; exact no2
    · subst z; rw [e] at no3; exact no3) (fun q hq => by simpa [Pat.slots] using hq) (c.bok hb) (fun X' hX => dg_tup (by obtain ⟨s, H, C, cl, fp, rfl⟩ := hX; exact c.calm) (dgs_cons (c.own hX hl1) (dgs_cons (c.own hX hl2) (dgs_cons (c.own hX hl3) dgs_nil (hs3 X')) (hs2 X')) (hs X')) (hn X') (hst X')) fun X' hX x hx => ⟨_, rfl, dts_nil, fun _ => turn X' (c.blk hX) x hx⟩
/-- [elt for x, y, z in e] -/
theorem FnCx.lc3 (c : FnCx X P w K mg base N sc k top) (i l m : Nat) (g1 g2 g3 : α → PyData) (zs : List α) (f : α → PyData) (src : DI X Γ (.Tuple [.Name x1 q1, .Name x2 q2, .Name x3 q3] kk tp) e (zs.map fun x => .tuple [g1 x, g2 x, g3 x])) (few : zs.length ≤ sizeLine)
    (turn : ∀ X', FnCx X' P w K mg base N (relS scope sc) k false → ∀ x ∈ zs, DE X' ((((((Γ.set m .un).set l .un).set i .un).set i (.fz (g1 x))).set l (.fz (g2 x))).set m (.fz (g3 x))) elt (f x))
    (inj : ∀ x y, PyData.tuple [g1 x, g2 x, g3 x] = .tuple [g1 y, g2 y, g3 y] → x = y := by exact fun _ _ h => datum_inj h) (no1 : (Γ[i]?.map Bd.own).getD false = false := by rfl) (no2 : (Γ[l]?.map Bd.own).getD false = false := by rfl) (no3 : (Γ[m]?.map Bd.own).getD false = false := by rfl) (hb : BlkOk N sc scope [(x1, i), (x2, l), (x3, m)] := by constructor <;> first | rfl | decide +kernel) (hl1 : locB N scope i x1 = true := by decide +kernel) (hl2 : locB N scope l x2 = true := by decide +kernel) (hl3 : locB N scope m x3 = true := by decide +kernel)
    (hs : ∀ X' : Cx, (assignEach [.Name x1 q1, .Name x2 q2, .Name x3 q3] X'.env).map (·.2) = assign (.Name x1 q1) X'.env :: (assignEach [.Name x2 q2, .Name x3 q3] X'.env).map (·.2) := by intro _; rfl) (hs2 : ∀ X' : Cx, (assignEach [.Name x2 q2, .Name x3 q3] X'.env).map (·.2) = assign (.Name x2 q2) X'.env :: (assignEach [.Name x3 q3] X'.env).map (·.2) := by intro _; rfl)
    (hs3 : ∀ X' : Cx, (assignEach [.Name x3 q3] X'.env).map (·.2) = assign (.Name x3 q3) X'.env :: (assignEach [] X'.env).map (·.2) := by intro _; rfl)
    (hn : ∀ X' : Cx, (assignEach [.Name x1 q1, .Name x2 q2, .Name x3 q3] X'.env).length = [i, l, m].length := by intro _; rfl) (hst : ∀ X' : Cx, (assignEach [.Name x1 q1, .Name x2 q2, .Name x3 q3] X'.env).findIdx? (·.1) = none := by intro _; rfl) (hf : ∀ x, foldedSetIterable e X.env x = pure x := by intro _; rfl) :
    DL X Γ (.ListComp elt [⟨.Tuple [.Name x1 q1, .Name x2 q2, .Name x3 q3] kk tp, e, [], 0⟩] scope pos) (zs.map f) := by
  have z := dl_lc (pos := pos) c.calm c.nodup (c.lcOk3 hb hl1 hl2 hl3 inj src few no1 no2 no3 turn hs hs2 hs3 hn hst) hf
  rw [lcOut_map inj, List.filter_eq_self.mpr (fun _ _ => rfl)] at z
  exact z
/-- name = [elt for x, y, z in e] -/
theorem FnCx.setLc3 {nm : Str} {py p2 : Pos} {Q : Po} (c : FnCx X P w K mg base N sc k true) (n i l m : Nat) (g1 g2 g3 : α → PyData) (zs : List α) (f : α → PyData) (src : DI X Γ (.Tuple [.Name x1 q1, .Name x2 q2, .Name x3 q3] kk tp) e (zs.map fun x => .tuple [g1 x, g2 x, g3 x])) (few : zs.length ≤ sizeLine)
    (turn : ∀ X', FnCx X' P w K mg base N (relS scope sc) k false → ∀ x ∈ zs, DE X' ((((((Γ.set m .un).set l .un).set i .un).set i (.fz (g1 x))).set l (.fz (g2 x))).set m (.fz (g3 x))) elt (f x)) (hp : Q.nx (Γ.set n (.ol (zs.map f))))
    (inj : ∀ x y, PyData.tuple [g1 x, g2 x, g3 x] = .tuple [g1 y, g2 y, g3 y] → x = y := by exact fun _ _ h => datum_inj h) (no1 : (Γ[i]?.map Bd.own).getD false = false := by rfl) (no2 : (Γ[l]?.map Bd.own).getD false = false := by rfl) (no3 : (Γ[m]?.map Bd.own).getD false = false := by rfl) (hb : BlkOk N sc scope [(x1, i), (x2, l), (x3, m)] := by constructor <;> first | rfl | decide +kernel) (hl1 : locB N scope i x1 = true := by decide +kernel) (hl2 : locB N scope l x2 = true := by decide +kernel) (hl3 : locB N scope m x3 = true := by decide +kernel) (hx : locB N sc n nm = true := by decide +kernel)
    (hf : ∀ x, foldedSetIterable e X.env x = pure x := by intro _; rfl) :
    DS X Γ (.Assign [.Name nm py] (.ListComp elt [⟨.Tuple [.Name x1 q1, .Name x2 q2, .Name x3 q3] kk tp, e, [], 0⟩] scope p2) pos) Q :=
  c.setLcG n (c.lcOk3 hb hl1 hl2 hl3 inj src few no1 no2 no3 turn) (by rw [lcOut_map inj, List.filter_eq_self.mpr (fun _ _ => rfl)]) hp hx hf
end
end PH

set_option Elab.async false
set_option linter.all false
set_option maxRecDepth 100000
set_option maxHeartbeats 4000000
/-! P55 (split off WH0): the first and the last one of a list. -/
namespace PH
open PySem PySem.Spec L2
theorem atI_last {α β : Type} {xs : List α} {f : α → β} {x : α} (h : xs.getLast? = some x) : L2.atI (xs.map f) (-1) = some (f x) := by
  have hne : xs ≠ [] := fun z => by rw [z] at h; cases h
  have hl : 0 < xs.length := List.length_pos_iff.mpr hne
  unfold L2.atI L2.ixN
  rw [if_neg (by decide), if_pos (by rw [List.length_map]; omega)]
  show (xs.map f)[(-1 + ((xs.map f).length : Int)).toNat]? = _
  have e : (-1 + ((xs.map f).length : Int)).toNat = xs.length - 1 := by rw [List.length_map]; omega
  rw [e, List.getElem?_map, ← List.getLast?_eq_getElem?, h]
  rfl
theorem atI_zero {β : Type} (x : β) (xs : List β) : L2.atI (x :: xs) 0 = some x := by
  unfold L2.atI L2.ixN
  rw [if_pos (Int.le_refl _), if_pos (by rw [List.length_cons]; omega)]
  rfl
end PH

set_option Elab.async false
set_option linter.all false
set_option maxRecDepth 100000
set_option maxHeartbeats 8000000
/-! WHn (split off WH0): next_ones. -/
namespace PH
open PySem PySem.Spec L2
open PySem.W (Datum DatumOrd Tup T3)
section
variable {P : Program} {w : World} {K : PySem.W.Frag} {mg : Str → Option Value} {base : Heap}
def rNext (ds : List PyData) (b : Bd) : Prop := ∃ (bk : List Rule) (p : Part) (m : Str) (day : Int), ds = [Datum.toD bk, Datum.toD p, .str m, .int day] ∧ bk.length ≤ 60 ∧ b = .ol ((nextP bk p m day).map Datum.toD)
theorem cands_len (bk : List Rule) (p : Part) (m : Str) (day : Int) : (cands bk p m day).length ≤ bk.length := List.length_filter_le _ _
theorem newest_len (s : List Rule) : (newest s).length ≤ s.length := List.length_filter_le _ _
theorem bestR_len (s : List Rule) : (bestR s).length ≤ s.length := by
  unfold bestR
  split
  · exact newest_len s
  · exact Nat.le_trans (List.length_filter_le _ _) (newest_len s)
theorem fn_next_ones (B : Blt mg) (D : Df K mg "next_ones" s_next_ones) (f1 : Fn P w K mg base "holds" 1 rHolds) : Fn P w K mg base "next_ones" 2 rNext := by
  refine D.fn (N := ["book", "part", "machine", "day", "some", "rule", "latest", "named"]) (ps := ["book", "part", "machine", "day"]) ⟨rfl, rfl, rfl, by decide +kernel, rfl, by decide +kernel, by decide +kernel⟩ (fun ds b ⟨_, _, _, _, h, _⟩ => by rw [h]; rfl) (fun _ _ _ _ _ _ us hl => match us, hl with | [_, _, _, _], _ => rfl) ?_
  rintro X c ds b ⟨bk, p, m, day, rfl, hl, rfl⟩
  refine dss_to (c.setLcIf 4 5 (Datum.toD : Rule → PyData) bk (fun r => overB r p m day) (Datum.toD : Rule → PyData) (di_list (c.dv 0)) (few_le (by omega)) (fun X' c' r _ => ⟨DWh.dt (dh_and (dt_cmp (dc_eqT (α := Str) (xa := r.kind) (ya := "over") c'.hu64 (de_ixT (c'.dv 5) de_int.dw (d := .str r.kind) rfl).dw de_str.dw)) fun _ =>
    dh_and (dt_cmp (dc_eqT (α := Part) (xa := r.one) (ya := p) c'.hu64 (de_ixT (c'.dv 5) de_int.dw (d := Datum.toD r.one) rfl).dw (c'.dv 1).dw)) fun _ => dh_and1 (dt_of (c'.call f1 (da_cons (c'.dv 5) (da_cons (c'.dv 2) (da_cons (c'.dv 3) da_nil))) ⟨r, m, day, rfl, rfl⟩))), fun _ => c'.dv 5⟩) rfl) ?_
  have hcl := cands_len bk p m day
  have ec : (bk.filter fun r => overB r p m day) = cands bk p m day := rfl
  have en : nextP bk p m day = srt (uniq ((bestR (cands bk p m day)).map (·.other))) := rfl
  rw [ec, en]
  generalize cands bk p m day = s at hcl ⊢
  refine dss_frL (i := 4) rfl ?_
  refine dss_to (c.set 6 (d := .int (latest s)) (c.maxD B (ns := s.map (·.day)) (by
    rw [List.map_map]
    exact (c.lc 5 (Datum.toD : Rule → PyData) s (fun r => .int r.day) (di_list (c.dv 4)) (few_le (by omega)) fun X' c' r _ => de_ixT (c'.dv 5) de_int.dw (d := .int r.day) rfl).db) de_int) rfl) ?_
  refine dss_to (c.setLcIf 4 5 (Datum.toD : Rule → PyData) s (fun r => decide (r.day = latest s)) (Datum.toD : Rule → PyData) (di_list (c.dv 4)) (few_le (by omega)) (fun X' c' r _ => ⟨dt_cmp (dc_eqT (α := Int) (xa := r.day) (ya := latest s) c'.hu64 (de_ixT (c'.dv 5) de_int.dw (d := .int r.day) rfl).dw (c'.dv 6).dw), fun _ => c'.dv 5⟩) rfl) ?_
  have ew : (s.filter fun r => decide (r.day = latest s)) = newest s := rfl
  rw [ew]
  have hnl := newest_len s
  have hbl := bestR_len s
  have eb : bestR s = if (newest s).filter namedR = [] then newest s else (newest s).filter namedR := rfl
  rw [eb] at hbl ⊢
  generalize newest s = t at hnl hbl ⊢
  refine dss_frL (i := 4) rfl ?_
  refine dss_to (c.setLcIf 7 5 (Datum.toD : Rule → PyData) t namedR (Datum.toD : Rule → PyData) (di_list (c.dv 4)) (few_le (by omega)) (fun X' c' r _ => ⟨dt_cmp (dc_neT (α := Tup Str) (xa := r.machs) (ya := ⟨[]⟩) c'.hu64 (de_ixT (c'.dv 5) de_int.dw (d := Datum.toD r.machs) rfl).dw (de_tup da_nil (few_le (by decide))).dw), fun _ => c'.dv 5⟩) rfl) ?_
  refine dss_frL (i := 7) rfl ?_
  generalize hu : t.filter namedR = u at hbl ⊢
  refine dss_to (Γ1 := [.fz (Datum.toD bk), .fz (Datum.toD p), .fz (.str m), .fz (.int day), .fz (.list ((if u = [] then t else u).map Datum.toD)), .un, .fz (.int (latest s)), .fz (.list (u.map Datum.toD))]) (ds_if (fun _ => True) (p := !decide (u = [])) (dt_cmp (dc_neT (α := List Rule) (xa := u) (ya := []) c.hu64 (c.dv 7).dw (dl_lst da_nil (few_le (by decide))).dw)) (fun z => dss_one (c.set 4 (c.dv 7) ?_)) fun z => dss_nil ?_) ?_
  · show _ = _
    rw [if_neg (by simpa using z)]; rfl
  · show _ = _
    rw [if_pos (by simpa using z)]; rfl
  generalize (if u = [] then t else u) = v at hbl ⊢
  have hul := uniq_len_le (v.map (·.other))
  rw [List.length_map] at hul
  refine dss_one (ds_retL (c.sortedSet B (α := Part) (bs := v.map (·.other)) ?_ (PySem.W.Sortable.tuples (enc := fun p : Part => Datum.toD p) fun b => ⟨_, _, rfl⟩) (by rw [List.length_map]; omega) (by omega)) rfl)
  rw [List.map_map]
  exact (c.lc 5 (Datum.toD : Rule → PyData) v (fun r => Datum.toD r.other) (di_list (c.dv 4)) (few_le (by omega)) fun X' c' r _ => de_ixT (c'.dv 5) de_int.dw (d := Datum.toD r.other) rfl).db
end
end PH

set_option Elab.async false
set_option linter.all false
set_option maxRecDepth 100000
set_option maxHeartbeats 8000000
/-! W5s: stretches of next ones (printed by gen_runs.py from W6s). -/
namespace PH
open PySem PySem.Spec L2
open PySem.W (Datum DatumOrd Tup T3)
section
variable {P : Program} {w : World} {K : PySem.W.Frag} {mg : Str → Option Value} {base : Heap}
def rStretch (ds : List PyData) (b : Bd) : Prop := ∃ (days : List Int) (told : List HP), ds = [Datum.toD days, Datum.toD told] ∧ days.length = told.length ∧ days.length ≤ 1000 ∧ b = .ol ((rowsOf none (runs (days.zip told))).map Datum.toD)
theorem strF_len (days : List Int) (told : List HP) (s : List Str3) (k : Nat) : (strF days told s k).length ≤ s.length + 1 := by
  unfold strF
  dsimp only
  split
  · split
    · rw [List.length_append, List.length_dropLast]
      simp only [List.length_cons, List.length_nil]
      omega
    · rw [List.length_append]; exact Nat.le_refl _
  · rw [List.length_append]; exact Nat.le_refl _
theorem fn_stretches (B : Blt mg) (D : Df K mg "stretches" s_stretches) : Fn P w K mg base "stretches" 1 rStretch := by
  refine D.fn (N := ["days", "told", "found", "k", "day", "last"]) (ps := ["days", "told"]) ⟨rfl, rfl, rfl, by decide +kernel, rfl, by decide +kernel, by decide +kernel⟩ (fun ds b ⟨_, _, h, _⟩ => by rw [h]; rfl) (fun _ _ _ _ _ _ us hl => match us, hl with | [_, _], _ => rfl) ?_
  rintro X c ds b ⟨days, told, rfl, hl, hz, rfl⟩
  rw [← str_all days told hl]
  refine dss_to (c.setL 2 (dl_lst da_nil (few_le (by decide))) rfl) ?_
  refine dss_to (ds_forF (fun s : List Str3 => [.fz (Datum.toD days), .fz (Datum.toD told), .ol (s.map Datum.toD), .un, .un, .un]) (fun s x => strF days told s x.2) [] (xs := days.zipIdx) (g := fun x : Int × Nat => PyData.tuple [.int (x.2 : Nat), Datum.toD x.1]) c.pass c.calm rfl (c.enumL B Datum.toD days (c.dv 0)) (c.tg2 3 4) (fun i x hx => ⟨_, rfl, ?_⟩) rfl) ?_
  · obtain ⟨day, k⟩ := x
    have hk : days[k]? = some day := by
      have z := hx
      rw [List.getElem?_zipIdx] at z
      obtain ⟨d, h1, h2⟩ := Option.map_eq_some_iff.mp z
      injection h2 with h3 h4
      rw [← h3, ← h4, Nat.zero_add]; exact h1
    have hkl : k < days.length := (List.getElem?_eq_some_iff.mp hk).1
    have hkd : days.getD k 0 = day := by rw [List.getD_eq_getElem?_getD, hk]; rfl
    have hsl := foldl_len (f := fun (s : List Str3) (x : Int × Nat) => strF days told s x.2) (c := 1) (fun s x => strF_len days told s x.2) (days.zipIdx.take i) []
    rw [List.length_nil, List.length_take, List.length_zipIdx] at hsl
    generalize (days.zipIdx.take i).foldl (fun (s : List Str3) (x : Int × Nat) => strF days told s x.2) [] = st at hsl ⊢
    refine dss_to (c.set 5 de_none rfl) ?_
    refine dss_to (Γ1 := [.fz (Datum.toD days), .fz (Datum.toD told), .ol (st.map Datum.toD), .fz (.int (k : Nat)), .fz (Datum.toD day), .fz (Datum.toD (finK days (k + 1)))]) (ds_if (fun _ => True) (p := decide (((k : Int) + 1) < (days.length : Int))) (dt_cmp (dc_lt (de_add (c.dv 3).dw de_int.dw).dw (c.len B (c.dv 0).dw (n := days.length) (by show some _ = _; rw [List.length_map])).dw)) (fun z => ?_) fun z => dss_nil ?_) ?_
    · have hz1 : k + 1 < days.length := by have := of_decide_eq_true z; omega
      have e : finK days (k + 1) = some (days.getD (k + 1) 0 - 1) := by unfold finK; rw [if_pos hz1]
      rw [e]
      exact dss_one (c.set 5 (d := .int (days.getD (k + 1) 0 - 1)) (de_sub (de_ixL (c.dv 0).db (de_add (c.dv 3).dw de_int.dw).dw (atI_at (f := Datum.toD) (xs := days) (d := 0) (i := k + 1) (by omega) hz1)).dw de_int.dw) rfl)
    · show _ = _
      have hz1 : ¬ k + 1 < days.length := by have := of_decide_eq_false z; omega
      have e : finK days (k + 1) = none := by unfold finK; rw [if_neg hz1]
      rw [e]
      rfl
    have tk : ∀ {Γ : List Bd} {q1 q2 q3 : Pos}, Γ[1]? = some (.fz (Datum.toD told)) → Γ[3]? = some (.fz (.int (k : Nat))) → DE X Γ (.Subscript (.Name "told" q1) (.Name "k" q2) q3) (Datum.toD (told.getD k ([] : List Part))) := fun h1 h3 => de_ixL (c.dv 1 h1).db (c.dv 3 h3).dw (atI_at (f := Datum.toD) (xs := told) (d := ([] : List Part)) (i := k) rfl (by omega))
    refine dss_to (Γ1 := [.fz (Datum.toD days), .fz (Datum.toD told), .ol ((strF days told st k).map Datum.toD), .fz (.int (k : Nat)), .fz (Datum.toD day), .fz (Datum.toD (finK days (k + 1)))]) ?_ (dss_un (i := 3) (dss_un (i := 4) (dss_un (i := 5) (dss_nil rfl))))
    cases hg : st.getLast? with
    | none =>
      have hs0 : st = [] := List.getLast?_eq_none_iff.mp hg
      subst hs0
      refine ds_if (fun _ => True) (p := !decide (([] : List Str3) = []) && true) (DWh.dt (dh_and (dt_cmp (dc_neT (α := List Str3) (xa := []) (ya := []) c.hu64 (c.bv 2).dw (DL.dw (dl_lst da_nil (few_le (by decide)))))) fun z => by simp at z)) (fun z => by simp at z) fun z => ?_
      refine dss_one (c.append (xs := []) 2 (d := Datum.toD (⟨day, finK days (k + 1), told.getD k ([] : List Part)⟩ : Str3)) (de_tup (da_cons (c.dv 4) (da_cons (c.dv 5) (da_cons (tk rfl rfl) da_nil))) (few_le (by show 3 ≤ 10000000; decide))) (few_lt (by show 0 ≤ 10000000; decide)) ?_)
      show _ = _
      unfold strF
      rw [hkd]
      rfl
    | some g =>
      have hne : st ≠ [] := fun z => by rw [z] at hg; cases hg
      have lst : ∀ {Γ : List Bd} {q1 q2 q3 q4 : Pos} {j1 : Nat}, Γ[2]? = some (.ol (st.map Datum.toD)) → DE X Γ (.Subscript (.Name "found" q1) (.UnaryOp .USub (.Constant (.int 1) j1 q2) q3) q4) (Datum.toD g) := fun h => de_ixL (c.bv 2 h) (de_neg (un := un_neg) de_int.dw).dw (atI_last hg)
      refine ds_if (fun _ => True) (p := !decide (st = []) && decide (g.c = told.getD k ([] : List Part))) (DWh.dt (dh_and (dt_cmp (dc_neT (α := List Str3) (xa := st) (ya := []) c.hu64 (c.bv 2).dw (DL.dw (dl_lst da_nil (few_le (by decide)))))) fun _ => dh_and1 (dt_cmp (dc_eqT (α := HP) (xa := g.c) (ya := told.getD k ([] : List Part)) c.hu64 (de_ixT (lst rfl) de_int.dw (d := Datum.toD g.c) rfl).dw (tk rfl rfl).dw)))) (fun z => ?_) fun z => ?_
      · rw [Bool.and_eq_true] at z
        have hc : g.c = told.getD k ([] : List Part) := of_decide_eq_true z.2
        have hlen : 0 < st.length := List.length_pos_iff.mpr hne
        refine dss_one (ds_setitem (n := 2) (m := st.length - 1) (d := Datum.toD (⟨g.a, finK days (k + 1), told.getD k ([] : List Part)⟩ : Str3)) (c.var (by decide +kernel)) rfl (de_tup (da_cons (de_ixT (lst rfl) de_int.dw (d := .int g.a) rfl) (da_cons (c.dv 5) (da_cons (tk rfl rfl) da_nil))) (few_le (by show 3 ≤ 10000000; decide))) (de_neg (un := un_neg) de_int.dw).dw (by
          unfold L2.ixN
          rw [List.length_map, if_neg (by decide), if_pos (by omega)]
          congr 1; omega) ?_)
        show _ = _
        have e : strF days told st k = st.dropLast ++ [⟨g.a, finK days (k + 1), told.getD k ([] : List Part)⟩] := by
          unfold strF
          rw [hg]
          show (if g.c = told.getD k ([] : List Part) then _ else _) = _
          rw [if_pos hc]
          rfl
        have e2 : (st.map (Datum.toD : Str3 → PyData)).set (st.length - 1) (Datum.toD (⟨g.a, finK days (k + 1), told.getD k ([] : List Part)⟩ : Str3)) = (st.dropLast ++ [(⟨g.a, finK days (k + 1), told.getD k ([] : List Part)⟩ : Str3)]).map Datum.toD := by
          rcases List.eq_nil_or_concat st with h | ⟨r, y, h⟩
          · exact absurd h hne
          · rw [h, List.concat_eq_append]
            simp
        rw [e, ← e2]
        rfl
      · have hd2 : decide (st = []) = false := decide_eq_false hne
        rw [hd2] at z
        have hc : ¬ g.c = told.getD k ([] : List Part) := by
          intro h
          rw [decide_eq_true h] at z
          cases z
        refine dss_one (c.append (xs := st.map Datum.toD) 2 (d := Datum.toD (⟨day, finK days (k + 1), told.getD k ([] : List Part)⟩ : Str3)) (de_tup (da_cons (c.dv 4) (da_cons (c.dv 5) (da_cons (tk rfl rfl) da_nil))) (few_le (by show 3 ≤ 10000000; decide))) (few_lt (by rw [List.length_map]; omega)) ?_)
        show _ = _
        have e : strF days told st k = st ++ [⟨day, finK days (k + 1), told.getD k ([] : List Part)⟩] := by
          unfold strF
          rw [hg, hkd]
          show (if g.c = told.getD k ([] : List Part) then _ else _) = _
          rw [if_neg hc]
          rfl
        rw [e, List.map_append]
        rfl
  · have e : days.zipIdx.foldl (fun (s : List Str3) (x : Int × Nat) => strF days told s x.2) [] = (List.range days.length).foldl (strF days told) [] := by
      have z : ∀ (l : List (Int × Nat)) (s : List Str3), l.foldl (fun (s : List Str3) (x : Int × Nat) => strF days told s x.2) s = (l.map (·.2)).foldl (strF days told) s := fun l => by
        induction l with
        | nil => intro s; rfl
        | cons x l ih => intro s; exact ih _
      rw [z]
      congr 1
      rw [List.zipIdx_map_snd]
      exact (List.range_eq_range' ..).symm
    rw [e]
    exact dss_one (c.retO 2 rfl)
end
end PH

set_option Elab.async false
set_option linter.all false
set_option maxRecDepth 100000
set_option maxHeartbeats 4000000
/-! W3: steps, parts, machines. -/
namespace PH
open PySem PySem.Spec L2
open PySem.W (Datum DatumOrd Tup T3)
section
variable {P : Program} {w : World} {K : PySem.W.Frag} {mg : Str → Option Value} {base : Heap}
def rAllParts (ds : List PyData) (b : Bd) : Prop := ∃ (bk : List Rule), ds = [Datum.toD bk] ∧ bk.length ≤ 1000 ∧ b = .ol ((partsL bk).map Datum.toD)
theorem fn_all_parts (B : Blt mg) (D : Df K mg "all_parts" s_all_parts) : Fn P w K mg base "all_parts" 1 rAllParts := by
  refine D.fn (N := ["book", "found", "rule"]) (ps := ["book"]) ⟨rfl, rfl, rfl, by decide +kernel, rfl, by decide +kernel, by decide +kernel⟩ (fun ds b ⟨i, h, _⟩ => by rw [h]; rfl) (fun _ _ _ _ _ _ us hl => match us, hl with | [_], _ => rfl) ?_
  rintro X c ds b ⟨bk, rfl, hl, rfl⟩
  refine dss_to (c.setD 1 dn_new rfl) ?_
  refine dss_to (ds_forF (fun s : List (Part × PyData) => [.fz (Datum.toD bk), .od (kvD s), .un]) partsF [] (xs := bk) (g := Datum.toD) c.pass c.calm rfl (di_list (c.dv 0)) (c.tg 2) (fun i r hr => ?_) rfl) ?_
  · refine ⟨_, rfl, ?_⟩
    generalize hs : (bk.take i).foldl partsF [] = s
    have hsl : s.length ≤ 2000 := by
      have z := foldl_len partsF_len (bk.take i) []
      rw [hs, List.length_nil, List.length_take] at z
      omega
    refine dss_to (c.dput (κ := Part) (m := s) (kk := r.one) 1 de_bool (de_ixT (c.dv 2) de_int.dw (d := Datum.toD r.one) rfl) (by omega) rfl) ?_
    refine dss_to (c.dput (κ := Part) (m := putM s r.one (.bool true)) (kk := r.other) 1 de_bool (de_ixT (c.dv 2) de_int.dw (d := Datum.toD r.other) rfl) ?_ rfl) ?_
    · have := putM_len s r.one (PyData.bool true)
      omega
    · exact dss_un (i := 2) (dss_nil rfl)
  · exact dss_one (ds_retL (c.sortedD B (α := Part) (c.mv 1) (PySem.W.Sortable.tuples (enc := fun p : Part × PyData => Datum.toD p.1) fun b => ⟨_, _, rfl⟩)) rfl)
end
end PH

set_option Elab.async false
set_option linter.all false
set_option maxRecDepth 100000
set_option maxHeartbeats 4000000
/-! M36 (split off W3m): how many machines. -/
namespace PH
open PySem PySem.Spec L2
open PySem.W (Datum DatumOrd Tup T3)
theorem machsF_len (f : List (Str × PyData)) (r : Rule) (h : r.machs.items.length ≤ 30) : (machsF f r).length ≤ f.length + 30 := by
  have z := foldl_len machF_len r.machs.items f
  unfold machsF
  omega
theorem machs_len : ∀ (bk : List Rule) (f : List (Str × PyData)), (∀ r ∈ bk, r.machs.items.length ≤ 30) → (bk.foldl machsF f).length ≤ f.length + 30 * bk.length
  | [], f, _ => by simp
  | r :: bk, f, h => by
    rw [List.foldl_cons, List.length_cons]
    have h1 := machs_len bk (machsF f r) fun x hx => h x (List.mem_cons_of_mem _ hx)
    have h2 := machsF_len f r (h r List.mem_cons_self)
    rw [Nat.mul_succ]
    omega
end PH

set_option Elab.async false
set_option linter.all false
set_option maxRecDepth 100000
set_option maxHeartbeats 4000000
/-! W3: steps, parts, machines. -/
namespace PH
open PySem PySem.Spec L2
open PySem.W (Datum DatumOrd Tup T3)
section
variable {P : Program} {w : World} {K : PySem.W.Frag} {mg : Str → Option Value} {base : Heap}
def rAllMachines (ds : List PyData) (b : Bd) : Prop := ∃ (bk : List Rule), ds = [Datum.toD bk] ∧ bk.length ≤ 100 ∧ (∀ r ∈ bk, r.machs.items.length ≤ 30) ∧ b = .ol ((machsL bk).map Datum.toD)
theorem fn_all_machines (B : Blt mg) (D : Df K mg "all_machines" s_all_machines) : Fn P w K mg base "all_machines" 1 rAllMachines := by
  refine D.fn (N := ["book", "found", "rule", "name"]) (ps := ["book"]) ⟨rfl, rfl, rfl, by decide +kernel, rfl, by decide +kernel, by decide +kernel⟩ (fun ds b ⟨i, h, _⟩ => by rw [h]; rfl) (fun _ _ _ _ _ _ us hl => match us, hl with | [_], _ => rfl) ?_
  rintro X c ds b ⟨bk, rfl, hl, hm, rfl⟩
  refine dss_to (c.setD 1 dn_new rfl) ?_
  refine dss_to (ds_forF (fun s : List (Str × PyData) => [.fz (Datum.toD bk), .od (kvD s), .un, .un]) machsF [] (xs := bk) (g := Datum.toD) c.pass c.calm rfl (di_list (c.dv 0)) (c.tg 2) (fun i r hr => ?_) rfl) ?_
  · refine ⟨_, rfl, ?_⟩
    generalize hs : (bk.take i).foldl machsF [] = s
    have hrm := hm r (List.mem_of_getElem? hr)
    have hsl : s.length ≤ 3000 := by
      have z := machs_len (bk.take i) [] fun x hx => hm x (List.mem_of_mem_take hx)
      rw [hs, List.length_nil, List.length_take] at z
      omega
    refine dss_to (ds_forF (fun s2 : List (Str × PyData) => [.fz (Datum.toD bk), .od (kvD s2), .fz (Datum.toD r), .un]) machF s (xs := r.machs.items) (g := Datum.toD) c.pass c.calm rfl (di_tup (de_ixT (c.dv 2) de_int.dw (d := Datum.toD r.machs) rfl)) (c.tg 3) (fun j y hy => ?_) rfl) ?_
    · refine ⟨_, rfl, ?_⟩
      generalize hs2 : (r.machs.items.take j).foldl machF s = s2
      have hsl2 : s2.length ≤ 3030 := by
        have z := foldl_len machF_len (r.machs.items.take j) s
        rw [hs2, List.length_take] at z
        omega
      refine dss_to (c.dput (κ := Str) (m := s2) (kk := y) 1 de_bool (c.dv 3) (by omega) rfl) ?_
      exact dss_un (i := 3) (dss_nil rfl)
    · exact dss_un (i := 2) (dss_nil rfl)
  · exact dss_one (ds_retL (c.sortedD B (α := Str) (c.mv 1) (PySem.W.Sortable.others (enc := fun p : Str × PyData => Datum.toD p.1) fun b => ⟨fun z => (nomatch z), fun _ z => (nomatch z)⟩)) rfl)
end
end PH

set_option Elab.async false
set_option linter.all false
set_option maxRecDepth 100000
set_option maxHeartbeats 8000000
/-! W5c: clashes. -/
namespace PH
open PySem PySem.Spec L2
open PySem.W (Datum DatumOrd Tup T3)
def crowD (u : CRow) : PyData := .tuple [Datum.toD u.p, .str u.m, .int u.s.a, Datum.toD u.s.b, .list (u.s.c.map Datum.toD)]
def ccF (p : Part) (m : Str) (acc : List CRow) (s : Str3) : List CRow := if big s = true then acc ++ [mkC p m s] else acc
theorem ccF_all (p : Part) (m : Str) : ∀ (xs : List Str3) (acc : List CRow), xs.foldl (ccF p m) acc = acc ++ (xs.filter big).map (mkC p m)
  | [], acc => by simp
  | s :: xs, acc => by
    rw [List.foldl_cons, ccF_all p m xs]
    unfold ccF
    by_cases h : big s = true
    · simp [h]
    · simp [h]
theorem foldl_flat {α β : Type} (g : α → List β) : ∀ (xs : List α) (acc : List β), xs.foldl (fun a x => a ++ g x) acc = acc ++ xs.flatMap g
  | [], acc => by simp
  | x :: xs, acc => by rw [List.foldl_cons, foldl_flat g xs, List.flatMap_cons, List.append_assoc]
theorem rowsOf_len (fin : Option Int) : ∀ r : List (Int × HP), (rowsOf fin r).length = r.length
  | [] => rfl
  | [x] => rfl
  | x :: y :: r => by show (rowsOf fin (y :: r)).length + 1 = _; rw [rowsOf_len fin (y :: r)]; rfl
theorem runF_len (s : List (Int × HP)) (x : Int × HP) : (runF s x).length ≤ s.length + 1 := by
  unfold runF
  split
  · split
    · omega
    · rw [List.length_append]; exact Nat.le_refl _
  · rw [List.length_append]; exact Nat.le_refl _
theorem strC_len (bk : List Rule) (p : Part) (m : Str) : (strC bk p m).length ≤ bk.length + 1 := by
  unfold strC
  rw [rowsOf_len]
  have z := foldl_len runF_len (nday bk p m) []
  unfold runs
  have e : (nday bk p m).length = (daysU bk).length := List.length_map _
  have d := daysU_len bk
  rw [List.length_nil, e] at z
  omega
theorem crows_len (bk : List Rule) (p : Part) (m : Str) : (crows bk p m).length ≤ bk.length + 1 := by
  unfold crows
  rw [List.length_map]
  exact Nat.le_trans (List.length_filter_le _ _) (strC_len bk p m)
theorem flat_len {α β : Type} {g : α → List β} {c : Nat} (h : ∀ x, (g x).length ≤ c) : ∀ xs : List α, (xs.flatMap g).length ≤ c * xs.length
  | [] => by simp
  | x :: xs => by
    rw [List.flatMap_cons, List.length_append, List.length_cons, Nat.mul_succ]
    have := h x
    have := flat_len h xs
    omega
structure Ok5 (bk : List Rule) : Prop where
  l : bk.length ≤ 60
  m : ∀ r ∈ bk, r.machs.items.length ≤ 30
  o : okBook bk
  ml : (machsL bk).length ≤ 63
theorem clash_len {bk : List Rule} (O : Ok5 bk) : (clashM bk).length ≤ 61 * 64 * 120 := by
  have h1 : ∀ p m, (crows bk p m).length ≤ 61 := fun p m => by have := crows_len bk p m; have := O.l; omega
  have h2 : ∀ p, ((machsA bk).flatMap fun m => crows bk p m).length ≤ 61 * 64 := fun p => by
    have z := flat_len (h1 p) (machsA bk)
    have e : (machsA bk).length ≤ 64 := by unfold machsA; rw [List.length_cons]; have := O.ml; omega
    exact Nat.le_trans z (Nat.mul_le_mul_left _ e)
  have z := flat_len h2 (partsL bk)
  have e : (partsL bk).length ≤ 120 := by have := partsL_len bk; have := O.l; omega
  exact Nat.le_trans z (Nat.mul_le_mul_left _ e)
section
variable {P : Program} {w : World} {K : PySem.W.Frag} {mg : Str → Option Value} {base : Heap}
theorem FnCx.tgT {X : Cx} {N : List Str} {sc : Scope} {k kk : Nat} {x1 x2 x3 : Str} {pa pb pc pos : Pos} (c : FnCx X P w K mg base N sc k true) (i1 i2 i3 : Nat) (h1 : locB N sc i1 x1 = true := by decide +kernel) (h2 : locB N sc i2 x2 = true := by decide +kernel) (h3 : locB N sc i3 x3 = true := by decide +kernel)
    (hs2 : (assignEach [.Name x1 pa, .Name x2 pb, .Name x3 pc] X.env).map (·.2) = assign (.Name x1 pa) X.env :: (assignEach [.Name x2 pb, .Name x3 pc] X.env).map (·.2) := by rfl)
    (hs3 : (assignEach [.Name x2 pb, .Name x3 pc] X.env).map (·.2) = assign (.Name x2 pb) X.env :: (assignEach [.Name x3 pc] X.env).map (·.2) := by rfl)
    (hs4 : (assignEach [.Name x3 pc] X.env).map (·.2) = assign (.Name x3 pc) X.env :: (assignEach [] X.env).map (·.2) := by rfl)
    (hn : (assignEach [.Name x1 pa, .Name x2 pb, .Name x3 pc] X.env).length = [i1, i2, i3].length := by rfl) (hst : (assignEach [.Name x1 pa, .Name x2 pb, .Name x3 pc] X.env).findIdx? (·.1) = none := by rfl) :
    DG X (.Tuple [.Name x1 pa, .Name x2 pb, .Name x3 pc] kk pos) (.tp [i1, i2, i3]) := dg_tup c.calm (dgs_cons (c.store h1) (dgs_cons (c.store h2) (dgs_cons (c.store h3) dgs_nil hs4) hs3) hs2) hn hst
def rClash (ds : List PyData) (b : Bd) : Prop := ∃ (bk : List Rule), ds = [Datum.toD bk] ∧ Ok5 bk ∧ b = .ol ((clashM bk).map crowD)
theorem fn_clashes (B : Blt mg) (D : Df K mg "clashes" s_clashes) (f1 : Fn P w K mg base "need_book" 6 rNeedBook) (f2 : Fn P w K mg base "all_days" 1 rAllDays) (f3 : Fn P w K mg base "all_parts" 1 rAllParts) (f4 : Fn P w K mg base "all_machines" 1 rAllMachines) (f5 : Fn P w K mg base "next_ones" 2 rNext) (f6 : Fn P w K mg base "stretches" 1 rStretch) : Fn P w K mg base "clashes" 7 rClash := by
  refine D.fn (N := ["book", "days", "found", "part", "machine", "told", "first", "last", "others", "day"]) (ps := ["book"]) ⟨rfl, rfl, rfl, by decide +kernel, rfl, by decide +kernel, by decide +kernel⟩ (fun ds b ⟨_, h, _⟩ => by rw [h]; rfl) (fun _ _ _ _ _ _ us hl => match us, hl with | [_], _ => rfl) ?_
  rintro X c ds b ⟨bk, rfl, O, rfl⟩
  have ol := O.l
  have oml := O.ml
  refine dss_to (ds_drop (c.call f1 (da_cons (c.dv 0) da_nil) ⟨bk, rfl, O.o, rfl⟩) rfl) ?_
  have hdl := daysU_len bk
  refine dss_to (c.setL 1 (c.callL f2 (da_cons (c.dv 0) da_nil) ⟨bk, rfl, by omega, rfl⟩) rfl) ?_
  refine dss_frL (i := 1) rfl ?_
  refine dss_to (c.setL 2 (dl_lst da_nil (few_le (by decide))) rfl) ?_
  have hpl := partsL_len bk
  have h1 : ∀ p m, (crows bk p m).length ≤ 61 := fun p m => by have := crows_len bk p m; omega
  have hma : (machsA bk).length ≤ 64 := by unfold machsA; rw [List.length_cons]; omega
  have h2 : ∀ p, ((machsA bk).flatMap fun m => crows bk p m).length ≤ 61 * 64 := fun p => Nat.le_trans (flat_len (h1 p) (machsA bk)) (Nat.mul_le_mul_left _ hma)
  have eC : (partsL bk).foldl (fun (acc : List CRow) p => acc ++ (machsA bk).flatMap fun m => crows bk p m) [] = clashM bk := by rw [foldl_flat, List.nil_append]; rfl
  rw [← eC]
  refine dss_to (ds_forF (fun acc : List CRow => [.fz (Datum.toD bk), .fz (.list ((daysU bk).map Datum.toD)), .ol (acc.map crowD), .un, .un, .un, .un, .un, .un, .un]) (fun (acc : List CRow) p => acc ++ (machsA bk).flatMap fun m => crows bk p m) [] (xs := partsL bk) (g := (Datum.toD : Part → PyData)) c.pass c.calm rfl (di_list (DL.de (c.callL f3 (da_cons (c.dv 0) da_nil) ⟨bk, rfl, by omega, rfl⟩))) (c.tg 3) (fun i p hi => ⟨_, rfl, ?_⟩) rfl) (dss_one (c.retO 2 rfl))
  have hacc2 : (((partsL bk).take i).foldl (fun (acc : List CRow) p => acc ++ (machsA bk).flatMap fun m => crows bk p m) []).length ≤ 61 * 64 * 120 := by
    rw [foldl_flat, List.nil_append]
    refine Nat.le_trans (flat_len h2 _) (Nat.mul_le_mul_left _ ?_)
    rw [List.length_take]; omega
  generalize ((partsL bk).take i).foldl (fun (acc : List CRow) p => acc ++ (machsA bk).flatMap fun m => crows bk p m) [] = acc0 at hacc2 ⊢
  have eM : (machsA bk).foldl (fun (acc : List CRow) m => acc ++ crows bk p m) acc0 = acc0 ++ (machsA bk).flatMap fun m => crows bk p m := foldl_flat _ _ _
  rw [← eM]
  refine dss_to (ds_forF (fun acc : List CRow => [.fz (Datum.toD bk), .fz (.list ((daysU bk).map Datum.toD)), .ol (acc.map crowD), .fz (Datum.toD p), .un, .un, .un, .un, .un, .un]) (fun (acc : List CRow) m => acc ++ crows bk p m) acc0 (xs := machsA bk) (g := (Datum.toD : Str → PyData)) c.pass c.calm rfl (di_list (DL.de (dl_cat (dl_lst (da_cons de_str da_nil) (few_le (by decide))).db (c.callL f4 (da_cons (c.dv 0) da_nil) ⟨bk, rfl, by omega, O.m, rfl⟩).db (few_le (by rw [List.length_map]; show 1 + _ ≤ _; omega))))) (c.tg 4) (fun j m hj => ⟨_, rfl, ?_⟩) rfl) (dss_un (i := 3) (dss_nil rfl))
  have hacc3 : (((machsA bk).take j).foldl (fun (acc : List CRow) m => acc ++ crows bk p m) acc0).length ≤ 480000 := by
    rw [foldl_flat, List.length_append]
    have z := Nat.le_trans (flat_len (h1 p) ((machsA bk).take j)) (Nat.mul_le_mul_left 61 (show ((machsA bk).take j).length ≤ 64 by rw [List.length_take]; omega))
    omega
  generalize ((machsA bk).take j).foldl (fun (acc : List CRow) m => acc ++ crows bk p m) acc0 = acc1 at hacc3 ⊢
  refine dss_to (c.setLc 5 9 (Datum.toD : Int → PyData) (daysU bk) (fun d => Datum.toD (nextP bk p m d)) (di_list (c.dv 1)) (few_le (by omega)) (fun X' c' d _ => DL.de (c'.callL f5 (da_cons (c'.dv 0) (da_cons (c'.dv 3) (da_cons (c'.dv 4) (da_cons (c'.dv 9) da_nil)))) ⟨bk, p, m, d, rfl, ol, rfl⟩)) rfl) ?_
  have et : (daysU bk).map (fun d => (Datum.toD (nextP bk p m d) : PyData)) = ((daysU bk).map fun d => nextP bk p m d).map Datum.toD := by rw [List.map_map]; rfl
  rw [et]
  refine dss_frL (i := 5) rfl ?_
  have ez : rowsOf none (runs ((daysU bk).zip ((daysU bk).map fun d => nextP bk p m d))) = strC bk p m := by rw [zip_map_self]; rfl
  have hsl := strC_len bk p m
  have eS : (strC bk p m).foldl (ccF p m) acc1 = acc1 ++ crows bk p m := ccF_all p m _ _
  rw [← eS]
  refine dss_to (ds_forF (fun acc : List CRow => [.fz (Datum.toD bk), .fz (.list ((daysU bk).map Datum.toD)), .ol (acc.map crowD), .fz (Datum.toD p), .fz (Datum.toD m), .fz (.list (((daysU bk).map fun d => nextP bk p m d).map Datum.toD)), .un, .un, .un, .un]) (ccF p m) acc1 (xs := strC bk p m) (g := (Datum.toD : Str3 → PyData)) c.pass c.calm rfl (di_list (DL.de (by rw [← ez]; exact c.callL f6 (da_cons (c.dv 1) (da_cons (c.dv 5) da_nil)) ⟨daysU bk, (daysU bk).map fun d => nextP bk p m d, rfl, by rw [List.length_map], by omega, rfl⟩))) (c.tgT 6 7 8) (fun n s hn => ⟨_, rfl, ?_⟩) rfl) (dss_un (i := 4) (dss_un (i := 5) (dss_nil rfl)))
  have hacc5 : (((strC bk p m).take n).foldl (ccF p m) acc1).length ≤ 490000 := by
    rw [ccF_all, List.length_append, List.length_map]
    have z1 := List.length_filter_le big ((strC bk p m).take n)
    rw [List.length_take] at z1
    omega
  generalize ((strC bk p m).take n).foldl (ccF p m) acc1 = acc2 at hacc5 ⊢
  refine dss_to (Γ1 := [.fz (Datum.toD bk), .fz (.list ((daysU bk).map Datum.toD)), .ol ((ccF p m acc2 s).map crowD), .fz (Datum.toD p), .fz (Datum.toD m), .fz (.list (((daysU bk).map fun d => nextP bk p m d).map Datum.toD)), .fz (Datum.toD s.a), .fz (Datum.toD s.b), .fz (Datum.toD s.c), .un]) (ds_if (fun _ => True) (p := decide ((1 : Int) < (s.c.length : Int))) (dt_cmp (dc_gt (c.len B (DE.dw (d := Datum.toD s.c) (c.dv 8)) (n := s.c.length) (by show some _ = _; rw [List.length_map])).dw de_int.dw)) (fun z => ?_) fun z => dss_nil ?_) (dss_un (i := 6) (dss_un (i := 7) (dss_un (i := 8) (dss_nil rfl))))
  · refine dss_one (c.append (xs := acc2.map crowD) 2 (d := crowD (mkC p m s)) (de_tup (da_cons (c.dv 3) (da_cons (c.dv 4) (da_cons (c.dv 6) (da_cons (c.dv 7) (da_cons (c.dv 8) da_nil))))) (few_le (by show 5 ≤ 10000000; decide))) (few_lt (by rw [List.length_map]; omega)) ?_)
    show _ = _
    unfold ccF
    rw [if_pos (by unfold big; exact decide_eq_true (by have := of_decide_eq_true z; omega)), List.map_append]
    rfl
  · show _ = _
    unfold ccF
    rw [if_neg (by unfold big; rw [decide_eq_false (by have := of_decide_eq_false z; omega)]; exact Bool.false_ne_true)]
    rfl
end
end PH

set_option Elab.async false
set_option linter.all false
set_option maxRecDepth 100000
set_option maxHeartbeats 4000000
/-! M51: rows of clashes as typed data. -/
namespace PH
open PySem PySem.Spec L2
open PySem.W (Datum DatumOrd Tup T3)
instance : DecidableEq CRow := fun a b => decidable_of_iff (a.p = b.p ∧ a.m = b.m ∧ a.s = b.s) ⟨fun ⟨h1, h2, h3⟩ => by cases a; cases b; cases h1; cases h2; cases h3; rfl, fun h => by rw [h]; exact ⟨rfl, rfl, rfl⟩⟩
theorem CRow.same : ∀ {a b : CRow}, a.p = b.p → a.m = b.m → a.s.a = b.s.a → a.s.b = b.s.b → a.s.c = b.s.c → a = b
  | ⟨_, _, ⟨_, _, _⟩⟩, ⟨_, _, ⟨_, _, _⟩⟩, rfl, rfl, rfl, rfl, rfl => rfl
theorem crowD_eq (u : CRow) : crowD u = .tuple [Datum.toD u.p, Datum.toD u.m, Datum.toD u.s.a, Datum.toD u.s.b, Datum.toD u.s.c] := rfl
instance : Datum CRow where
  toD u := crowD u
  plain u := by simp only [crowD_eq, PyData.plain, PyData.plainAll, Datum.plain, Bool.and_self]
  eqv a b := by
    simp only [crowD_eq, PyData.eqv, PyData.eqvAll]
    rw [Datum.eqv, Datum.eqv, Datum.eqv, Datum.eqv, Datum.eqv, Bool.and_true, ← Bool.decide_and, ← Bool.decide_and, ← Bool.decide_and, ← Bool.decide_and]
    exact decide_eq_decide.mpr ⟨fun e => CRow.same e.1 e.2.1 e.2.2.1 e.2.2.2.1 e.2.2.2.2, fun e => by rw [e]; exact ⟨rfl, rfl, rfl, rfl, rfl⟩⟩
  depth := 3
  depth_le u := by
    have h1 : (Datum.toD u.p).depth ≤ 1 := Datum.depth_le u.p
    have h2 : (Datum.toD u.s.b).depth ≤ 0 := Datum.depth_le u.s.b
    have h3 : (Datum.toD u.s.c).depth ≤ 2 := Datum.depth_le u.s.c
    have h5 : (Datum.toD u.m : PyData).depth ≤ 0 := Datum.depth_le u.m
    have h6 : (Datum.toD u.s.a : PyData).depth ≤ 0 := Datum.depth_le u.s.a
    simp only [crowD_eq, PyData.depth, PyData.depthAll]
    omega
end PH

set_option Elab.async false
set_option linter.all false
set_option maxRecDepth 100000
set_option maxHeartbeats 8000000
/-! WXh: the law's own holds. -/
namespace PH
open PySem PySem.Spec L2
open PySem.W (Datum DatumOrd Tup T3 T4)
section
variable {P : Program} {w : World} {K : PySem.W.Frag} {mg : Str → Option Value} {base : Heap}
theorem fn_law_holds (D : Df K mg "_law_holds" l_holds) : Fn P w K mg base "_law_holds" 1 rHolds := by
  refine D.fn (N := ["_law_rule", "_law_machine", "_law_day"]) (ps := ["_law_rule", "_law_machine", "_law_day"]) ⟨rfl, rfl, rfl, by decide +kernel, rfl, by decide +kernel, by decide +kernel⟩ (fun ds b ⟨i, j, k, h, _⟩ => by rw [h]; rfl) (fun _ _ _ _ _ _ us hl => match us, hl with | [_, _, _], _ => rfl) ?_
  rintro X c ds b ⟨r, m, day, rfl, rfl⟩
  refine dss_one (ds_ret (de_and (de_cmp (dc_le (de_ixT (c.dv 0) de_int.dw (d := .int r.day) rfl).dw (c.dv 2).dw)) fun _ => de_one ?_) rfl)
  exact de_or (de_cmp (dc_eqT (xa := r.machs) (ya := ⟨[]⟩) c.hu64 (de_ixT (c.dv 0) de_int.dw (d := Datum.toD r.machs) rfl).dw (de_tup da_nil (by decide)).dw)) fun _ => de_one (de_cmp (dc_inT (α := Str) (xa := m) (ls := r.machs.items) c.hu65 (c.dv 1).dw (de_ixT (c.dv 0) de_int.dw (d := Datum.toD r.machs) rfl).dw))
end
end PH

set_option Elab.async false
set_option linter.all false
set_option maxRecDepth 100000
set_option maxHeartbeats 8000000
/-! WHLn (split off WHL): the law's own next ones. -/
namespace PH
open PySem PySem.Spec L2
open PySem.W (Datum DatumOrd Tup T3)
def gtB (b : Option (Int × Int)) (k : Int × Int) : Bool := match b with
  | none => false
  | some b => DatumOrd.lt b k
theorem better_eq (b : Option (Int × Int)) (k : Int × Int) : (isN (Datum.toD b) || gtB b k) = betterB b k := by
  cases b with
  | none => rfl
  | some b => rfl
theorem best_len (p : Part) (m : Str) (day : Int) (L : List Rule) : (L.foldl (bestF p m day) bst0).found.length ≤ L.length := by
  have I := best_all p m day L [] bst0 (best_start p m day)
  rw [List.nil_append] at I
  have z := nodup_sub_length I.nd (m := L.map (·.other)) fun q hq => by
    obtain ⟨r, hr, _, _, e⟩ := (I.mem q).1 hq
    exact List.mem_map.mpr ⟨r, hr, e⟩
  rw [List.length_map] at z
  exact z
section
variable {P : Program} {w : World} {K : PySem.W.Frag} {mg : Str → Option Value} {base : Heap}
theorem fn_a_next (B : Blt mg) (D : Df K mg "_law_a_next" l_a_next) (f1 : Fn P w K mg base "_law_holds" 1 rHolds) : Fn P w K mg base "_law_a_next" 2 rNext := by
  refine D.fn (N := ["_law_book", "_law_part", "_law_machine", "_law_day", "_law_best", "_law_found", "_law_rule", "_law_rank"]) (ps := ["_law_book", "_law_part", "_law_machine", "_law_day"]) ⟨rfl, rfl, rfl, by decide +kernel, rfl, by decide +kernel, by decide +kernel⟩ (fun ds b ⟨_, _, _, _, h, _⟩ => by rw [h]; rfl) (fun _ _ _ _ _ _ us hl => match us, hl with | [_, _, _, _], _ => rfl) ?_
  rintro X c ds b ⟨bk, p, m, day, rfl, hl, rfl⟩
  refine dss_to (c.set 4 de_none rfl) ?_
  refine dss_to (c.setL 5 (ds := ([] : List Part).map Datum.toD) (dl_lst da_nil (few_le (by decide))) rfl) ?_
  refine dss_to (ds_forF (fun s : Bst => [.fz (Datum.toD bk), .fz (Datum.toD p), .fz (.str m), .fz (.int day), .fz (Datum.toD s.best), .ol (s.found.map Datum.toD), .un, .un]) (bestF p m day) bst0 (xs := bk) (g := (Datum.toD : Rule → PyData)) c.pass c.calm rfl (di_list (c.dv 0)) (c.tg 6) (fun i r hi => ⟨_, rfl, ?_⟩) rfl) ?_
  · have hsl := best_len p m day (bk.take i)
    generalize (bk.take i).foldl (bestF p m day) bst0 = s at hsl ⊢
    rw [List.length_take] at hsl
    refine dss_cons (fun Γ' => ∃ k : Bd, Γ' = [.fz (Datum.toD bk), .fz (Datum.toD p), .fz (.str m), .fz (.int day), .fz (Datum.toD (bestF p m day s r).best), .ol ((bestF p m day s r).found.map Datum.toD), .fz (Datum.toD r), k]) (ds_if (fun _ => True) (p := overB r p m day) (DWh.dt (dh_and (dt_cmp (dc_eqT (α := Str) (xa := r.kind) (ya := "over") c.hu64 (de_ixT (c.dv 6) de_int.dw (d := .str r.kind) rfl).dw de_str.dw)) fun _ =>
        dh_and (dt_cmp (dc_eqT (α := Part) (xa := r.one) (ya := p) c.hu64 (de_ixT (c.dv 6) de_int.dw (d := Datum.toD r.one) rfl).dw (c.dv 1).dw)) fun _ => dh_and1 (dt_of (c.call f1 (da_cons (c.dv 6) (da_cons (c.dv 2) (da_cons (c.dv 3) da_nil))) ⟨r, m, day, rfl, rfl⟩)))) (fun z => ?_) fun z => dss_nil ⟨.un, by unfold bestF; rw [if_neg (by rw [z]; decide)]; rfl⟩) ?_
    · have eb : bestF p m day s r = bst2 (bst1 s r) r := if_pos z
      rw [eb]
      refine dss_to (c.set 7 (d := Datum.toD (rank r)) (de_tup (da_cons (de_ixT (c.dv 6) de_int.dw (d := .int r.day) rfl) (da_cons (c.intB B (de_cmp (dc_neT (α := Tup Str) (xa := r.machs) (ya := ⟨[]⟩) c.hu64 (de_ixT (c.dv 6) de_int.dw (d := Datum.toD r.machs) rfl).dw (de_tup da_nil (few_le (by decide))).dw)).dw) da_nil)) (few_le (by show 2 ≤ 10000000; decide))) rfl) ?_
      refine dss_to (Γ1 := [.fz (Datum.toD bk), .fz (Datum.toD p), .fz (.str m), .fz (.int day), .fz (Datum.toD (bst1 s r).best), .ol ((bst1 s r).found.map Datum.toD), .fz (Datum.toD r), .fz (Datum.toD (rank r))]) (ds_if (fun _ => True) (p := isN (Datum.toD s.best) || gtB s.best (rank r)) (DWh.dt (dh_or (dt_cmp (dc_isN (c.dv 4).dw)) fun zn => dh_or1 (by
          have hs : ∃ b, s.best = some b := by
            cases e : s.best with
            | none => rw [e] at zn; cases zn
            | some b => exact ⟨b, rfl⟩
          obtain ⟨b, hb⟩ := hs
          rw [hb]
          exact dt_cmp (dc_gtT (α := Int × Int) (xa := rank r) (ya := b) c.hu64 (c.dv 7).dw (c.dv 4 rfl).dw)))) (fun z1 => ?_) fun z1 => dss_nil ?_) ?_
      · refine dss_to (c.set 4 (c.dv 7) rfl) ?_
        refine dss_one (c.setL 5 (ds := ([] : List Part).map Datum.toD) (dl_lst da_nil (few_le (by decide))) ?_)
        show _ = _
        rw [better_eq] at z1
        unfold bst1
        rw [if_pos z1]; rfl
      · show _ = _
        rw [better_eq] at z1
        unfold bst1
        rw [if_neg (by rw [z1]; decide)]; rfl
      have htl : (bst1 s r).found.length ≤ 60 := by
        unfold bst1
        split
        · exact Nat.zero_le _
        · omega
      generalize bst1 s r = t at htl ⊢
      refine dss_one (ds_if (fun _ => True) (p := decide (some (rank r) = t.best) && !memB r.other t.found) (DWh.dt (dh_and (dt_cmp (dc_eqT (α := Option (Int × Int)) (xa := some (rank r)) (ya := t.best) c.hu64 (c.dv 7).dw (c.dv 4).dw)) fun _ => dh_and1 (dt_cmp (dc_ninL (α := Part) (xa := r.other) (ls := t.found) c.hu65 (de_ixT (c.dv 6) de_int.dw (d := Datum.toD r.other) rfl).dw (c.bv 5).dw)))) (fun z2 => dss_one (c.append (xs := t.found.map Datum.toD) 5 (de_ixT (c.dv 6) de_int.dw (d := Datum.toD r.other) rfl) (few_lt (by rw [List.length_map]; omega)) ?_)) fun z2 => dss_nil ?_)
      · refine ⟨.fz (Datum.toD (rank r)), ?_⟩
        unfold bst2
        rw [if_pos z2, List.map_append]; rfl
      · refine ⟨.fz (Datum.toD (rank r)), ?_⟩
        unfold bst2
        rw [if_neg (by rw [z2]; decide)]
    · rintro Γ' ⟨k, rfl⟩
      exact dss_un (i := 6) (dss_un (i := 7) (dss_nil rfl))
  · rw [← best_next]
    exact dss_one (ds_retL (c.sorted B (bs := (bk.foldl (bestF p m day) bst0).found) (c.bv 5) (PySem.W.Sortable.tuples (enc := fun p : Part => Datum.toD p) fun b => ⟨_, _, rfl⟩)) rfl)
end
end PH

set_option Elab.async false
set_option linter.all false
set_option maxRecDepth 100000
set_option maxHeartbeats 4000000
/-! WRm: the machines of a book, the empty text among them. -/
namespace PH
open PySem PySem.Spec L2
open PySem.W (Datum DatumOrd Tup T3)
section
variable {P : Program} {w : World} {K : PySem.W.Frag} {mg : Str → Option Value} {base : Heap}
def rMachsE (ds : List PyData) (b : Bd) : Prop := ∃ (bk : List Rule), ds = [Datum.toD bk] ∧ bk.length ≤ 100 ∧ (∀ r ∈ bk, r.machs.items.length ≤ 30) ∧ b = .ol ((machsE bk).map Datum.toD)
theorem fn_machines_of (B : Blt mg) (D : Df K mg "_law_machines_of" l_machines_of) : Fn P w K mg base "_law_machines_of" 1 rMachsE := by
  refine D.fn (N := ["_law_book", "_law_found", "_law_rule", "_law_name"]) (ps := ["_law_book"]) ⟨rfl, rfl, rfl, by decide +kernel, rfl, by decide +kernel, by decide +kernel⟩ (fun ds b ⟨i, h, _⟩ => by rw [h]; rfl) (fun _ _ _ _ _ _ us hl => match us, hl with | [_], _ => rfl) ?_
  rintro X c ds b ⟨bk, rfl, hl, hm, rfl⟩
  refine dss_to (c.setD 1 (dn_disp1 (κ := Str) (kk := "") (fun a => .inr ⟨a, rfl⟩) de_str de_bool) rfl) ?_
  refine dss_to (ds_forF (fun s : List (Str × PyData) => [.fz (Datum.toD bk), .od (kvD s), .un, .un]) machsF [(("" : Str), PyData.bool true)] (xs := bk) (g := Datum.toD) c.pass c.calm rfl (di_list (c.dv 0)) (c.tg 2) (fun i r hr => ?_) rfl) ?_
  · refine ⟨_, rfl, ?_⟩
    generalize hs : (bk.take i).foldl machsF [(("" : Str), PyData.bool true)] = s
    have hrm := hm r (List.mem_of_getElem? hr)
    have hsl : s.length ≤ 3001 := by
      have z := machs_len (bk.take i) [(("" : Str), PyData.bool true)] fun x hx => hm x (List.mem_of_mem_take hx)
      rw [hs, List.length_take] at z
      simp only [List.length_cons, List.length_nil] at z
      omega
    refine dss_to (ds_forF (fun s2 : List (Str × PyData) => [.fz (Datum.toD bk), .od (kvD s2), .fz (Datum.toD r), .un]) machF s (xs := r.machs.items) (g := Datum.toD) c.pass c.calm rfl (di_tup (de_ixT (c.dv 2) de_int.dw (d := Datum.toD r.machs) rfl)) (c.tg 3) (fun j y hy => ?_) rfl) ?_
    · refine ⟨_, rfl, ?_⟩
      generalize hs2 : (r.machs.items.take j).foldl machF s = s2
      have hsl2 : s2.length ≤ 3031 := by
        have z := foldl_len machF_len (r.machs.items.take j) s
        rw [hs2, List.length_take] at z
        omega
      refine dss_to (c.dput (κ := Str) (m := s2) (kk := y) 1 de_bool (c.dv 3) (by omega) rfl) ?_
      exact dss_un (i := 3) (dss_nil rfl)
    · exact dss_un (i := 2) (dss_nil rfl)
  · exact dss_one (ds_retL (c.sortedD B (α := Str) (c.mv 1) (PySem.W.Sortable.others (enc := fun p : Str × PyData => Datum.toD p.1) fun b => ⟨fun z => (nomatch z), fun _ z => (nomatch z)⟩)) rfl)
end
end PH

set_option Elab.async false
set_option linter.all false
set_option maxRecDepth 100000
set_option maxHeartbeats 8000000
/-! WR: the parts of a book. -/
namespace PH
open PySem PySem.Spec L2
open PySem.W (Datum DatumOrd Tup T3)
section
variable {P : Program} {w : World} {K : PySem.W.Frag} {mg : Str → Option Value} {base : Heap}
def rPartsU (ds : List PyData) (b : Bd) : Prop := ∃ bk : List Rule, ds = [Datum.toD bk] ∧ bk.length ≤ 1000 ∧ (uniq (bk.map (·.one) ++ bk.map (·.other))).length < 64 ∧ b = .ol ((partsU bk).map Datum.toD)
theorem fn_parts_of (B : Blt mg) (D : Df K mg "_law_parts_of" l_parts_of) : Fn P w K mg base "_law_parts_of" 1 rPartsU := by
  refine D.fn (N := ["_law_book", "_law_rule"]) (ps := ["_law_book"]) ⟨rfl, rfl, rfl, by decide +kernel, rfl, by decide +kernel, by decide +kernel⟩ (fun ds b ⟨i, h, _⟩ => by rw [h]; rfl) (fun _ _ _ _ _ _ us hl => match us, hl with | [_], _ => rfl) ?_
  rintro X c ds b ⟨bk, rfl, hl, hu, rfl⟩
  refine dss_one (ds_retL (c.sortedSet B (α := Part) (bs := bk.map (·.one) ++ bk.map (·.other)) ?_ (PySem.W.Sortable.tuples (enc := fun p : Part => Datum.toD p) fun b => ⟨_, _, rfl⟩) (by simp; omega) hu) rfl)
  rw [List.map_append, List.map_map, List.map_map]
  exact (dl_cat (c.lc 1 Datum.toD bk (fun r => Datum.toD r.one) (di_list (c.dv 0)) (few_le (by omega)) fun X' c' r _ => de_ixT (c'.dv 1) de_int.dw (d := Datum.toD r.one) rfl).db
    (c.lc 1 Datum.toD bk (fun r => Datum.toD r.other) (di_list (c.dv 0)) (few_le (by omega)) fun X' c' r _ => de_ixT (c'.dv 1) de_int.dw (d := Datum.toD r.other) rfl).db (few_le (by simp; omega))).db
end
end PH

set_option Elab.async false
set_option linter.all false
set_option maxRecDepth 100000
set_option maxHeartbeats 4000000
/-! WRd: the days of a book. -/
namespace PH
open PySem PySem.Spec L2
open PySem.W (Datum DatumOrd Tup T3)
section
variable {P : Program} {w : World} {K : PySem.W.Frag} {mg : Str → Option Value} {base : Heap}
def rDaysU (ds : List PyData) (b : Bd) : Prop := ∃ bk : List Rule, ds = [Datum.toD bk] ∧ bk.length ≤ 60 ∧ b = .ol ((daysU bk).map Datum.toD)
theorem fn_days_of (B : Blt mg) (D : Df K mg "_law_days_of" l_days_of) : Fn P w K mg base "_law_days_of" 1 rDaysU := by
  refine D.fn (N := ["_law_book", "_law_rule"]) (ps := ["_law_book"]) ⟨rfl, rfl, rfl, by decide +kernel, rfl, by decide +kernel, by decide +kernel⟩ (fun ds b ⟨i, h, _⟩ => by rw [h]; rfl) (fun _ _ _ _ _ _ us hl => match us, hl with | [_], _ => rfl) ?_
  rintro X c ds b ⟨bk, rfl, hl, rfl⟩
  have hu := uniq_len_le ([(0 : Int)] ++ bk.map (·.day))
  have hul : ([(0 : Int)] ++ bk.map (·.day)).length ≤ 61 := by simp; omega
  refine dss_one (ds_retL (c.sortedSet B (α := Int) (bs := [(0 : Int)] ++ bk.map (·.day)) ?_ (PySem.W.Sortable.others (enc := fun p : Int => Datum.toD p) fun b => ⟨fun z => (nomatch z), fun _ z => (nomatch z)⟩) (by omega) (by omega)) rfl)
  rw [List.map_append, List.map_map]
  exact (dl_cat (dl_lst (da_cons de_int da_nil) (few_le (by decide))).db (c.lc 1 Datum.toD bk (fun r => Datum.toD r.day) (di_list (c.dv 0)) (few_le (by omega)) fun X' c' r _ => de_ixT (c'.dv 1) de_int.dw (d := .int r.day) rfl).db (few_le (by simp; omega))).db
end
end PH

set_option Elab.async false
set_option linter.all false
set_option maxRecDepth 100000
set_option maxHeartbeats 8000000
/-! W5d: k05's own: what is due. -/
namespace PH
open PySem PySem.Spec L2
open PySem.W (Datum DatumOrd Tup T3)
structure OkW (bk : List Rule) : Prop extends Ok5 bk where
  n : ∀ r ∈ bk, ∀ m ∈ r.machs.items, m ≠ ""
  u : (uniq (bk.map (·.one) ++ bk.map (·.other))).length < 64
theorem partsU_L (bk : List Rule) : partsU bk = partsL bk := (partsL_eq fun _ => Iff.rfl).symm
theorem machsE_A {bk : List Rule} (h : ∀ r ∈ bk, ∀ m ∈ r.machs.items, m ≠ "") : machsE bk = machsA bk := machsE_eq (fun _ => Iff.rfl) h
theorem cF_len (p : Part) (m : Str) (days : List Int) (told : List HP) (s : List CRow) (k : Nat) : (cF p m days told s k).length ≤ s.length + 1 := by
  unfold cF
  split
  · split
    · split
      · rw [List.length_append, List.length_dropLast]
        simp only [List.length_cons, List.length_nil]
        omega
      · rw [List.length_append]; exact Nat.le_refl _
    · rw [List.length_append]; exact Nat.le_refl _
  · omega
section
variable {P : Program} {w : World} {K : PySem.W.Frag} {mg : Str → Option Value} {base : Heap}
def rDue5 (ds : List PyData) (b : Bd) : Prop := ∃ (bk : List Rule), ds = [Datum.toD bk] ∧ OkW bk ∧ b = .ol ((clashM bk).map crowD)
theorem fn_a_due5 (B : Blt mg) (D : Df K mg "_law_a_due" l_a_due) (f1 : Fn P w K mg base "_law_days_of" 1 rDaysU) (f2 : Fn P w K mg base "_law_parts_of" 1 rPartsU) (f3 : Fn P w K mg base "_law_machines_of" 1 rMachsE) (f4 : Fn P w K mg base "_law_a_next" 2 rNext) : Fn P w K mg base "_law_a_due" 3 rDue5 := by
  refine D.fn (N := ["_law_book", "_law_days", "_law_found", "_law_part", "_law_machine", "_law_row", "_law_k", "_law_day", "_law_last", "_law_others"]) (ps := ["_law_book"]) ⟨rfl, rfl, rfl, by decide +kernel, rfl, by decide +kernel, by decide +kernel⟩ (fun ds b ⟨_, h, _⟩ => by rw [h]; rfl) (fun _ _ _ _ _ _ us hl => match us, hl with | [_], _ => rfl) ?_
  rintro X c ds b ⟨bk, rfl, O, rfl⟩
  have ol := O.l
  have oml := O.ml
  have hdl := daysU_len bk
  have hpl := partsL_len bk
  refine dss_to (c.setL 1 (c.callL f1 (da_cons (c.dv 0) da_nil) ⟨bk, rfl, by omega, rfl⟩) rfl) ?_
  refine dss_frL (i := 1) rfl ?_
  refine dss_to (c.setL 2 (dl_lst da_nil (few_le (by decide))) rfl) ?_
  have h1 : ∀ p m, (crows bk p m).length ≤ 61 := fun p m => by have := crows_len bk p m; omega
  have hma : (machsA bk).length ≤ 64 := by unfold machsA; rw [List.length_cons]; omega
  have h2 : ∀ p, ((machsA bk).flatMap fun m => crows bk p m).length ≤ 61 * 64 := fun p => Nat.le_trans (flat_len (h1 p) (machsA bk)) (Nat.mul_le_mul_left _ hma)
  have eC : (partsL bk).foldl (fun (acc : List CRow) p => acc ++ (machsA bk).flatMap fun m => crows bk p m) [] = clashM bk := by rw [foldl_flat, List.nil_append]; rfl
  rw [← eC]
  refine dss_to (ds_forF (fun acc : List CRow => [.fz (Datum.toD bk), .fz (.list ((daysU bk).map Datum.toD)), .ol (acc.map crowD), .un, .un, .un, .un, .un, .un, .un]) (fun (acc : List CRow) p => acc ++ (machsA bk).flatMap fun m => crows bk p m) [] (xs := partsL bk) (g := (Datum.toD : Part → PyData)) c.pass c.calm rfl (di_list (DL.de (by rw [← partsU_L]; exact c.callL f2 (da_cons (c.dv 0) da_nil) ⟨bk, rfl, by omega, O.u, rfl⟩))) (c.tg 3) (fun i p hi => ⟨_, rfl, ?_⟩) rfl) (dss_one (c.retO 2 rfl))
  have hacc2 : (((partsL bk).take i).foldl (fun (acc : List CRow) p => acc ++ (machsA bk).flatMap fun m => crows bk p m) []).length ≤ 61 * 64 * 120 := by
    rw [foldl_flat, List.nil_append]
    refine Nat.le_trans (flat_len h2 _) (Nat.mul_le_mul_left _ ?_)
    rw [List.length_take]; omega
  generalize ((partsL bk).take i).foldl (fun (acc : List CRow) p => acc ++ (machsA bk).flatMap fun m => crows bk p m) [] = acc0 at hacc2 ⊢
  have eM : (machsA bk).foldl (fun (acc : List CRow) m => acc ++ crows bk p m) acc0 = acc0 ++ (machsA bk).flatMap fun m => crows bk p m := foldl_flat _ _ _
  rw [← eM]
  refine dss_to (ds_forF (fun acc : List CRow => [.fz (Datum.toD bk), .fz (.list ((daysU bk).map Datum.toD)), .ol (acc.map crowD), .fz (Datum.toD p), .un, .un, .un, .un, .un, .un]) (fun (acc : List CRow) m => acc ++ crows bk p m) acc0 (xs := machsA bk) (g := (Datum.toD : Str → PyData)) c.pass c.calm rfl (di_list (DL.de (by rw [← machsE_A O.n]; exact c.callL f3 (da_cons (c.dv 0) da_nil) ⟨bk, rfl, by omega, O.m, rfl⟩))) (c.tg 4) (fun j m hj => ⟨_, rfl, ?_⟩) rfl) (dss_un (i := 3) (dss_nil rfl))
  have hacc3 : (((machsA bk).take j).foldl (fun (acc : List CRow) m => acc ++ crows bk p m) acc0).length ≤ 480000 := by
    rw [foldl_flat, List.length_append]
    have z := Nat.le_trans (flat_len (h1 p) ((machsA bk).take j)) (Nat.mul_le_mul_left 61 (show ((machsA bk).take j).length ≤ 64 by rw [List.length_take]; omega))
    omega
  generalize ((machsA bk).take j).foldl (fun (acc : List CRow) m => acc ++ crows bk p m) acc0 = acc1 at hacc3 ⊢
  refine dss_to (c.setL 5 (dl_lst da_nil (few_le (by decide))) rfl) ?_
  have eR := cF_all bk p m
  generalize ht : (daysU bk).map (fun d => nextP bk p m d) = told at eR
  have hkt : ∀ (k : Nat) (day : Int), (daysU bk)[k]? = some day → told.getD k [] = nextP bk p m day := fun k day h => by
    rw [← ht, List.getD_eq_getElem?_getD, List.getElem?_map, h]; rfl
  refine dss_to (Γ1 := [.fz (Datum.toD bk), .fz (.list ((daysU bk).map Datum.toD)), .ol (acc1.map crowD), .fz (Datum.toD p), .fz (Datum.toD m), .ol ((crows bk p m).map crowD), .un, .un, .un, .un]) (ds_forF (fun s : List CRow => [.fz (Datum.toD bk), .fz (.list ((daysU bk).map Datum.toD)), .ol (acc1.map crowD), .fz (Datum.toD p), .fz (Datum.toD m), .ol (s.map crowD), .un, .un, .un, .un]) (fun s x => cF p m (daysU bk) told s x.2) [] (xs := (daysU bk).zipIdx) (g := fun x : Int × Nat => PyData.tuple [.int (x.2 : Nat), Datum.toD x.1]) c.pass c.calm rfl (c.enumL B Datum.toD (daysU bk) (c.dv 1)) (c.tg2 6 7) (fun n x hx => ⟨_, rfl, ?_⟩) ?fin) ?_
  case fin =>
    have e : (daysU bk).zipIdx.foldl (fun (s : List CRow) (x : Int × Nat) => cF p m (daysU bk) told s x.2) [] = (List.range (daysU bk).length).foldl (cF p m (daysU bk) told) [] := by
      have z : ∀ (l : List (Int × Nat)) (s : List CRow), l.foldl (fun (s : List CRow) (x : Int × Nat) => cF p m (daysU bk) told s x.2) s = (l.map (·.2)).foldl (cF p m (daysU bk) told) s := fun l => by
        induction l with
        | nil => intro s; rfl
        | cons x l ih => intro s; exact ih _
      rw [z]
      congr 1
      rw [List.zipIdx_map_snd]
      exact (List.range_eq_range' ..).symm
    show _ = _
    rw [e, eR]
  · obtain ⟨day, k⟩ := x
    have hk : (daysU bk)[k]? = some day := by
      have z := hx
      rw [List.getElem?_zipIdx] at z
      obtain ⟨d, h1, h2⟩ := Option.map_eq_some_iff.mp z
      injection h2 with h3 h4
      rw [← h3, ← h4, Nat.zero_add]; exact h1
    have hkl : k < (daysU bk).length := (List.getElem?_eq_some_iff.mp hk).1
    have hkd : (daysU bk).getD k 0 = day := by rw [List.getD_eq_getElem?_getD, hk]; rfl
    have hko := hkt k day hk
    have hsl := foldl_len (f := fun (s : List CRow) (x : Int × Nat) => cF p m (daysU bk) told s x.2) (c := 1) (fun s x => cF_len p m (daysU bk) told s x.2) ((daysU bk).zipIdx.take n) []
    rw [List.length_nil, List.length_take, List.length_zipIdx] at hsl
    generalize ((daysU bk).zipIdx.take n).foldl (fun (s : List CRow) (x : Int × Nat) => cF p m (daysU bk) told s x.2) [] = st at hsl ⊢
    refine dss_to (c.set 8 (d := Datum.toD (finK (daysU bk) (k + 1))) (de_if (p := decide (((k : Int) + 1) < ((daysU bk).length : Int))) (dt_cmp (dc_lt (de_add (c.dv 6).dw de_int.dw).dw (c.len B (c.dv 1).dw (n := (daysU bk).length) (by show some _ = _; rw [List.length_map])).dw)) (fun z => ?_) fun z => ?_) rfl) ?_
    · have hz1 : k + 1 < (daysU bk).length := by have := of_decide_eq_true z; omega
      have e : finK (daysU bk) (k + 1) = some ((daysU bk).getD (k + 1) 0 - 1) := by unfold finK; rw [if_pos hz1]
      rw [e]
      exact de_sub (de_ixL (c.dv 1).db (de_add (c.dv 6).dw de_int.dw).dw (atI_at (f := Datum.toD) (xs := daysU bk) (d := 0) (i := k + 1) (by omega) hz1)).dw de_int.dw
    · have hz1 : ¬ k + 1 < (daysU bk).length := by have := of_decide_eq_false z; omega
      have e : finK (daysU bk) (k + 1) = none := by unfold finK; rw [if_neg hz1]
      rw [e]
      exact de_none
    have hol : (nextP bk p m day).length ≤ 60 := by
      rw [nextP, (srt_perm _).length_eq]
      have z1 := uniq_len_le ((bestR (cands bk p m day)).map (·.other))
      have z2 := bestR_len (cands bk p m day)
      have z3 := cands_len bk p m day
      rw [List.length_map] at z1
      omega
    refine dss_to (c.setL 9 (c.callL f4 (da_cons (c.dv 0) (da_cons (c.dv 3) (da_cons (c.dv 4) (da_cons (c.dv 7) da_nil)))) ⟨bk, p, m, day, rfl, ol, rfl⟩) rfl) ?_
    refine dss_frL (i := 9) rfl ?_
    show DSs X [.fz (Datum.toD bk), .fz (.list ((daysU bk).map Datum.toD)), .ol (acc1.map crowD), .fz (Datum.toD p), .fz (Datum.toD m), .ol (st.map crowD), .fz (.int (k : Nat)), .fz (Datum.toD day), .fz (Datum.toD (finK (daysU bk) (k + 1))), .fz (.list ((nextP bk p m day).map Datum.toD))] _ _
    have ecf : cF p m (daysU bk) told st k = (if 1 < (nextP bk p m day).length then
        match st.getLast? with
        | some g => if g.s.c = nextP bk p m day ∧ g.s.b = some (day - 1) then st.dropLast ++ [⟨g.p, g.m, ⟨g.s.a, finK (daysU bk) (k + 1), nextP bk p m day⟩⟩] else st ++ [⟨p, m, ⟨day, finK (daysU bk) (k + 1), nextP bk p m day⟩⟩]
        | none => st ++ [⟨p, m, ⟨day, finK (daysU bk) (k + 1), nextP bk p m day⟩⟩]
      else st) := by
      unfold cF
      first
        | (rw [hko, hkd]; done)
        | (rw [hko, hkd]; rfl)
    rw [ecf]
    generalize finK (daysU bk) (k + 1) = last
    generalize nextP bk p m day = o at hol ⊢
    refine dss_to (Γ1 := [.fz (Datum.toD bk), .fz (.list ((daysU bk).map Datum.toD)), .ol (acc1.map crowD), .fz (Datum.toD p), .fz (Datum.toD m), .ol ((if 1 < o.length then
        match st.getLast? with
        | some g => if g.s.c = o ∧ g.s.b = some (day - 1) then st.dropLast ++ [⟨g.p, g.m, ⟨g.s.a, last, o⟩⟩] else st ++ [⟨p, m, ⟨day, last, o⟩⟩]
        | none => st ++ [⟨p, m, ⟨day, last, o⟩⟩]
      else st).map crowD), .fz (.int (k : Nat)), .fz (Datum.toD day), .fz (Datum.toD last), .fz (.list (o.map Datum.toD))]) ?_ (dss_un (i := 6) (dss_un (i := 7) (dss_un (i := 8) (dss_un (i := 9) (dss_nil rfl)))))
    refine ds_if (fun _ => True) (p := decide ((1 : Int) < (o.length : Int))) (dt_cmp (dc_gt (c.len B (DE.dw (d := Datum.toD o) (c.dv 9)) (n := o.length) (by show some _ = _; rw [List.length_map])).dw de_int.dw)) (fun z => ?_) fun z => dss_nil ?_
    · have hb : 1 < o.length := by have := of_decide_eq_true z; omega
      rw [if_pos hb]
      cases hg : st.getLast? with
      | none =>
        have hs0 : st = [] := List.getLast?_eq_none_iff.mp hg
        subst hs0
        refine dss_one (ds_if (fun _ => True) (p := !decide (([] : List CRow) = []) && true) (DWh.dt (dh_and (dt_cmp (dc_neT (α := List CRow) (xa := []) (ya := []) c.hu64 (c.bv 5).dw (DL.dw (dl_lst da_nil (few_le (by decide)))))) fun z => by simp at z)) (fun z => by simp at z) fun z => ?_)
        exact dss_one (c.append (xs := []) 5 (d := crowD ⟨p, m, ⟨day, last, o⟩⟩) (de_tup (da_cons (c.dv 3) (da_cons (c.dv 4) (da_cons (c.dv 7) (da_cons (c.dv 8) (da_cons (c.dv 9) da_nil))))) (few_le (by show 5 ≤ 10000000; decide))) (few_lt (by show 0 ≤ 10000000; decide)) rfl)
      | some g =>
        have hne : st ≠ [] := fun z => by rw [z] at hg; cases hg
        have lst : ∀ {Γ : List Bd} {q1 q2 q3 q4 : Pos} {j1 : Nat}, Γ[5]? = some (.ol (st.map crowD)) → DE X Γ (.Subscript (.Name "_law_row" q1) (.UnaryOp .USub (.Constant (.int 1) j1 q2) q3) q4) (.tuple [Datum.toD g.p, Datum.toD g.m, Datum.toD g.s.a, Datum.toD g.s.b, Datum.toD g.s.c]) := fun h => de_ixL (c.bv 5 h) (de_neg (un := un_neg) de_int.dw).dw (atI_last (f := crowD) hg)
        refine dss_one (ds_if (fun _ => True) (p := !decide (st = []) && (decide (g.s.c = o) && decide (g.s.b = some (day - 1)))) (DWh.dt (dh_and (dt_cmp (dc_neT (α := List CRow) (xa := st) (ya := []) c.hu64 (c.bv 5).dw (DL.dw (dl_lst da_nil (few_le (by decide)))))) fun _ => dh_and (dt_cmp (dc_eqT (α := List Part) (xa := g.s.c) (ya := o) c.hu64 (de_ixT (lst rfl) de_int.dw (d := Datum.toD g.s.c) rfl).dw (c.dv 9).dw)) fun _ => dh_and1 (dt_cmp (dc_eqT (α := Option Int) (xa := g.s.b) (ya := some (day - 1)) c.hu64 (de_ixT (lst rfl) de_int.dw (d := Datum.toD g.s.b) rfl).dw (de_sub (c.dv 7).dw de_int.dw).dw)))) (fun z => ?_) fun z => ?_)
        · rw [Bool.and_eq_true, Bool.and_eq_true] at z
          have hc : g.s.c = o := of_decide_eq_true z.2.1
          have hbq : g.s.b = some (day - 1) := of_decide_eq_true z.2.2
          have hlen : 0 < st.length := List.length_pos_iff.mpr hne
          refine dss_one (ds_setitem (n := 5) (m := st.length - 1) (d := crowD ⟨g.p, g.m, ⟨g.s.a, last, o⟩⟩) (c.var (by decide +kernel)) rfl (de_catT (de_sliceT (lst rfl) do_none (do_some de_int.dw)) (de_tup (da_cons (c.dv 8) (da_cons (c.dv 9) da_nil)) (few_le (by show 2 ≤ 10000000; decide))) (few_le (by show 3 + 2 ≤ 10000000; decide))) (de_neg (un := un_neg) de_int.dw).dw (by
            unfold L2.ixN
            rw [List.length_map, if_neg (by decide), if_pos (by omega)]
            congr 1; omega) ?_)
          show _ = _
          dsimp only
          rw [if_pos ⟨hc, hbq⟩]
          have e2 : (st.map crowD).set (st.length - 1) (crowD ⟨g.p, g.m, ⟨g.s.a, last, o⟩⟩) = (st.dropLast ++ [(⟨g.p, g.m, ⟨g.s.a, last, o⟩⟩ : CRow)]).map crowD := by
            rcases List.eq_nil_or_concat st with h | ⟨r, y, h⟩
            · exact absurd h hne
            · rw [h, List.concat_eq_append]
              simp
          rw [← e2]
          rfl
        · have hn : ¬ (g.s.c = o ∧ g.s.b = some (day - 1)) := fun ⟨a, b⟩ => by
            rw [decide_eq_true a, decide_eq_true b, decide_eq_false hne] at z
            cases z
          refine dss_one (c.append (xs := st.map crowD) 5 (d := crowD ⟨p, m, ⟨day, last, o⟩⟩) (de_tup (da_cons (c.dv 3) (da_cons (c.dv 4) (da_cons (c.dv 7) (da_cons (c.dv 8) (da_cons (c.dv 9) da_nil))))) (few_le (by show 5 ≤ 10000000; decide))) (few_lt (by rw [List.length_map]; omega)) ?_)
          show _ = _
          dsimp only
          rw [if_neg hn, List.map_append]
          rfl
    · show _ = _
      rw [if_neg (by have := of_decide_eq_false z; omega)]
  · have hcl := h1 p m
    refine dss_to (c.setL 2 (dl_cat (c.bv 2) (c.bv 5) (few_le (by rw [List.length_map, List.length_map]; omega))) rfl) ?_
    rw [← List.map_append]
    exact dss_un (i := 4) (dss_un (i := 5) (dss_nil rfl))
end
end PH

set_option Elab.async false
set_option linter.all false
set_option maxRecDepth 100000
set_option maxHeartbeats 8000000
/-! W5e: k05's own: the book with rules of few parts and days put to it. -/
namespace PH
open PySem PySem.Spec L2
open PySem.W (Datum DatumOrd Tup T3)
def machC : List (Tup Str) := [⟨[]⟩, ⟨[]⟩, ⟨["m"]⟩, ⟨["m", "p"]⟩]
def daysC : List Int := [0, 3, 3, 7]
def crRule (picks : List Int) (k : Nat) : Rule where
  kind := "over"
  one := partOf (nth0 picks (5 * k) % 6)
  other := partOf (1 + nth0 picks (5 * k + 1) % 9)
  day := daysC.getD (nth0 picks (5 * k + 2) % 4).toNat 0
  machs := machC.getD (nth0 picks (5 * k + 3) % 4).toNat ⟨[]⟩
def crF (picks : List Int) (s : List Rule) (k : Nat) : List Rule := if (!decide ((crRule picks k).one = (crRule picks k).other) && !decide (crRule picks k ∈ s)) = true then s ++ [crRule picks k] else s
def crowd (picks : List Int) (bk : List Rule) : List Rule := (List.range 4).foldl (crF picks) bk
theorem crF_bk6 {picks : List Int} {n k : Nat} {b : List Rule} (h : Bk6 n b) : Bk6 (n + 1) (crF picks b k) := by
  unfold crF
  split
  · rename_i z
    rw [Bool.and_eq_true] at z
    have z1 : ¬ (crRule picks k).one = (crRule picks k).other := by simpa using z.1
    have z2 : crRule picks k ∉ b := by simpa using z.2
    have p1 := isPart_of (x := nth0 picks (5 * k) % 6) (by omega) (by omega)
    have p2 := isPart_of (x := 1 + nth0 picks (5 * k + 1) % 9) (by omega) (by omega)
    have hm : (crRule picks k).machs ∈ machC := getD_mem (by show _ < 4; omega)
    have hm6 : (crRule picks k).machs ∈ machs6 := (by decide +kernel : ∀ t ∈ machC, t ∈ machs6) _ hm
    have hd : (crRule picks k).day ∈ daysC := getD_mem (by show _ < 4; omega)
    have d1 : 0 ≤ (crRule picks k).day ∧ (crRule picks k).day ≤ 1000000000 := by
      have e : daysC = [0, 3, 3, 7] := rfl
      rw [e] at hd
      simp only [List.mem_cons, List.not_mem_nil, or_false] at hd
      omega
    have m1 : ∀ t ∈ machs6, areMachines t = true ∧ t.items.length ≤ 6 ∧ ∀ m ∈ t.items, isName m = true ∧ m ≠ "" ∧ m.length ≤ 8 := by decide +kernel
    obtain ⟨b1, b2, b3⟩ := m1 _ hm6
    have hr : isRule (crRule picks k) = true ∧ smallR (crRule picks k) := by
      refine ⟨?_, p1.2, p2.2, by omega, fun m h => by have := (b3 m h).2.2; omega⟩
      unfold isRule
      have e0 : decide ((crRule picks k).kind ∈ (["over", "both"] : List Str)) = true := by
        show decide (("over" : Str) ∈ (["over", "both"] : List Str)) = true
        decide +kernel
      have e1 : isPart (crRule picks k).one = true := p1.1
      have e2 : isPart (crRule picks k).other = true := p2.1
      rw [e0, e1, e2, decide_eq_false z1, b1]
      unfold fromTo
      rw [decide_eq_true d1.1, decide_eq_true d1.2]
      rfl
    have mm : ∀ r, r ∈ b ++ [crRule picks k] → r ∈ b ∨ r = crRule picks k := fun r hr => (List.mem_append.mp hr).imp id List.mem_singleton.mp
    refine ⟨by rw [List.length_append]; have := h.len; simp only [List.length_cons, List.length_nil]; omega, List.nodup_append.mpr ⟨h.nd, by simp, fun a ha c hc e => z2 (by rw [List.mem_singleton.mp hc] at e; exact e ▸ ha)⟩, fun r q => ?_, fun r q => ?_, fun r q => ?_, fun r q => ?_⟩
    · rcases mm r q with z | z
      · exact h.rl r z
      · rw [z]; exact hr
    · rcases mm r q with z | z
      · exact h.ms r z
      · rw [z]; exact hm6
    · rcases mm r q with z | z
      · exact h.dy r z
      · rw [z]; exact d1.1
    · rcases mm r q with z | z
      · exact h.nm r z
      · rw [z]; exact ⟨partOf_name _, partOf_name _⟩
  · exact h.more (by omega)
theorem crowd_bk6 (picks : List Int) {n : Nat} {b : List Rule} (h : Bk6 n b) : Bk6 (n + 4) (crowd picks b) := crF_bk6 (crF_bk6 (crF_bk6 (crF_bk6 h)))
theorem crF_len (picks : List Int) (s : List Rule) (k : Nat) : (crF picks s k).length ≤ s.length + 1 := by
  unfold crF
  split
  · rw [List.length_append]; exact Nat.le_refl _
  · omega
theorem okW_of {n : Nat} {b : List Rule} (h : Bk6 n b) (hn : n ≤ 20) : OkW b := by
  have hl := h.len
  exact { l := by omega, m := h.m30, o := h.okB (by omega), ml := by have := h.machsLen; omega, n := h.ne, u := by have := uniqU_len b; omega }
section
variable {P : Program} {w : World} {K : PySem.W.Frag} {mg : Str → Option Value} {base : Heap}
def rCrowd (ds : List PyData) (b : Bd) : Prop := ∃ (picks : List Int) (bk : List Rule), ds = [.list (picks.map PyData.int), Datum.toD bk] ∧ 20 ≤ picks.length ∧ (∀ x ∈ picks, 0 ≤ x ∧ x < 1000) ∧ bk.length ≤ 60 ∧ b = .ol ((crowd picks bk).map Datum.toD)
theorem fn_crowded (B : Blt mg) (D : Df K mg "_law_crowded" l_crowded) (f1 : Fn P w K mg base "_law_a_part" 1 rPart) : Fn P w K mg base "_law_crowded" 2 rCrowd := by
  refine D.fn (N := ["_law_picks", "_law_book", "_law_found", "_law_k", "_law_one", "_law_other", "_law_machines", "_law_rule"]) (ps := ["_law_picks", "_law_book"]) ⟨rfl, rfl, rfl, by decide +kernel, rfl, by decide +kernel, by decide +kernel⟩ (fun ds b ⟨_, _, h, _⟩ => by rw [h]; rfl) (fun _ _ _ _ _ _ us hl => match us, hl with | [_, _], _ => rfl) ?_
  rintro X c ds b ⟨picks, bk, rfl, hpl, hin, hbl, rfl⟩
  have nn : ∀ j, 0 ≤ nth0 picks j ∧ nth0 picks j < 1000 := fun j => nth_in hin j
  have md : ∀ (z m : Int), 0 < m → 0 ≤ z % m ∧ z % m < m := fun z m hm => ⟨Int.emod_nonneg _ (by omega), Int.emod_lt_of_pos _ hm⟩
  refine dss_to (c.setL 2 (c.list B (c.dv 1).db) rfl) ?_
  refine dss_to (ds_forF (fun l : List Rule => [.fz (.list (picks.map PyData.int)), .fz (.list (bk.map Datum.toD)), .ol (l.map Datum.toD), .un, .un, .un, .un, .un]) (crF picks) bk (xs := List.range 4) (g := fun k : Nat => PyData.int (0 + (k : Int))) c.pass c.calm rfl (c.rangeN B 4 de_int rfl (by decide)) (c.tg 3) (fun i k hk => ⟨_, rfl, ?_⟩) rfl) (dss_one (c.retO 2 rfl))
  have hk4 : k < 4 := List.mem_range.mp (List.mem_of_getElem? hk)
  have hsl := foldl_len (crF_len picks) ((List.range 4).take i) bk
  have hti : ((List.range 4).take i).length ≤ 4 := by rw [List.length_take, List.length_range]; omega
  generalize ((List.range 4).take i).foldl (crF picks) bk = l at hsl ⊢
  have ix : ∀ {Γ : List Bd} {p1 p2 p4 p6 pos : Pos} {j1 : Nat}, Γ[0]? = some (.fz (.list (picks.map PyData.int))) → Γ[3]? = some (.fz (.int (0 + (k : Int)))) → DE X Γ (.Subscript (.Name "_law_picks" p1) (.BinOp (.Constant (.int 5) j1 p2) .Mult (.Name "_law_k" p4) p6) pos) (.int (nth0 picks (5 * k))) := fun {Γ p1 p2 p4 p6 pos j1} h0 h3 =>
    de_ixL (c.dv 0 h0).db (de_mul de_int.dw (c.dv 3 h3).dw (.inl ⟨by decide, by decide⟩)).dw (atI_at (f := PyData.int) (i := 5 * k) (by omega) (by omega))
  have ixa : ∀ {Γ : List Bd} {p1 p2 p3 p4 p6 p7 pos : Pos} {j1 j2 : Nat} (a : Nat), a ≤ 4 → Γ[0]? = some (.fz (.list (picks.map PyData.int))) → Γ[3]? = some (.fz (.int (0 + (k : Int)))) → DE X Γ (.Subscript (.Name "_law_picks" p1) (.BinOp (.BinOp (.Constant (.int 5) j1 p2) .Mult (.Name "_law_k" p4) p6) .Add (.Constant (.int (a : Int)) j2 p3) p7) pos) (.int (nth0 picks (5 * k + a))) := fun {Γ p1 p2 p3 p4 p6 p7 pos j1 j2} a ha h0 h3 =>
    de_ixL (c.dv 0 h0).db (de_add (de_mul de_int.dw (c.dv 3 h3).dw (.inl ⟨by decide, by decide⟩)).dw de_int.dw).dw (atI_at (f := PyData.int) (i := 5 * k + a) (by omega) (by omega))
  have m0 := md (nth0 picks (5 * k)) 6 (by decide)
  have m1 := md (nth0 picks (5 * k + 1)) 9 (by decide)
  have m2 := md (nth0 picks (5 * k + 2)) 4 (by decide)
  have m3 := md (nth0 picks (5 * k + 3)) 4 (by decide)
  refine dss_to (c.set 4 (c.call f1 (da_cons (de_mod (ix rfl rfl).dw de_int.dw (by decide)) da_nil) ⟨_, rfl, m0.1, rfl⟩) rfl) ?_
  refine dss_to (c.set 5 (c.call f1 (da_cons (de_add de_int.dw (de_mod (ixa 1 (by decide) rfl rfl).dw de_int.dw (by decide)).dw) da_nil) ⟨_, rfl, by omega, rfl⟩) rfl) ?_
  have et : ∀ {Γ : List Bd} {kk : Nat} {pos : Pos}, DE X Γ (.Tuple [] kk pos) (.tuple []) := de_tup da_nil (few_le (by decide))
  refine dss_to (c.set 6 (d := Datum.toD (crRule picks k).machs) (de_ixL (dl_lst (da_cons et (da_cons et (da_cons (de_tup (da_cons de_str da_nil) (few_le (by show 1 ≤ 10000000; decide))) (da_cons (de_tup (da_cons de_str (da_cons de_str da_nil)) (few_le (by show 2 ≤ 10000000; decide))) da_nil)))) (few_le (by show 4 ≤ 10000000; decide))).db (de_mod (ixa 3 (by decide) rfl rfl).dw de_int.dw (by decide)).dw
    (atI_at (f := Datum.toD) (xs := machC) (d := ⟨[]⟩) (i := (nth0 picks (5 * k + 3) % 4).toNat) (by omega) (by show (nth0 picks (5 * k + 3) % 4).toNat < 4; omega))) rfl) ?_
  refine dss_to (c.set 7 (d := Datum.toD (crRule picks k)) (de_tup (da_cons de_str (da_cons (c.dv 4) (da_cons (c.dv 5) (da_cons (d := .int (crRule picks k).day) (de_ixL (dl_lst (da_cons de_int (da_cons de_int (da_cons de_int (da_cons de_int da_nil)))) (few_le (by show 4 ≤ 10000000; decide))).db (de_mod (ixa 2 (by decide) rfl rfl).dw de_int.dw (by decide)).dw
    (atI_at (f := PyData.int) (xs := daysC) (d := 0) (i := (nth0 picks (5 * k + 2) % 4).toNat) (by omega) (by show (nth0 picks (5 * k + 2) % 4).toNat < 4; omega))) (da_cons (c.dv 6) da_nil))))) (few_le (by show 5 ≤ 10000000; decide))) rfl) ?_
  have h4 : partOf (nth0 picks (5 * k) % 6) = (crRule picks k).one := rfl
  have h5 : partOf (1 + nth0 picks (5 * k + 1) % 9) = (crRule picks k).other := rfl
  show DSs X [.fz (.list (picks.map PyData.int)), .fz (.list (bk.map Datum.toD)), .ol (l.map Datum.toD), .fz (.int (0 + (k : Int))), .fz (Datum.toD (partOf (nth0 picks (5 * k) % 6))), .fz (Datum.toD (partOf (1 + nth0 picks (5 * k + 1) % 9))), .fz (Datum.toD (crRule picks k).machs), .fz (Datum.toD (crRule picks k))] _ _
  rw [h4, h5]
  have ec : crF picks l k = if (!decide ((crRule picks k).one = (crRule picks k).other) && !decide (crRule picks k ∈ l)) = true then l ++ [crRule picks k] else l := rfl
  rw [ec]
  generalize crRule picks k = r
  refine dss_to (Γ1 := [.fz (.list (picks.map PyData.int)), .fz (.list (bk.map Datum.toD)), .ol ((if (!decide (r.one = r.other) && !decide (r ∈ l)) = true then l ++ [r] else l).map Datum.toD), .fz (.int (0 + (k : Int))), .fz (Datum.toD r.one), .fz (Datum.toD r.other), .fz (Datum.toD r.machs), .fz (Datum.toD r)])
    (ds_if (fun _ => True) (p := !decide (r.one = r.other) && !decide (r ∈ l)) (DWh.dt (dh_and (dt_cmp (dc_neT (α := Part) c.hu64 (c.dv 4).dw (c.dv 5).dw)) fun _ => dh_and1 (dt_cmp (dc_ninL (α := Rule) (xa := r) (ls := l) c.hu65 (c.dv 7).dw (c.bv 2).dw)))) (fun z => ?_) fun z => dss_nil ?_) (dss_un (i := 3) (dss_un (i := 4) (dss_un (i := 5) (dss_un (i := 6) (dss_un (i := 7) (dss_nil rfl))))))
  · refine dss_one (c.append (xs := l.map Datum.toD) 2 (d := Datum.toD r) (c.dv 7) (few_lt (by rw [List.length_map]; omega)) ?_)
    show _ = _
    rw [if_pos z, List.map_append]
    rfl
  · show _ = _
    rw [if_neg (by rw [z]; exact Bool.false_ne_true)]
end
end PH

set_option Elab.async false
set_option linter.all false
set_option maxRecDepth 100000
set_option maxHeartbeats 4000000
/-! P61: a def's list whose rows hold lists of their own: data for a while, then those lists are changed. -/
namespace PH
open PySem PySem.Spec L2
open PySem.W (Datum DatumOrd Tup)
/-- the tuples alone -/
def tupsOf (F : Hp) : Hp := fun p => match F p with
  | some (.tup vs) => some (.tup vs)
  | _ => none
theorem tupsOf_tup {F : Hp} {p : Addr} {vs : List V} (h : F p = some (.tup vs)) : tupsOf F p = some (.tup vs) := by unfold tupsOf; rw [h]
theorem tupsOf_is {F : Hp} {p : Addr} {o : HO} (h : tupsOf F p = some o) : ∃ vs, o = .tup vs ∧ F p = some (.tup vs) := by
  unfold tupsOf at h
  split at h
  · rename_i vs e
    cases h
    exact ⟨vs, rfl, e⟩
  · cases h
mutual
def noList : PyData → Bool
  | .list _ => false
  | .dict _ => false
  | .tuple ds => noLists ds
  | _ => true
def noLists : List PyData → Bool
  | [] => true
  | d :: ds => noList d && noLists ds
end
section
variable {P : Program} {w : World} {K : PySem.W.Frag} {F : Hp}
mutual
theorem Rep.tups : ∀ {d : PyData} {v : V}, noList d = true → Rep P w K F v d → Rep P w K (tupsOf F) v d
  | _, _, _, .non => .non
  | _, _, _, .bl b => .bl b
  | _, _, _, .int i => .int i
  | _, _, _, .str x => .str x
  | _, _, c, .lst h r => by simp [noList] at c
  | _, _, c, .tup h r => .tup (tupsOf_tup h) (RepL.tups (by simpa [noList] using c) r)
  | _, _, c, .dct h k r => by simp [noList] at c
theorem RepL.tups : ∀ {ds : List PyData} {vs : List V}, noLists ds = true → RepL P w K F vs ds → RepL P w K (tupsOf F) vs ds
  | _, _, _, .nil => .nil
  | _, _, c, .cons h r => .cons (Rep.tups (by simp [noLists] at c; exact c.1) h) (RepL.tups (by simp [noLists] at c; exact c.2) r)
end
/-- both heaps -/
def joinH (F G : Hp) : Hp := fun p => match F p with
  | some o => some o
  | none => G p
theorem joinH_l {F G : Hp} : Sub F (joinH F G) := fun p o h => by unfold joinH; rw [h]
theorem joinH_r {F G H : Hp} (a : Sub F H) (b : Sub G H) : Sub G (joinH F G) := fun p o h => by
  unfold joinH
  cases e : F p with
  | none => exact h
  | some u =>
    have z1 := a p u e
    have z2 := b p o h
    rw [z1] at z2
    exact z2
theorem joinH_sub {F G H : Hp} (a : Sub F H) (b : Sub G H) : Sub (joinH F G) H := fun p o h => by
  unfold joinH at h
  cases e : F p with
  | none => rw [e] at h; exact b p o h
  | some u =>
    rw [e] at h
    cases h
    exact a p o e
end
/-- the slot with its value held -/
def pinB (X : Cx) (v : V) : Bd → Bd
  | .fz d => .ob v fun F => Rp X F v d
  | .sc ns => .ob v fun F => ∃ a, v = .ref a ∧ SqL X.K F a (ns.map V.int)
  | _ => .un
def pinL (X : Cx) (vs : Nat → V) : Nat → List Bd → List Bd
  | _, [] => []
  | k, b :: r => pinB X (vs k) b :: pinL X vs (k + 1) r
theorem pinL_len (X : Cx) (vs : Nat → V) : ∀ (Γ : List Bd) (k : Nat), (pinL X vs k Γ).length = Γ.length
  | [], k => rfl
  | b :: r, k => by show (pinL X vs (k + 1) r).length + 1 = _; rw [pinL_len X vs r (k + 1)]; rfl
theorem pinL_get (X : Cx) (vs : Nat → V) : ∀ (Γ : List Bd) (k n : Nat), (pinL X vs k Γ)[n]? = (Γ[n]?).map (pinB X (vs (k + n)))
  | [], k, n => by simp [pinL]
  | b :: r, k, 0 => rfl
  | b :: r, k, n + 1 => by
    show (pinL X vs (k + 1) r)[n]? = _
    rw [pinL_get X vs r (k + 1) n, List.getElem?_cons_succ, show k + 1 + n = k + (n + 1) by omega]
/-- what may be held -/
def pinOk : Bd → Bool
  | .un => true
  | .fz _ => true
  | .sc _ => true
  | _ => false
section
variable {X : Cx} {P : Program} {w : World} {K : PySem.W.Frag} {mg : Str → Option Value} {base : Heap} {N : List Str} {sc : Scope} {k i : Nat} {x : Str} {top : Bool} {Γ : List Bd} {pos p : Pos} {d : PyData} {v : V}
/-- a held slot, as data -/
theorem FnCx.ov (c : FnCx X P w K mg base N sc k top) (i : Nat) (hΓ : Γ[i]? = some (.ob v fun F => Rp X F v d) := by rfl) (hv : visB N sc i x = true := by decide +kernel) : DE X Γ (.Name x pos) d := fun B => pe_imp (c.var hv).pe fun σ H Q ⟨F, A, k⟩ => by
  obtain ⟨h1, F1, h2, h3⟩ := A.sl i _ hΓ
  exact ⟨v, h1, k v F H (Sub.refl F) (Sub.refl H) A (h3.mono h2)⟩
theorem ps_anyP {st : Stmt} (Γv : (Nat → V) → List Bd) (P1 : (Nat → V) → Po) (h : ∀ vs, DS X (Γv vs) st (P1 vs)) : PS X st (fun D σ H => ∃ vs B, tS X B (Γv vs) (P1 vs) D σ H) := ⟨fun pins s σ H D I ⟨vs, B, hw⟩ => (h vs B).run pins s σ H D I hw⟩
/-- the def's answer, with no more of the heap than it is given -/
theorem pe_thaw {f y : Str} {R : List PyData → Bd → Prop} {l : List PyData} {p2 : Pos} (h : Callee X f R) (hg : Gl X f) (hv : VarAt X i y) (hR : R [d] (.ol l))
    (he : starEach [.Name y p2] X.env = (false, eval (.Name y p2) X.env) :: starEach [] X.env := by rfl) (hpl : (backTo pos (starEach [] X.env)).any (·.1) = false := by rfl) :
    PE X (.Call (.Name f p) [.Name y p2] [] pos) (fun σ H Q => ∃ v Fs, σ[i]? = some (some v) ∧ Sub Fs H ∧ Rp X Fs v d ∧ ∀ q us F' H', Sub Fs F' → Sub H H' → Sub F' H' → (∀ p o, F' p = some o → Fs p = some o ∨ H p = none) → F' q = none → H q = none → H' q = some (.lst us) → RpL X F' us l → Q (.ref q) H') := by
  obtain ⟨CX, k, f, fd, ps, hF, hr, hm, hk, hb, hx⟩ := h.ex
  refine pe_imp (pe_call hF hr hg hm hk hb (dvs := []) .nil hx (pa_cons hv.pe pa_nil he) h.nd he hpl) fun σ H Q ⟨v, Fs, h1, h2, h3, kk⟩ => ?_
  refine ⟨v, h1, ?_⟩
  show spR X.prog X.w X.K R ([v] ++ []) H Q E0
  rw [List.append_nil]
  refine ⟨[d], .ol l, Fs, hR, h2, .cons h3 .nil, fun v F' H' s' t' fh' fr' hv => ?_⟩
  obtain ⟨q, us, e1, e2, e3, e4, e5⟩ := hv
  subst e1
  exact kk q us F' H' s' t' fh' fr' e2 e3 e4 e5
end
end PH
namespace PH
open PySem PySem.Spec L2
/-- the frame with its values held, the slot i by these rows -/
def pinG (X : Cx) (Γ : List Bd) (i : Nat) (d : PyData) (vs : Nat → V) : List Bd := (pinL X vs 0 Γ).set i (.ob (vs i) fun F => Rp X F (vs i) d)
/-- what is judged leaves the frame as it was -/
def stayP (Γ : List Bd) : Po := { nx := fun Γ' => Γ' = Γ, rt := fun _ => False }
section
variable {X : Cx} {Γ : List Bd} {rest : List Stmt} {P : Po} {i ib ir : Nat} {f x y xr : Str} {R : List PyData → Bd → Prop} {bds rows : List PyData} {s s2 : Str} {M : Nat}
/-- x = f(y); two statements that read; for xr in x: xr[4].append(s); x.append(s2) -/
theorem dss_thaw {st1 st2 : Stmt} {q1 q2 q3 q4 q5 q6 p1 p2 pos pos1 pos3 pos4 pos5 ap1 ap2 cp1 cp2 ix1 cs1 cs2 : Pos} {j1 j2 j3 : Nat}
    (hp : PassesOwn (model X.prog X.w) X.A X.env X.xe) (hc : X.calm = true) (hcall : Callee X f R) (hg : Gl X f) (hb : VarAt X ib y) (hxs : StoreAt X i x) (hxv : VarAt X i x) (hrs : StoreAt X ir xr) (hrv : VarAt X ir xr)
    (hk : ∀ b ∈ Γ, pinOk b = true) (hi : Γ[i]? = some .un) (hir : Γ[ir]? = some .un) (hne : ir ≠ i) (hΓb : Γ[ib]? = some (.fz (.list bds))) (hbl : noLists bds = true) (hR : R [.list bds] (.ol rows)) (hz : rows.length + M < sizeLine)
    (hrow : ∀ d ∈ rows, ∃ ds l, d = .tuple ds ∧ ds[4]? = some (.list l) ∧ l.length ≤ M ∧ ∀ F vs, RpL X F vs bds → RpL X F vs l → False)
    (h1 : ∀ vs, DS X (pinG X Γ i (.list rows) vs) st1 (stayP (pinG X Γ i (.list rows) vs)))
    (h2 : ∀ vs, DS X (pinG X Γ i (.list rows) vs) st2 (stayP (pinG X Γ i (.list rows) vs)))
    (hr : DSs X Γ rest P)
    (he : starEach [.Name y p2] X.env = (false, eval (.Name y p2) X.env) :: starEach [] X.env := by rfl) (hpl : (backTo pos (starEach [] X.env)).any (·.1) = false := by rfl)
    (sw1 : swapsWith (.Call (.Name f p1) [.Name y p2] [] pos) (some (.Name x q1)) pos1.line X.env = pure false := by rfl)
    (sw3 : swapsWith (.Call (.Attribute (.Subscript (.Name xr q4) (.Constant (.int 4) j1 ix1) q5) "append" ap1) [.Constant (.str s) j2 cs1] [] cp1) none pos3.line X.env = pure false := by rfl)
    (sw5 : swapsWith (.Call (.Attribute (.Name x q6) "append" ap2) [.Constant (.str s2) j3 cs2] [] cp2) none pos5.line X.env = pure false := by rfl)
    (hb3 : attributeBase (.Subscript (.Name xr q4) (.Constant (.int 4) j1 ix1) q5) "append" X.env (eval (.Subscript (.Name xr q4) (.Constant (.int 4) j1 ix1) q5) X.env) = eval (.Subscript (.Name xr q4) (.Constant (.int 4) j1 ix1) q5) X.env := by rfl)
    (hb5 : attributeBase (.Name x q6) "append" X.env (eval (.Name x q6) X.env) = eval (.Name x q6) X.env := by rfl)
    (hl3 : (ap1.endLine == cp1.line) = true := by rfl) (hl5 : (ap2.endLine == cp2.line) = true := by rfl) :
    DSs X Γ (.Assign [.Name x q1] (.Call (.Name f p1) [.Name y p2] [] pos) pos1 :: st1 :: st2 ::
      .For (.Name xr q2) (.Name x q3) [.Expr (.Call (.Attribute (.Subscript (.Name xr q4) (.Constant (.int 4) j1 ix1) q5) "append" ap1) [.Constant (.str s) j2 cs1] [] cp1) pos3] [] pos4 ::
      .Expr (.Call (.Attribute (.Name x q6) "append" ap2) [.Constant (.str s2) j3 cs2] [] cp2) pos5 :: rest) P := fun B =>
  pss_imp (pss_cons (ps_setAt hxs (pe_thaw hcall hg hb hR he hpl) sw1)
    (pss_cons (ps_anyP (pinG X Γ i (.list rows)) (fun vs => stayP (pinG X Γ i (.list rows) vs)) h1) (pss_cons (ps_anyP (pinG X Γ i (.list rows)) (fun vs => stayP (pinG X Γ i (.list rows) vs)) h2)
    (pss_cons (ps_for hp hc (pi_list hxv.pe) (pg_name hrs.nd hrs.at' hrs.loc hrs.fn)
      (pss_cons (ps_expr (pe_bm PySem.F.plainAttrs_list PySem.F.slot_list_append PySem.F.type_list_append mt_append (pe_ix ix_tup hrv.pe pe_int (fun _ _ => rfl)) (pa_cons pe_str pa_nil) hb3 rfl hl3 rfl rfl) sw3) pss_nil))
    (pss_cons (ps_expr (pe_bm PySem.F.plainAttrs_list PySem.F.slot_list_append PySem.F.type_list_append mt_append hxv.pe (pa_cons pe_str pa_nil) hb5 rfl hl5 rfl rfl) sw5)
    (pss_anyS hr)))))) fun D σ H ⟨F, A, k⟩ => by
    obtain ⟨vb, hvb, rb⟩ := A.sl ib _ hΓb
    obtain ⟨pb, us0, hF0, r0, rfl⟩ : ∃ pb us0, F pb = some (.lst us0) ∧ RpL X F us0 bds ∧ vb = .ref pb := by
      cases rb with
      | lst h r => exact ⟨_, _, h, r, rfl⟩
    have ht0 : tupsOf F pb = none := by unfold tupsOf; rw [hF0]
    have sF : Sub (upd (tupsOf F) pb (.lst us0)) F := fun q o e => by
      by_cases c : q = pb
      · subst c; rw [upd_same] at e; cases e; exact hF0
      · rw [upd_ne c] at e
        obtain ⟨vs, rfl, h⟩ := tupsOf_is e
        exact h
    have rs0 : RpL X (upd (tupsOf F) pb (.lst us0)) us0 bds := (RepL.tups hbl r0).mono (Sub.new ht0)
    refine ⟨.ref pb, upd (tupsOf F) pb (.lst us0), hvb, sF.trans A.fh, .lst upd_same rs0, fun q us F' H1 s1 t1 u1 n1 fq hq eq rr => ?_⟩
    -- the frame held
    have nq : ∀ p o, F' p = some o → F p = some o ∨ H p = none := fun p o e => (n1 p o e).imp (fun z => sF _ _ z) id
    have fFq : F q = none := A.fh.free hq
    have hJ : joinH F F' q = none := by unfold joinH; rw [fFq]; exact fq
    have sJ : Sub (joinH F F') H1 := joinH_sub (A.fh.trans t1) u1
    have sM : Sub (upd (joinH F F') q (.lst us)) H1 := fun p o e => by
      by_cases c : p = q
      · subst c; rw [upd_same] at e; cases e; exact eq
      · rw [upd_ne c] at e; exact sJ _ _ e
    have sFM : Sub F (upd (joinH F F') q (.lst us)) := joinH_l.trans (Sub.new hJ)
    have sF'M : Sub F' (upd (joinH F F') q (.lst us)) := (joinH_r (A.fh.trans t1) u1).trans (Sub.new hJ)
    have hil : i < Γ.length := (List.getElem?_eq_some_iff.mp hi).1
    have his : i < σ.length := by have := A.len; omega
    generalize hσ : σ.set i (some (V.ref q)) = σ1
    have hσi : σ1[i]? = some (some (.ref q)) := by rw [← hσ]; exact List.getElem?_set_self his
    have hσk : ∀ k : Nat, k ≠ i → σ1[k]? = σ[k]? := fun k h => by rw [← hσ]; exact List.getElem?_set_ne (Ne.symm h)
    have hσl : σ1.length = Γ.length := by rw [← hσ, List.length_set]; exact A.len
    generalize hvs : (fun k : Nat => match σ1[k]? with | some (some v) => v | _ => V.non) = vs
    have hv1 : ∀ (k : Nat) (v : V), σ1[k]? = some (some v) → vs k = v := fun k v h => by rw [← hvs]; show (match σ1[k]? with | some (some v) => v | _ => V.non) = v; rw [h]
    have vsi : vs i = .ref q := hv1 i _ hσi
    have A1 : At X ⟨upd (joinH F F') q (.lst us), H1⟩ (pinG X Γ i (.list rows) vs) (upd (joinH F F') q (.lst us)) σ1 H1 := by
      refine ⟨by unfold pinG; rw [List.length_set, pinL_len]; exact hσl, Sub.refl _, Sub.refl _, sM, fun p o e => .inl e, fun k b e => ?_, fun k j b c a e _ ob => ?_⟩
      · unfold pinG at e
        rcases getSet e with ⟨rfl, rfl⟩ | ⟨ne, e⟩
        · refine ⟨by rw [vsi]; exact hσi, _, Sub.refl _, ?_⟩
          show Rp X _ (vs k) _
          rw [vsi]
          exact .lst upd_same (rr.mono sF'M)
        · rw [pinL_get, Nat.zero_add] at e
          cases hb0 : Γ[k]? with
          | none => rw [hb0] at e; cases e
          | some b0 =>
            rw [hb0] at e
            have e : pinB X (vs k) b0 = b := Option.some.inj e
            subst e
            have S := A.sl k b0 hb0
            cases b0 with
            | fz d =>
              obtain ⟨v, g1, g2⟩ := S
              have g1' := (hσk k ne).trans g1
              have := hv1 k v g1'
              subst this
              exact ⟨g1', _, Sub.refl _, g2.mono sFM⟩
            | sc ns =>
              obtain ⟨a, g1, g2⟩ := S
              have g1' := (hσk k ne).trans g1
              have hva := hv1 k _ g1'
              exact ⟨by rw [hva]; exact g1', _, Sub.refl _, a, hva, sqL_sub sFM g2⟩
            | un => exact True.intro
            | ol l => exact absurd (hk _ (List.mem_of_getElem? hb0)) (by show ¬ (false = true); decide)
            | od l => exact absurd (hk _ (List.mem_of_getElem? hb0)) (by show ¬ (false = true); decide)
            | rf l => exact absurd (hk _ (List.mem_of_getElem? hb0)) (by show ¬ (false = true); decide)
            | ob l l2 => exact absurd (hk _ (List.mem_of_getElem? hb0)) (by show ¬ (false = true); decide)
      · exfalso
        unfold pinG at e
        rcases getSet e with ⟨rfl, rfl⟩ | ⟨ne, e⟩
        · cases ob
        · rw [pinL_get, Nat.zero_add] at e
          cases hb0 : Γ[k]? with
          | none => rw [hb0] at e; cases e
          | some b0 =>
            rw [hb0] at e
            have e : pinB X (vs k) b0 = b := Option.some.inj e
            subst e
            cases b0 <;> cases ob
    subst hσ
    refine ⟨vs, ⟨upd (joinH F F') q (.lst us), H1⟩, _, A1, fun Γ2 F2 σ2 H2 e2 A2 => ?_, fun _ _ _ _ z => z.elim, fun _ _ _ _ z => z.elim, fun _ _ _ _ z => z.elim⟩
    subst e2
    refine ⟨vs, ⟨upd (joinH F F') q (.lst us), H1⟩, _, A2, fun Γ3 F3 σ3 H3 e3 A3 => ?_, fun _ _ _ _ z => z.elim, fun _ _ _ _ z => z.elim, fun _ _ _ _ z => z.elim⟩
    subst e3
    -- the loop
    have S3 : ∀ (k : Nat) (v : V) (φ : Hp → Prop), (pinG X Γ i (.list rows) vs)[k]? = some (.ob v φ) → σ3[k]? = some (some v) := fun k v φ e => (A3.sl k _ e).1
    have g3i : σ3[i]? = some (some (.ref q)) := by
      have z := S3 i (vs i) _ (by unfold pinG; exact List.getElem?_set_self (by rw [pinL_len]; exact hil))
      rw [vsi] at z
      exact z
    have l3 : σ3.length = Γ.length := by have := A3.len; unfold pinG at this; rw [List.length_set, pinL_len] at this; exact this
    have h13 : Sub H1 H3 := A3.h0
    have hirl : ir < Γ.length := (List.getElem?_eq_some_iff.mp hir).1
    have hul : us.length = rows.length := rr.length
    have pk : ∀ (kk : Nat) (b : Bd) (v : V), Γ[kk]? = some b → kk ≠ i → vs kk = v → (∃ φ, pinB X v b = .ob v φ) → σ3[kk]? = some (some v) := fun kk b v e ne ev ⟨φ, eφ⟩ => S3 kk v φ (by
      unfold pinG
      rw [List.getElem?_set_ne (Ne.symm ne), pinL_get, e, Nat.zero_add, ev]
      exact congrArg some eφ)
    generalize hN : (fun n : Addr => H n = none ∧ ∃ ns, F' n = some (.lst ns) ∧ ns.length ≤ M) = Nst
    have nN : ∀ n, Nst n ↔ (H n = none ∧ ∃ ns, F' n = some (.lst ns) ∧ ns.length ≤ M) := fun n => by rw [← hN]
    have nq0 : ¬ Nst q := fun z => by obtain ⟨_, ns, z, _⟩ := (nN q).mp z; rw [fq] at z; cases z
    have h3q : H3 q = some (.lst us) := h13 _ _ eq
    refine ⟨_, g3i, q, rfl, ⟨us, SqL.of h3q⟩, fun j m σ' H' => m = us.length - j ∧ j ≤ us.length ∧ σ'.length = Γ.length ∧ (∀ kk : Nat, kk ≠ ir → σ'[kk]? = σ3[kk]?) ∧ (∀ p, ¬ Nst p → H' p = H3 p) ∧ ∀ p, Nst p → ∃ ws, H' p = some (.lst ws) ∧ ws.length ≤ M + j,
      ⟨us.length, by simp, Nat.zero_le _, l3, fun _ _ => rfl, fun _ _ => rfl, fun p hp => ?_⟩, ?_⟩
    · obtain ⟨_, ns, z, zl⟩ := (nN p).mp hp
      exact ⟨ns, h13 _ _ (u1 _ _ z), zl⟩
    rintro j m σ' H' ⟨rfl, hle, hlen, hs', hh', hn'⟩
    have eq' : H' q = some (.lst us) := (hh' q nq0).trans h3q
    by_cases hlt : j < us.length
    · refine .inr ⟨⟨us, us[j], SqL.of eq', List.getElem?_eq_getElem hlt⟩, fun σ2 H2 => us.length - (j + 1) = us.length - (j + 1) ∧ j + 1 ≤ us.length ∧ σ2.length = Γ.length ∧ (∀ kk : Nat, kk ≠ ir → σ2[kk]? = σ3[kk]?) ∧ (∀ p, ¬ Nst p → H2 p = H3 p) ∧ ∀ p, Nst p → ∃ ws, H2 p = some (.lst ws) ∧ ws.length ≤ M + (j + 1), fun σ2 H2 z => ⟨us.length - (j + 1), by omega, z⟩, fun z H2 ⟨e1, e2⟩ => ?_⟩
      have e1' := e1.symm
      subst e1'
      have e3 := e2 us (SqL.of eq')
      obtain ⟨d, hd, rd⟩ := rr.get' e3
      obtain ⟨ds, l, rfl, h4, hlM, hno⟩ := hrow d (List.mem_of_getElem? hd)
      cases rd with
      | @tup t ws _ ht rw4 =>
        obtain ⟨v4, hv4, rv4⟩ := rw4.get h4
        cases rv4 with
        | @lst n ns _ hn rn =>
          have hnN : Nst n := (nN n).mpr ⟨(n1 n _ hn).elim (fun z => by
            exfalso
            by_cases c : n = pb
            · subst c
              rw [upd_same] at z
              cases z
              exact hno F' us0 (rs0.mono s1) rn
            · rw [upd_ne c] at z
              obtain ⟨_, z2, _⟩ := tupsOf_is z
              cases z2) id, ns, hn, by rw [rn.length]; exact hlM⟩
          have htN : ¬ Nst t := fun z => by obtain ⟨_, ns, z, _⟩ := (nN t).mp z; rw [ht] at z; cases z
          have ht' : H' t = some (.tup ws) := (hh' t htN).trans (h13 _ _ (u1 _ _ ht))
          obtain ⟨ws4, hw4, hw4l⟩ := hn' n hnN
          have hsr : (σ'.set ir (some (V.ref t)))[ir]? = some (some (.ref t)) := List.getElem?_set_self (by omega)
          refine ⟨_, hsr, t, ws, 4, .ref n, rfl, rfl, SqT.of ht', atI_nat (j := 4) hv4, .inl ⟨rfl, ws4, SqL.of hw4⟩, n, ws4, .str s, rfl, rfl, hw4, by omega, ?_⟩
          refine ⟨rfl, hlt, by rw [List.length_set]; exact hlen, fun kk hkk => (List.getElem?_set_ne (Ne.symm hkk)).trans (hs' kk hkk), fun p hp => ?_, fun p hp => ?_⟩
          · have c : p ≠ n := fun z => hp (z ▸ hnN)
            rw [upd_ne c]
            exact hh' p hp
          · by_cases c : p = n
            · subst c
              rw [upd_same]
              exact ⟨_, rfl, by rw [List.length_append]; simp only [List.length_cons, List.length_nil]; omega⟩
            · rw [upd_ne c]
              obtain ⟨w2, z1, z2⟩ := hn' p hp
              exact ⟨w2, z1, by omega⟩
    · have e : j = us.length := by omega
      subst e
      have gi' : σ'[i]? = some (some (.ref q)) := (hs' i (Ne.symm hne)).trans g3i
      refine .inl ⟨⟨us, SqL.of eq', Nat.le_refl _⟩, _, gi', .inl ⟨rfl, us, SqL.of eq'⟩, q, us, .str s2, rfl, rfl, eq', by omega, ?_⟩
      have hold : ∀ p o, H p = some o → upd H' q (.lst (us ++ [.str s2])) p = some o := fun p o e => by
        have c : p ≠ q := fun z => by subst z; rw [hq] at e; cases e
        have cn : ¬ Nst p := fun z => by have := ((nN p).mp z).1; rw [this] at e; cases e
        rw [upd_ne c, hh' p cn]
        exact h13 _ _ (t1 _ _ e)
      refine ⟨B, F, ⟨hlen, A.f0, fun p o e => hold p o (A.h0 p o e), fun p o e => hold p o (A.fh p o e), A.fr, fun kk b e => ?_, fun kk j b c a e _ ob => ?_⟩, k⟩
      · have S := A.sl kk b e
        cases b with
        | un => exact True.intro
        | fz d =>
          obtain ⟨v, g1, g2⟩ := S
          have ni : kk ≠ i := fun z => by subst z; rw [hi] at e; cases e
          have nir : kk ≠ ir := fun z => by subst z; rw [hir] at e; cases e
          exact ⟨v, (hs' kk nir).trans (pk kk _ v e ni (hv1 kk v ((hσk kk ni).trans g1)) ⟨_, rfl⟩), g2⟩
        | sc ns =>
          obtain ⟨a, g1, g2⟩ := S
          have ni : kk ≠ i := fun z => by subst z; rw [hi] at e; cases e
          have nir : kk ≠ ir := fun z => by subst z; rw [hir] at e; cases e
          exact ⟨a, (hs' kk nir).trans (pk kk _ _ e ni (hv1 kk _ ((hσk kk ni).trans g1)) ⟨_, rfl⟩), g2⟩
        | ol l => exact absurd (hk _ (List.mem_of_getElem? e)) (by show ¬ (false = true); decide)
        | od l => exact absurd (hk _ (List.mem_of_getElem? e)) (by show ¬ (false = true); decide)
        | rf l => exact absurd (hk _ (List.mem_of_getElem? e)) (by show ¬ (false = true); decide)
        | ob l l2 => exact absurd (hk _ (List.mem_of_getElem? e)) (by show ¬ (false = true); decide)
      · exfalso
        have z := hk _ (List.mem_of_getElem? e)
        cases b <;> first | (cases ob; done) | (cases z; done)
end
end PH

set_option Elab.async false
set_option linter.all false
set_option maxRecDepth 100000
set_option maxHeartbeats 4000000
/-! M52: rows of clashes asked at a day; what the thaw asks of them (k05). -/
namespace PH
open PySem PySem.Spec L2
open PySem.W (Datum DatumOrd Tup T3)
theorem flatMap_one {α β : Type} [DecidableEq α] (g : α → List β) (q : β → Bool) : ∀ (l : List α) (a : α), l.Nodup → a ∈ l → (∀ x ∈ l, x ≠ a → ∀ y ∈ g x, q y = false) → (l.flatMap g).filter q = (g a).filter q
  | [], a, _, h, _ => nomatch h
  | x :: l, a, hn, ha, hq => by
    rw [List.flatMap_cons, List.filter_append]
    have hn2 := List.nodup_cons.mp hn
    by_cases e : x = a
    · subst e
      have : (l.flatMap g).filter q = [] := List.filter_eq_nil_iff.mpr fun y hy => by
        obtain ⟨z, hz, hy⟩ := List.mem_flatMap.mp hy
        rw [hq z (List.mem_cons_of_mem _ hz) (fun e => hn2.1 (e ▸ hz)) y hy]
        exact Bool.false_ne_true
      rw [this, List.append_nil]
    · have h1 : (g x).filter q = [] := List.filter_eq_nil_iff.mpr fun y hy => by
        rw [hq x List.mem_cons_self e y hy]
        exact Bool.false_ne_true
      rw [h1, List.nil_append]
      refine flatMap_one g q l a hn2.2 ?_ fun z hz => hq z (List.mem_cons_of_mem _ hz)
      rcases List.mem_cons.mp ha with z | z
      · exact absurd z.symm e
      · exact z
def pmC (p : Part) (m : Str) (u : CRow) : Bool := decide ((u.p, u.m) = (p, m))
def lateC (q : Int) (u : CRow) : Bool := match u.s.b with | none => true | some e => decide (q ≤ e)
theorem machsA_nodup {bk : List Rule} (h : ∀ r ∈ bk, ∀ m ∈ r.machs.items, m ≠ "") : (machsA bk).Nodup := by
  rw [← machsE_A h]
  unfold machsE
  exact (srt_perm _).nodup_iff.mpr (machsD_facts bk [(("" : Str), PyData.bool true)] (by simp)).1
theorem clashM_pm {bk : List Rule} {p : Part} {m : Str} (hp : p ∈ partsL bk) (hm : m ∈ machsA bk) (hn : (machsA bk).Nodup) : (clashM bk).filter (pmC p m) = crows bk p m := by
  unfold clashM
  rw [flatMap_one _ _ _ p (partsL_nodup bk) hp, flatMap_one _ _ _ m hn hm]
  · refine List.filter_eq_self.mpr fun u hu => ?_
    unfold crows at hu
    obtain ⟨s, _, rfl⟩ := List.mem_map.mp hu
    exact decide_eq_true rfl
  · intro x _ hx u hu
    unfold crows at hu
    obtain ⟨s, _, rfl⟩ := List.mem_map.mp hu
    exact decide_eq_false fun z => hx (by injection z)
  · intro x _ hx u hu
    obtain ⟨y, _, hu⟩ := List.mem_flatMap.mp hu
    unfold crows at hu
    obtain ⟨s, _, rfl⟩ := List.mem_map.mp hu
    exact decide_eq_false fun z => hx (by injection z)
theorem hereC_at {bk : List Rule} {p : Part} {m : Str} {q : Int} (hp : p ∈ partsL bk) (hm : m ∈ machsA bk) (hn : (machsA bk).Nodup) (hq : 0 ≤ q) : (((clashM bk).filter fun u => pmC p m u && decide (u.s.a ≤ q)).filter (lateC q)).map (·.s.c) = List.replicate (if 1 < (nextP bk p m q).length then 1 else 0) (nextP bk p m q) := by
  rw [← strC_at bk p m hq, ← List.filter_filter]
  have e : ∀ l : List CRow, ((l.filter (pmC p m)).filter fun u => decide (u.s.a ≤ q)) = (l.filter fun u => decide (u.s.a ≤ q)).filter (pmC p m) := fun l => by
    rw [List.filter_filter, List.filter_filter]
    exact List.filter_congr fun x _ => Bool.and_comm _ _
  rw [← e, clashM_pm hp hm hn]
  unfold crows
  rw [List.filter_map, List.filter_map, List.map_map, List.filter_filter]
  have e2 : ∀ s : Str3, (((lateC q) ∘ mkC p m) s && ((fun u : CRow => decide (u.s.a ≤ q)) ∘ mkC p m) s) = qIn q s := fun s => by
    show (lateC q (mkC p m s) && decide (s.a ≤ q)) = qIn q s
    unfold lateC qIn
    exact Bool.and_comm _ _
  rw [List.filter_congr fun s _ => e2 s]
  rfl
theorem rowsOf_c (fin : Option Int) : ∀ (l : List (Int × HP)) (g : Str3), g ∈ rowsOf fin l → ∃ y ∈ l, g.c = y.2
  | [], g, h => nomatch h
  | [x], g, h => ⟨x, List.mem_cons_self, by rw [List.mem_singleton.mp h]⟩
  | x :: y :: r, g, h => by
    rcases List.mem_cons.mp h with z | z
    · exact ⟨x, List.mem_cons_self, by rw [z]⟩
    · obtain ⟨v, hv, e⟩ := rowsOf_c fin (y :: r) g z
      exact ⟨v, List.mem_cons_of_mem _ hv, e⟩
theorem next_le (bk : List Rule) (p : Part) (m : Str) (day : Int) : (nextP bk p m day).length ≤ bk.length := by
  rw [nextP, (srt_perm _).length_eq]
  have z1 := uniq_len_le ((bestR (cands bk p m day)).map (·.other))
  have z2 := bestR_len (cands bk p m day)
  have z3 := cands_len bk p m day
  rw [List.length_map] at z1
  omega
theorem clash_c {bk : List Rule} {u : CRow} (h : u ∈ clashM bk) : 1 < u.s.c.length ∧ u.s.c.length ≤ bk.length := by
  unfold clashM at h
  obtain ⟨p, _, h⟩ := List.mem_flatMap.mp h
  obtain ⟨m, _, h⟩ := List.mem_flatMap.mp h
  unfold crows at h
  obtain ⟨s, hs, rfl⟩ := List.mem_map.mp h
  obtain ⟨h1, h2⟩ := List.mem_filter.mp hs
  refine ⟨of_decide_eq_true h2, ?_⟩
  unfold strC at h1
  obtain ⟨y, hy, e⟩ := rowsOf_c _ _ _ h1
  have hy := runs_mem _ _ rfl y hy
  unfold nday at hy
  obtain ⟨d, _, rfl⟩ := List.mem_map.mp hy
  show s.c.length ≤ _
  rw [e]
  exact next_le bk p m d
theorem noLists_strs : ∀ l : List Str, noLists (l.map Datum.toD) = true
  | [] => rfl
  | x :: l => by
    show (noList (Datum.toD x) && noLists (l.map Datum.toD)) = true
    rw [noLists_strs l]
    rfl
theorem noList_rule (r : Rule) : noList (Datum.toD r) = true := by
  show (noList (.str r.kind) && (noList (Datum.toD r.one) && (noList (Datum.toD r.other) && (noList (.int r.day) && (noLists (r.machs.items.map Datum.toD) && true))))) = true
  rw [noLists_strs]
  rfl
theorem noLists_book : ∀ bk : List Rule, noLists (bk.map Datum.toD) = true
  | [] => rfl
  | r :: bk => by
    show (noList (Datum.toD r) && noLists (bk.map Datum.toD)) = true
    rw [noList_rule, noLists_book bk]
    rfl
/-- a list of parts is no book -/
theorem parts_no_book {X : Cx} {bk : List Rule} {ps : List Part} (h : 0 < ps.length) (F : Hp) (vs : List V) (h1 : RpL X F vs (bk.map Datum.toD)) (h2 : RpL X F vs (ps.map Datum.toD)) : False := by
  cases ps with
  | nil => exact absurd h (by simp)
  | cons p ps =>
    cases bk with
    | nil =>
      cases h1
      cases h2
    | cons r bk =>
      cases h1 with
      | cons a1 _ =>
        cases h2 with
        | cons a2 _ =>
          have a1 : Rp X F _ (.tuple [.str r.kind, Datum.toD r.one, Datum.toD r.other, .int r.day, Datum.toD r.machs]) := a1
          have a2 : Rp X F _ (.tuple [Datum.toD p.1, Datum.toD p.2]) := a2
          cases a1 with
          | tup t1 r1 =>
            cases a2 with
            | tup t2 r2 =>
              rw [t1] at t2
              cases t2
              have l1 := r1.length
              have l2 := r2.length
              rw [l1] at l2
              exact absurd l2 (by simp only [List.length_cons, List.length_nil]; omega)
end PH

set_option Elab.async false
set_option linter.all false
set_option maxRecDepth 100000
set_option maxHeartbeats 8000000
/-! W05: k05's law. -/
namespace PH
open PySem PySem.Spec L2
open PySem.W (Datum DatumOrd Tup T3)
theorem dt_as5 {X : Cx} {Γ : List Bd} {e : Expr} {p q : Bool} (h : DT X Γ e p) (e1 : p = q) : DT X Γ e q := e1 ▸ h
section
variable {P : Program} {w : World} {K : PySem.W.Frag} {mg : Str → Option Value} {base : Heap}
/-- the frame while the found rows are data -/
def gam5 (X : Cx) (ns : List Int) (cell : Int) (picks : List Int) (bk : List Rule) (R : List CRow) (vs : Nat → V) (a6 a7 a8 a9 a10 a11 : Bd) : List Bd :=
  [.ob (vs 0) (fun F => ∃ a, vs 0 = .ref a ∧ SqL X.K F a (ns.map V.int)), .ob (vs 1) (fun F => Rp X F (vs 1) (.int cell)), .ob (vs 2) (fun F => Rp X F (vs 2) (.list (picks.map Datum.toD))), .ob (vs 3) (fun F => Rp X F (vs 3) (.list (bk.map Datum.toD))), .ob (vs 4) (fun F => Rp X F (vs 4) (.list (R.map crowD))), .ob (vs 5) (fun F => Rp X F (vs 5) (.list (R.map crowD))), a6, a7, a8, a9, a10, a11]
theorem law_k05 {f : Addr} {fd : FuncData} (B : Blt mg) (F : Fun K "law" "law" l_law f fd) (C : CellFn P w K mg base "_law_cell_at") (f1 : Fn P w K mg base "_law_draws" 1 rDraws) (f2 : Fn P w K mg base "_law_a_book" 3 (rABook aRule)) (f3 : Fn P w K mg base "_law_crowded" 2 rCrowd)
    (f4 : Fn P w K mg base "_law_a_due" 3 rDue5) (f5 : Fn P w K mg base "_law_a_next" 2 rNext) (f6 : Fn P w K mg base "_law_parts_of" 1 rPartsU) (f7 : Fn P w K mg base "_law_machines_of" 1 rMachsE) (g1 : Fn P w K mg base "clashes" 7 rClash) : FnOk P w K mg base L2.CX0 8 f fd ["_law_script"] (spLaw K) := by
  refine law_body (N := ["_law_script", "_law_cell", "_law_picks", "_law_book", "_law_due", "_law_found", "_law_part", "_law_machine", "_law_day", "_law_others", "_law_here", "_law_row"]) F ⟨rfl, rfl, rfl, by decide +kernel, rfl, by decide +kernel, by decide +kernel⟩ ?_
  intro X c ns hns
  refine dss_to (ds_forF (fun _ : Unit => [.sc ns, .un, .un, .un, .un, .un, .un, .un, .un, .un, .un, .un]) (fun _ _ => ()) () (xs := [ns.getD 0 0] ++ cutL ns (some 1) (some 10)) (g := fun i : Int => PyData.int i) c.pass c.calm rfl ?src (c.tg 1) (fun i cell _ => ⟨_, rfl, ?_⟩) rfl) (dss_one (ds_ret de_bool rfl))
  case src =>
    rw [List.map_append, ← cutD_map (f := fun i : Int => PyData.int i)]
    refine di_list (DL.de (dl_cat (dl_lst (da_cons (c.cell C 0 0 hns) da_nil) (few_le (by show 1 ≤ 10000000; decide))).db (dl_script (i := 0) (c.var (by decide +kernel)) rfl (do_some de_int.dw) (do_some de_int.dw)).db ?_))
    have := cutL_len ns (some 1) (some 10)
    rw [cutD_map, List.length_map]
    exact few_le (by simp only [List.length_cons, List.length_nil, List.length_map]; omega)
  refine dss_to (c.setL 2 (c.callL f1 (da_cons (de_add (c.dv 1).dw de_int.dw) (da_cons de_int (da_cons de_int da_nil))) ⟨cell + 1, 40, 1000, rfl, by decide, by decide, by decide, rfl⟩) rfl) ?_
  have dlen := draws_len (base := 1000) (by decide) (cell + 1) 40
  have din := draws_in (base := 1000) (by decide) (cell + 1) 40
  generalize draws (cell + 1) 40 1000 = picks at dlen din ⊢
  refine dss_frL (i := 2) rfl ?_
  have k1 := crowd_bk6 picks (bk6_drawn cell (most := 12))
  have lb := (bk6_drawn cell (most := 12)).len
  refine dss_to (c.setL 3 (c.callL f3 (da_cons (c.dv 2) (da_cons (DL.de (c.callL f2 (da_cons (c.dv 1) (da_cons de_int da_nil)) ⟨cell, 12, rfl, by decide, rfl⟩)) da_nil)) ⟨picks, bookOf aRule cell 12, rfl, by omega, din, by omega, rfl⟩) rfl) ?_
  generalize crowd picks (bookOf aRule cell 12) = bk at k1 ⊢
  refine dss_frL (i := 3) rfl ?_
  have O := okW_of k1 (by decide)
  have lk := k1.len
  refine dss_to (c.setL 4 (c.callL f4 (da_cons (c.dv 3) da_nil) ⟨bk, rfl, O, rfl⟩) rfl) ?_
  refine dss_frL (i := 4) rfl ?_
  have pr : bk.Perm bk.reverse := (List.reverse_perm bk).symm
  have Or := okW_of (k1.perm pr) (by decide)
  have es : clashM bk.reverse = clashM bk := clash_same (List.reverse_perm bk)
  have hat := fun (p : Part) (m : Str) (q : Int) (hp : p ∈ partsL bk) (hm : m ∈ machsA bk) (hq : 0 ≤ q) => hereC_at hp hm (machsA_nodup O.n) hq
  have hul := clash_len O.toOk5
  have hcc : ∀ u ∈ clashM bk, 1 < u.s.c.length ∧ u.s.c.length ≤ 16 := fun u hu => by have := clash_c hu; omega
  generalize hR : clashM bk = R at es hat hul hcc
  show DSs X [.sc ns, .fz (.int cell), .fz (.list (picks.map Datum.toD)), .fz (.list (bk.map Datum.toD)), .fz (.list (R.map crowD)), .un, .un, .un, .un, .un, .un, .un] _ _
  refine dss_thaw (i := 5) (ib := 3) (ir := 11) (R := rClash) (bds := bk.map Datum.toD) (rows := R.map crowD) (M := 16) c.pass c.calm (g1.callee c (by decide)) (c.gl (by decide +kernel)) (c.var (by decide +kernel)) (c.store (by decide +kernel)) (c.var (by decide +kernel)) (c.store (by decide +kernel)) (c.var (by decide +kernel))
    (fun b hb => by
      simp only [List.mem_cons, List.not_mem_nil, or_false] at hb
      rcases hb with rfl | rfl | rfl | rfl | rfl | rfl | rfl | rfl | rfl | rfl | rfl | rfl <;> rfl) rfl rfl (by decide) rfl (noLists_book bk) ⟨bk, rfl, O.toOk5, by rw [hR]⟩ (few_lt (by rw [List.length_map]; omega)) (fun d hd => by
      obtain ⟨u, hu, rfl⟩ := List.mem_map.mp hd
      obtain ⟨c1, c2⟩ := hcc u hu
      exact ⟨_, u.s.c.map Datum.toD, rfl, rfl, by rw [List.length_map]; exact c2, fun F vs h1 h2 => parts_no_book (by omega) F vs h1 h2⟩) (fun vs => ?st1) (fun vs => ?st2) ?rest
  case st1 =>
    show DS X (gam5 X ns cell picks bk R vs .un .un .un .un .un .un) _ _
    exact ds_unless (p := !true || (!decide (R = R) || !decide (R = R))) (DWh.dt (dh_or (dt_not (dt_of (c.isa B "list" B.list (DE.dw (d := Datum.toD R) (c.ov 5)) (Datum.plain (α := List CRow) R) rfl))) fun _ => dh_or (dt_cmp (dc_neT (α := List CRow) (xa := R) (ya := R) c.hu64 (DE.dw (c.ov 5)) (DE.dw (c.ov 4)))) fun _ => dh_or1 (dt_cmp (dc_neT (α := List CRow) (xa := R) (ya := R) c.hu64 (DB.dw (by
      rw [← es]
      exact (c.callL g1 (da_cons (dl_rev (DE.db (c.ov 3))).de da_nil) ⟨bk.reverse, by rw [← List.map_reverse]; rfl, Or.toOk5, rfl⟩).db)) (DE.dw (c.ov 4)))))) (by rw [decide_eq_true rfl]; rfl) rfl
  case st2 =>
    show DS X (gam5 X ns cell picks bk R vs .un .un .un .un .un .un) _ (stayP (gam5 X ns cell picks bk R vs .un .un .un .un .un .un))
    refine ds_forF (fun _ : Unit => gam5 X ns cell picks bk R vs .un .un .un .un .un .un) (fun _ _ => ()) () (xs := partsU bk) (g := (Datum.toD : Part → PyData)) c.pass c.calm rfl (di_list (DL.de (c.callL f6 (da_cons (c.ov 3) da_nil) ⟨bk, rfl, by omega, O.u, rfl⟩))) (c.tg 6) (fun i p hi => ⟨_, rfl, ?_⟩) rfl
    have hp : p ∈ partsL bk := by rw [← partsU_L]; exact List.mem_of_getElem? hi
    refine dss_to (ds_forF (fun _ : Unit => gam5 X ns cell picks bk R vs (.fz (Datum.toD p)) .un .un .un .un .un) (fun _ _ => ()) () (xs := machsE bk) (g := (Datum.toD : Str → PyData)) c.pass c.calm rfl (di_list (DL.de (c.callL f7 (da_cons (c.ov 3) da_nil) ⟨bk, rfl, by omega, O.m, rfl⟩))) (c.tg 7) (fun j m hj => ⟨_, rfl, ?_⟩) rfl) (dss_un (i := 6) (dss_nil rfl))
    have hm : m ∈ machsA bk := by rw [← machsE_A O.n]; exact List.mem_of_getElem? hj
    refine dss_to (ds_forF (fun _ : Unit => gam5 X ns cell picks bk R vs (.fz (Datum.toD p)) (.fz (Datum.toD m)) .un .un .un .un) (fun _ _ => ()) () (xs := List.range 41) (g := fun k : Nat => PyData.int (0 + (k : Int))) c.pass c.calm rfl (c.rangeN B 41 de_int rfl (by decide)) (c.tg 8) (fun n k hn => ⟨_, rfl, ?_⟩) rfl) (dss_un (i := 7) (dss_nil rfl))
    have H := hat p m (0 + (k : Int)) hp hm (by omega)
    show DSs X (gam5 X ns cell picks bk R vs (.fz (Datum.toD p)) (.fz (Datum.toD m)) (.fz (.int (0 + (k : Int)))) .un .un .un) _ _
    refine dss_to (c.setL 9 (c.callL f5 (da_cons (c.ov 3) (da_cons (c.dv 6) (da_cons (c.dv 7) (da_cons (c.dv 8) da_nil)))) ⟨bk, p, m, 0 + (k : Int), rfl, O.l, rfl⟩) rfl) ?_
    refine dss_frL (i := 9) rfl ?_
    have hol := next_le bk p m (0 + (k : Int))
    generalize nextP bk p m (0 + (k : Int)) = o at H hol ⊢
    generalize 0 + (k : Int) = q at H ⊢
    have hfl : ∀ b : CRow → Bool, (R.filter b).length ≤ 500000 := fun b => Nat.le_trans (List.length_filter_le _ _) (by omega)
    refine dss_to (c.setLcIf 10 11 (Datum.toD : CRow → PyData) R (fun u => pmC p m u && decide (u.s.a ≤ q)) (Datum.toD : CRow → PyData) (di_list (c.ov 5)) (few_le (by omega)) (fun X' c' u _ => ⟨by
      have hr : ∀ {Γ : List Bd} {p1 : Pos}, Γ[11]? = some (.fz (Datum.toD u)) → DE X' Γ (.Name "_law_row" p1) (.tuple [Datum.toD u.p, Datum.toD u.m, Datum.toD u.s.a, Datum.toD u.s.b, Datum.toD u.s.c]) := fun h => c'.dv 11 h
      exact DWh.dt (dh_and (dt_cmp (dc_eqT (α := Part × Str) (xa := (u.p, u.m)) (ya := (p, m)) c'.hu64 (DE.dw (d := .tuple [Datum.toD u.p, Datum.toD u.m]) (de_sliceT (hr rfl) do_none (do_some de_int.dw))) (de_tup (da_cons (c'.dv 6) (da_cons (c'.dv 7) da_nil)) (few_le (by show 2 ≤ 10000000; decide))).dw)) fun _ => dh_and1 (dt_cmp (dc_le (i := u.s.a) (j := q) (de_ixT (hr rfl) de_int.dw (d := .int u.s.a) rfl).dw (c'.dv 8).dw))), fun _ => c'.dv 11⟩) rfl) ?_
    refine dss_frL (i := 10) rfl ?_
    refine dss_to (c.setLcIf 10 11 (Datum.toD : CRow → PyData) (R.filter fun u => pmC p m u && decide (u.s.a ≤ q)) (lateC q) (fun u => Datum.toD u.s.c) (di_list (c.dv 10)) (few_le (by have := hfl fun u => pmC p m u && decide (u.s.a ≤ q); omega)) (fun X' c' u _ => by
      have hr : ∀ {Γ : List Bd} {p1 : Pos}, Γ[11]? = some (.fz (Datum.toD u)) → DE X' Γ (.Name "_law_row" p1) (.tuple [Datum.toD u.p, Datum.toD u.m, Datum.toD u.s.a, Datum.toD u.s.b, Datum.toD u.s.c]) := fun h => c'.dv 11 h
      have el : (isN (Datum.toD u.s.b) || lateC q u) = lateC q u := by
        unfold lateC
        cases u.s.b with
        | none => rfl
        | some e => rfl
      refine ⟨dt_as5 (DWh.dt (dh_or (p := isN (Datum.toD u.s.b)) (q := lateC q u) (dt_cmp (dc_isN (de_ixT (hr rfl) de_int.dw (d := Datum.toD u.s.b) rfl).dw)) fun zn => dh_or1 ?_)) el, fun _ => de_ixT (hr rfl) de_int.dw (d := Datum.toD u.s.c) rfl⟩
      have hs : ∃ e, u.s.b = some e := by
        cases e : u.s.b with
        | none => rw [e] at zn; cases zn
        | some b => exact ⟨b, rfl⟩
      obtain ⟨e, he⟩ := hs
      have e2 : lateC q u = decide (q ≤ e) := by unfold lateC; rw [he]
      rw [e2]
      refine dt_cmp (dc_le (i := q) (j := e) (c'.dv 8).dw (de_ixT (hr rfl) de_int.dw (d := .int e) ?_).dw)
      rw [he]
      rfl) rfl) ?_
    have eH : ((R.filter fun u => pmC p m u && decide (u.s.a ≤ q)).filter (lateC q)).map (fun u => (Datum.toD u.s.c : PyData)) = (List.replicate (if 1 < o.length then 1 else 0) o).map Datum.toD := by rw [← H, List.map_map]; rfl
    rw [eH]
    refine dss_frL (i := 10) rfl ?_
    have eN : (List.replicate (if decide ((1 : Int) < (o.length : Int)) = true then (1 : Int) else 0).toNat [(Datum.toD o : PyData)]).flatten = (List.replicate (if 1 < o.length then 1 else 0) o).map Datum.toD := by
      by_cases h : 1 < o.length
      · rw [decide_eq_true (by omega), if_pos h]; rfl
      · rw [decide_eq_false (by omega), if_neg h]; rfl
    have kb : ∀ b : Bool, 0 ≤ (if b = true then (1 : Int) else 0) ∧ (if b = true then (1 : Int) else 0) ≤ 1 := fun b => by cases b <;> decide
    have kb1 := kb (decide ((1 : Int) < (o.length : Int)))
    show DSs X (gam5 X ns cell picks bk R vs (.fz (Datum.toD p)) (.fz (Datum.toD m)) (.fz (.int q)) (.fz (.list (o.map Datum.toD))) (.fz (.list ((List.replicate (if 1 < o.length then 1 else 0) o).map Datum.toD))) .un) _ _
    refine dss_to (ds_unless (p := !decide (List.replicate (if 1 < o.length then 1 else 0) o = List.replicate (if 1 < o.length then 1 else 0) o)) (dt_cmp (dc_neT (α := List (List Part)) (xa := List.replicate (if 1 < o.length then 1 else 0) o) (ya := List.replicate (if 1 < o.length then 1 else 0) o) c.hu64 (c.dv 10).dw (DB.dw (by
      rw [← eN]
      exact (dl_rep (dl_lst (da_cons (c.dv 9) da_nil) (few_le (by show 1 ≤ 10000000; decide))).db (c.intB B (de_cmp (dc_gt (c.len B (DE.dw (d := Datum.toD o) (c.dv 9)) (n := o.length) (by show some _ = _; rw [List.length_map])).dw de_int.dw)).dw).dw (by omega) (by omega) (few_le (by show 1 * _ ≤ _; omega))).db)))) (by rw [decide_eq_true rfl]; rfl) rfl) ?_
    exact dss_un (i := 8) (dss_un (i := 9) (dss_un (i := 10) (dss_nil rfl)))
  case rest =>
    refine dss_to (ds_unless (p := !decide (R = R)) (dt_cmp (dc_neT (α := List CRow) (xa := R) (ya := R) c.hu64 (DB.dw (by
      rw [← hR]
      exact (c.callL g1 (da_cons (c.dv 3) da_nil) ⟨bk, rfl, O.toOk5, rfl⟩).db)) (c.dv 4).dw)) (by rw [decide_eq_true rfl]; rfl) rfl) ?_
    exact dss_un (i := 1) (dss_un (i := 2) (dss_un (i := 3) (dss_un (i := 4) (dss_nil rfl))))
end
end PH

set_option Elab.async false
/-! WJ05: what k05's end needs. -/

set_option Elab.async false
set_option linter.all false
set_option maxRecDepth 100000
set_option maxHeartbeats 8000000
/-! The end: what the top has left, the law's head. -/
namespace PH
open PySem PySem.Spec L2
open PySem.W (Datum DatumOrd Tup T3)
theorem all_mk {l : PySem.W.OpenLaw} {w : World} {K : PySem.W.Frag} {h : Heap} {mg : Str → Option Value} {fa : Addr} (X : K.In h) (G : h.Ns mainGlobals mg) (hfa : mg "law" = some (.ref fa))
    {f0 : Addr} {od0 an0 : Option Addr} {sl0 : Array (Option Value)} {oc0 kV0 dc0 pm0 cd0 ct0 : Value}
    (a0 : PySem.W.nsIn K mainGlobals "whole" = some (some (.ref f0))) (l0 : K.lookup f0 = some ⟨oc0, od0, .func (PySem.W.fnOf "whole" "whole" (defArgs s_whole) (defBody s_whole) (defScope s_whole) .none kV0 dc0 pm0 an0 cd0 ct0), sl0⟩) (c0 : PySem.W.codeIn K cd0 "whole" = true) (k0 : PySem.W.keepIn K (.ref f0) = true)
    {f1 : Addr} {od1 an1 : Option Addr} {sl1 : Array (Option Value)} {oc1 kV1 dc1 pm1 cd1 ct1 : Value}
    (a1 : PySem.W.nsIn K mainGlobals "from_to" = some (some (.ref f1))) (l1 : K.lookup f1 = some ⟨oc1, od1, .func (PySem.W.fnOf "from_to" "from_to" (defArgs s_from_to) (defBody s_from_to) (defScope s_from_to) .none kV1 dc1 pm1 an1 cd1 ct1), sl1⟩) (c1 : PySem.W.codeIn K cd1 "from_to" = true) (k1 : PySem.W.keepIn K (.ref f1) = true)
    {f2 : Addr} {od2 an2 : Option Addr} {sl2 : Array (Option Value)} {oc2 kV2 dc2 pm2 cd2 ct2 : Value}
    (a2 : PySem.W.nsIn K mainGlobals "is_name" = some (some (.ref f2))) (l2 : K.lookup f2 = some ⟨oc2, od2, .func (PySem.W.fnOf "is_name" "is_name" (defArgs s_is_name) (defBody s_is_name) (defScope s_is_name) .none kV2 dc2 pm2 an2 cd2 ct2), sl2⟩) (c2 : PySem.W.codeIn K cd2 "is_name" = true) (k2 : PySem.W.keepIn K (.ref f2) = true)
    {f3 : Addr} {od3 an3 : Option Addr} {sl3 : Array (Option Value)} {oc3 kV3 dc3 pm3 cd3 ct3 : Value}
    (a3 : PySem.W.nsIn K mainGlobals "is_part" = some (some (.ref f3))) (l3 : K.lookup f3 = some ⟨oc3, od3, .func (PySem.W.fnOf "is_part" "is_part" (defArgs s_is_part) (defBody s_is_part) (defScope s_is_part) .none kV3 dc3 pm3 an3 cd3 ct3), sl3⟩) (c3 : PySem.W.codeIn K cd3 "is_part" = true) (k3 : PySem.W.keepIn K (.ref f3) = true)
    {f4 : Addr} {od4 an4 : Option Addr} {sl4 : Array (Option Value)} {oc4 kV4 dc4 pm4 cd4 ct4 : Value}
    (a4 : PySem.W.nsIn K mainGlobals "rises" = some (some (.ref f4))) (l4 : K.lookup f4 = some ⟨oc4, od4, .func (PySem.W.fnOf "rises" "rises" (defArgs s_rises) (defBody s_rises) (defScope s_rises) .none kV4 dc4 pm4 an4 cd4 ct4), sl4⟩) (c4 : PySem.W.codeIn K cd4 "rises" = true) (k4 : PySem.W.keepIn K (.ref f4) = true)
    {f5 : Addr} {od5 an5 : Option Addr} {sl5 : Array (Option Value)} {oc5 kV5 dc5 pm5 cd5 ct5 : Value}
    (a5 : PySem.W.nsIn K mainGlobals "are_machines" = some (some (.ref f5))) (l5 : K.lookup f5 = some ⟨oc5, od5, .func (PySem.W.fnOf "are_machines" "are_machines" (defArgs s_are_machines) (defBody s_are_machines) (defScope s_are_machines) .none kV5 dc5 pm5 an5 cd5 ct5), sl5⟩) (c5 : PySem.W.codeIn K cd5 "are_machines" = true) (k5 : PySem.W.keepIn K (.ref f5) = true)
    {f6 : Addr} {od6 an6 : Option Addr} {sl6 : Array (Option Value)} {oc6 kV6 dc6 pm6 cd6 ct6 : Value}
    (a6 : PySem.W.nsIn K mainGlobals "is_rule" = some (some (.ref f6))) (l6 : K.lookup f6 = some ⟨oc6, od6, .func (PySem.W.fnOf "is_rule" "is_rule" (defArgs s_is_rule) (defBody s_is_rule) (defScope s_is_rule) .none kV6 dc6 pm6 an6 cd6 ct6), sl6⟩) (c6 : PySem.W.codeIn K cd6 "is_rule" = true) (k6 : PySem.W.keepIn K (.ref f6) = true)
    {f7 : Addr} {od7 an7 : Option Addr} {sl7 : Array (Option Value)} {oc7 kV7 dc7 pm7 cd7 ct7 : Value}
    (a7 : PySem.W.nsIn K mainGlobals "is_book" = some (some (.ref f7))) (l7 : K.lookup f7 = some ⟨oc7, od7, .func (PySem.W.fnOf "is_book" "is_book" (defArgs s_is_book) (defBody s_is_book) (defScope s_is_book) .none kV7 dc7 pm7 an7 cd7 ct7), sl7⟩) (c7 : PySem.W.codeIn K cd7 "is_book" = true) (k7 : PySem.W.keepIn K (.ref f7) = true)
    {f8 : Addr} {od8 an8 : Option Addr} {sl8 : Array (Option Value)} {oc8 kV8 dc8 pm8 cd8 ct8 : Value}
    (a8 : PySem.W.nsIn K mainGlobals "need_book" = some (some (.ref f8))) (l8 : K.lookup f8 = some ⟨oc8, od8, .func (PySem.W.fnOf "need_book" "need_book" (defArgs s_need_book) (defBody s_need_book) (defScope s_need_book) .none kV8 dc8 pm8 an8 cd8 ct8), sl8⟩) (c8 : PySem.W.codeIn K cd8 "need_book" = true) (k8 : PySem.W.keepIn K (.ref f8) = true)
    {f9 : Addr} {od9 an9 : Option Addr} {sl9 : Array (Option Value)} {oc9 kV9 dc9 pm9 cd9 ct9 : Value}
    (a9 : PySem.W.nsIn K mainGlobals "holds" = some (some (.ref f9))) (l9 : K.lookup f9 = some ⟨oc9, od9, .func (PySem.W.fnOf "holds" "holds" (defArgs s_holds) (defBody s_holds) (defScope s_holds) .none kV9 dc9 pm9 an9 cd9 ct9), sl9⟩) (c9 : PySem.W.codeIn K cd9 "holds" = true) (k9 : PySem.W.keepIn K (.ref f9) = true)
    {f10 : Addr} {od10 an10 : Option Addr} {sl10 : Array (Option Value)} {oc10 kV10 dc10 pm10 cd10 ct10 : Value}
    (a10 : PySem.W.nsIn K mainGlobals "all_parts" = some (some (.ref f10))) (l10 : K.lookup f10 = some ⟨oc10, od10, .func (PySem.W.fnOf "all_parts" "all_parts" (defArgs s_all_parts) (defBody s_all_parts) (defScope s_all_parts) .none kV10 dc10 pm10 an10 cd10 ct10), sl10⟩) (c10 : PySem.W.codeIn K cd10 "all_parts" = true) (k10 : PySem.W.keepIn K (.ref f10) = true)
    {f11 : Addr} {od11 an11 : Option Addr} {sl11 : Array (Option Value)} {oc11 kV11 dc11 pm11 cd11 ct11 : Value}
    (a11 : PySem.W.nsIn K mainGlobals "all_machines" = some (some (.ref f11))) (l11 : K.lookup f11 = some ⟨oc11, od11, .func (PySem.W.fnOf "all_machines" "all_machines" (defArgs s_all_machines) (defBody s_all_machines) (defScope s_all_machines) .none kV11 dc11 pm11 an11 cd11 ct11), sl11⟩) (c11 : PySem.W.codeIn K cd11 "all_machines" = true) (k11 : PySem.W.keepIn K (.ref f11) = true)
    {f12 : Addr} {od12 an12 : Option Addr} {sl12 : Array (Option Value)} {oc12 kV12 dc12 pm12 cd12 ct12 : Value}
    (a12 : PySem.W.nsIn K mainGlobals "all_days" = some (some (.ref f12))) (l12 : K.lookup f12 = some ⟨oc12, od12, .func (PySem.W.fnOf "all_days" "all_days" (defArgs s_all_days) (defBody s_all_days) (defScope s_all_days) .none kV12 dc12 pm12 an12 cd12 ct12), sl12⟩) (c12 : PySem.W.codeIn K cd12 "all_days" = true) (k12 : PySem.W.keepIn K (.ref f12) = true)
    {f13 : Addr} {od13 an13 : Option Addr} {sl13 : Array (Option Value)} {oc13 kV13 dc13 pm13 cd13 ct13 : Value}
    (a13 : PySem.W.nsIn K mainGlobals "next_ones" = some (some (.ref f13))) (l13 : K.lookup f13 = some ⟨oc13, od13, .func (PySem.W.fnOf "next_ones" "next_ones" (defArgs s_next_ones) (defBody s_next_ones) (defScope s_next_ones) .none kV13 dc13 pm13 an13 cd13 ct13), sl13⟩) (c13 : PySem.W.codeIn K cd13 "next_ones" = true) (k13 : PySem.W.keepIn K (.ref f13) = true)
    {f14 : Addr} {od14 an14 : Option Addr} {sl14 : Array (Option Value)} {oc14 kV14 dc14 pm14 cd14 ct14 : Value}
    (a14 : PySem.W.nsIn K mainGlobals "stretches" = some (some (.ref f14))) (l14 : K.lookup f14 = some ⟨oc14, od14, .func (PySem.W.fnOf "stretches" "stretches" (defArgs s_stretches) (defBody s_stretches) (defScope s_stretches) .none kV14 dc14 pm14 an14 cd14 ct14), sl14⟩) (c14 : PySem.W.codeIn K cd14 "stretches" = true) (k14 : PySem.W.keepIn K (.ref f14) = true)
    {f15 : Addr} {od15 an15 : Option Addr} {sl15 : Array (Option Value)} {oc15 kV15 dc15 pm15 cd15 ct15 : Value}
    (a15 : PySem.W.nsIn K mainGlobals "clashes" = some (some (.ref f15))) (l15 : K.lookup f15 = some ⟨oc15, od15, .func (PySem.W.fnOf "clashes" "clashes" (defArgs s_clashes) (defBody s_clashes) (defScope s_clashes) .none kV15 dc15 pm15 an15 cd15 ct15), sl15⟩) (c15 : PySem.W.codeIn K cd15 "clashes" = true) (k15 : PySem.W.keepIn K (.ref f15) = true)
    {f16 : Addr} {od16 an16 : Option Addr} {sl16 : Array (Option Value)} {oc16 kV16 dc16 pm16 cd16 ct16 : Value}
    (a16 : PySem.W.nsIn K mainGlobals "_law_cell_at" = some (some (.ref f16))) (l16 : K.lookup f16 = some ⟨oc16, od16, .func (PySem.W.fnOf "_law_cell_at" "_law_cell_at" (defArgs l_cell_at) (defBody l_cell_at) (defScope l_cell_at) .none kV16 dc16 pm16 an16 cd16 ct16), sl16⟩) (c16 : PySem.W.codeIn K cd16 "_law_cell_at" = true) (k16 : PySem.W.keepIn K (.ref f16) = true)
    {f17 : Addr} {od17 an17 : Option Addr} {sl17 : Array (Option Value)} {oc17 kV17 dc17 pm17 cd17 ct17 : Value}
    (a17 : PySem.W.nsIn K mainGlobals "_law_draws" = some (some (.ref f17))) (l17 : K.lookup f17 = some ⟨oc17, od17, .func (PySem.W.fnOf "_law_draws" "_law_draws" (defArgs l_draws) (defBody l_draws) (defScope l_draws) .none kV17 dc17 pm17 an17 cd17 ct17), sl17⟩) (c17 : PySem.W.codeIn K cd17 "_law_draws" = true) (k17 : PySem.W.keepIn K (.ref f17) = true)
    {f18 : Addr} {od18 an18 : Option Addr} {sl18 : Array (Option Value)} {oc18 kV18 dc18 pm18 cd18 ct18 : Value}
    (a18 : PySem.W.nsIn K mainGlobals "_law_a_part" = some (some (.ref f18))) (l18 : K.lookup f18 = some ⟨oc18, od18, .func (PySem.W.fnOf "_law_a_part" "_law_a_part" (defArgs l_a_part) (defBody l_a_part) (defScope l_a_part) .none kV18 dc18 pm18 an18 cd18 ct18), sl18⟩) (c18 : PySem.W.codeIn K cd18 "_law_a_part" = true) (k18 : PySem.W.keepIn K (.ref f18) = true)
    {f19 : Addr} {od19 an19 : Option Addr} {sl19 : Array (Option Value)} {oc19 kV19 dc19 pm19 cd19 ct19 : Value}
    (a19 : PySem.W.nsIn K mainGlobals "_law_a_rule" = some (some (.ref f19))) (l19 : K.lookup f19 = some ⟨oc19, od19, .func (PySem.W.fnOf "_law_a_rule" "_law_a_rule" (defArgs l_a_rule) (defBody l_a_rule) (defScope l_a_rule) .none kV19 dc19 pm19 an19 cd19 ct19), sl19⟩) (c19 : PySem.W.codeIn K cd19 "_law_a_rule" = true) (k19 : PySem.W.keepIn K (.ref f19) = true)
    {f20 : Addr} {od20 an20 : Option Addr} {sl20 : Array (Option Value)} {oc20 kV20 dc20 pm20 cd20 ct20 : Value}
    (a20 : PySem.W.nsIn K mainGlobals "_law_a_book" = some (some (.ref f20))) (l20 : K.lookup f20 = some ⟨oc20, od20, .func (PySem.W.fnOf "_law_a_book" "_law_a_book" (defArgs l_a_book) (defBody l_a_book) (defScope l_a_book) .none kV20 dc20 pm20 an20 cd20 ct20), sl20⟩) (c20 : PySem.W.codeIn K cd20 "_law_a_book" = true) (k20 : PySem.W.keepIn K (.ref f20) = true)
    {f21 : Addr} {od21 an21 : Option Addr} {sl21 : Array (Option Value)} {oc21 kV21 dc21 pm21 cd21 ct21 : Value}
    (a21 : PySem.W.nsIn K mainGlobals "_law_holds" = some (some (.ref f21))) (l21 : K.lookup f21 = some ⟨oc21, od21, .func (PySem.W.fnOf "_law_holds" "_law_holds" (defArgs l_holds) (defBody l_holds) (defScope l_holds) .none kV21 dc21 pm21 an21 cd21 ct21), sl21⟩) (c21 : PySem.W.codeIn K cd21 "_law_holds" = true) (k21 : PySem.W.keepIn K (.ref f21) = true)
    {f22 : Addr} {od22 an22 : Option Addr} {sl22 : Array (Option Value)} {oc22 kV22 dc22 pm22 cd22 ct22 : Value}
    (a22 : PySem.W.nsIn K mainGlobals "_law_a_next" = some (some (.ref f22))) (l22 : K.lookup f22 = some ⟨oc22, od22, .func (PySem.W.fnOf "_law_a_next" "_law_a_next" (defArgs l_a_next) (defBody l_a_next) (defScope l_a_next) .none kV22 dc22 pm22 an22 cd22 ct22), sl22⟩) (c22 : PySem.W.codeIn K cd22 "_law_a_next" = true) (k22 : PySem.W.keepIn K (.ref f22) = true)
    {f23 : Addr} {od23 an23 : Option Addr} {sl23 : Array (Option Value)} {oc23 kV23 dc23 pm23 cd23 ct23 : Value}
    (a23 : PySem.W.nsIn K mainGlobals "_law_parts_of" = some (some (.ref f23))) (l23 : K.lookup f23 = some ⟨oc23, od23, .func (PySem.W.fnOf "_law_parts_of" "_law_parts_of" (defArgs l_parts_of) (defBody l_parts_of) (defScope l_parts_of) .none kV23 dc23 pm23 an23 cd23 ct23), sl23⟩) (c23 : PySem.W.codeIn K cd23 "_law_parts_of" = true) (k23 : PySem.W.keepIn K (.ref f23) = true)
    {f24 : Addr} {od24 an24 : Option Addr} {sl24 : Array (Option Value)} {oc24 kV24 dc24 pm24 cd24 ct24 : Value}
    (a24 : PySem.W.nsIn K mainGlobals "_law_machines_of" = some (some (.ref f24))) (l24 : K.lookup f24 = some ⟨oc24, od24, .func (PySem.W.fnOf "_law_machines_of" "_law_machines_of" (defArgs l_machines_of) (defBody l_machines_of) (defScope l_machines_of) .none kV24 dc24 pm24 an24 cd24 ct24), sl24⟩) (c24 : PySem.W.codeIn K cd24 "_law_machines_of" = true) (k24 : PySem.W.keepIn K (.ref f24) = true)
    {f25 : Addr} {od25 an25 : Option Addr} {sl25 : Array (Option Value)} {oc25 kV25 dc25 pm25 cd25 ct25 : Value}
    (a25 : PySem.W.nsIn K mainGlobals "_law_days_of" = some (some (.ref f25))) (l25 : K.lookup f25 = some ⟨oc25, od25, .func (PySem.W.fnOf "_law_days_of" "_law_days_of" (defArgs l_days_of) (defBody l_days_of) (defScope l_days_of) .none kV25 dc25 pm25 an25 cd25 ct25), sl25⟩) (c25 : PySem.W.codeIn K cd25 "_law_days_of" = true) (k25 : PySem.W.keepIn K (.ref f25) = true)
    {f26 : Addr} {od26 an26 : Option Addr} {sl26 : Array (Option Value)} {oc26 kV26 dc26 pm26 cd26 ct26 : Value}
    (a26 : PySem.W.nsIn K mainGlobals "_law_a_due" = some (some (.ref f26))) (l26 : K.lookup f26 = some ⟨oc26, od26, .func (PySem.W.fnOf "_law_a_due" "_law_a_due" (defArgs l_a_due) (defBody l_a_due) (defScope l_a_due) .none kV26 dc26 pm26 an26 cd26 ct26), sl26⟩) (c26 : PySem.W.codeIn K cd26 "_law_a_due" = true) (k26 : PySem.W.keepIn K (.ref f26) = true)
    {f27 : Addr} {od27 an27 : Option Addr} {sl27 : Array (Option Value)} {oc27 kV27 dc27 pm27 cd27 ct27 : Value}
    (a27 : PySem.W.nsIn K mainGlobals "_law_crowded" = some (some (.ref f27))) (l27 : K.lookup f27 = some ⟨oc27, od27, .func (PySem.W.fnOf "_law_crowded" "_law_crowded" (defArgs l_crowded) (defBody l_crowded) (defScope l_crowded) .none kV27 dc27 pm27 an27 cd27 ct27), sl27⟩) (c27 : PySem.W.codeIn K cd27 "_law_crowded" = true) (k27 : PySem.W.keepIn K (.ref f27) = true)
    {f28 : Addr} {od28 an28 : Option Addr} {sl28 : Array (Option Value)} {oc28 kV28 dc28 pm28 cd28 ct28 : Value}
    (a28 : PySem.W.nsIn K mainGlobals "law" = some (some (.ref f28))) (l28 : K.lookup f28 = some ⟨oc28, od28, .func (PySem.W.fnOf "law" "law" (defArgs l_law) (defBody l_law) (defScope l_law) .none kV28 dc28 pm28 an28 cd28 ct28), sl28⟩) (c28 : PySem.W.codeIn K cd28 "law" = true) (k28 : PySem.W.keepIn K (.ref f28) = true)
    {t_LETTERS : Tok} (vt_LETTERS : PySem.W.nsIn K mainGlobals "LETTERS" = some (some (.str letters t_LETTERS)))
    {t_MOST_NUMBER : Tok} (vt_MOST_NUMBER : PySem.W.nsIn K mainGlobals "MOST_NUMBER" = some (some (.int 999999 t_MOST_NUMBER)))
    {t_MOST_DAY : Tok} (vt_MOST_DAY : PySem.W.nsIn K mainGlobals "MOST_DAY" = some (some (.int 1000000000 t_MOST_DAY)))
    {t_MOST_MACHINES : Tok} (vt_MOST_MACHINES : PySem.W.nsIn K mainGlobals "MOST_MACHINES" = some (some (.int 6 t_MOST_MACHINES)))
    {t_MOST_RULES : Tok} (vt_MOST_RULES : PySem.W.nsIn K mainGlobals "MOST_RULES" = some (some (.int 60 t_MOST_RULES)))
    (z_isinstance : PySem.W.nsIn K mainGlobals "isinstance" = some none)
    (z_int : PySem.W.nsIn K mainGlobals "int" = some none)
    (z_bool : PySem.W.nsIn K mainGlobals "bool" = some none)
    (z_str : PySem.W.nsIn K mainGlobals "str" = some none)
    (z_list : PySem.W.nsIn K mainGlobals "list" = some none)
    (z_tuple : PySem.W.nsIn K mainGlobals "tuple" = some none)
    (z_set : PySem.W.nsIn K mainGlobals "set" = some none)
    (z_dict : PySem.W.nsIn K mainGlobals "dict" = some none)
    (z_len : PySem.W.nsIn K mainGlobals "len" = some none)
    (z_all : PySem.W.nsIn K mainGlobals "all" = some none)
    (z_range : PySem.W.nsIn K mainGlobals "range" = some none)
    (z_sorted : PySem.W.nsIn K mainGlobals "sorted" = some none)
    (z_enumerate : PySem.W.nsIn K mainGlobals "enumerate" = some none)
    (z_zip : PySem.W.nsIn K mainGlobals "zip" = some none)
    (z_max : PySem.W.nsIn K mainGlobals "max" = some none)
    (z_min : PySem.W.nsIn K mainGlobals "min" = some none)
    (z_sum : PySem.W.nsIn K mainGlobals "sum" = some none)
    : ∃ fd : FuncData, (∀ (s : Shared) (v : Value), BindsTo s fd ⟨[v], []⟩ [("_law_script", v)]) ∧ ∀ base : Heap, K.In base → base.Ns mainGlobals mg → FnOk l.prog w K mg base L2.CX0 8 fa fd ["_law_script"] (spLaw K) := by
  have e := hfa.symm.trans (PySem.W.mg_of X G a28)
  cases e
  have B : Blt mg := ⟨PySem.W.mg_none_of X G z_isinstance, PySem.W.mg_none_of X G z_int, PySem.W.mg_none_of X G z_bool, PySem.W.mg_none_of X G z_str, PySem.W.mg_none_of X G z_list, PySem.W.mg_none_of X G z_tuple, PySem.W.mg_none_of X G z_set, PySem.W.mg_none_of X G z_dict, PySem.W.mg_none_of X G z_len, PySem.W.mg_none_of X G z_all, PySem.W.mg_none_of X G z_range, PySem.W.mg_none_of X G z_sorted, PySem.W.mg_none_of X G z_enumerate, PySem.W.mg_none_of X G z_zip, PySem.W.mg_none_of X G z_max, PySem.W.mg_none_of X G z_min, PySem.W.mg_none_of X G z_sum⟩
  have D_whole : Df K mg "whole" s_whole := ⟨_, _, fun_mk (st := s_whole) l0 c0 k0, PySem.W.mg_of X G a0⟩
  have D_from_to : Df K mg "from_to" s_from_to := ⟨_, _, fun_mk (st := s_from_to) l1 c1 k1, PySem.W.mg_of X G a1⟩
  have D_is_name : Df K mg "is_name" s_is_name := ⟨_, _, fun_mk (st := s_is_name) l2 c2 k2, PySem.W.mg_of X G a2⟩
  have D_is_part : Df K mg "is_part" s_is_part := ⟨_, _, fun_mk (st := s_is_part) l3 c3 k3, PySem.W.mg_of X G a3⟩
  have D_rises : Df K mg "rises" s_rises := ⟨_, _, fun_mk (st := s_rises) l4 c4 k4, PySem.W.mg_of X G a4⟩
  have D_are_machines : Df K mg "are_machines" s_are_machines := ⟨_, _, fun_mk (st := s_are_machines) l5 c5 k5, PySem.W.mg_of X G a5⟩
  have D_is_rule : Df K mg "is_rule" s_is_rule := ⟨_, _, fun_mk (st := s_is_rule) l6 c6 k6, PySem.W.mg_of X G a6⟩
  have D_is_book : Df K mg "is_book" s_is_book := ⟨_, _, fun_mk (st := s_is_book) l7 c7 k7, PySem.W.mg_of X G a7⟩
  have D_need_book : Df K mg "need_book" s_need_book := ⟨_, _, fun_mk (st := s_need_book) l8 c8 k8, PySem.W.mg_of X G a8⟩
  have D_holds : Df K mg "holds" s_holds := ⟨_, _, fun_mk (st := s_holds) l9 c9 k9, PySem.W.mg_of X G a9⟩
  have D_all_parts : Df K mg "all_parts" s_all_parts := ⟨_, _, fun_mk (st := s_all_parts) l10 c10 k10, PySem.W.mg_of X G a10⟩
  have D_all_machines : Df K mg "all_machines" s_all_machines := ⟨_, _, fun_mk (st := s_all_machines) l11 c11 k11, PySem.W.mg_of X G a11⟩
  have D_all_days : Df K mg "all_days" s_all_days := ⟨_, _, fun_mk (st := s_all_days) l12 c12 k12, PySem.W.mg_of X G a12⟩
  have D_next_ones : Df K mg "next_ones" s_next_ones := ⟨_, _, fun_mk (st := s_next_ones) l13 c13 k13, PySem.W.mg_of X G a13⟩
  have D_stretches : Df K mg "stretches" s_stretches := ⟨_, _, fun_mk (st := s_stretches) l14 c14 k14, PySem.W.mg_of X G a14⟩
  have D_clashes : Df K mg "clashes" s_clashes := ⟨_, _, fun_mk (st := s_clashes) l15 c15 k15, PySem.W.mg_of X G a15⟩
  have D__law_cell_at : Df K mg "_law_cell_at" l_cell_at := ⟨_, _, fun_mk (st := l_cell_at) l16 c16 k16, PySem.W.mg_of X G a16⟩
  have D__law_draws : Df K mg "_law_draws" l_draws := ⟨_, _, fun_mk (st := l_draws) l17 c17 k17, PySem.W.mg_of X G a17⟩
  have D__law_a_part : Df K mg "_law_a_part" l_a_part := ⟨_, _, fun_mk (st := l_a_part) l18 c18 k18, PySem.W.mg_of X G a18⟩
  have D__law_a_rule : Df K mg "_law_a_rule" l_a_rule := ⟨_, _, fun_mk (st := l_a_rule) l19 c19 k19, PySem.W.mg_of X G a19⟩
  have D__law_a_book : Df K mg "_law_a_book" l_a_book := ⟨_, _, fun_mk (st := l_a_book) l20 c20 k20, PySem.W.mg_of X G a20⟩
  have D__law_holds : Df K mg "_law_holds" l_holds := ⟨_, _, fun_mk (st := l_holds) l21 c21 k21, PySem.W.mg_of X G a21⟩
  have D__law_a_next : Df K mg "_law_a_next" l_a_next := ⟨_, _, fun_mk (st := l_a_next) l22 c22 k22, PySem.W.mg_of X G a22⟩
  have D__law_parts_of : Df K mg "_law_parts_of" l_parts_of := ⟨_, _, fun_mk (st := l_parts_of) l23 c23 k23, PySem.W.mg_of X G a23⟩
  have D__law_machines_of : Df K mg "_law_machines_of" l_machines_of := ⟨_, _, fun_mk (st := l_machines_of) l24 c24 k24, PySem.W.mg_of X G a24⟩
  have D__law_days_of : Df K mg "_law_days_of" l_days_of := ⟨_, _, fun_mk (st := l_days_of) l25 c25 k25, PySem.W.mg_of X G a25⟩
  have D__law_a_due : Df K mg "_law_a_due" l_a_due := ⟨_, _, fun_mk (st := l_a_due) l26 c26 k26, PySem.W.mg_of X G a26⟩
  have D__law_crowded : Df K mg "_law_crowded" l_crowded := ⟨_, _, fun_mk (st := l_crowded) l27 c27 k27, PySem.W.mg_of X G a27⟩
  have g_LETTERS := PySem.W.mg_of X G vt_LETTERS
  have g_MOST_NUMBER := PySem.W.mg_of X G vt_MOST_NUMBER
  have g_MOST_DAY := PySem.W.mg_of X G vt_MOST_DAY
  have g_MOST_MACHINES := PySem.W.mg_of X G vt_MOST_MACHINES
  have g_MOST_RULES := PySem.W.mg_of X G vt_MOST_RULES
  have FL := fun_mk (st := l_law) l28 c28 k28
  refine ⟨PySem.W.fnOf "law" "law" (defArgs l_law) (defBody l_law) (defScope l_law) .none kV28 dc28 pm28 an28 cd28 ct28, fun s v => .of_eq rfl, fun base _ _ => ?_⟩
  have p5 := fn_rises (P := l.prog) (w := w) (base := base) B D_rises
  have t1 := fn_whole (P := l.prog) (w := w) (base := base) B D_whole
  have t2 := fn_from_to B D_from_to t1
  have t3 := fn_is_name (P := l.prog) (w := w) (base := base) B D_is_name g_LETTERS
  have t4 := fn_is_part B D_is_part t3 t2 g_MOST_NUMBER
  have t6 := fn_are_machines B D_are_machines t3 p5 g_MOST_MACHINES
  have t7 := fn_is_rule B D_is_rule t4 t2 t6 g_MOST_DAY
  have t8 := fn_is_book B D_is_book t7 g_MOST_RULES
  have t9 := fn_need_book D_need_book t8
  have h1 := fn_holds (P := l.prog) (w := w) (base := base) D_holds
  have h2 := fn_all_parts (P := l.prog) (w := w) (base := base) B D_all_parts
  have h3 := fn_all_machines (P := l.prog) (w := w) (base := base) B D_all_machines
  have h3d := fn_all_days (P := l.prog) (w := w) (base := base) B D_all_days
  have h4 := fn_next_ones B D_next_ones h1
  have h7 := fn_stretches (P := l.prog) (w := w) (base := base) B D_stretches
  have u1 := fn_clashes B D_clashes t9 h3d h2 h3 h4 h7
  have q1 := fn_cell_at (P := l.prog) (w := w) (base := base) B D__law_cell_at
  have q2 := fn_draws (P := l.prog) (w := w) (base := base) B D__law_draws
  have q3 := fn_a_part (P := l.prog) (w := w) (base := base) D__law_a_part
  have q4 := fn_a_rule D__law_a_rule q3
  have q5 := fn_a_book B D__law_a_book q2 q4 (by decide)
  have q6 := fn_parts_of (P := l.prog) (w := w) (base := base) B D__law_parts_of
  have q7 := fn_days_of (P := l.prog) (w := w) (base := base) B D__law_days_of
  have q8 := fn_machines_of (P := l.prog) (w := w) (base := base) B D__law_machines_of
  have q9 := fn_law_holds (P := l.prog) (w := w) (base := base) D__law_holds
  have q12 := fn_a_next B D__law_a_next q9
  have q15 := fn_a_due5 B D__law_a_due q7 q6 q8 q12
  have q16 := fn_crowded B D__law_crowded q3
  exact law_k05 B FL q1 q2 q5 q16 q15 q12 q6 q8 u1
theorem walk {l : PySem.W.OpenLaw} {q : Program} {loose : List Str} {XP : (Str → Option Value) → Heap → Prop} {YP : World → Heap → Prop} {d : DefRec} {K : Params → PySem.W.Frag} (hn : l.most = some 63) (hdf : d.params.defaults = [])
    (hY : ∀ (w : World) (h : Heap), YP w h → (K w.params).In h)
    (F : ∀ (w : World) (mg : Str → Option Value) (fa : Addr) (h : Heap), (K w.params).In h → h.Ns mainGlobals mg → mg d.name = some (.ref fa) →
      ∃ fd : FuncData, (∀ (s : Shared) (u : Value), BindsTo s fd ⟨[u], []⟩ [("_law_script", u)]) ∧ ∀ base : Heap, (K w.params).In base → base.Ns mainGlobals mg → FnOk l.prog w (K w.params) mg base L2.CX0 8 fa fd ["_law_script"] (spLaw (K w.params))) :
    PySem.W.WalkO q loose XP YP l.row.toRowW d [] (fun f vs => PySem.call f vs) :=
  L2.walk_of (n := 63) (k := 8) (x := "_law_script") (CX := fun _ => L2.CX0) (sp := fun w => spLaw (K w.params)) hn (by decide) hdf ⟨rfl, by decide, by decide⟩ hY F (fun _ _ a ns hl _ hS => ⟨a, ns, rfl, hS, hl, fun _ => rfl⟩) fun _ _ _ _ _ z => z
end PH
open PySem PySem.W PyProof.Rows
set_option maxRecDepth 100000 in
set_option maxHeartbeats 0 in
theorem PySem.Challenge.cw_partheir_k05_clashes_holds : PySem.Challenge.rw_partheir_k05_clashes.Holds := by
  w_on; o_law; k_head; (case hw => w_witness2)
  k_fill
  refine PH.walk (l := PySem.Challenge.rw_partheir_k05_clashes) rfl rfl (fun w h Y => PySem.W.kIn_of Y) ?F
  case F =>
    intro w mg fa h KX G hmg
    refine' PH.all_mk KX G hmg ?a0 ?l0 ?c0 ?k0 ?a1 ?l1 ?c1 ?k1 ?a2 ?l2 ?c2 ?k2 ?a3 ?l3 ?c3 ?k3 ?a4 ?l4 ?c4 ?k4 ?a5 ?l5 ?c5 ?k5 ?a6 ?l6 ?c6 ?k6 ?a7 ?l7 ?c7 ?k7 ?a8 ?l8 ?c8 ?k8 ?a9 ?l9 ?c9 ?k9 ?a10 ?l10 ?c10 ?k10 ?a11 ?l11 ?c11 ?k11 ?a12 ?l12 ?c12 ?k12 ?a13 ?l13 ?c13 ?k13 ?a14 ?l14 ?c14 ?k14 ?a15 ?l15 ?c15 ?k15 ?a16 ?l16 ?c16 ?k16 ?a17 ?l17 ?c17 ?k17 ?a18 ?l18 ?c18 ?k18 ?a19 ?l19 ?c19 ?k19 ?a20 ?l20 ?c20 ?k20 ?a21 ?l21 ?c21 ?k21 ?a22 ?l22 ?c22 ?k22 ?a23 ?l23 ?c23 ?k23 ?a24 ?l24 ?c24 ?k24 ?a25 ?l25 ?c25 ?k25 ?a26 ?l26 ?c26 ?k26 ?a27 ?l27 ?c27 ?k27 ?a28 ?l28 ?c28 ?k28 ?vt_LETTERS ?vt_MOST_NUMBER ?vt_MOST_DAY ?vt_MOST_MACHINES ?vt_MOST_RULES ?z_isinstance ?z_int ?z_bool ?z_str ?z_list ?z_tuple ?z_set ?z_dict ?z_len ?z_all ?z_range ?z_sorted ?z_enumerate ?z_zip ?z_max ?z_min ?z_sum
    (case a0 => k_is)
    (case l0 => k_is)
    (case c0 => k_is)
    (case k0 => k_is)
    (case a1 => k_is)
    (case l1 => k_is)
    (case c1 => k_is)
    (case k1 => k_is)
    (case a2 => k_is)
    (case l2 => k_is)
    (case c2 => k_is)
    (case k2 => k_is)
    (case a3 => k_is)
    (case l3 => k_is)
    (case c3 => k_is)
    (case k3 => k_is)
    (case a4 => k_is)
    (case l4 => k_is)
    (case c4 => k_is)
    (case k4 => k_is)
    (case a5 => k_is)
    (case l5 => k_is)
    (case c5 => k_is)
    (case k5 => k_is)
    (case a6 => k_is)
    (case l6 => k_is)
    (case c6 => k_is)
    (case k6 => k_is)
    (case a7 => k_is)
    (case l7 => k_is)
    (case c7 => k_is)
    (case k7 => k_is)
    (case a8 => k_is)
    (case l8 => k_is)
    (case c8 => k_is)
    (case k8 => k_is)
    (case a9 => k_is)
    (case l9 => k_is)
    (case c9 => k_is)
    (case k9 => k_is)
    (case a10 => k_is)
    (case l10 => k_is)
    (case c10 => k_is)
    (case k10 => k_is)
    (case a11 => k_is)
    (case l11 => k_is)
    (case c11 => k_is)
    (case k11 => k_is)
    (case a12 => k_is)
    (case l12 => k_is)
    (case c12 => k_is)
    (case k12 => k_is)
    (case a13 => k_is)
    (case l13 => k_is)
    (case c13 => k_is)
    (case k13 => k_is)
    (case a14 => k_is)
    (case l14 => k_is)
    (case c14 => k_is)
    (case k14 => k_is)
    (case a15 => k_is)
    (case l15 => k_is)
    (case c15 => k_is)
    (case k15 => k_is)
    (case a16 => k_is)
    (case l16 => k_is)
    (case c16 => k_is)
    (case k16 => k_is)
    (case a17 => k_is)
    (case l17 => k_is)
    (case c17 => k_is)
    (case k17 => k_is)
    (case a18 => k_is)
    (case l18 => k_is)
    (case c18 => k_is)
    (case k18 => k_is)
    (case a19 => k_is)
    (case l19 => k_is)
    (case c19 => k_is)
    (case k19 => k_is)
    (case a20 => k_is)
    (case l20 => k_is)
    (case c20 => k_is)
    (case k20 => k_is)
    (case a21 => k_is)
    (case l21 => k_is)
    (case c21 => k_is)
    (case k21 => k_is)
    (case a22 => k_is)
    (case l22 => k_is)
    (case c22 => k_is)
    (case k22 => k_is)
    (case a23 => k_is)
    (case l23 => k_is)
    (case c23 => k_is)
    (case k23 => k_is)
    (case a24 => k_is)
    (case l24 => k_is)
    (case c24 => k_is)
    (case k24 => k_is)
    (case a25 => k_is)
    (case l25 => k_is)
    (case c25 => k_is)
    (case k25 => k_is)
    (case a26 => k_is)
    (case l26 => k_is)
    (case c26 => k_is)
    (case k26 => k_is)
    (case a27 => k_is)
    (case l27 => k_is)
    (case c27 => k_is)
    (case k27 => k_is)
    (case a28 => k_is)
    (case l28 => k_is)
    (case c28 => k_is)
    (case k28 => k_is)
    (case vt_LETTERS => k_is)
    (case vt_MOST_NUMBER => k_is)
    (case vt_MOST_DAY => k_is)
    (case vt_MOST_MACHINES => k_is)
    (case vt_MOST_RULES => k_is)
    (case z_isinstance => k_is)
    (case z_int => k_is)
    (case z_bool => k_is)
    (case z_str => k_is)
    (case z_list => k_is)
    (case z_tuple => k_is)
    (case z_set => k_is)
    (case z_dict => k_is)
    (case z_len => k_is)
    (case z_all => k_is)
    (case z_range => k_is)
    (case z_sorted => k_is)
    (case z_enumerate => k_is)
    (case z_zip => k_is)
    (case z_max => k_is)
    (case z_min => k_is)
    (case z_sum => k_is)
#print axioms PySem.Challenge.cw_partheir_k05_clashes_holds
