import PyProof.Rows.All
import Wide.All
import OpenK.AllK
import Wide.FinOn
import HandS.ForMost
import HandS.Wide
import HandS.IsInst
import HandS.Deep
import HandS.TupAny
import HandS.TupLe
import HandS.Flow
import HandS.Codes
import HandS.Defaults
import HandS.NoneIn
import HandS.MakeKw
import HandS.MakeKwOnly
import HandS.Property
import HandS.TupMul
import HandS.DeepEq
import HandS.TupLen
import HandS.DictComp
import KE.KDictKeyed
import KE.KDictWalk
import KE.KDictPairs
import KE.SortData
import KE.DataMinMax
import KE.DataCmp
import KE.DataFind
import PySem.Challenge.RW_ringloosed_k34_rings_of_waits
set_option Elab.async false
set_option linter.all false
set_option autoImplicit false
set_option maxRecDepth 100000
set_option maxHeartbeats 8000000
namespace G4
open PySem L2
/-! ### G4 base: row-independent words -/
theorem hu65 {k : Nat} {A : Around} (hr : Room k A) : A.units + 65 < cLine := by have := hr.un; omega
/-- the tuples stay -/
def Tk (H H' : Hp) : Prop := ∀ b xs, H b = some (.tup xs) → H' b = some (.tup xs)
theorem Tk.refl (H : Hp) : Tk H H := fun _ _ h => h
theorem Tk.trans {H H1 H2 : Hp} (a : Tk H H1) (b : Tk H1 H2) : Tk H H2 := fun c o h => b c o (a c o h)
theorem Tk.new {H : Hp} {p : Addr} {o : HO} (h : H p = none) : Tk H (upd H p o) := fun b xs e => by rw [upd_ne (ne_of_none e h)]; exact e
theorem Tk.put {H : Hp} {p : Addr} {xs : List V} {o : HO} (h : H p = some (.lst xs)) : Tk H (upd H p o) := fun b ys e => by
  rw [upd_ne (ne_of e h (by intro z; cases z))]; exact e
theorem Tk.putI {H : Hp} {p C dx : Addr} {fs : List (Str × V)} {o : HO} (h : H p = some (.ins C dx fs)) : Tk H (upd H p o) := fun b ys e => by
  rw [upd_ne (ne_of e h (by intro z; cases z))]; exact e
theorem Tk.putD {H : Hp} {p : Addr} {kvs : List (Key × V)} {o : HO} (h : H p = some (.dK kvs)) : Tk H (upd H p o) := fun b ys e => by
  rw [upd_ne (ne_of e h (by intro z; cases z))]; exact e
theorem Tk.putT {H : Hp} {p : Addr} {kvs : List (List Key × V)} {o : HO} (h : H p = some (.dT kvs)) : Tk H (upd H p o) := fun b ys e => by
  rw [upd_ne (ne_of e h (by intro z; cases z))]; exact e
theorem Same.tk {H H' : Hp} (s : Same H H') : Tk H H' := fun b xs e => s b _ e
theorem same_new {H : Hp} {p : Addr} {o : HO} (h : H p = none) : Same H (upd H p o) := fun b x e => by rw [upd_ne (ne_of_none e h)]; exact e
theorem get_new {H : Hp} {p a : Addr} {o x : HO} (h : H p = none) (e : H a = some x) : upd H p o a = some x := same_new h a x e
theorem get_ne {H : Hp} {p a : Addr} {o x : HO} (h : a ≠ p) (e : H a = some x) : upd H p o a = some x := by rw [upd_ne h]; exact e
/-! ### data that never changes: none, bools, ints, texts, tuples of them -/
mutual
def Im (H : Hp) : PyData → V → Prop
  | .none, v => v = .non
  | .bool b, v => v = .bl b
  | .int i, v => v = .int i
  | .str x, v => v = .str x
  | .tuple ds, v => ∃ a xs, v = .ref a ∧ H a = some (.tup xs) ∧ ImAll H ds xs
  | .list _, _ => False
  | .dict _, _ => False
def ImAll (H : Hp) : List PyData → List V → Prop
  | [], vs => vs = []
  | d :: ds, vs => ∃ v r, vs = v :: r ∧ Im H d v ∧ ImAll H ds r
end
mutual
theorem Im.mono {H H' : Hp} (t : Tk H H') : ∀ (d : PyData) (v : V), Im H d v → Im H' d v
  | .none, _, h => by simpa only [Im] using h
  | .bool _, _, h => by simpa only [Im] using h
  | .int _, _, h => by simpa only [Im] using h
  | .str _, _, h => by simpa only [Im] using h
  | .tuple ds, v, h => by
    simp only [Im] at h ⊢
    obtain ⟨a, xs, e, ha, hx⟩ := h
    exact ⟨a, xs, e, t _ _ ha, ImAll.mono t ds xs hx⟩
  | .list _, _, h => by simp only [Im] at h
  | .dict _, _, h => by simp only [Im] at h
theorem ImAll.mono {H H' : Hp} (t : Tk H H') : ∀ (ds : List PyData) (vs : List V), ImAll H ds vs → ImAll H' ds vs
  | [], _, h => by simpa only [ImAll] using h
  | d :: ds, vs, h => by
    simp only [ImAll] at h ⊢
    obtain ⟨v, r, e, h1, h2⟩ := h
    exact ⟨v, r, e, Im.mono t d v h1, ImAll.mono t ds r h2⟩
end
mutual
theorem Im.dp {K : PySem.W.Frag} {H : Hp} : ∀ (d : PyData) (v : V), Im H d v → Dp K H v d
  | .none, _, h => by simp only [Im] at h; subst h; exact .non
  | .bool _, _, h => by simp only [Im] at h; subst h; exact .bl _
  | .int _, _, h => by simp only [Im] at h; subst h; exact .int _
  | .str _, _, h => by simp only [Im] at h; subst h; exact .str _
  | .tuple ds, v, h => by
    simp only [Im] at h
    obtain ⟨a, xs, rfl, ha, hx⟩ := h
    exact .tup (SqT.of ha) (ImAll.dp ds xs hx)
  | .list _, _, h => by simp only [Im] at h
  | .dict _, _, h => by simp only [Im] at h
theorem ImAll.dp {K : PySem.W.Frag} {H : Hp} : ∀ (ds : List PyData) (vs : List V), ImAll H ds vs → DpAll K H vs ds
  | [], _, h => by simp only [ImAll] at h; subst h; exact .nil
  | d :: ds, vs, h => by
    simp only [ImAll] at h
    obtain ⟨v, r, rfl, h1, h2⟩ := h
    exact .cons (Im.dp d v h1) (ImAll.dp ds r h2)
end
theorem ImAll.len {H : Hp} : ∀ {ds : List PyData} {vs : List V}, ImAll H ds vs → vs.length = ds.length
  | [], _, h => by simp only [ImAll] at h; subst h; rfl
  | d :: ds, vs, h => by
    simp only [ImAll] at h
    obtain ⟨v, r, rfl, h1, h2⟩ := h
    simp [ImAll.len h2]
theorem ImAll.get {H : Hp} : ∀ {ds : List PyData} {vs : List V} {i : Nat} {v : V}, ImAll H ds vs → vs[i]? = some v → ∃ d, ds[i]? = some d ∧ Im H d v
  | [], _, i, v, h, e => by simp only [ImAll] at h; subst h; simp at e
  | d :: ds, vs, i, v, h, e => by
    simp only [ImAll] at h
    obtain ⟨u, r, rfl, h1, h2⟩ := h
    cases i with
    | zero => simp at e; subst e; exact ⟨d, rfl, h1⟩
    | succ i => simp at e; obtain ⟨x, a, b⟩ := ImAll.get h2 e; exact ⟨x, by simpa using a, b⟩
theorem ImAll.get' {H : Hp} : ∀ {ds : List PyData} {vs : List V} {i : Nat} {d : PyData}, ImAll H ds vs → ds[i]? = some d → ∃ v, vs[i]? = some v ∧ Im H d v
  | [], _, i, v, h, e => by simp at e
  | d :: ds, vs, i, x, h, e => by
    simp only [ImAll] at h
    obtain ⟨u, r, rfl, h1, h2⟩ := h
    cases i with
    | zero => simp at e; subst e; exact ⟨u, rfl, h1⟩
    | succ i => simp at e; obtain ⟨x, a, b⟩ := ImAll.get' h2 e; exact ⟨x, by simpa using a, b⟩
theorem ImAll.snoc {H : Hp} : ∀ {ds : List PyData} {vs : List V} {d : PyData} {v : V}, ImAll H ds vs → Im H d v → ImAll H (ds ++ [d]) (vs ++ [v])
  | [], _, d, v, h, e => by simp only [ImAll] at h; subst h; exact ⟨v, [], rfl, e, by simp only [ImAll]⟩
  | x :: ds, vs, d, v, h, e => by
    simp only [ImAll] at h
    obtain ⟨u, r, rfl, h1, h2⟩ := h
    exact ⟨u, r ++ [v], rfl, h1, ImAll.snoc h2 e⟩
theorem ImAll.app {H : Hp} : ∀ {ds es : List PyData} {vs us : List V}, ImAll H ds vs → ImAll H es us → ImAll H (ds ++ es) (vs ++ us)
  | [], _, _, _, h, e => by simp only [ImAll] at h; subst h; exact e
  | x :: ds, es, vs, us, h, e => by
    simp only [ImAll] at h
    obtain ⟨u, r, rfl, h1, h2⟩ := h
    exact ⟨u, r ++ us, rfl, h1, ImAll.app h2 e⟩
theorem ImAll.take {H : Hp} : ∀ {ds : List PyData} {vs : List V} (n : Nat), ImAll H ds vs → ImAll H (ds.take n) (vs.take n)
  | _, _, 0, _ => by simp only [List.take_zero]; simp only [ImAll]
  | [], _, n + 1, h => by simp only [ImAll] at h; subst h; simp only [List.take_nil]; simp only [ImAll]
  | x :: ds, vs, n + 1, h => by
    simp only [ImAll] at h
    obtain ⟨u, r, rfl, h1, h2⟩ := h
    exact ⟨u, r.take n, rfl, h1, ImAll.take n h2⟩
theorem ImAll.drop {H : Hp} : ∀ {ds : List PyData} {vs : List V} (n : Nat), ImAll H ds vs → ImAll H (ds.drop n) (vs.drop n)
  | _, _, 0, h => h
  | [], _, n + 1, h => by simp only [ImAll] at h; subst h; simp only [List.drop_nil]; simp only [ImAll]
  | x :: ds, vs, n + 1, h => by
    simp only [ImAll] at h
    obtain ⟨u, r, rfl, h1, h2⟩ := h
    exact ImAll.drop n h2
theorem im_nil {H : Hp} : ImAll H [] [] := by simp only [ImAll]
theorem im_cons {H : Hp} {d : PyData} {ds : List PyData} {v : V} {vs : List V} (a : Im H d v) (b : ImAll H ds vs) : ImAll H (d :: ds) (v :: vs) := by
  simp only [ImAll]; exact ⟨v, vs, rfl, a, b⟩
theorem im_tup {H : Hp} {ds : List PyData} {xs : List V} {a : Addr} (h : H a = some (.tup xs)) (i : ImAll H ds xs) : Im H (.tuple ds) (.ref a) := by
  simp only [Im]; exact ⟨a, xs, rfl, h, i⟩
theorem im_tupNew {H : Hp} {ds : List PyData} {xs : List V} {a : Addr} (h : H a = none) (i : ImAll H ds xs) : Im (upd H a (.tup xs)) (.tuple ds) (.ref a) :=
  im_tup upd_same (ImAll.mono (Tk.new h) _ _ i)
theorem im_int {H : Hp} {i : Int} : Im H (.int i) (.int i) := by simp only [Im]
theorem im_str {H : Hp} {x : Str} : Im H (.str x) (.str x) := by simp only [Im]
theorem im_bool {H : Hp} {b : Bool} : Im H (.bool b) (.bl b) := by simp only [Im]
theorem im_non {H : Hp} : Im H .none .non := by simp only [Im]
/-! ### data of bounded nesting, of plain kinds (no bools: they equal ints) -/
mutual
def pl : Nat → PyData → Bool
  | _, .none => true
  | _, .int _ => true
  | _, .str x => PyData.strOk x
  | 0, .tuple _ => false
  | n + 1, .tuple ds => plAll n ds
  | 0, .list _ => false
  | n + 1, .list ds => plAll n ds
  | _, .bool _ => false
  | _, .dict _ => false
def plAll : Nat → List PyData → Bool
  | _, [] => true
  | n, d :: ds => pl n d && plAll n ds
end
theorem plAll_iff {n : Nat} : ∀ {ds : List PyData}, plAll n ds = true ↔ ∀ d ∈ ds, pl n d = true
  | [] => by simp [plAll]
  | d :: ds => by simp only [plAll, Bool.and_eq_true, plAll_iff (ds := ds)]; simp
mutual
theorem pl_lay : ∀ (n : Nat) (d : PyData), pl n d = true → d.canLay0 = true ∧ d.depth ≤ n
  | n, .none, _ => by simp [PyData.canLay0, PyData.depth]
  | n, .int _, _ => by simp [PyData.canLay0, PyData.depth]
  | n, .str x, h => by simp only [pl] at h; simp [PyData.canLay0, PyData.depth, h]
  | 0, .tuple _, h => by simp [pl] at h
  | n + 1, .tuple ds, h => by
    simp only [pl] at h
    have := pl_layAll n ds h
    simp only [PyData.canLay0, PyData.depth]; exact ⟨this.1, by omega⟩
  | 0, .list _, h => by simp [pl] at h
  | n + 1, .list ds, h => by
    simp only [pl] at h
    have := pl_layAll n ds h
    simp only [PyData.canLay0, PyData.depth]; exact ⟨this.1, by omega⟩
  | _, .bool _, h => by simp [pl] at h
  | _, .dict _, h => by simp [pl] at h
theorem pl_layAll : ∀ (n : Nat) (ds : List PyData), plAll n ds = true → PyData.canLayAll0 ds = true ∧ PyData.depthAll ds ≤ n
  | n, [], _ => by simp [PyData.canLayAll0, PyData.depthAll]
  | n, d :: ds, h => by
    simp only [plAll, Bool.and_eq_true] at h
    have h1 := pl_lay n d h.1
    have h2 := pl_layAll n ds h.2
    simp only [PyData.canLayAll0, PyData.depthAll, h1.1, h2.1, Bool.and_self, true_and]; omega
end
theorem pl_shaped {n : Nat} {d : PyData} (h : pl n d = true) (hn : n ≤ 64 := by decide) : SeqAt.shaped d = true := by
  have := pl_lay n d h
  show (d.canLay0 && decide (d.depth ≤ 64)) = true
  rw [this.1, Bool.true_and]; exact decide_eq_true (by omega)
mutual
theorem pl_eqv : ∀ (n m : Nat) (d e : PyData), pl n d = true → pl m e = true → (PyData.eqv d e = true ↔ d = e)
  | n, m, .none, e, h, g => by cases e <;> simp_all [PyData.eqv, pl]
  | n, m, .int i, e, h, g => by cases e <;> simp_all [PyData.eqv, pl]
  | n, m, .str x, e, h, g => by cases e <;> simp_all [PyData.eqv, pl]
  | 0, m, .tuple _, e, h, g => by simp [pl] at h
  | n + 1, m, .tuple ds, e, h, g => by
    cases e with
    | tuple es =>
      cases m with
      | zero => simp [pl] at g
      | succ m =>
        simp only [pl] at h g
        simp only [PyData.eqv, PyData.tuple.injEq]
        exact pl_eqvAll n m ds es h g
    | _ => simp_all [PyData.eqv, pl]
  | 0, m, .list _, e, h, g => by simp [pl] at h
  | n + 1, m, .list ds, e, h, g => by
    cases e with
    | list es =>
      cases m with
      | zero => simp [pl] at g
      | succ m =>
        simp only [pl] at h g
        simp only [PyData.eqv, PyData.list.injEq]
        exact pl_eqvAll n m ds es h g
    | _ => simp_all [PyData.eqv, pl]
  | _, m, .bool _, e, h, g => by simp [pl] at h
  | _, m, .dict _, e, h, g => by simp [pl] at h
theorem pl_eqvAll : ∀ (n m : Nat) (ds es : List PyData), plAll n ds = true → plAll m es = true → (PyData.eqvAll ds es = true ↔ ds = es)
  | n, m, [], es, h, g => by cases es <;> simp [PyData.eqvAll]
  | n, m, d :: ds, es, h, g => by
    cases es with
    | nil => simp [PyData.eqvAll]
    | cons e es =>
      simp only [plAll, Bool.and_eq_true] at h g
      simp only [PyData.eqvAll, Bool.and_eq_true, List.cons.injEq]
      rw [pl_eqv n m d e h.1 g.1, pl_eqvAll n m ds es h.2 g.2]
end
noncomputable instance : DecidableEq PyData := fun a b => Classical.propDecidable (a = b)
theorem pl_eqv_dec {n m : Nat} {d e : PyData} (h : pl n d = true) (g : pl m e = true) : PyData.eqv d e = decide (d = e) := by
  rw [Bool.eq_iff_iff, decide_eq_true_eq]; exact pl_eqv n m d e h g
/-! ### x in t, t a tuple of data of any depth -/
section
variable {X : Cx}
def rInDT (K : PySem.W.Frag) : R2 := fun x y H Q => ∃ d ds, Dp K H x d ∧ Dp K H y (.tuple ds) ∧ SeqAt.shaped d = true ∧ SeqAt.shaped (.tuple ds) = true ∧ Q (.bl (ds.any fun z => PyData.eqv z d)) H
theorem op_inT (hu : X.A.units + 65 < cLine) : OpR X (compareOp .In) (rInDT X.K) := by
  intro pins s σ H x y v u Q I rx ry h
  obtain ⟨d, ds, hd, he, sd, se, q⟩ := h
  obtain ⟨as, r1⟩ := Dp.reads I d x v hd rx
  obtain ⟨bs, r2⟩ := Dp.reads I (.tuple ds) y u he ry
  exact SeqAt.in_tuple_reads r2 r1 (SeqAt.canLay_of_shaped se) (SeqAt.canLay_of_shaped sd) (PyProof.Rows.room_in_shaped sd hu) ⟨.bl _, H, I, rfl, q⟩
end
/-! ### rules over what is tracked alone -/
section
variable {X : Cx}
def rIxLH : R2 := fun x y H Q => ∃ p xs i v, x = .ref p ∧ y = .int i ∧ H p = some (.lst xs) ∧ atI xs i = some v ∧ Q v H
def rIxTH : R2 := fun x y H Q => ∃ p xs i v, x = .ref p ∧ y = .int i ∧ H p = some (.tup xs) ∧ atI xs i = some v ∧ Q v H
theorem ix_listH : IxR X rIxLH := fun value slice pins s σ H x y v u Q I rx ry ⟨p, xs, i, w, h1, h2, h3, h4, h5⟩ hs => ix_list value slice pins s σ H x y v u Q I rx ry ⟨p, xs, i, w, h1, h2, SqL.of h3, h4, h5⟩ hs
theorem ix_tupH : IxR X rIxTH := fun value slice pins s σ H x y v u Q I rx ry ⟨p, xs, i, w, h1, h2, h3, h4, h5⟩ hs => ix_tup value slice pins s σ H x y v u Q I rx ry ⟨p, xs, i, w, h1, h2, SqT.of h3, h4, h5⟩ hs
end
theorem atI0 {α : Type} {x : α} {xs : List α} : atI (x :: xs) 0 = some x := atI_nat (j := 0) rfl
theorem atI1 {α : Type} {x y : α} {xs : List α} : atI (x :: y :: xs) 1 = some y := atI_nat (j := 1) rfl
theorem atI2 {α : Type} {x y z : α} {xs : List α} : atI (x :: y :: z :: xs) 2 = some z := atI_nat (j := 2) rfl
theorem atI3 {α : Type} {x y z t : α} {xs : List α} : atI (x :: y :: z :: t :: xs) 3 = some t := atI_nat (j := 3) rfl
theorem ixN20 : ixN 2 0 = some 0 := by decide
theorem ixN21 : ixN 2 1 = some 1 := by decide
theorem atI_mem {α : Type} {xs : List α} {i : Int} (h0 : 0 ≤ i) (h1 : i < xs.length) : ∃ w, atI xs i = some w ∧ w ∈ xs := by
  obtain ⟨n, rfl⟩ := Int.eq_ofNat_of_zero_le h0
  have hn : n < xs.length := by omega
  exact ⟨xs[n], atI_nat (by simp [hn]), List.getElem_mem hn⟩
theorem tyL {K : PySem.W.Frag} {H : Hp} {p : Addr} {xs : List V} (h : H p = some (.lst xs)) : tyV K "list" (.ref p) H := .inl ⟨rfl, xs, SqL.of h⟩
/-! ### texts -/
theorem join_all {P : Nat → Prop} : ∀ (ys : List Str), (∀ y ∈ ys, ∀ c ∈ y.cps.toList, P c) → ∀ c ∈ (Txt.join ⟨#[]⟩ ys).cps.toList, P c := by
  have h : ∀ (ys : List Str), (∀ y ∈ ys, ∀ c ∈ y.cps.toList, P c) → ∀ c ∈ (Str.join ⟨#[]⟩ ys).cps.toList, P c := by
    intro ys
    induction ys with
    | nil => intro _ c hc; exact absurd hc (by simp [Str.join, Str.empty])
    | cons x r ih =>
      intro hy c hc
      cases r with
      | nil => exact hy x (by simp) c hc
      | cons y r =>
        have e : (Str.join ⟨#[]⟩ (x :: y :: r)).cps.toList = x.cps.toList ++ (Str.join ⟨#[]⟩ (y :: r)).cps.toList := by
          show ((x.cps ++ #[]) ++ (Str.join ⟨#[]⟩ (y :: r)).cps).toList = _
          simp
        rw [e] at hc
        rcases List.mem_append.mp hc with hc | hc
        · exact hy x (by simp) c hc
        · exact ih (fun z hz => hy z (List.mem_cons_of_mem _ hz)) c hc
  intro ys hy
  have e : Txt.join ⟨#[]⟩ ys = Str.join ⟨#[]⟩ ys := StrLaws.glued_eq_join _ _
  rw [e]; exact h ys hy
theorem join_len : ∀ (ys : List Str), (Txt.join ⟨#[]⟩ ys).length = (ys.map (·.length)).sum := by
  have h : ∀ (ys : List Str), (Str.join ⟨#[]⟩ ys).length = (ys.map (·.length)).sum := by
    intro ys
    induction ys with
    | nil => rfl
    | cons x r ih =>
      cases r with
      | nil => show x.length = _; simp
      | cons y r =>
        have e : (Str.join ⟨#[]⟩ (x :: y :: r)).length = x.length + (Str.join ⟨#[]⟩ (y :: r)).length := by
          show ((x.cps ++ #[]) ++ (Str.join ⟨#[]⟩ (y :: r)).cps).size = x.cps.size + (Str.join ⟨#[]⟩ (y :: r)).cps.size
          simp
        rw [e, ih]; simp
  intro ys
  have e : Txt.join ⟨#[]⟩ ys = Str.join ⟨#[]⟩ ys := StrLaws.glued_eq_join _ _
  rw [e]; exact h ys
/-- a name: 1 to 12 signs a to z -/
def NameD (x : Str) : Prop := 1 ≤ x.length ∧ x.length ≤ 12 ∧ ∀ c ∈ x.cps.toList, 97 ≤ c ∧ c ≤ 122
theorem NameD.ok {x : Str} (h : NameD x) : PyData.strOk x = true := by
  unfold PyData.strOk
  rw [Array.all_eq_true_iff_forall_mem]
  intro c hc
  have := h.2.2 c (by simpa using hc)
  exact decide_eq_true (by omega)
theorem nameD_by {x : Str} (h : (decide (1 ≤ x.length) && decide (x.length ≤ 12) && x.cps.toList.all fun c => decide (97 ≤ c) && decide (c ≤ 122)) = true) : NameD x := by
  simp only [Bool.and_eq_true, decide_eq_true_eq, List.all_eq_true] at h
  exact ⟨h.1.1, h.1.2, fun c hc => h.2 c hc⟩
/-! ### loops: the reading's own words, folded -/
def Loop (J : It) (g : TG) (tb : TS) (D : Ends) (σ : St) (H : Hp) : Prop := ∃ W : Nat → Nat → St → Hp → Prop, (∃ m, W 0 m σ H) ∧ ∀ i m σ H, W i m σ H →
  (J.stop i H ∧ D.nx σ H) ∨ (J.go i H ∧ ∃ N : St → Hp → Prop, (∀ σ' H', N σ' H' → ∃ m', m' < m ∧ W (i + 1) m' σ' H') ∧ ∀ x H', J.yld i H x H' → g x σ H' fun σ2 H2 => tb { D with nx := N, ct := N, bk := D.nx } σ2 H2)
theorem tFor_eq (wi : TI) (g : TG) (tb : TS) (D : Ends) (σ : St) (H : Hp) : tFor wi g tb D σ H = wi σ H (fun J H1 => Loop J g tb D σ H1) := rfl
theorem Loop.range {lo : Int} {n : Nat} {g : TG} {tb : TS} {D : Ends} {σ : St} {H : Hp} (Pv : Nat → St → Hp → Prop) (h0 : Pv 0 σ H)
    (hs : ∀ i σ H, i < n → Pv i σ H → g (.int (lo + i)) σ H fun σ2 H2 => tb { D with nx := Pv (i + 1), ct := Pv (i + 1), bk := D.nx } σ2 H2) (hd : ∀ σ H, Pv n σ H → D.nx σ H) : Loop (Itr lo n) g tb D σ H := for_range Pv h0 hs hd
theorem Loop.list {K : PySem.W.Frag} {a : Addr} {g : TG} {tb : TS} {D : Ends} {σ : St} {H : Hp} (xs : List V) (Pv : Nat → St → Hp → Prop) (h0 : Pv 0 σ H) (hl : ∀ i σ H, i ≤ xs.length → Pv i σ H → SqL K H a xs)
    (hs : ∀ i x σ H, xs[i]? = some x → Pv i σ H → g x σ H fun σ2 H2 => tb { D with nx := Pv (i + 1), ct := Pv (i + 1), bk := D.nx } σ2 H2) (hd : ∀ σ H, Pv xs.length σ H → D.nx σ H) : Loop (Itl K a) g tb D σ H := for_list Pv h0 hl hs hd
theorem Loop.tup {K : PySem.W.Frag} {a : Addr} {g : TG} {tb : TS} {D : Ends} {σ : St} {H : Hp} (xs : List V) (Pv : Nat → St → Hp → Prop) (h0 : Pv 0 σ H) (hl : ∀ i σ H, i ≤ xs.length → Pv i σ H → SqT K H a xs)
    (hs : ∀ i x σ H, xs[i]? = some x → Pv i σ H → g x σ H fun σ2 H2 => tb { D with nx := Pv (i + 1), ct := Pv (i + 1), bk := D.nx } σ2 H2) (hd : ∀ σ H, Pv xs.length σ H → D.nx σ H) : Loop (Itt K a) g tb D σ H := for_tup Pv h0 hl hs hd
def Lcl (J : It) (g : TG) (tt : TT) (te : TE) (vs : List Nat) (σ : St) (D : Addr) (H : Hp) (Q : Hp → Prop) : Prop := ∃ W : Nat → Nat → Hp → Prop, (∃ m, W 0 m (upd H D (.lst []))) ∧ ∀ i m H, W i m H →
  (J.stop i H ∧ Q H) ∨ (J.go i H ∧ ∃ Nx : Hp → Prop, (∀ H', Nx H' → ∃ m', m' < m ∧ W (i + 1) m' H') ∧ ∀ x H', J.yld i H x H' → g x (wipe σ vs) H' fun σ2 H2 => wipe σ2 vs = wipe σ vs ∧ tt σ2 H2 fun b H3 =>
    if b = true then te σ2 H3 fun y H4 => ∃ acc, H4 D = some (.lst acc) ∧ acc.length < sizeLine ∧ Nx (upd H4 D (.lst (acc ++ [y]))) else Nx H3)
theorem tLc_eq (wi : TI) (g : TG) (tt : TT) (te : TE) (vs : List Nat) (σ : St) (H : Hp) (Q : VK) : tLc wi g tt te vs σ H Q = wi σ H (fun J H1 => ∀ D, H1 D = none → Lcl J g tt te vs σ D H1 (fun H2 => Q (.ref D) H2)) := rfl
theorem Lcl.range {lo : Int} {n : Nat} {g : TG} {tt : TT} {te : TE} {vs : List Nat} {σ : St} {H1 : Hp} {D : Addr} {Qd : Hp → Prop} (Pv : Nat → Hp → Prop) (h0 : Pv 0 (upd H1 D (.lst [])))
    (hs : ∀ i H, i < n → Pv i H → g (.int (lo + i)) (wipe σ vs) H fun σ2 H2 => wipe σ2 vs = wipe σ vs ∧ tt σ2 H2 fun b H3 =>
      if b = true then te σ2 H3 fun y H4 => ∃ acc, H4 D = some (.lst acc) ∧ acc.length < sizeLine ∧ Pv (i + 1) (upd H4 D (.lst (acc ++ [y]))) else Pv (i + 1) H3) (hd : ∀ H, Pv n H → Qd H) : Lcl (Itr lo n) g tt te vs σ D H1 Qd := lc_range Pv h0 hs hd
theorem Lcl.list {K : PySem.W.Frag} {a : Addr} {g : TG} {tt : TT} {te : TE} {vs : List Nat} {σ : St} {H1 : Hp} {D : Addr} {Qd : Hp → Prop} (xs : List V) (Pv : Nat → Hp → Prop) (h0 : Pv 0 (upd H1 D (.lst []))) (hl : ∀ i H, i ≤ xs.length → Pv i H → SqL K H a xs)
    (hs : ∀ i x H, xs[i]? = some x → Pv i H → g x (wipe σ vs) H fun σ2 H2 => wipe σ2 vs = wipe σ vs ∧ tt σ2 H2 fun b H3 =>
      if b = true then te σ2 H3 fun y H4 => ∃ acc, H4 D = some (.lst acc) ∧ acc.length < sizeLine ∧ Pv (i + 1) (upd H4 D (.lst (acc ++ [y]))) else Pv (i + 1) H3) (hd : ∀ H, Pv xs.length H → Qd H) : Lcl (Itl K a) g tt te vs σ D H1 Qd := lc_list Pv h0 hl hs hd
theorem Lcl.tup {K : PySem.W.Frag} {a : Addr} {g : TG} {tt : TT} {te : TE} {vs : List Nat} {σ : St} {H1 : Hp} {D : Addr} {Qd : Hp → Prop} (xs : List V) (Pv : Nat → Hp → Prop) (h0 : Pv 0 (upd H1 D (.lst []))) (hl : ∀ i H, i ≤ xs.length → Pv i H → SqT K H a xs)
    (hs : ∀ i x H, xs[i]? = some x → Pv i H → g x (wipe σ vs) H fun σ2 H2 => wipe σ2 vs = wipe σ vs ∧ tt σ2 H2 fun b H3 =>
      if b = true then te σ2 H3 fun y H4 => ∃ acc, H4 D = some (.lst acc) ∧ acc.length < sizeLine ∧ Pv (i + 1) (upd H4 D (.lst (acc ++ [y]))) else Pv (i + 1) H3) (hd : ∀ H, Pv xs.length H → Qd H) : Lcl (Itt K a) g tt te vs σ D H1 Qd := lc_tup Pv h0 hl hs hd
/-! ### the drawn stream of a law -/
/-- at p a list of two ints -/
def St2 (H : Hp) (p : Addr) : Prop := ∃ d r : Int, H p = some (.lst [.int d, .int r])
/-- a generator ran: the stream at p may have gone on, all else is as it was, new things may stand -/
structure Gn (p : Addr) (H H' : Hp) : Prop where
  st0 : St2 H p
  st : St2 H' p
  but : ∀ b o, H b = some o → b ≠ p → H' b = some o
theorem Gn.tk {p : Addr} {H H' : Hp} (g : Gn p H H') : Tk H H' := fun b xs e => by
  obtain ⟨d, r, h⟩ := g.st0
  exact g.but b _ e (ne_of e h (by intro z; cases z))
theorem Gn.refl {p : Addr} {H : Hp} (h : St2 H p) : Gn p H H := ⟨h, h, fun _ _ e _ => e⟩
theorem Gn.trans {p : Addr} {H H1 H2 : Hp} (a : Gn p H H1) (b : Gn p H1 H2) : Gn p H H2 := ⟨a.st0, b.st, fun c o e n => b.but c o (a.but c o e n) n⟩
theorem St2.new {p q : Addr} {H : Hp} {o : HO} (h : St2 H p) (hq : H q = none) : St2 (upd H q o) p := by
  obtain ⟨d, r, e⟩ := h; exact ⟨d, r, get_new hq e⟩
theorem St2.ne {p q : Addr} {H : Hp} {o : HO} (h : St2 H p) (hq : q ≠ p) : St2 (upd H q o) p := by
  obtain ⟨d, r, e⟩ := h; exact ⟨d, r, get_ne hq.symm e⟩
theorem St2.nn {p q : Addr} {H : Hp} (h : St2 H p) (hq : H q = none) : q ≠ p := by
  obtain ⟨d, r, e⟩ := h; exact (ne_of_none e hq).symm
theorem Gn.new {p q : Addr} {H H1 : Hp} {o : HO} (a : Gn p H H1) (hq : H1 q = none) : Gn p H (upd H1 q o) :=
  ⟨a.st0, a.st.new hq, fun c x e n => get_new hq (a.but c x e n)⟩
/-- a list that the generator made is changed -/
theorem Gn.put {p q : Addr} {H H1 : Hp} {o : HO} (a : Gn p H H1) (hq : H q = none) (hn : q ≠ p) : Gn p H (upd H1 q o) :=
  ⟨a.st0, a.st.ne hn, fun c x e n => get_ne (ne_of_none e hq) (a.but c x e n)⟩
theorem Gn.none {p q : Addr} {H H' : Hp} (g : Gn p H H') (h : H' q = none) : H q = none := by
  cases e : H q with
  | none => rfl
  | some o =>
    by_cases hq : q = p
    · subst hq; obtain ⟨d, r, z⟩ := g.st; rw [h] at z; cases z
    · rw [g.but q o e hq] at h; cases h
theorem Gn.im {p : Addr} {H H' : Hp} (g : Gn p H H') {d : PyData} {v : V} (h : Im H d v) : Im H' d v := Im.mono g.tk d v h
theorem Gn.upd {p : Addr} {H : Hp} {d r : Int} (h : St2 H p) : Gn p H (upd H p (.lst [.int d, .int r])) := ⟨h, ⟨d, r, upd_same⟩, fun b o e n => get_ne n e⟩
theorem imNew {H : Hp} {q : Addr} {o : HO} {d : PyData} {v : V} (hq : H q = none) (h : Im H d v) : Im (upd H q o) d v := Im.mono (Tk.new hq) d v h
theorem cmulR {i j : Int} (h : (decide (-(2 ^ 64) < j) && decide (j < 2 ^ 64)) = true) : CMul i j := by
  simp only [Bool.and_eq_true, decide_eq_true_eq] at h; exact .inr h
theorem cmulL {i j : Int} (h : -(2 ^ 64) < i ∧ i < 2 ^ 64) : CMul i j := .inl h
theorem abc26 : (Str.ofString "abcdefghijklmnopqrstuvwxyz").cps.toList = (List.range 26).map (97 + ·) := by decide +kernel
theorem abc26_len : (Str.ofString "abcdefghijklmnopqrstuvwxyz").length = 26 := by decide +kernel
theorem abc26_at {v : Int} (h0 : 0 ≤ v) (h1 : v < 26) : ∃ c, atI (Str.ofString "abcdefghijklmnopqrstuvwxyz").cps.toList v = some c ∧ 97 ≤ c ∧ c ≤ 122 := by
  rw [abc26]
  obtain ⟨c, hc, hm⟩ := atI_mem (xs := (List.range 26).map (97 + ·)) h0 (by simpa using h1)
  refine ⟨c, hc, ?_⟩
  simp only [List.mem_map, List.mem_range] at hm
  omega
theorem empty_str : Str.ofString "" = ⟨#[]⟩ := by decide +kernel
theorem sum_ones : ∀ {ys : List Str}, (∀ y ∈ ys, y.length = 1) → (ys.map (·.length)).sum = ys.length
  | [], _ => rfl
  | y :: ys, h => by
    have h1 := h y (by simp)
    have h2 := sum_ones (ys := ys) fun z hz => h z (List.mem_cons_of_mem _ hz)
    simp only [List.map_cons, List.sum_cons, List.length_cons, h1, h2]; omega
theorem Gn.at {p q : Addr} {H H' : Hp} {o : HO} (g : Gn p H H') (h : H q = some o) (hn : q ≠ p) : H' q = some o := g.but q o h hn

/-! ### rules whose new thing may be an old one -/
section
variable {X : Cx}
theorem cutV_whole {xs : List V} {lo hi : Option Int} (h : HT.sIx xs.length 0 lo = 0 ∧ HT.sIx xs.length xs.length hi = xs.length) : cutV xs lo hi = xs := by
  unfold cutV; rw [h.1, h.2]; simp
theorem cutV_to (xs : List V) (k : Nat) : cutV xs none (some (k : Int)) = xs.take k := by
  unfold cutV
  rw [HT.sIx_none, HT.sIx_nat, List.drop_zero, Nat.sub_zero]
  by_cases h : k ≤ xs.length
  · rw [Nat.min_eq_left h]
  · rw [Nat.min_eq_right (by omega), List.take_length, List.take_of_length_le (by omega)]
theorem cutV_from (xs : List V) (k : Nat) : cutV xs (some (k : Int)) none = xs.drop k := by
  unfold cutV
  rw [HT.sIx_none, HT.sIx_nat]
  by_cases h : k ≤ xs.length
  · rw [Nat.min_eq_left h, List.take_of_length_le (by rw [List.length_drop]; omega)]
  · rw [Nat.min_eq_right (by omega), List.drop_length, List.drop_of_length_le (by omega)]; simp
def rSlTS : V → Option Int → Option Int → Hp → VK → Prop := fun x lo hi H Q => ∃ a xs, x = .ref a ∧ H a = some (.tup xs) ∧ ∀ p H', Same H H' → H' p = some (.tup (cutV xs lo hi)) → Q (.ref p) H'
theorem sl_tupS : SlR X rSlTS := fun pins s σ H x v vl vu lo hi sl Q I rx hs pl pu ⟨a, xs, h1, h2, h3⟩ =>
  sl_tupA pins s σ H x v vl vu lo hi sl Q I rx hs pl pu ⟨a, xs, h1, SqT.of h2, fun hw => h3 a H (Same.refl H) (by rw [cutV_whole hw]; exact h2), fun _ p hp => h3 p _ (same_new hp) upd_same⟩
def rCatS : R2 := fun x y H Q => ∃ a b xs ys, x = .ref a ∧ y = .ref b ∧ H a = some (.tup xs) ∧ H b = some (.tup ys) ∧ xs.length + ys.length ≤ sizeLine ∧ ∀ p H', Same H H' → H' p = some (.tup (xs ++ ys)) → Q (.ref p) H'
theorem op_catS : OpR X (binaryOp .Add) rCatS := fun pins s σ H x y v u Q I rx ry ⟨a, b, xs, ys, h1, h2, h3, h4, h5, h6⟩ =>
  op_catA pins s σ H x y v u Q I rx ry ⟨a, b, xs, ys, h1, h2, SqT.of h3, SqT.of h4, h5, fun e => h6 b H (Same.refl H) (by rw [e]; exact h4), fun _ e => h6 a H (Same.refl H) (by rw [e, List.append_nil]; exact h3), fun _ _ p hp => h6 p _ (same_new hp) upd_same⟩
def rTupS : List V → Hp → VK → Prop := fun xs H Q => ∃ p ys, xs = [.ref p] ∧ (H p = some (.lst ys) ∨ H p = some (.tup ys)) ∧ ∀ l H', Same H H' → H' l = some (.tup ys) → Q (.ref l) H'
theorem call_tupS : CallR X (.type "tuple") rTupS := fun pins s σ H xs us Q I r ⟨p, ys, h1, h2, h3⟩ =>
  call_tuple_of pins s σ H xs us Q I r ⟨p, ys, h1, h2.elim (fun h => .inl ⟨SqL.of h, fun l hl => h3 l _ (same_new hl) upd_same⟩) fun h => .inr ⟨SqT.of h, h3 p H (Same.refl H) h⟩⟩
def tyO : Option HO → Option String
  | some (.lst _) => some "list"
  | some (.tup _) => some "tuple"
  | some (.dK _) => some "dict"
  | some (.dT _) => some "dict"
  | _ => none
/-- the built-in type's name of a value -/
def tyS (H : Hp) : V → Option String
  | .non => some "NoneType"
  | .bl _ => some "bool"
  | .int _ => some "int"
  | .str _ => some "str"
  | .ref a => tyO (H a)
  | _ => none
theorem tyS_non {H : Hp} : tyS H .non = some "NoneType" := rfl
theorem tyS_bl {H : Hp} {b : Bool} : tyS H (.bl b) = some "bool" := rfl
theorem tyS_int {H : Hp} {b : Int} : tyS H (.int b) = some "int" := rfl
theorem tyS_str {H : Hp} {b : Str} : tyS H (.str b) = some "str" := rfl
theorem tyS_ref {H : Hp} {a : Addr} : tyS H (.ref a) = tyO (H a) := rfl
theorem tyO_l {xs : List V} : tyO (some (.lst xs)) = some "list" := rfl
theorem tyO_t {xs : List V} : tyO (some (.tup xs)) = some "tuple" := rfl
theorem tyO_d {xs : List (Key × V)} : tyO (some (.dK xs)) = some "dict" := rfl
theorem tyO_dt {xs : List (List Key × V)} : tyO (some (.dT xs)) = some "dict" := rfl
theorem tyS_x {K : PySem.W.Frag} {H : Hp} {x : V} {t : String} (h : tyS H x = some t) : TyX K H x (.type t) := by
  cases x with
  | non => cases h; exact .base .non
  | bl b => cases h; exact .base (.bl b)
  | int i => cases h; exact .base (.int i)
  | str x => cases h; exact .base (.str x)
  | ref a =>
    rw [tyS_ref] at h
    cases e : H a with
    | none => rw [e] at h; cases h
    | some o =>
      rw [e] at h
      cases o with
      | lst xs => cases h; exact .base (.lst e)
      | tup xs => cases h; exact .base (.tup e)
      | dK kvs => cases h; exact .base (.dK e)
      | dT kvs => cases h; exact .base (.dT e)
      | _ => cases h
  | _ => cases h
def rIsiH : List V → Hp → VK → Prop := fun xs H Q => ∃ (x : V) (n t : String) (b : Bool), xs = [x, .ty n] ∧ tyS H x = some t ∧ kitB t n = some b ∧ Q (.bl b) H
theorem call_isiH : CallR X (.builtin "isinstance") rIsiH := fun pins s σ H xs us Q I r ⟨x, n, t, b, h1, h2, h3, h4⟩ =>
  call_isi pins s σ H xs us Q I r ⟨x, .ty n, .type t, .type n, b, h1, .ty n, tyS_x h2, kit_ty h3, h4⟩
end
theorem kit_ll : kitB "list" "list" = some true := by decide +kernel
theorem kit_tt : kitB "tuple" "tuple" = some true := by decide +kernel
theorem kit_bb : kitB "bool" "bool" = some true := by decide +kernel
theorem kit_ii : kitB "int" "int" = some true := by decide +kernel
theorem kit_ib : kitB "int" "bool" = some false := by decide +kernel
theorem kit_bi : kitB "bool" "int" = some true := by decide +kernel
theorem kit_nt : kitB "NoneType" "tuple" = some false := by decide +kernel
theorem kit_it : kitB "int" "tuple" = some false := by decide +kernel
theorem kit_st : kitB "str" "tuple" = some false := by decide +kernel
theorem kit_bt : kitB "bool" "tuple" = some false := by decide +kernel
theorem kit_lt : kitB "list" "tuple" = some false := by decide +kernel
theorem kit_dt : kitB "dict" "tuple" = some false := by decide +kernel
theorem kit_ni : kitB "NoneType" "int" = some false := by decide +kernel
theorem kit_si : kitB "str" "int" = some false := by decide +kernel
theorem kit_ti : kitB "tuple" "int" = some false := by decide +kernel
theorem kit_li : kitB "list" "int" = some false := by decide +kernel
theorem kit_di : kitB "dict" "int" = some false := by decide +kernel
theorem kit_nb : kitB "NoneType" "bool" = some false := by decide +kernel
theorem kit_ns : kitB "NoneType" "str" = some false := by decide +kernel
theorem kit_is : kitB "int" "str" = some false := by decide +kernel
theorem kit_bs : kitB "bool" "str" = some false := by decide +kernel
theorem kit_ss : kitB "str" "str" = some true := by decide +kernel
theorem kit_ts : kitB "tuple" "str" = some false := by decide +kernel
theorem kit_ls : kitB "list" "str" = some false := by decide +kernel
theorem kit_ds : kitB "dict" "str" = some false := by decide +kernel
theorem kit_dd : kitB "dict" "dict" = some true := by decide +kernel
theorem Gn.same {p : Addr} {H H1 H2 : Hp} (g : Gn p H H1) (s : Same H1 H2) : Gn p H H2 :=
  ⟨g.st0, by obtain ⟨d, r, h⟩ := g.st; exact ⟨d, r, s _ _ h⟩, fun b o e n => s _ _ (g.but b o e n)⟩
theorem St2.same {p : Addr} {H1 H2 : Hp} (g : St2 H1 p) (s : Same H1 H2) : St2 H2 p := by obtain ⟨d, r, h⟩ := g; exact ⟨d, r, s _ _ h⟩
theorem Same.im {H H' : Hp} (s : Same H H') {d : PyData} {v : V} (h : Im H d v) : Im H' d v := Im.mono (Same.tk s) d v h
theorem Same.ims {H H' : Hp} (s : Same H H') {d : List PyData} {v : List V} (h : ImAll H d v) : ImAll H' d v := ImAll.mono (Same.tk s) d v h
theorem Gn.ims {p : Addr} {H H' : Hp} (g : Gn p H H') {d : List PyData} {v : List V} (h : ImAll H d v) : ImAll H' d v := ImAll.mono g.tk d v h
theorem imsNew {H : Hp} {q : Addr} {o : HO} {d : List PyData} {v : List V} (hq : H q = none) (h : ImAll H d v) : ImAll (upd H q o) d v := ImAll.mono (Tk.new hq) d v h
theorem im_tupE {H : Hp} {ds : List PyData} {v : V} (h : Im H (.tuple ds) v) : ∃ a xs, v = .ref a ∧ H a = some (.tup xs) ∧ ImAll H ds xs := by simpa only [Im] using h
theorem imAll_mem {H : Hp} {P : PyData → Prop} {ds : List PyData} {vs : List V} {i : Nat} {v : V} (h : ImAll H ds vs) (hP : ∀ d ∈ ds, P d) (e : vs[i]? = some v) : ∃ d, ds[i]? = some d ∧ P d ∧ Im H d v := by
  obtain ⟨d, e1, e2⟩ := h.get e
  exact ⟨d, e1, hP d (List.mem_of_getElem? e1), e2⟩
theorem imPut {H : Hp} {q : Addr} {xs : List V} {o : HO} {d : PyData} {v : V} (hq : H q = some (.lst xs)) (h : Im H d v) : Im (upd H q o) d v := Im.mono (Tk.put hq) d v h
theorem imsPut {H : Hp} {q : Addr} {xs : List V} {o : HO} {d : List PyData} {v : List V} (hq : H q = some (.lst xs)) (h : ImAll H d v) : ImAll (upd H q o) d v := ImAll.mono (Tk.put hq) d v h
/-- a list of such data grows by one -/
theorem ims_app {H : Hp} {l : Addr} {vs : List V} {ds : List PyData} {v : V} {d : PyData} (hl : H l = some (.lst vs)) (h : ImAll H ds vs) (hd : Im H d v) : ImAll (upd H l (.lst (vs ++ [v]))) (ds ++ [d]) (vs ++ [v]) := imsPut hl (h.snoc hd)
theorem all_snoc {α : Type} {P : α → Prop} {xs : List α} {x : α} (h : ∀ y ∈ xs, P y) (hx : P x) : ∀ y ∈ xs ++ [x], P y := by
  intro y hy
  rcases List.mem_append.mp hy with hy | hy
  · exact h y hy
  · rw [List.mem_singleton] at hy; subst hy; exact hx
section
variable {X : Cx} {K : PySem.W.Frag}
theorem op_eqDK (hK : X.K = K) (hu : X.A.units + 64 < cLine) : OpR X (compareOp .Eq) (rEqD K) := by subst hK; exact op_eqD hu
theorem op_neDK (hK : X.K = K) (hu : X.A.units + 64 < cLine) : OpR X (compareOp .NotEq) (rNeD K) := by subst hK; exact op_neD hu
theorem op_inDK (hK : X.K = K) (hu : X.A.units + 65 < cLine) : OpR X (compareOp .In) (rInD K) := by subst hK; exact op_inD hu
theorem op_notInDK (hK : X.K = K) (hu : X.A.units + 65 < cLine) : OpR X (compareOp .NotIn) (rNotInD K) := by subst hK; exact op_notInD hu
theorem op_inTK (hK : X.K = K) (hu : X.A.units + 65 < cLine) : OpR X (compareOp .In) (rInDT K) := by subst hK; exact op_inT hu
end
def lenO : Option HO → Option Nat
  | some (.lst xs) => some xs.length
  | some (.tup xs) => some xs.length
  | _ => none
def lenS (H : Hp) : V → Option Nat
  | .str y => if y.length ≤ sizeLine then some y.length else none
  | .ref p => lenO (H p)
  | _ => none
theorem lenO_l {xs : List V} : lenO (some (.lst xs)) = some xs.length := rfl
theorem lenO_t {xs : List V} : lenO (some (.tup xs)) = some xs.length := rfl
theorem lenS_ref {H : Hp} {p : Addr} : lenS H (.ref p) = lenO (H p) := rfl
theorem lenS_str {H : Hp} {y : Str} (h : y.length ≤ 16777216) : lenS H (.str y) = some y.length := by simp only [lenS]; rw [if_pos (by rw [sizeLine_eq]; exact h)]
theorem lenS_v {K : PySem.W.Frag} {H : Hp} {x : V} {n : Nat} (h : lenS H x = some n) : LenV K x H n := by
  cases x with
  | str y =>
    simp only [lenS] at h
    split at h
    · cases h; exact ⟨by assumption, rfl⟩
    · cases h
  | ref a =>
    rw [lenS_ref] at h
    cases e : H a with
    | none => rw [e] at h; cases h
    | some o =>
      rw [e] at h
      cases o with
      | lst xs => cases h; exact .inl ⟨xs, SqL.of e, rfl⟩
      | tup xs => cases h; exact .inr ⟨xs, SqT.of e, rfl⟩
      | _ => cases h
  | _ => cases h
section
variable {X : Cx}
def rLenS : List V → Hp → VK → Prop := fun xs H Q => ∃ (x : V) (n : Nat), xs = [x] ∧ lenS H x = some n ∧ Q (.int n) H
theorem call_lenS : CallR X (.builtin "len") rLenS := fun pins s σ H xs us Q I r ⟨x, n, h1, h2, h3⟩ => call_len pins s σ H xs us Q I r ⟨x, n, h1, lenS_v h2, h3⟩
end
theorem cutI {t u : TS} {D : Ends} {σ : St} {H : Hp} (Mid : St → Hp → Prop) (h1 : t { D with nx := Mid } σ H) (h2 : ∀ σ' H', Mid σ' H' → u D σ' H') : C8.tCut t u D σ H := ⟨Mid, h1, h2⟩
theorem upd_none {H : Hp} {p q : Addr} {o : HO} (h : upd H p o q = none) : q ≠ p ∧ H q = none := by
  by_cases e : q = p
  · subst e; rw [upd_same] at h; cases h
  · rw [upd_ne e] at h; exact ⟨e, h⟩
theorem imIns {H : Hp} {p C dx : Addr} {fs : List (Str × V)} {o : HO} {d : PyData} {v : V} (hp : H p = some (.ins C dx fs)) (h : Im H d v) : Im (upd H p o) d v := Im.mono (Tk.putI hp) d v h
theorem imsIns {H : Hp} {p C dx : Addr} {fs : List (Str × V)} {o : HO} {d : List PyData} {v : List V} (hp : H p = some (.ins C dx fs)) (h : ImAll H d v) : ImAll (upd H p o) d v := ImAll.mono (Tk.putI hp) d v h
theorem imDk {H : Hp} {p : Addr} {fs : List (Key × V)} {o : HO} {d : PyData} {v : V} (hp : H p = some (.dK fs)) (h : Im H d v) : Im (upd H p o) d v := Im.mono (Tk.putD hp) d v h
theorem imsDk {H : Hp} {p : Addr} {fs : List (Key × V)} {o : HO} {d : List PyData} {v : List V} (hp : H p = some (.dK fs)) (h : ImAll H d v) : ImAll (upd H p o) d v := ImAll.mono (Tk.putD hp) d v h
theorem ne_il {H : Hp} {p l C dx : Addr} {fs : List (Str × V)} {ws : List V} (hp : H p = some (.ins C dx fs)) (hl : H l = some (.lst ws)) : p ≠ l := ne_of hp hl (by intro z; cases z)
theorem ne_it {H : Hp} {p l C dx : Addr} {fs : List (Str × V)} {ws : List V} (hp : H p = some (.ins C dx fs)) (hl : H l = some (.tup ws)) : p ≠ l := ne_of hp hl (by intro z; cases z)
theorem ne_dl {H : Hp} {p l : Addr} {fs : List (Key × V)} {ws : List V} (hp : H p = some (.dK fs)) (hl : H l = some (.lst ws)) : p ≠ l := ne_of hp hl (by intro z; cases z)
theorem ne_id {H : Hp} {p l C dx : Addr} {fs : List (Str × V)} {ws : List (Key × V)} (hp : H p = some (.ins C dx fs)) (hl : H l = some (.dK ws)) : p ≠ l := ne_of hp hl (by intro z; cases z)
section
variable {X : Cx} {pos : Pos}
def gTupH (n : Nat) (t : TGs) : TG := fun v σ H Q => ∃ a xs, v = .ref a ∧ H a = some (.tup xs) ∧ xs.length = n ∧ t xs σ H Q
theorem pg_tupH {es : List Expr} {k : Nat} {t : TGs} (n : Nat) (hc : X.calm = true) (h : PGs X es t)
    (hn : (assignEach es X.env).length = n := by rfl) (hst : (assignEach es X.env).findIdx? (·.1) = none := by rfl) : PG X (.Tuple es k pos) (gTupH n t) :=
  ⟨fun pins s σ H v u Q I r ⟨a, xs, h1, h2, h3, h4⟩ => (pg_tup hc h hn hst).run pins s σ H v u Q I r ⟨a, xs, h1, SqT.of h2, h3, h4⟩⟩
def gUnlH (n : Nat) (t : TGs) : TG := fun v σ H Q => ∃ a xs, v = .ref a ∧ H a = some (.lst xs) ∧ xs.length = n ∧ t xs σ H Q
theorem pg_unlH {es : List Expr} {k : Nat} {t : TGs} (n : Nat) (hc : X.calm = true) (h : PGs X es t)
    (hn : (assignEach es X.env).length = n := by rfl) (hst : (assignEach es X.env).findIdx? (·.1) = none := by rfl) : PG X (.Tuple es k pos) (gUnlH n t) :=
  ⟨fun pins s σ H v u Q I r ⟨a, xs, h1, h2, h3, h4⟩ => (pg_unl hc h hn hst).run pins s σ H v u Q I r ⟨a, xs, h1, SqL.of h2, h3, h4⟩⟩
end
/-! ### the drawn data -/
def kD (h : Int) (n : Str) : PyData := .tuple [.int h, .str n]
def KeyD (d : PyData) : Prop := ∃ h n, d = kD h n ∧ 0 ≤ h ∧ h ≤ 1000000000000 ∧ NameD n
theorem KeyD.pl {d : PyData} (h : KeyD d) : pl 1 d = true := by
  obtain ⟨a, b, rfl, _, _, n⟩ := h
  simp [kD, G4.pl, plAll, n.ok]
/-- a step of a program -/
def StepD (d : PyData) : Prop := ∃ k, KeyD k ∧ ((∃ w, d = .tuple [.str w, k] ∧ (w = Str.ofString "read" ∨ w = Str.ofString "store")) ∨
  ∃ w i, d = .tuple [.str w, k, .int i] ∧ (w = Str.ofString "put" ∨ w = Str.ofString "add" ∨ w = Str.ofString "need") ∧ -1000000000000 ≤ i ∧ i ≤ 1000000000000)
theorem ok_words : PyData.strOk (Str.ofString "read") = true ∧ PyData.strOk (Str.ofString "store") = true ∧ PyData.strOk (Str.ofString "put") = true ∧ PyData.strOk (Str.ofString "add") = true ∧ PyData.strOk (Str.ofString "need") = true := by decide +kernel
theorem StepD.pl {d : PyData} (h : StepD d) : G4.pl 2 d = true := by
  obtain ⟨k, hk, h⟩ := h
  obtain ⟨a, b, rfl, _, _, n⟩ := hk
  obtain ⟨o1, o2, o3, o4, o5⟩ := ok_words
  rcases h with ⟨w, rfl, hw⟩ | ⟨w, i, rfl, hw, _⟩
  · rcases hw with rfl | rfl <;> simp [kD, G4.pl, plAll, n.ok, o1, o2]
  · rcases hw with rfl | rfl | rfl <;> simp [kD, G4.pl, plAll, n.ok, o3, o4, o5]
def stepKey : PyData → PyData
  | .tuple (_ :: k :: _) => k
  | _ => .none
theorem StepD.key {d : PyData} (h : StepD d) : KeyD (stepKey d) := by
  obtain ⟨k, hk, h⟩ := h
  rcases h with ⟨w, rfl, _⟩ | ⟨w, i, rfl, _⟩ <;> exact hk
/-- a step as it stands: its second place is its key -/
theorem StepD.at {H : Hp} {d : PyData} {v : V} (h : StepD d) (i : Im H d v) : ∃ a w k r, v = .ref a ∧ H a = some (.tup (w :: k :: r)) ∧ Im H (stepKey d) k := by
  obtain ⟨k, hk, h⟩ := h
  rcases h with ⟨w, rfl, _⟩ | ⟨w, j, rfl, _⟩
  · obtain ⟨a, xs, rfl, ha, hx⟩ := im_tupE i
    simp only [ImAll] at hx
    obtain ⟨v1, r1, rfl, _, v2, r2, rfl, h2, _⟩ := hx
    exact ⟨a, v1, v2, r2, rfl, ha, h2⟩
  · obtain ⟨a, xs, rfl, ha, hx⟩ := im_tupE i
    simp only [ImAll] at hx
    obtain ⟨v1, r1, rfl, _, v2, r2, rfl, h2, _⟩ := hx
    exact ⟨a, v1, v2, r2, rfl, ha, h2⟩
/-- the unlike keys in the order of their first use -/
noncomputable def keysOf (ds : List PyData) : List PyData := ds.foldl (fun acc d => if stepKey d ∈ acc then acc else acc ++ [stepKey d]) []
theorem keysOf_snoc (ds : List PyData) (d : PyData) : keysOf (ds ++ [d]) = if stepKey d ∈ keysOf ds then keysOf ds else keysOf ds ++ [stepKey d] := by
  unfold keysOf; rw [List.foldl_append]; rfl
theorem keysOf_mem : ∀ (n : Nat) (ds : List PyData), ds.length = n → ∀ k, k ∈ keysOf ds ↔ ∃ d ∈ ds, stepKey d = k
  | 0, ds, h, k => by
    have : ds = [] := List.length_eq_zero_iff.mp h
    subst this; simp [keysOf]
  | n + 1, ds, h, k => by
    obtain ⟨es, d, rfl⟩ : ∃ es d, ds = es ++ [d] := by
      rcases List.eq_nil_or_concat ds with e | ⟨es, d, e⟩
      · subst e; simp at h
      · exact ⟨es, d, by simpa using e⟩
    have ih := keysOf_mem n es (by simpa using h)
    rw [keysOf_snoc]
    by_cases hd : stepKey d ∈ keysOf es
    · rw [if_pos hd, ih k]
      have hd' := (ih _).mp hd
      constructor
      · rintro ⟨e, he, q⟩; exact ⟨e, by simp [he], q⟩
      · rintro ⟨e, he, q⟩
        rcases List.mem_append.mp he with he | he
        · exact ⟨e, he, q⟩
        · rw [List.mem_singleton] at he; subst he; rw [← q]; exact hd'
    · rw [if_neg hd, List.mem_append, ih k]
      constructor
      · rintro (⟨e, he, q⟩ | q)
        · exact ⟨e, by simp [he], q⟩
        · rw [List.mem_singleton] at q; exact ⟨d, by simp, q.symm⟩
      · rintro ⟨e, he, q⟩
        rcases List.mem_append.mp he with he | he
        · exact .inl ⟨e, he, q⟩
        · rw [List.mem_singleton] at he; subst he; exact .inr (by simp [q])
theorem keysOf_keys {ds : List PyData} (h : ∀ d ∈ ds, StepD d) : ∀ k ∈ keysOf ds, KeyD k := by
  intro k hk
  obtain ⟨d, hd, rfl⟩ := (keysOf_mem _ ds rfl k).mp hk
  exact (h d hd).key
theorem keysOf_len : ∀ (n : Nat) (ds : List PyData), ds.length = n → (keysOf ds).length ≤ n
  | 0, ds, h => by
    have : ds = [] := List.length_eq_zero_iff.mp h
    subst this; simp [keysOf]
  | n + 1, ds, h => by
    obtain ⟨es, d, rfl⟩ : ∃ es d, ds = es ++ [d] := by
      rcases List.eq_nil_or_concat ds with e | ⟨es, d, e⟩
      · subst e; simp at h
      · exact ⟨es, d, by simpa using e⟩
    have ih := keysOf_len n es (by simpa using h)
    rw [keysOf_snoc]
    split
    · omega
    · rw [List.length_append]; simp; omega
theorem any_mem {n m : Nat} {ds : List PyData} {k : PyData} (h : ∀ d ∈ ds, pl n d = true) (hk : pl m k = true) : (ds.any fun z => PyData.eqv z k) = decide (k ∈ ds) := by
  rw [Bool.eq_iff_iff, List.any_eq_true, decide_eq_true_eq]
  constructor
  · rintro ⟨z, hz, e⟩
    have := (pl_eqv _ _ _ _ (h z hz) hk).mp e
    subst this; exact hz
  · intro hz
    exact ⟨k, hz, (pl_eqv _ _ _ _ hk hk).mpr rfl⟩
theorem pl_list {n : Nat} {ds : List PyData} (h : ∀ d ∈ ds, pl n d = true) : pl (n + 1) (.list ds) = true := by
  simp only [pl]; exact plAll_iff.mpr h
theorem pl_tuple {n : Nat} {ds : List PyData} (h : ∀ d ∈ ds, pl n d = true) : pl (n + 1) (.tuple ds) = true := by
  simp only [pl]; exact plAll_iff.mpr h
/-- a word of three: one key, two kinds -/
theorem take_snoc {α : Type} {xs : List α} {i : Nat} {x : α} (h : xs[i]? = some x) : xs.take (i + 1) = xs.take i ++ [x] := by
  rw [List.take_add_one, h]; rfl
theorem ex_take {ds : List PyData} {k : PyData} {i : Nat} {d : PyData} (h : ds[i]? = some d) : (∃ e ∈ ds.take (i + 1), stepKey e = k) ↔ ((∃ e ∈ ds.take i, stepKey e = k) ∨ stepKey d = k) := by
  rw [take_snoc h]
  constructor
  · rintro ⟨e, he, q⟩
    rcases List.mem_append.mp he with he | he
    · exact .inl ⟨e, he, q⟩
    · rw [List.mem_singleton] at he; subst he; exact .inr q
  · rintro (⟨e, he, q⟩ | q)
    · exact ⟨e, List.mem_append_left _ he, q⟩
    · exact ⟨d, by simp, q⟩
/-! ### order of data: comparisons, sorted, min, remove (over the library's rules for data) -/
open PySem.W in
section
variable {X : Cx}
def rLtA (K : PySem.W.Frag) : R2 := fun x y H Q => ∃ d e, Dp K H x d ∧ Dp K H y e ∧ alike d e = true ∧ d ≠ .none ∧ d.depth ≤ 60 ∧ Q (.bl (dataLt d e)) H
def rGtA (K : PySem.W.Frag) : R2 := fun x y H Q => ∃ d e, Dp K H x d ∧ Dp K H y e ∧ alike d e = true ∧ d ≠ .none ∧ d.depth ≤ 60 ∧ Q (.bl (dataLt e d)) H
def rLeA (K : PySem.W.Frag) : R2 := fun x y H Q => ∃ d e, Dp K H x d ∧ Dp K H y e ∧ alike d e = true ∧ d ≠ .none ∧ d.depth ≤ 60 ∧ Q (.bl (!dataLt e d)) H
theorem op_gtA {K : PySem.W.Frag} (hK : X.K = K) (hu : X.A.units + 65 < cLine) : OpR X (compareOp .Gt) (rGtA K) := by
  subst hK
  intro pins s σ H x y v u Q I rx ry h
  obtain ⟨d, e, hd, he, ha, hn, hp, q⟩ := h
  obtain ⟨as, r1⟩ := Dp.reads I d x v hd rx
  obtain ⟨bs, r2⟩ := Dp.reads I e y u he ry
  refine gt_data r1 r2 ha hn ?_ ⟨.bl _, H, I, rfl, q⟩
  have := Nat.min_le_left d.depth e.depth
  omega
theorem op_ltA {K : PySem.W.Frag} (hK : X.K = K) (hu : X.A.units + 65 < cLine) : OpR X (compareOp .Lt) (rLtA K) := by
  subst hK
  intro pins s σ H x y v u Q I rx ry h
  obtain ⟨d, e, hd, he, ha, hn, hp, q⟩ := h
  obtain ⟨as, r1⟩ := Dp.reads I d x v hd rx
  obtain ⟨bs, r2⟩ := Dp.reads I e y u he ry
  refine lt_data r1 r2 ha hn ?_ ⟨.bl _, H, I, rfl, q⟩
  have := Nat.min_le_left d.depth e.depth
  omega
theorem op_leA {K : PySem.W.Frag} (hK : X.K = K) (hu : X.A.units + 65 < cLine) : OpR X (compareOp .LtE) (rLeA K) := by
  subst hK
  intro pins s σ H x y v u Q I rx ry h
  obtain ⟨d, e, hd, he, ha, hn, hp, q⟩ := h
  obtain ⟨as, r1⟩ := Dp.reads I d x v hd rx
  obtain ⟨bs, r2⟩ := Dp.reads I e y u he ry
  refine le_data r1 r2 ha hn ?_ ⟨.bl _, H, I, rfl, q⟩
  have := Nat.min_le_left d.depth e.depth
  omega
/-- values and data, side by side -/
theorem ims_each {H : Hp} : ∀ {ds : List PyData} {ys : List V} {us : List Value}, ImAll H ds ys → Vals ys us → EachIs (fun u (b : V × PyData) => RelV b.1 u ∧ Im H b.2 b.1) us (ys.zip ds)
  | [], ys, us, h, r => by
    simp only [ImAll] at h; subst h; cases r; exact .nil
  | d :: ds, ys, us, h, r => by
    simp only [ImAll] at h
    obtain ⟨v, t, rfl, h1, h2⟩ := h
    cases r with
    | cons r1 r2 => exact .cons ⟨r1, h1⟩ (ims_each h2 r2)
theorem each_vals {H : Hp} : ∀ {us : List Value} {bs : List (V × PyData)}, EachIs (fun u (b : V × PyData) => RelV b.1 u ∧ Im H b.2 b.1) us bs → Vals (bs.map (·.1)) us ∧ ImAll H (bs.map (·.2)) (bs.map (·.1))
  | _, _, .nil => ⟨.nil, im_nil⟩
  | _, _, .cons h t => by
    obtain ⟨a, b⟩ := each_vals t
    exact ⟨.cons h.1 a, im_cons h.2 b⟩
theorem zip_snd {α β : Type} : ∀ {xs : List α} {ys : List β}, xs.length = ys.length → (xs.zip ys).map (·.2) = ys
  | [], [], _ => rfl
  | x :: xs, y :: ys, h => by simp only [List.zip_cons_cons, List.map_cons]; rw [zip_snd (by simpa using h)]
  | [], _ :: _, h => by simp at h
  | _ :: _, [], h => by simp at h
def rSortD : List V → Hp → VK → Prop := fun vs H Q => ∃ (a : Addr) (ys : List V) (ds : List PyData), vs = [.ref a] ∧ H a = some (.lst ys) ∧ ImAll H ds ys ∧ AllAlike ds ∧ Sortable ds ∧ (∀ d ∈ ds, d.depth ≤ 60) ∧
  ∀ (p : Addr) (zs : List V) (H' : Hp), H p = none → Same H H' → (∀ b, b ≠ p → H' b = H b) → H' p = some (.lst zs) → ImAll H' (ds.mergeSort fun d e => !dataLt e d) zs → Q (.ref p) H'
theorem call_sortD (hu : X.A.units + 65 < cLine) : CallR X (.builtin "sorted") rSortD := by
  intro pins s σ H vs us Q I r h
  obtain ⟨a, ys, ds, rfl, ha, hi, hal, hk, hd, q⟩ := h
  obtain ⟨its, rv, hl, hz⟩ := I.list (SqL.of (K := X.K) ha)
  rw [Vals.ref1 r]
  have hlen := hi.len
  have e := ims_each hi rv
  have hsnd : (ys.zip ds).map (·.2) = ds := zip_snd hlen
  have er : EachIs (fun u (b : V × PyData) => ∃ as, Reads s.heap u b.2 as) its (ys.zip ds) := e.mono fun u b hb => Dp.reads I b.2 b.1 u (Im.dp _ _ hb.2) hb.1
  refine sorted_data (enc := fun b : V × PyData => b.2) hl.isList e er (by rw [hsnd]; exact hal) (by rw [hsnd]; exact hk) (by rw [List.length_zip]; omega) (fun b hb => ?_) fun out ho eo => ?_
  · have hm : b.2 ∈ ds := by rw [← hsnd]; exact List.mem_map_of_mem hb
    have := hd _ hm
    omega
  · obtain ⟨hv, him⟩ := each_vals eo
    obtain ⟨ep, he'⟩ := PyProof.Rows.sortedAll_at s.heap its out.toArray
    have hms : ((ys.zip ds).mergeSort (dataLe false fun b : V × PyData => b.2)).map (·.2) = ds.mergeSort fun d e => !dataLt e d :=
      (sort_maps (r := dataLe false fun b : V × PyData => b.2) (s := fun d e => !dataLt e d) (fun b : V × PyData => b.2) (l := ys.zip ds) (fun _ _ _ _ => rfl)).trans (by rw [hsnd])
    rw [hms] at him
    have hlz : (((ys.zip ds).mergeSort (dataLe false fun b : V × PyData => b.2)).map (·.1)).length ≤ sizeLine := by
      rw [List.length_map, List.length_mergeSort, List.length_zip]; omega
    have hf := I.hok.fresh (Nat.le_succ s.heap.objs.size)
    refine ⟨.ref _, upd H (s.heap.objs.size + 1) (.lst (((ys.zip ds).mergeSort (dataLe false fun b : V × PyData => b.2)).map (·.1))), I.laid (t' := s.toks) (fun _ _ => PyProof.Rows.sortedAll_old) (Nat.le_succ _) ⟨hlz, out, ep, hv, ?_⟩, rfl, q _ _ _ hf (same_new hf) (fun b hb => upd_ne hb) upd_same (imsNew hf him)⟩
    exact he'
def rMinD : List V → Hp → VK → Prop := fun vs H Q => ∃ (a : Addr) (ys : List V) (d : PyData) (ds : List PyData), vs = [.ref a] ∧ H a = some (.lst ys) ∧ ImAll H (d :: ds) ys ∧ AlikeAll (d :: ds) ∧ (∀ e ∈ d :: ds, e.depth ≤ 60) ∧
  ∀ v : V, v ∈ ys → Im H (minD d ds) v → Q v H
theorem depthAll_le {n : Nat} : ∀ {ds : List PyData}, (∀ d ∈ ds, d.depth ≤ n) → PyData.depthAll ds ≤ n
  | [], _ => by simp [PyData.depthAll]
  | d :: ds, h => by
    have h1 := h d (by simp)
    have h2 := depthAll_le (ds := ds) fun e he => h e (List.mem_cons_of_mem _ he)
    simp only [PyData.depthAll]; omega
theorem minD_mem (d : PyData) : ∀ ds : List PyData, minD d ds ∈ d :: ds := by
  intro ds
  unfold minD
  induction ds generalizing d with
  | nil => simp
  | cons e ds ih =>
    simp only [List.foldl_cons]
    have := ih (if dataLt e d = true then e else d)
    rcases List.mem_cons.mp this with h | h
    · rw [h]; split <;> simp
    · simp [h]
theorem call_minD (hc : X.calm = true) (hu : X.A.units + 65 < cLine) : CallR X (.builtin "min") rMinD := by
  intro pins s σ H vs us Q I r h
  obtain ⟨a, ys, d, ds, rfl, ha, hi, hal, hd, q⟩ := h
  obtain ⟨its, rv, hl, hz⟩ := I.list (SqL.of (K := X.K) ha)
  rw [Vals.ref1 r]
  obtain ⟨as, hr⟩ := Dp.readsAll I (d :: ds) ys its (ImAll.dp _ _ hi) rv
  have hda := depthAll_le hd
  refine min_list_data (vs := its.toArray) (I.ok.hd hc) hl.isList (by simpa using hr) hal (by omega) fun i v h' tk bs hv hm hk => ?_
  have hv' : its[i]? = some v := by simpa using hv
  have hl1 := rv.length
  have hi1 : i < ys.length := by rw [hl1]; exact (List.getElem?_eq_some_iff.mp hv').1
  have hy : ys[i]? = some ys[i] := by simp [hi1]
  obtain ⟨u, hu1, hu2⟩ := rv.get hy
  rw [hv'] at hu1
  cases hu1
  obtain ⟨e, he1, he2⟩ := hi.get hy
  obtain ⟨cs, hre⟩ := Dp.reads I e ys[i] v (Im.dp _ _ he2) hu2
  have hem : e ∈ d :: ds := List.mem_of_getElem? he1
  have heq : e = minD d ds := alike_unique _ _ _ _ _ (hal.1 e hem _ (minD_mem d ds)) (PyProof.Rows.Reads.keeps hk hre) hm
  refine ⟨ys[i], H, I.kept (t' := tk) hk, hu2, q _ (List.getElem_mem hi1) ?_⟩
  rw [← heq]; exact he2
theorem vals_erase : ∀ {xs : List V} {us : List Value}, Vals xs us → ∀ j, Vals (xs.eraseIdx j) (us.eraseIdx j)
  | _, _, .nil, _ => .nil
  | _, _, .cons _ t, 0 => t
  | _, _, .cons h t, j + 1 => .cons h (vals_erase t j)
def rRemD : V → List V → Hp → VK → Prop := fun x vs H Q => ∃ (l : Addr) (y : V) (ys : List V) (d : PyData) (ds : List PyData) (j : Nat), x = .ref l ∧ vs = [y] ∧ H l = some (.lst ys) ∧ ImAll H ds ys ∧ Im H d y ∧ PyData.plainAll ds = true ∧ d.plain = true ∧ d.depth ≤ 60 ∧
  SeqAt.dataPlace ds d = some j ∧ Q .non (upd H l (.lst (ys.eraseIdx j)))
theorem mt_remD (hu : X.A.units + 65 < cLine) : MtR X "list.remove" rRemD := by
  intro pins s σ H x vs v us Q I rx rv h
  obtain ⟨l, y, ys, d, ds, j, rfl, rfl, hl, hi, hy, hp1, hp2, hp3, hj, q⟩ := h
  cases rx
  obtain ⟨u, rfl, ru⟩ := vals1 rv
  obtain ⟨z, its, n, r, hL, e⟩ := I.lstM hl
  obtain ⟨as, hr⟩ := Dp.readsAll I ds ys its (ImAll.dp _ _ hi) r
  obtain ⟨bs, hx⟩ := Dp.reads I d y u (Im.dp _ _ hy) ru
  have hlen := r.length
  refine SeqAt.remove_list_data (vs := its.toArray) (j := j) ⟨_, e, rfl, _, rfl⟩ (by simpa using hr) hx hp1 hp2 ?_ hj (by rw [List.size_toArray]; omega) ?_
  · have := Nat.min_le_right (PyData.depthAll ds) d.depth
    omega
  · have hj' : j < its.length := by
      obtain ⟨h1, _⟩ := List.findIdx?_eq_some_iff_getElem.mp hj
      have := hi.len
      omega
    refine ⟨.non, _, I.lset (its' := its.eraseIdx j) (ys := ys.eraseIdx j) (t' := s.toks) hl e ?_ ?_ ?_, rfl, q⟩
    · simp
    · exact vals_erase r j
    · have := List.length_eraseIdx_le ys j
      omega
end
/-! ### dicts with text keys, truth, by what is tracked -/
section
variable {X : Cx} {o i value : Expr} {pos pos' : Pos} {td ty tv ta : TE}
def tDGetS (td ty : TE) : TE := fun σ H Q => td σ H fun x H1 => ty σ H1 fun y H2 => ∃ (a : Addr) (k : Str) (kvs : List (Key × V)) (v : V), x = .ref a ∧ y = .str k ∧ H2 a = some (.dK kvs) ∧ valV kvs (Sum.inr k) = some v ∧ Q v H2
theorem pe_dgetS (hu : X.A.units + 1 < cLine) (ho : PE X o td) (hi : PE X i ty) (hs : NoSl i) : PE X (.Subscript o i pos) (tDGetS td ty) := by
  constructor
  intro pins s σ H Q I h
  apply subD_of PySem.F.slot_dict_getitem.lookup hs
  refine thn (ho.run pins s σ H _ I h) fun u s1 hx => ?_
  obtain ⟨x, H1, I1, rx, q1⟩ := hx
  refine thn (hi.run pins s1 σ H1 _ I1 q1) fun iv s2 hy => ?_
  obtain ⟨y, H2, I2, ry, a, k, kvs, v, rfl, rfl, e, l, q2⟩ := hy
  cases rx
  have g : DGet H2 a (kV (.inr k)) (some v) := by rw [← l]; exact DGet.k e
  exact ⟨dict_typeIs I2 g, d_getItem hu I2 g ry fun w' s3 I3 rw' => ⟨v, H2, I3, rw', q2⟩⟩
def sDPutS (td ty tv : TE) : TS := fun D σ H => tv σ H fun v H1 => td σ H1 fun x H2 => ty σ H2 fun y H3 => ∃ (a : Addr) (k : Str) (kvs : List (Key × V)), x = .ref a ∧ y = .str k ∧ H3 a = some (.dK kvs) ∧ kvs.length < sizeLine ∧ D.nx σ (upd H3 a (.dK (putK kvs (Sum.inr k) v)))
theorem ps_dputS (hu : X.A.units + 1 < cLine) (ho : PE X o td) (hi : PE X i ty) (hv : PE X value tv) (hs : swapsWith value (some (.Subscript o i pos')) pos.line X.env = pure false) :
    PS X (.Assign [.Subscript o i pos'] value pos) (sDPutS td ty tv) := by
  constructor
  intro pins s σ H D I h
  refine wpAny_Assign_Subscript ?_ hs
  refine thn (hv.run pins s σ H _ I h) fun r s1 hx => ?_
  obtain ⟨v, H1, I1, rv, q1⟩ := hx
  refine thn (ho.run pins s1 σ H1 _ I1 q1) fun u s2 hy => ?_
  obtain ⟨x, H2, I2, rx, q2⟩ := hy
  refine thn (hi.run pins s2 σ H2 _ I2 q2) fun iv s3 hz => ?_
  obtain ⟨y, H3, I3, ry, a, k, kvs, rfl, rfl, e, l, q3⟩ := hz
  cases rx
  exact d_setItem hu I3 (DPut.k (k := Sum.inr k) e l) ry rv fun s4 I4 => ⟨σ, _, I4, q3⟩
def truO : Option HO → Option Bool
  | some (.lst xs) => some (!xs.isEmpty)
  | some (.tup xs) => some (!xs.isEmpty)
  | _ => none
def truS (H : Hp) : V → Option Bool
  | .non => some false
  | .bl b => some b
  | .int i => some (i != 0)
  | .ref p => truO (H p)
  | _ => none
theorem truO_l {xs : List V} : truO (some (.lst xs)) = some (!xs.isEmpty) := rfl
theorem truO_t {xs : List V} : truO (some (.tup xs)) = some (!xs.isEmpty) := rfl
theorem truS_ref {H : Hp} {p : Addr} : truS H (.ref p) = truO (H p) := rfl
theorem truS_non {H : Hp} : truS H .non = some false := rfl
theorem truS_bl {H : Hp} {b : Bool} : truS H (.bl b) = some b := rfl
theorem truS_int {H : Hp} {b : Int} : truS H (.int b) = some (b != 0) := rfl
theorem truS_v {K : PySem.W.Frag} {H : Hp} {x : V} {k : Bool} (h : truS H x = some k) : TruV K x H k := by
  cases x with
  | non => cases h; rfl
  | bl b => cases h; rfl
  | int i => cases h; rfl
  | ref a =>
    rw [truS_ref] at h
    cases e : H a with
    | none => rw [e] at h; cases h
    | some o =>
      rw [e] at h
      cases o with
      | lst xs => cases h; exact .inl ⟨xs, SqL.of e, rfl⟩
      | tup xs => cases h; exact .inr (.inl ⟨xs, SqT.of e, rfl⟩)
      | _ => cases h
  | _ => cases h
def tTruS (ta : TE) : TT := fun σ H Q => ta σ H fun x H' => ∃ k, truS H' x = some k ∧ Q k H'
theorem pt_truS {a : Expr} (ha : PE X a ta) (he : ∀ whole, isTrue a X.env whole = (do let v ← whole; standAt a.pos; holding [v] (truthy v))) : PT X a (tTruS ta) := by
  constructor
  intro pins s σ H Q I h
  refine PyProof.Rows.isTrue_plain ?_ (he _)
  refine thn (ha.run pins s σ H _ I h) fun v s1 hx => ?_
  obtain ⟨x, H1, I1, r1, k, e, q⟩ := hx
  exact tru_ok pins s1 σ H1 x v Q I1 r1 ⟨k, truS_v e, q⟩
end
theorem valV_cons {p : Key × V} {r : List (Key × V)} {k : Key} : valV (p :: r) k = if p.1 = k then some p.2 else valV r k := by
  by_cases e : p.1 = k
  · rw [valV_pos e, if_pos e]
  · rw [valV_neg e, if_neg e]
/-! ### t[::-1], t a tuple -/
section
open PySem.Calls PyProof.Rows PyProof.V PySem.Spec HT
variable {prog : Program} {w : World} {A : Around} {E : Value → Shared → Prop} {s : Shared}
theorem applied_rev {sl : Addr} {a b c : Value} {n : Nat} {R : Int × Int × Nat → Shared → Prop} (hs : s.heap.IsSliceOf sl a b c) (pa : IsPart a none) (pb : IsPart b none) (pc : IsPart c (some (-1)))
    (h : R ((n : Int) - 1, -1, n) s) : wpAny (model prog w) A (Builtin.Slice.sliceApplied (.ref sl) (pure (n : Int))) R E s := by
  obtain ⟨o, ho, _, hd⟩ := id hs
  unfold Builtin.Slice.sliceApplied; unfold Builtin.Slice.sliceFields
  refine wpAny_bind (wpAny_bind (wpAny_field ho hd (x := a) rfl (wpAny_bind (wpAny_field ho hd (x := b) rfl (wpAny_bind (wpAny_field ho hd (x := c) rfl (wpAny_pure ?_)))))))
  refine wpAny_bind (slicePart_ pc ?_)
  show wpAny _ _ (if ((-1 : Int) == 0) = true then _ else _) _ _ s
  rw [if_neg (by decide)]
  refine wpAny_bind (slicePart_ pa (wpAny_bind (slicePart_ pb (wpAny_bind (wpAny_pure ?_)))))
  have e : Builtin.Slice.sliceAdjust none none (-1) (n : Int) = ((n : Int) - 1, -1) := rfl
  have e2 : Builtin.Slice.slicePlaces ((n : Int) - 1) (-1) (-1) = n := by
    unfold Builtin.Slice.slicePlaces
    rw [if_neg (by decide)]
    split
    · rw [show (-(-1 : Int)) = 1 from rfl, Int.ediv_one]; omega
    · omega
  show wpAny _ _ (match Builtin.Slice.sliceAdjust none none (-1) (n : Int) with | (x, y) => pure (x, (-1 : Int), Builtin.Slice.slicePlaces x y (-1))) _ _ s
  rw [e]
  show wpAny _ _ (pure ((n : Int) - 1, (-1 : Int), Builtin.Slice.slicePlaces ((n : Int) - 1) (-1) (-1))) _ _ s
  rw [e2]
  exact wpAny_pure h
theorem pick_rev (xs : Array Value) : ((List.range xs.size).filterMap fun (k : Nat) => xs[(((xs.size : Int) - 1) + (k : Int) * (-1)).toNat]?).toArray = xs.toList.reverse.toArray := by
  have e : (fun (k : Nat) => xs[(((xs.size : Int) - 1) + (k : Int) * (-1)).toNat]?) = (fun i => xs[i]?) ∘ fun k => xs.size - 1 - k := by
    funext k
    show xs[(((xs.size : Int) - 1) + (k : Int) * (-1)).toNat]? = xs[xs.size - 1 - k]?
    congr 1
    omega
  rw [e, ← List.filterMap_map, PySem.W.krv_range, List.filterMap_reverse, PySem.W.krv_all]
theorem item_rev {t sl : Addr} {its : Array Value} {a b c : Value} {R : Value → Shared → Prop} (ht : IsTup s.heap t its) (hs : s.heap.IsSliceOf sl a b c) (pa : IsPart a none) (pb : IsPart b none) (pc : IsPart c (some (-1)))
    (h : R (.ref s.heap.objs.size) { s with heap := s.heap.push { cls := .type "tuple", data := .seq its.toList.reverse.toArray } }) (hz : its.size ≤ sizeLine) : wpAny (model prog w) A (getItem (.ref t) (.ref sl)) R E s := by
  have hfit : sizeOk (.seq its.toList.reverse.toArray) := by
    show its.toList.reverse.toArray.size ≤ sizeLine
    rw [List.size_toArray, List.length_reverse, Array.length_toList]; exact hz
  obtain ⟨o, ho, hc, hd⟩ := id hs
  unfold getItem
  try with_reducible refine wpAny_holding ?_
  refine wpAny_bind (wpAny_sequenceKey ht.typeIs (by decide) ?_)
  refine wpAny_bind (wpAny_callSpecial?_slot (name := Str.ofString "__getitem__") ht.typeIs slot_tuple_getitem (wpAny_call_entry slot_tuple_getitem ht.typeIs entry_tuple_getitem ?_ (args_tuple_getitem _ _)))
  show wpAny _ _ (Builtin.Tuple.tupleItemsOf (.ref t) >>= _) _ _ s
  refine wpAny_bind (tupleItemsOf_ ht ?_)
  refine wpAny_bind (wpAny_typeOf (T := "slice") ⟨o, ho, hc⟩ ?_)
  rw [if_pos (by decide)]
  refine wpAny_bind (applied_rev hs pa pb pc ?_)
  show wpAny _ _ (if (((its.size : Int) - 1 == 0) && ((-1 : Int) == 1) && (its.size == its.size)) = true then _ else _) _ _ s
  rw [if_neg (by simp), pick_rev]
  first
    | exact wpAny_bind (m := Builtin.Tuple.tupleExact _) (wpAny_newObj_type (wpAny_pure ⟨_, rfl, wpAny_pure h⟩) hfit)
    | exact wpAny_bind (m := Builtin.Tuple.tupleExact _) (wpAny_newObj_type (wpAny_bind (wpAny_pure (wpAny_pure ⟨_, rfl, wpAny_pure h⟩))) hfit)
    | exact wpAny_bind (wpAny_bind (m := Builtin.Tuple.tupleExact _) (wpAny_newObj_type (wpAny_pure (wpAny_pure ⟨_, rfl, wpAny_pure h⟩)) hfit))
    | exact wpAny_bind (wpAny_bind (m := Builtin.Tuple.tupleExact _) (wpAny_newObj_type (wpAny_pure ⟨_, rfl, wpAny_pure h⟩) hfit))
end
section
open PySem.Calls PyProof.Rows PyProof.V PySem.Spec
variable {X : Cx}
def tRevT (te : TE) : TE := fun σ H Q => te σ H fun x H1 => ∃ a xs, x = .ref a ∧ H1 a = some (.tup xs) ∧ ∀ p, H1 p = none → Q (.ref p) (upd H1 p (.tup xs.reverse))
theorem pe_revT {e : Expr} {te : TE} {k : Nat} {p1 p2 p3 pos : Pos} (he : PE X e te) : PE X (.Subscript e (.Slice none none (some (.UnaryOp .USub (.Constant (.int 1) k p1) p2)) p3) pos) (tRevT te) := by
  constructor
  intro pins s σ H Q I h
  refine Subscript_ (thn (he.run pins s σ H _ I h) fun v s1 hv => ?_)
  obtain ⟨x, H1, I1, r1, a, xs, rfl, hx, q⟩ := hv
  cases r1
  have hst : PO X (some (.UnaryOp .USub (.Constant (.int 1) k p1) p2)) (tPart (tUn (rU fun i => .int (-i)) (tC (.int 1)))) := po_some (pe_un un_neg pe_int)
  refine wpAny_Slice (thn (po_none.run pins s1 σ H1 (fun o H2 => o = none ∧ H2 = H1) I1 ⟨rfl, rfl⟩) fun vl s2 hl => ?_)
  obtain ⟨l, H2, I2, pl, rfl, rfl⟩ := hl
  refine thn (po_none.run pins s2 σ H2 (fun o H3 => o = none ∧ H3 = H2) I2 ⟨rfl, rfl⟩) fun vu s3 hu => ?_
  obtain ⟨u, H3, I3, pu, rfl, rfl⟩ := hu
  refine thn (hst.run pins s3 σ H3 (fun o H4 => o = some (-1) ∧ H4 = H3) I3 ⟨1, rfl, -1, rfl, rfl, rfl⟩) fun vs s4 hs => ?_
  obtain ⟨o, H4, I4, ps, rfl, rfl⟩ := hs
  have I5 : Inv X pins σ H4 { s4 with heap := s4.heap.push { cls := .type "slice", data := .fields #[vl, vu, vs] } } := I4.kept (t' := s4.toks) fun b ob q => Heap.get?_push_of_some _ q
  obtain ⟨its, r, ht, hz⟩ := I5.tuple (SqT.of (K := X.K) hx)
  have hlen := r.length
  show wpAny (model X.prog X.w) X.A (subscriptTail e (.Slice none none (some (.UnaryOp .USub (.Constant (.int 1) k p1) p2)) p3) (.ref a) (.ref s4.heap.objs.size)) (EP X pins σ Q) X.xe { s4 with heap := s4.heap.push { cls := .type "slice", data := .fields #[vl, vu, vs] } }
  refine tail_any (ops := [.ref a, .ref s4.heap.objs.size]) ht.typeIs PyProof.Rows.slot_tuple_getitem.lookup ?_ (by with_unfolding_all rfl)
  refine item_rev ht (Heap.IsSliceOf.new _ vl vu vs) pl pu ps ?_ (by rw [List.size_toArray]; omega)
  refine ⟨.ref _, _, I5.laid (t' := s4.toks) (o := .tup xs.reverse) (fun b ob q => Heap.get?_push_of_some _ q) (Nat.le_refl _) ?_, rfl, q _ (I5.hok.fresh (Nat.le_refl _))⟩
  exact ⟨by rw [List.length_reverse]; exact hz, _, r.reverse, IsTup.new _ _⟩
end
/-! ### dicts whose keys are tuples, nested: told by data -/
mutual
def nkOf : PyData → NestedKey
  | .none => .none
  | .bool b => .num (if b = true then 1 else 0)
  | .int i => .num i
  | .str x => .text x
  | .tuple ds => .tup (nksOf ds)
  | .list _ => .none
  | .dict _ => .none
def nksOf : List PyData → List NestedKey
  | [] => []
  | d :: ds => nkOf d :: nksOf ds
end
mutual
def kyOk : Nat → PyData → Bool
  | _, .none => true
  | _, .int _ => true
  | _, .str _ => true
  | 0, .tuple _ => false
  | n + 1, .tuple ds => kyAll n ds
  | _, .list _ => false
  | _, .bool _ => false
  | _, .dict _ => false
def kyAll : Nat → List PyData → Bool
  | _, [] => true
  | n, d :: ds => kyOk n d && kyAll n ds
end
mutual
theorem ky_depth : ∀ (n : Nat) (d : PyData), kyOk n d = true → (nkOf d).depth ≤ n
  | n, .none, _ => by simp [nkOf, NestedKey.depth]
  | n, .int _, _ => by simp [nkOf, NestedKey.depth]
  | n, .str _, _ => by simp [nkOf, NestedKey.depth]
  | 0, .tuple _, h => by simp [kyOk] at h
  | n + 1, .tuple ds, h => by
    simp only [kyOk] at h
    have := kys_depth n ds h
    simp only [nkOf, NestedKey.depth]; omega
  | _, .list _, h => by simp [kyOk] at h
  | _, .bool _, h => by simp [kyOk] at h
  | _, .dict _, h => by simp [kyOk] at h
theorem kys_depth : ∀ (n : Nat) (ds : List PyData), kyAll n ds = true → NestedKey.depthAll (nksOf ds) ≤ n
  | n, [], _ => by simp [nksOf, NestedKey.depthAll]
  | n, d :: ds, h => by
    simp only [kyAll, Bool.and_eq_true] at h
    have h1 := ky_depth n d h.1
    have h2 := kys_depth n ds h.2
    simp only [nksOf, NestedKey.depthAll]; omega
end
mutual
theorem nk_inj : ∀ (n m : Nat) (d e : PyData), kyOk n d = true → kyOk m e = true → nkOf d = nkOf e → d = e
  | n, m, .none, e, h, g, q => by cases e <;> simp_all [nkOf, kyOk]
  | n, m, .int i, e, h, g, q => by cases e <;> simp_all [nkOf, kyOk]
  | n, m, .str x, e, h, g, q => by cases e <;> simp_all [nkOf, kyOk]
  | 0, m, .tuple _, e, h, g, q => by simp [kyOk] at h
  | n + 1, m, .tuple ds, e, h, g, q => by
    cases e with
    | tuple es =>
      cases m with
      | zero => simp [kyOk] at g
      | succ m =>
        simp only [kyOk] at h g
        simp only [nkOf, NestedKey.tup.injEq] at q
        rw [nks_inj n m ds es h g q]
    | _ => simp_all [nkOf, kyOk]
  | _, _, .list _, _, h, _, _ => by simp [kyOk] at h
  | _, _, .bool _, _, h, _, _ => by simp [kyOk] at h
  | _, _, .dict _, _, h, _, _ => by simp [kyOk] at h
theorem nks_inj : ∀ (n m : Nat) (ds es : List PyData), kyAll n ds = true → kyAll m es = true → nksOf ds = nksOf es → ds = es
  | n, m, [], es, h, g, q => by cases es <;> simp_all [nksOf]
  | n, m, d :: ds, es, h, g, q => by
    cases es with
    | nil => simp [nksOf] at q
    | cons e es =>
      simp only [kyAll, Bool.and_eq_true] at h g
      simp only [nksOf, List.cons.injEq] at q
      rw [nk_inj n m d e h.1 g.1 q.1, nks_inj n m ds es h.2 g.2 q.2]
end
/-- what may be a key: a tuple of such -/
def KyD (d : PyData) : Prop := kyOk 8 d = true ∧ ∃ ds, d = .tuple ds
theorem KyD.inj {d e : PyData} (h : KyD d) (g : KyD e) (q : nkOf d = nkOf e) : d = e := nk_inj 8 8 d e h.1 g.1 q
section
variable {P : Program} {w : World} {H : Hp} {h : Heap}
open PySem.Spec PyProof.Rows in
mutual
theorem im_nested (ok : HOk P w H h) : ∀ (n : Nat) (d : PyData) (v : V) (u : Value), kyOk n d = true → Im H d v → RelV v u → NestedIs h (nkOf d) u
  | n, .none, v, u, _, i, r => by
    simp only [Im] at i; subst i
    cases (show u = Value.none from r)
    exact .none
  | n, .int i, v, u, _, j, r => by
    simp only [Im] at j; subst j
    obtain ⟨t, e⟩ := (show ∃ t, u = Value.int i t from r)
    subst e; exact .int i t
  | n, .str x, v, u, _, j, r => by
    simp only [Im] at j; subst j
    obtain ⟨t, e⟩ := (show ∃ t, u = Value.str x t from r)
    subst e; exact .text x t
  | 0, .tuple _, _, _, k, _, _ => by simp [kyOk] at k
  | n + 1, .tuple ds, v, u, k, i, r => by
    simp only [Im] at i
    obtain ⟨a, xs, rfl, ha, hx⟩ := i
    cases (show u = Value.ref a from r)
    obtain ⟨_, its, rv, o, h1, h2, m, h3⟩ := (show ObjOk P w H h a (.tup xs) from ok a _ ha)
    simp only [kyOk] at k
    exact .tup h1 h2 h3 (by simpa using ims_nested ok n ds xs its k hx rv)
  | _, .list _, _, _, k, _, _ => by simp [kyOk] at k
  | _, .bool _, _, _, k, _, _ => by simp [kyOk] at k
  | _, .dict _, _, _, k, _, _ => by simp [kyOk] at k
theorem ims_nested (ok : HOk P w H h) : ∀ (n : Nat) (ds : List PyData) (vs : List V) (us : List Value), kyAll n ds = true → ImAll H ds vs → Vals vs us → NestedAll h (nksOf ds) us
  | n, [], vs, us, _, i, r => by
    simp only [ImAll] at i; subst i
    cases r; exact .nil
  | n, d :: ds, vs, us, k, i, r => by
    simp only [ImAll] at i
    obtain ⟨v, t, rfl, i1, i2⟩ := i
    simp only [kyAll, Bool.and_eq_true] at k
    cases r with
    | cons r1 r2 => exact .cons (im_nested ok n d v _ k.1 i1 r1) (ims_nested ok n ds t _ k.2 i2 r2)
end
theorem key_im {k : PyData} {b : Addr} (ok : HOk P w H h) (hk : KyD k) (i : Im H k (.ref b)) : (nestedKind P w).is h (nkOf k) b :=
  ⟨im_nested ok 8 k _ _ hk.1 i rfl, ky_depth 8 k hk.1⟩
end
theorem KyD.ref {H : Hp} {k : PyData} {y : V} (hk : KyD k) (i : Im H k y) : ∃ b, y = .ref b := by
  obtain ⟨_, ds, rfl⟩ := hk
  simp only [Im] at i
  obtain ⟨a, xs, rfl, _⟩ := i
  exact ⟨a, rfl⟩
/-- the keys by their data, their places -/
def KN (H : Hp) : List (PyData × V) → List (NestedKey × Addr × Value) → Prop := Paired fun p q => q.1 = nkOf p.1 ∧ KyD p.1 ∧ Im H p.1 (.ref q.2.1) ∧ RelV p.2 q.2.2
section
variable {H H' : Hp} {kvs : List (PyData × V)} {xs : List (NestedKey × Addr × Value)}
theorem KN.tk (r : KN H kvs xs) (t : Tk H H') : KN H' kvs xs := Paired.mapP r fun _ _ z => ⟨z.1, z.2.1, Im.mono t _ _ z.2.2.1, z.2.2.2⟩
theorem KN.len (r : KN H kvs xs) : kvs.length = xs.length := Paired.length r
theorem KN.val (r : KN H kvs xs) {k : PyData} (hk : KyD k) : RelO (valV kvs k) ((atKey xs (nkOf k)).map (·.2)) := by
  unfold KN at r
  induction r with
  | nil => exact True.intro
  | @cons p q ps qs h t ih =>
    obtain ⟨h1, h2, _, h3⟩ := h
    by_cases e : p.1 = k
    · have e' : q.1 = nkOf k := by rw [h1, e]
      have b : atKey (q :: qs) (nkOf k) = some q.2 := by simp [atKey, List.find?_cons, e']
      rw [valV_pos e, b]; exact h3
    · have e' : ¬ q.1 = nkOf k := fun z => e (h2.inj hk (h1.symm.trans z))
      have b : atKey (q :: qs) (nkOf k) = atKey qs (nkOf k) := by simp [atKey, List.find?_cons, e']
      rw [valV_neg e, b]; exact ih
theorem KN.repl (r : KN H kvs xs) {k : PyData} (hk : KyD k) {y : V} {u : Value} (ry : RelV y u) : KN H (kvs.map fun kv => if kv.1 = k then (kv.1, y) else kv) (xs.map (putAt (nkOf k) u)) := by
  unfold KN at r ⊢
  induction r with
  | nil => exact .nil
  | @cons p q ps qs h t ih =>
    rw [List.map_cons, List.map_cons]
    refine .cons ?_ ih
    obtain ⟨h1, h2, h3, h4⟩ := h
    unfold putAt
    by_cases e : p.1 = k
    · rw [if_pos e, if_pos (by rw [h1, e])]; exact ⟨h1, h2, h3, ry⟩
    · rw [if_neg e, if_neg (fun z => e (h2.inj hk (h1.symm.trans z)))]; exact ⟨h1, h2, h3, h4⟩
theorem KN.put (r : KN H kvs xs) {k : PyData} (hk : KyD k) {b : Addr} {y : V} {u : Value} (hb : Im H k (.ref b)) (ry : RelV y u) : KN H (putK kvs k y) (storedH xs (nkOf k) b u) := by
  have e : (kvs.any fun kv => decide (kv.1 = k)) = (atKey xs (nkOf k)).isSome := by
    rw [valV_any, (r.val hk).isSome_eq, Option.isSome_map]
  unfold putK storedH
  rw [e]
  by_cases q : (atKey xs (nkOf k)).isSome = true
  · rw [if_pos q, if_pos q]; exact r.repl hk ry
  · rw [if_neg q, if_neg q]; exact Paired.snoc r ⟨rfl, hk, hb, ry⟩
theorem KN.drop (r : KN H kvs xs) {k : PyData} (hk : KyD k) : KN H (dropK kvs k) (withoutH xs (nkOf k)) := by
  unfold KN at r ⊢
  unfold dropK withoutH
  induction r with
  | nil => exact .nil
  | @cons p q ps qs h t ih =>
    obtain ⟨h1, h2, h3, h4⟩ := h
    rw [List.filter_cons, List.filter_cons]
    by_cases e : p.1 = k
    · have a : ¬ decide (p.1 ≠ k) = true := by simp [e]
      have b : ¬ decide (q.1 ≠ nkOf k) = true := by simp [h1, e]
      rw [if_neg a, if_neg b]; exact ih
    · have e' : ¬ q.1 = nkOf k := fun z => e (h2.inj hk (h1.symm.trans z))
      have a : decide (p.1 ≠ k) = true := by simp [e]
      have b : decide (q.1 ≠ nkOf k) = true := by simp [e']
      rw [if_pos a, if_pos b]; exact .cons ⟨h1, h2, h3, h4⟩ ih
theorem KN.mem (r : KN H kvs xs) : ∀ q ∈ xs, ∃ p ∈ kvs, q.1 = nkOf p.1 ∧ KyD p.1 ∧ Im H p.1 (.ref q.2.1) ∧ RelV p.2 q.2.2 := by
  unfold KN at r
  induction r with
  | nil => intro q hq; simp at hq
  | cons h t ih =>
    intro x hx
    rcases List.mem_cons.mp hx with rfl | hx
    · exact ⟨_, List.mem_cons_self, h⟩
    · obtain ⟨p, hp, z⟩ := ih x hx
      exact ⟨p, List.mem_cons_of_mem _ hp, z⟩
theorem KN.ky (r : KN H kvs xs) : ∀ p ∈ kvs, KyD p.1 ∧ ∃ b, Im H p.1 (.ref b) := by
  unfold KN at r
  induction r with
  | nil => intro q hq; simp at hq
  | cons h t ih =>
    intro x hx
    rcases List.mem_cons.mp hx with rfl | hx
    · exact ⟨h.2.1, _, h.2.2.1⟩
    · exact ih x hx
theorem KN.nodup (r : KN H kvs xs) (h : (xs.map (·.1)).Nodup) : (kvs.map (·.1)).Nodup := by
  unfold KN at r
  induction r with
  | nil => exact List.nodup_nil
  | @cons p q ps qs z t ih =>
    rw [List.map_cons, List.nodup_cons] at h ⊢
    refine ⟨fun hm => h.1 ?_, ih h.2⟩
    obtain ⟨p2, hp2, e⟩ := List.mem_map.mp hm
    have t' : KN H ps qs := t
    obtain ⟨i, hi, hpi⟩ := List.mem_iff_getElem.mp hp2
    have hl := KN.len t'
    have : ∀ {l : List (PyData × V)} {m : List (NestedKey × Addr × Value)}, KN H l m → ∀ p ∈ l, ∃ q ∈ m, q.1 = nkOf p.1 := by
      intro l m r
      unfold KN at r
      induction r with
      | nil => intro p hp; simp at hp
      | cons h t ih =>
        intro x hx
        rcases List.mem_cons.mp hx with rfl | hx
        · exact ⟨_, List.mem_cons_self, h.1⟩
        · obtain ⟨q, hq, z⟩ := ih x hx
          exact ⟨q, List.mem_cons_of_mem _ hq, z⟩
    obtain ⟨q2, hq2, e2⟩ := this t' p2 hp2
    exact List.mem_map.mpr ⟨q2, hq2, by rw [e2, e, z.1]⟩
end
/-- the object of such a dict -/
def dnO (P : Program) (w : World) (a : Addr) (xs : List (NestedKey × Addr × Value)) : HO := .ext fun h => (a == sysModules) = false ∧ ∃ o es ep, h.get? a = some o ∧ o.ExactDict ∧ o.data = .dict es ep ∧ es.toList = xs.map (entryOfKey (nestedKind P w)) ∧ (xs.map (·.1)).Nodup
/-- at a a dict of these keys and values, in order; it may be written -/
def DN (P : Program) (w : World) (H : Hp) (a : Addr) (kvs : List (PyData × V)) : Prop := kvs.length ≤ sizeLine ∧ (kvs.map (·.1)).Nodup ∧ ∃ xs, H a = some (dnO P w a xs) ∧ KN H kvs xs
/-- .. it may be read -/
def DR (P : Program) (w : World) (H : Hp) (a : Addr) (kvs : List (PyData × V)) : Prop := kvs.length ≤ sizeLine ∧ (kvs.map (·.1)).Nodup ∧ ∃ xs, Rd H a (dnO P w a xs) ∧ KN H kvs xs
section
variable {P : Program} {w : World} {H H' : Hp} {a : Addr} {kvs : List (PyData × V)}
theorem DN.dr (d : DN P w H a kvs) : DR P w H a kvs := by
  obtain ⟨h1, h2, xs, h3, h4⟩ := d
  exact ⟨h1, h2, xs, .inl h3, h4⟩
theorem DN.tk (d : DN P w H a kvs) {u : HO} : Tk H (upd H a u) := by
  obtain ⟨_, _, xs, h, _⟩ := d
  intro b ys e
  rw [upd_ne (ne_of e h (by intro z; cases z))]; exact e
theorem DN.ne_l (d : DN P w H a kvs) {l : Addr} {ws : List V} (e : H l = some (.lst ws)) : l ≠ a := by
  obtain ⟨_, _, xs, h, _⟩ := d
  exact ne_of e h (by intro z; cases z)
theorem DN.ne_t (d : DN P w H a kvs) {l : Addr} {ws : List V} (e : H l = some (.tup ws)) : l ≠ a := by
  obtain ⟨_, _, xs, h, _⟩ := d
  exact ne_of e h (by intro z; cases z)
theorem DN.ne_i (d : DN P w H a kvs) {l C dx : Addr} {fs : List (Str × V)} (e : H l = some (.ins C dx fs)) : l ≠ a := by
  obtain ⟨_, _, xs, h, _⟩ := d
  exact ne_of e h (by intro z; cases z)
theorem DN.ne_d (d : DN P w H a kvs) {l : Addr} {ws : List (Key × V)} (e : H l = some (.dK ws)) : l ≠ a := by
  obtain ⟨_, _, xs, h, _⟩ := d
  exact ne_of e h (by intro z; cases z)
theorem DN.ne_n (d : DN P w H a kvs) {l : Addr} (e : H l = none) : l ≠ a := by
  obtain ⟨_, _, xs, h, _⟩ := d
  exact (ne_of_none h e).symm
theorem DN.ex (d : DN P w H a kvs) : ∃ o, H a = some o := by
  obtain ⟨_, _, xs, h, _⟩ := d
  exact ⟨_, h⟩
theorem DN.keep (d : DN P w H a kvs) (e : ∀ o, H a = some o → H' a = some o) (t : Tk H H') : DN P w H' a kvs := by
  obtain ⟨h1, h2, xs, h3, h4⟩ := d
  exact ⟨h1, h2, xs, e _ h3, h4.tk t⟩
theorem DN.same (d : DN P w H a kvs) (s : Same H H') : DN P w H' a kvs := d.keep (fun o e => s _ _ e) (Same.tk s)
theorem DN.new {p : Addr} : DN P w (upd H p (dnO P w p [])) p [] := ⟨Nat.zero_le _, List.nodup_nil, [], upd_same, .nil⟩
theorem DN.newer (d : DN P w H a kvs) {q : Addr} {u : HO} (hq : H q = none) : DN P w (upd H q u) a kvs := d.keep (fun o e => get_new hq e) (Tk.new hq)
theorem DN.gn (d : DN P w H a kvs) {p : Addr} (g : Gn p H H') : DN P w H' a kvs := by
  obtain ⟨x, y, e⟩ := g.st0
  exact d.keep (fun o eo => g.but _ _ eo (d.ne_l e).symm) g.tk
theorem DN.putL (d : DN P w H a kvs) {l : Addr} {ws : List V} {u : HO} (e : H l = some (.lst ws)) : DN P w (upd H l u) a kvs := d.keep (fun o eo => get_ne (d.ne_l e).symm eo) (Tk.put e)
theorem DN.putI (d : DN P w H a kvs) {l C dx : Addr} {fs : List (Str × V)} {u : HO} (e : H l = some (.ins C dx fs)) : DN P w (upd H l u) a kvs := d.keep (fun o eo => get_ne (d.ne_i e).symm eo) (Tk.putI e)
theorem DN.putD (d : DN P w H a kvs) {l : Addr} {ws : List (Key × V)} {u : HO} (e : H l = some (.dK ws)) : DN P w (upd H l u) a kvs := d.keep (fun o eo => get_ne (d.ne_d e).symm eo) (Tk.putD e)
theorem DN.putN (d : DN P w H a kvs) {l : Addr} {ws : List (PyData × V)} {u : HO} (e : DN P w H l ws) (n : a ≠ l) : DN P w (upd H l u) a kvs := d.keep (fun o eo => get_ne n eo) e.tk
theorem DR.ky (d : DR P w H a kvs) : ∀ p ∈ kvs, KyD p.1 ∧ ∃ b, Im H p.1 (.ref b) := by
  obtain ⟨_, _, xs, _, r⟩ := d
  exact r.ky
theorem DN.ky (d : DN P w H a kvs) : ∀ p ∈ kvs, KyD p.1 ∧ ∃ b, Im H p.1 (.ref b) := d.dr.ky
end
section
variable {P : Program} {w : World} {H : Hp} {h : Heap} {a : Addr} {kvs : List (PyData × V)}
theorem dn_ok {xs : List (NestedKey × Addr × Value)} (ok : HOk P w H h) (e : Rd H a (dnO P w a xs)) (r : KN H kvs xs) : (a == sysModules) = false ∧ h.DictOfH (nestedKind P w) a xs := by
  obtain ⟨⟨hd, o, es, ep, h1, h2, h3, h4, h5⟩, _⟩ := (show ObjOk P w H h a (dnO P w a xs) from e.ok ok)
  refine ⟨hd, o, es, ep, h1, h2, h3, h4, fun x hx => ?_, h5⟩
  obtain ⟨p, _, e1, k, i, _⟩ := r.mem x hx
  rw [e1]; exact key_im ok k i
theorem dr_of (ok : HOk P w H h) (d : DR P w H a kvs) : (a == sysModules) = false ∧ ∃ xs, KN H kvs xs ∧ xs.length ≤ sizeLine ∧ h.DictOfH (nestedKind P w) a xs := by
  obtain ⟨h1, h2, xs, h3, h4⟩ := d
  obtain ⟨g1, g2⟩ := dn_ok ok h3 h4
  exact ⟨g1, xs, h4, by rw [← h4.len]; exact h1, g2⟩
end
theorem dn_room {A : Around} (hu : A.units + 65 < cLine) (prog : Program) (w : World) : (nestedKind prog w).room A.in1 := by
  show A.units + 1 + 8 < cLine; omega
theorem dn_okN {P : Program} {w : World} {H : Hp} {h' : Heap} {a : Addr} {xs : List (NestedKey × Addr × Value)} (hd : (a == sysModules) = false) (dd : h'.DictOfH (nestedKind P w) a xs) : ObjOk P w H h' a (dnO P w a xs) := by
  obtain ⟨o, es, ep, h1, h2, h3, h4, _, h5⟩ := dd
  refine ⟨⟨hd, o, es, ep, h1, h2, h3, h4, h5⟩, ⟨o, h1⟩, ?_⟩
  rintro g1 g2 ⟨z1, o', es', ep', y1, y2⟩ k
  exact ⟨z1, o', es', ep', k _ y1, y2⟩
section
variable {X : Cx} {pins : List (Addr × Obj)} {σ : St} {H : Hp} {s : Shared} {a : Addr} {kvs : List (PyData × V)} {k : PyData} {y v d : V} {u r : Value} {A : Around} {E : Value → Shared → Prop}
theorem n_getItem {Q : Value → Shared → Prop} (hu : A.units + 65 < cLine) (I : Inv X pins σ H s) (g : DR X.prog X.w H a kvs) (hk : KyD k) (ik : Im H k y) (l : valV kvs k = some v) (ry : RelV y u) (h : ∀ w' s', Inv X pins σ H s' → RelV v w' → Q w' s') :
    wpAny (model X.prog X.w) A (getItem (.ref a) u) Q E s := by
  obtain ⟨b, rfl⟩ := hk.ref ik
  cases (show u = Value.ref b from ry)
  obtain ⟨hd, xs, rel, z, dd⟩ := dr_of I.hok g
  obtain ⟨w', hw, rw'⟩ := RelO.some_of (v := v) (o := (atKey xs (nkOf k)).map (·.2)) (by rw [← l]; exact rel.val hk)
  obtain ⟨p, hp, hp2⟩ := Option.map_eq_some_iff.mp hw
  refine wpAny_getItem_heap (dn_room hu _ _) (key_im I.hok hk ik) dd hp ?_
  rw [hp2]
  exact h w' _ (I.tok _) rw'
theorem n_in {Q : Value → Shared → Prop} (hu : A.units + 65 < cLine) (I : Inv X pins σ H s) (g : DR X.prog X.w H a kvs) (hk : KyD k) (ik : Im H k y) (ry : RelV y u) (h : ∀ s', Inv X pins σ H s' → Q (.bool (valV kvs k).isSome) s') :
    wpAny (model X.prog X.w) A (compareOp .In u (.ref a)) Q E s := by
  obtain ⟨b, rfl⟩ := hk.ref ik
  cases (show u = Value.ref b from ry)
  obtain ⟨hd, xs, rel, z, dd⟩ := dr_of I.hok g
  refine wpAny_in_heap (dn_room hu _ _) (key_im I.hok hk ik) hd dd ?_
  have q := (rel.val hk).isSome_eq
  rw [Option.isSome_map] at q
  rw [← q]
  exact h _ (I.tok _)
theorem n_notIn {Q : Value → Shared → Prop} (hu : A.units + 65 < cLine) (I : Inv X pins σ H s) (g : DR X.prog X.w H a kvs) (hk : KyD k) (ik : Im H k y) (ry : RelV y u) (h : ∀ s', Inv X pins σ H s' → Q (.bool (!(valV kvs k).isSome)) s') :
    wpAny (model X.prog X.w) A (compareOp .NotIn u (.ref a)) Q E s := by
  obtain ⟨b, rfl⟩ := hk.ref ik
  cases (show u = Value.ref b from ry)
  obtain ⟨hd, xs, rel, z, dd⟩ := dr_of I.hok g
  refine PyProof.Rows.wpAny_notIn_heap (dn_room hu _ _) (key_im I.hok hk ik) hd dd ?_
  have q := (rel.val hk).isSome_eq
  rw [Option.isSome_map] at q
  rw [← q]
  exact h _ (I.tok _)
theorem keys_put {kvs : List (PyData × V)} {k : PyData} {v : V} (h : (kvs.map (·.1)).Nodup) : ((putK kvs k v).map (·.1)).Nodup := by
  unfold putK
  split
  · rw [List.map_map]
    have : ((fun x : PyData × V => x.1) ∘ fun kv => if kv.1 = k then (kv.1, v) else kv) = fun x => x.1 := by
      funext kv; show (if kv.1 = k then (kv.1, v) else kv).1 = kv.1; split <;> rfl
    rw [this]; exact h
  · rename_i e
    rw [List.map_append]
    refine List.nodup_append.mpr ⟨h, by simp, fun x hx y hy => ?_⟩
    simp only [List.map_cons, List.map_nil, List.mem_singleton] at hy
    subst hy
    rintro rfl
    apply e
    obtain ⟨p, hp, e2⟩ := List.mem_map.mp hx
    exact List.any_eq_true.mpr ⟨p, hp, decide_eq_true e2⟩
theorem keys_drop {kvs : List (PyData × V)} {k : PyData} (h : (kvs.map (·.1)).Nodup) : ((dropK kvs k).map (·.1)).Nodup := by
  unfold dropK
  exact List.Pairwise.sublist (List.Sublist.map _ List.filter_sublist) h
theorem n_made {h' : Heap} {t' : Nat} {kvs' : List (PyData × V)} {xs' : List (NestedKey × Addr × Value)} (I : Inv X pins σ H s) (g : DN X.prog X.w H a kvs) (hd : (a == sysModules) = false) (hl : kvs'.length ≤ sizeLine) (hn : (kvs'.map (·.1)).Nodup)
    (r' : KN H kvs' xs') (dd' : h'.DictOfH (nestedKind X.prog X.w) a xs') (hs : Heap.SameBut a s.heap h') : ∃ o, DN X.prog X.w (upd H a o) a kvs' ∧ Inv X pins σ (upd H a o) { s with heap := h', toks := t' } := by
  have ht := g.tk (u := dnO X.prog X.w a xs')
  obtain ⟨_, _, xs, e, _⟩ := g
  have he : ∃ q, h'.get? a = some q := let ⟨q, _, _, hq, _⟩ := dd'; ⟨q, hq⟩
  exact ⟨dnO X.prog X.w a xs', ⟨hl, hn, xs', upd_same, r'.tk ht⟩, d_write I (by rw [e]; exact True.intro) hs he (dn_okN hd dd')⟩
theorem n_setItem {Q : Unit → Shared → Prop} (hu : A.units + 65 < cLine) (I : Inv X pins σ H s) (g : DN X.prog X.w H a kvs) (hk : KyD k) (ik : Im H k y) (hz : kvs.length < sizeLine) (ry : RelV y u) (rv : RelV v r)
    (h : ∀ o s', DN X.prog X.w (upd H a o) a (putK kvs k v) → Inv X pins σ (upd H a o) s' → Q () s') : wpAny (model X.prog X.w) A (setItem (.ref a) u r) Q E s := by
  obtain ⟨b, rfl⟩ := hk.ref ik
  cases (show u = Value.ref b from ry)
  obtain ⟨hd, xs, rel, z, dd⟩ := dr_of I.hok g.dr
  refine wpAny_setItem_heap (hsz := z) (dn_room hu _ _) (key_im I.hok hk ik) dd fun h' dd' hs => ?_
  obtain ⟨o, d', I'⟩ := n_made I g hd (kvs' := putK kvs k v) (by have := length_putK kvs k v; omega) (keys_put g.2.1) (rel.put hk ik rv) dd' hs
  exact h o _ d' I'
theorem n_delItem {Q : Unit → Shared → Prop} (hu : A.units + 65 < cLine) (I : Inv X pins σ H s) (g : DN X.prog X.w H a kvs) (hk : KyD k) (ik : Im H k y) (hz : (valV kvs k).isSome = true) (ry : RelV y u)
    (h : ∀ o s', DN X.prog X.w (upd H a o) a (dropK kvs k) → Inv X pins σ (upd H a o) s' → Q () s') : wpAny (model X.prog X.w) A (delItem (.ref a) u) Q E s := by
  obtain ⟨b, rfl⟩ := hk.ref ik
  cases (show u = Value.ref b from ry)
  obtain ⟨hd, xs, rel, z, dd⟩ := dr_of I.hok g.dr
  have q := (rel.val hk).isSome_eq
  rw [Option.isSome_map, hz] at q
  obtain ⟨p, hp⟩ := Option.isSome_iff_exists.mp q.symm
  refine wpAny_delItem_heap (hsz := z) (dn_room hu _ _) (key_im I.hok hk ik) hd dd hp fun h' dd' hs => ?_
  obtain ⟨o, d', I'⟩ := n_made I g hd (kvs' := dropK kvs k) (Nat.le_trans (dropK_le kvs k) g.1) (keys_drop g.2.1) (rel.drop hk) dd' hs
  exact h o _ d' I'
theorem n_get1 {Q : Value → Shared → Prop} (hu : A.units + 65 < cLine) (I : Inv X pins σ H s) (g : DR X.prog X.w H a kvs) (hk : KyD k) (ik : Im H k y) (ry : RelV y u) (h : ∀ w' s', Inv X pins σ H s' → RelV ((valV kvs k).getD .non) w' → Q w' s') :
    wpAny (model X.prog X.w) A (call (.builtin "dict.get") [.ref a, u]) Q E s := by
  obtain ⟨b, rfl⟩ := hk.ref ik
  cases (show u = Value.ref b from ry)
  obtain ⟨hd, xs, rel, z, dd⟩ := dr_of I.hok g
  exact call_meetsIn PySem.F.slot_dict_get dd.typeIs PySem.F.entry_dict_get (PySem.F.args_dict_get_2 _ _) (meetsH_dict_get (nestedKind X.prog X.w) a b hd) ⟨dn_room hu _ _, nkOf k, xs, key_im I.hok hk ik, dd, h _ _ (I.tok _) ((rel.val hk).getD rfl)⟩
theorem n_get2 {Q : Value → Shared → Prop} (hu : A.units + 65 < cLine) (I : Inv X pins σ H s) (g : DR X.prog X.w H a kvs) (hk : KyD k) (ik : Im H k y) (ry : RelV y u) (rd : RelV d r) (h : ∀ w' s', Inv X pins σ H s' → RelV ((valV kvs k).getD d) w' → Q w' s') :
    wpAny (model X.prog X.w) A (call (.builtin "dict.get") [.ref a, u, r]) Q E s := by
  obtain ⟨b, rfl⟩ := hk.ref ik
  cases (show u = Value.ref b from ry)
  obtain ⟨hd, xs, rel, z, dd⟩ := dr_of I.hok g
  exact call_meetsIn PySem.F.slot_dict_get dd.typeIs PySem.F.entry_dict_get (PySem.F.args_dict_get_3 _ _ _) (meetsH_dict_get_default (nestedKind X.prog X.w) a b hd r) ⟨dn_room hu _ _, nkOf k, xs, key_im I.hok hk ik, dd, h _ _ (I.tok _) ((rel.val hk).getD rd)⟩
theorem n_setdef {Q : Value → Shared → Prop} (hu : A.units + 65 < cLine) (I : Inv X pins σ H s) (g : DN X.prog X.w H a kvs) (hk : KyD k) (ik : Im H k y) (hz : kvs.length < sizeLine) (ry : RelV y u) (rd : RelV d r)
    (h1 : ∀ v w' s', valV kvs k = some v → Inv X pins σ H s' → RelV v w' → Q w' s') (h2 : valV kvs k = none → ∀ o s', DN X.prog X.w (upd H a o) a (putK kvs k d) → Inv X pins σ (upd H a o) s' → Q r s') :
    wpAny (model X.prog X.w) A (call (.builtin "dict.setdefault") [.ref a, u, r]) Q E s := by
  obtain ⟨b, rfl⟩ := hk.ref ik
  cases (show u = Value.ref b from ry)
  obtain ⟨hd, xs, rel, z, dd⟩ := dr_of I.hok g.dr
  refine call_setdefault_heap (hsz := z) (dn_room hu _ _) (key_im I.hok hk ik) hd dd (fun p hp => ?_) fun hn h' dd' hs => ?_
  · have := rel.val hk
    rw [hp] at this
    cases e : valV kvs k with
    | none => rw [e] at this; exact (show False from this).elim
    | some v => rw [e] at this; exact h1 v _ _ e (I.tok _) this
  · have e : valV kvs k = none := by
      have := rel.val hk
      rw [hn] at this
      cases z : valV kvs k with
      | none => rfl
      | some v => rw [z] at this; exact (show False from this).elim
    obtain ⟨o, d', I'⟩ := n_made I g hd (kvs' := putK kvs k d) (by have := length_putK kvs k d; omega) (keys_put g.2.1) (rel.put hk ik rd) dd' hs
    exact h2 e o _ d' I'
theorem n_len {Q : Value → Shared → Prop} (I : Inv X pins σ H s) (g : DR X.prog X.w H a kvs) (h : ∀ t s', Inv X pins σ H s' → Q (.int kvs.length t) s') : wpAny (model X.prog X.w) A (call (.builtin "len") [.ref a]) Q E s := by
  obtain ⟨hd, xs, rel, z, dd⟩ := dr_of I.hok g
  refine call_len_dictH hd dd (by rw [sizeLine_eq] at z; omega) ?_
  rw [← rel.len]
  exact h _ _ (I.tok _)
end
/-! ### readings and rules -/
def tDNewN (P : Program) (w : World) : TE := fun _ H Q => ∀ p, H p = none → Q (.ref p) (upd H p (dnO P w p []))
def tDGetN (P : Program) (w : World) (td ty : TE) : TE := fun σ H Q => td σ H fun x H1 => ty σ H1 fun y H2 => ∃ a k kvs v, x = .ref a ∧ DR P w H2 a kvs ∧ KyD k ∧ Im H2 k y ∧ valV kvs k = some v ∧ Q v H2
def tDInN (P : Program) (w : World) (ty td : TE) : TE := fun σ H Q => ty σ H fun y H1 => td σ H1 fun x H2 => ∃ a k kvs, x = .ref a ∧ DR P w H2 a kvs ∧ KyD k ∧ Im H2 k y ∧ Q (.bl (valV kvs k).isSome) H2
def tDNotInN (P : Program) (w : World) (ty td : TE) : TE := fun σ H Q => ty σ H fun y H1 => td σ H1 fun x H2 => ∃ a k kvs, x = .ref a ∧ DR P w H2 a kvs ∧ KyD k ∧ Im H2 k y ∧ Q (.bl (!(valV kvs k).isSome)) H2
def sDPutN (P : Program) (w : World) (td ty tv : TE) : TS := fun D σ H => tv σ H fun v H1 => td σ H1 fun x H2 => ty σ H2 fun y H3 => ∃ a k kvs, x = .ref a ∧ DN P w H3 a kvs ∧ KyD k ∧ Im H3 k y ∧ kvs.length < sizeLine ∧ ∀ o, DN P w (upd H3 a o) a (putK kvs k v) → D.nx σ (upd H3 a o)
def sDDelN (P : Program) (w : World) (td ty : TE) : TS := fun D σ H => td σ H fun x H1 => ty σ H1 fun y H2 => ∃ a k kvs, x = .ref a ∧ DN P w H2 a kvs ∧ KyD k ∧ Im H2 k y ∧ (valV kvs k).isSome = true ∧ ∀ o, DN P w (upd H2 a o) a (dropK kvs k) → D.nx σ (upd H2 a o)
def rLenN (P : Program) (w : World) : List V → Hp → VK → Prop := fun xs H Q => ∃ (p : Addr) (kvs : List (PyData × V)), xs = [.ref p] ∧ DR P w H p kvs ∧ Q (.int ((kvs.length : Nat) : Int)) H
def tBMN (P : Program) (w : World) (r : V → List V → Hp → VK → Prop) (to : TE) (t : TA) : TE := fun σ H Q => to σ H fun x H1 => (∃ a kvs, x = .ref a ∧ DR P w H1 a kvs) ∧ t σ H1 fun xs H2 => r x xs H2 Q
def rGet1N (P : Program) (w : World) : V → List V → Hp → VK → Prop := fun x xs H Q => ∃ a y k kvs, x = .ref a ∧ xs = [y] ∧ DR P w H a kvs ∧ KyD k ∧ Im H k y ∧ Q ((valV kvs k).getD .non) H
def rGet2N (P : Program) (w : World) : V → List V → Hp → VK → Prop := fun x xs H Q => ∃ a y d k kvs, x = .ref a ∧ xs = [y, d] ∧ DR P w H a kvs ∧ KyD k ∧ Im H k y ∧ Q ((valV kvs k).getD d) H
def rSetdefN (P : Program) (w : World) : V → List V → Hp → VK → Prop := fun x xs H Q => ∃ a y d k kvs, x = .ref a ∧ xs = [y, d] ∧ DN P w H a kvs ∧ KyD k ∧ Im H k y ∧ kvs.length < sizeLine ∧ (∀ v, valV kvs k = some v → Q v H) ∧ (valV kvs k = none → ∀ o, DN P w (upd H a o) a (putK kvs k d) → Q d (upd H a o))
section
variable {X : Cx} {P : Program} {w : World} {o i e f value : Expr} {es : List Expr} {pos pos' tpos apos cpos : Pos} {td ty tv to : TE} {t : TA} {name : Str} {id : String} {r : V → List V → Hp → VK → Prop}
theorem pe_dnewN (hP : X.prog = P := by rfl) (hw : X.w = w := by rfl) : PE X (.Dict [] [] pos) (tDNewN P w) := by
  subst hP hw
  exact ⟨fun pins s σ H Q I h => wpAny_Dict_empty ⟨.ref s.heap.objs.size, _, I.laid (a := s.heap.objs.size) (o := dnO X.prog X.w s.heap.objs.size []) (t' := s.toks) (fun _ _ q => Heap.get?_push_of_some _ q) (Nat.le_refl _)
    (dn_okN (beq_eq_false_iff_ne.mpr (Ne.symm (Nat.ne_of_lt I.big))) (Heap.DictOfH.new _)), rfl, h _ (I.hok.fresh (Nat.le_refl _))⟩⟩
theorem pe_dgetN (hu : X.A.units + 65 < cLine) (ho : PE X o td) (hi : PE X i ty) (hs : NoSl i) (hP : X.prog = P := by rfl) (hw : X.w = w := by rfl) : PE X (.Subscript o i pos) (tDGetN P w td ty) := by
  subst hP hw
  refine ⟨fun pins s σ H Q I h => ?_⟩
  refine subD_of PySem.F.slot_dict_getitem.lookup hs (thn (ho.run pins s σ H _ I h) fun u s1 ⟨x, H1, I1, rx, q1⟩ => thn (hi.run pins s1 σ H1 _ I1 q1) fun iv s2 ⟨y, H2, I2, ry, a, k, kvs, v, ex, g, hk, ik, l, q2⟩ => ?_)
  subst ex
  obtain rfl : u = Value.ref a := rx
  obtain ⟨_, xs, _, _, dd⟩ := dr_of I2.hok g
  exact ⟨dd.typeIs, n_getItem hu I2 g hk ik l ry fun w' s3 I3 rw' => ⟨v, H2, I3, rw', q2⟩⟩
theorem pc_dinN (hu : X.A.units + 65 < cLine) (hi : PE X i ty) (ho : PE X o td) (hP : X.prog = P := by rfl) (hw : X.w = w := by rfl) : PC X .In i o (tDInN P w ty td) := by
  subst hP hw
  refine ⟨fun pins s σ H Q I h => ?_⟩
  refine thn (hi.run pins s σ H _ I h) fun iv s1 ⟨y, H1, I1, ry, q1⟩ => thn (ho.run pins s1 σ H1 _ I1 q1) fun u s2 ⟨x, H2, I2, rx, a, k, kvs, ex, g, hk, ik, q2⟩ => ?_
  subst ex
  obtain rfl : u = Value.ref a := rx
  exact n_in hu I2 g hk ik ry fun s3 I3 => ⟨.bl _, H2, I3, rfl, q2⟩
theorem pc_dnotinN (hu : X.A.units + 65 < cLine) (hi : PE X i ty) (ho : PE X o td) (hP : X.prog = P := by rfl) (hw : X.w = w := by rfl) : PC X .NotIn i o (tDNotInN P w ty td) := by
  subst hP hw
  refine ⟨fun pins s σ H Q I h => ?_⟩
  refine thn (hi.run pins s σ H _ I h) fun iv s1 ⟨y, H1, I1, ry, q1⟩ => thn (ho.run pins s1 σ H1 _ I1 q1) fun u s2 ⟨x, H2, I2, rx, a, k, kvs, ex, g, hk, ik, q2⟩ => ?_
  subst ex
  obtain rfl : u = Value.ref a := rx
  exact n_notIn hu I2 g hk ik ry fun s3 I3 => ⟨.bl _, H2, I3, rfl, q2⟩
theorem ps_dputN (hu : X.A.units + 65 < cLine) (ho : PE X o td) (hi : PE X i ty) (hv : PE X value tv) (hs : swapsWith value (some (.Subscript o i pos')) pos.line X.env = pure false) (hP : X.prog = P := by rfl) (hw : X.w = w := by rfl) :
    PS X (.Assign [.Subscript o i pos'] value pos) (sDPutN P w td ty tv) := by
  subst hP hw
  refine ⟨fun pins s σ H D I h => ?_⟩
  refine wpAny_Assign_Subscript (thn (hv.run pins s σ H _ I h) fun r s1 ⟨v, H1, I1, rv, q1⟩ => thn (ho.run pins s1 σ H1 _ I1 q1) fun u s2 ⟨x, H2, I2, rx, q2⟩ => thn (hi.run pins s2 σ H2 _ I2 q2) fun iv s3 ⟨y, H3, I3, ry, a, k, kvs, ex, g, hk, ik, hz, q3⟩ => ?_) hs
  subst ex
  obtain rfl : u = Value.ref a := rx
  exact n_setItem hu I3 g hk ik hz ry rv fun o s4 d4 I4 => ⟨σ, _, I4, q3 o d4⟩
theorem ps_ddelN (hu : X.A.units + 65 < cLine) (ho : PE X o td) (hi : PE X i ty) (hP : X.prog = P := by rfl) (hw : X.w = w := by rfl) : PS X (.Delete [.Subscript o i tpos] pos) (sDDelN P w td ty) := by
  subst hP hw
  refine ⟨fun pins s σ H D I h => ?_⟩
  refine wpAny_Delete (wpAny_deleteEach_cons (wpAny_delete_Subscript (thn (ho.run pins s σ H _ I h) fun u s1 ⟨x, H1, I1, rx, q1⟩ => thn (hi.run pins s1 σ H1 _ I1 q1) fun iv s2 ⟨y, H2, I2, ry, a, k, kvs, ex, g, hk, ik, l, q2⟩ => ?_)))
  subst ex
  obtain rfl : u = Value.ref a := rx
  exact n_delItem hu I2 g hk ik l ry fun o s3 d3 I3 => wpAny_deleteEach_nil ⟨σ, _, I3, q2 o d3⟩
theorem call_lenN (hP : X.prog = P := by rfl) (hw : X.w = w := by rfl) : CallR X (.builtin "len") (rLenN P w) := by
  subst hP hw
  intro pins s σ H xs us Q I r ⟨p, kvs, h1, h2, h3⟩
  subst h1
  rw [Vals.ref1 r]
  exact n_len I h2 fun t s' I' => ⟨.int _, H, I', ⟨t, rfl⟩, h3⟩
theorem pe_bmN (slot : Slot "dict" name id) (hty : typeOf (.builtin id) = pure (.type "method_descriptor")) (hm : MtR X id r) (ho : PE X o to) (ha : PA X (e :: es) t)
    (hbase : attributeBase o name X.env (eval o X.env) = eval o X.env := by rfl)
    (hfew : ((backTo cpos (starEach (e :: es) X.env)).all (fun x => !x.1) && (backToKw cpos (keywordEach [] X.env)).all (fun x => x.1.isSome)
      && decide ((e :: es).length + ([] : List Keyword).length + (if ([] : List Keyword).isEmpty then 0 else 1) < 30)) = true := by rfl)
    (hline : (apos.endLine == cpos.line) = true := by rfl) (hs : starEach (e :: es) X.env = (false, eval e X.env) :: starEach es X.env := by rfl) (hplain : (backTo cpos (starEach es X.env)).any (·.1) = false := by rfl) (hP : X.prog = P := by rfl) (hw : X.w = w := by rfl) :
    PE X (.Call (.Attribute o name apos) (e :: es) [] cpos) (tBMN P w r to t) := by
  subst hP hw
  refine ⟨fun pins s σ H Q I h => ?_⟩
  refine wpAny_Call_method_late hbase hfew hline rfl (thn (ho.run pins s σ H _ I h) fun v s1 ⟨x, H1, I1, r1, ty, q1⟩ => ?_)
  obtain ⟨a, kvs, rfl, g⟩ := ty
  obtain rfl : v = Value.ref a := r1
  obtain ⟨_, xs, _, _, dd⟩ := dr_of I1.hok g
  refine ⟨"dict", id, PySem.F.plainAttrs_dict, slot, hty, dd.typeIs, fun b q => ?_, ?_⟩
  · cases q
    obtain ⟨ob, _, _, h1, h2, _⟩ := dd
    exact ⟨ob, h1, h2.2.1⟩
  · have hA := ha.run cpos pins s1 σ H1 _ I1 q1
    rw [hs] at hA ⊢
    refine Calls.callWith_builtin (by show (false || (backTo cpos (starEach es X.env)).any (·.1)) = false; rw [hplain] <;> rfl) (Calls.evalArgs_plain ?_)
    exact thn hA fun us s2 ⟨vs, H2, I2, r2, q2⟩ => hm pins s2 σ H2 (.ref a) vs (.ref a) us Q I2 (show RelV (.ref a) (.ref a) from rfl) r2 q2
theorem mt_get1N (hu : X.A.units + 65 < cLine) (hP : X.prog = P := by rfl) (hw : X.w = w := by rfl) : MtR X "dict.get" (rGet1N P w) := by
  subst hP hw
  intro pins s σ H x xs v us Q I rx rv ⟨a, y, k, kvs, h1, h2, g, hk, ik, q⟩
  subst h1 h2
  cases rx
  obtain ⟨u, rfl, ru⟩ := vals1 rv
  exact n_get1 hu I g hk ik ru fun w' s' I' r' => ⟨_, H, I', r', q⟩
theorem mt_get2N (hu : X.A.units + 65 < cLine) (hP : X.prog = P := by rfl) (hw : X.w = w := by rfl) : MtR X "dict.get" (rGet2N P w) := by
  subst hP hw
  intro pins s σ H x xs v us Q I rx rv ⟨a, y, d, k, kvs, h1, h2, g, hk, ik, q⟩
  subst h1 h2
  cases rx
  cases rv with
  | cons ru rv =>
    obtain ⟨r, rfl, rr⟩ := vals1 rv
    exact n_get2 hu I g hk ik ru rr fun w' s' I' r' => ⟨_, H, I', r', q⟩
theorem mt_setdefN (hu : X.A.units + 65 < cLine) (hP : X.prog = P := by rfl) (hw : X.w = w := by rfl) : MtR X "dict.setdefault" (rSetdefN P w) := by
  subst hP hw
  intro pins s σ H x xs v us Q I rx rv ⟨a, y, d, k, kvs, h1, h2, g, hk, ik, hz, q1, q2⟩
  subst h1 h2
  cases rx
  cases rv with
  | cons ru rv =>
    obtain ⟨r, rfl, rr⟩ := vals1 rv
    exact n_setdef hu I g hk ik hz ru rr (fun v w' s' e I' r' => ⟨v, H, I', r', q1 v e⟩) fun e o s' d' I' => ⟨d, _, I', rr, q2 e o d'⟩
end
/-! ### nested dicts: sorted, walked, made by a comprehension -/
section
open PySem.Spec PyProof.Rows
variable {P : Program} {w : World} {H : Hp} {h : Heap}
mutual
/-- such data read with no list or dict on the way -/
theorem im_reads (ok : HOk P w H h) : ∀ (d : PyData) (v : V) (u : Value), Im H d v → RelV v u → Reads h u d []
  | .none, v, u, i, r => by
    simp only [Im] at i; subst i
    cases (show u = Value.none from r)
    exact .none
  | .bool b, v, u, i, r => by
    simp only [Im] at i; subst i
    cases (show u = Value.bool b from r)
    exact .bool _
  | .int i, v, u, j, r => by
    simp only [Im] at j; subst j
    obtain ⟨t, e⟩ := (show ∃ t, u = Value.int i t from r)
    subst e; exact .int _ _
  | .str x, v, u, j, r => by
    simp only [Im] at j; subst j
    obtain ⟨t, e⟩ := (show ∃ t, u = Value.str x t from r)
    subst e; exact .str _ _
  | .tuple ds, v, u, i, r => by
    simp only [Im] at i
    obtain ⟨a, xs, rfl, ha, hx⟩ := i
    cases (show u = Value.ref a from r)
    obtain ⟨_, its, rv, o, h1, h2, m, h3⟩ := (show ObjOk P w H h a (.tup xs) from ok a _ ha)
    exact .tuple h1 h2 h3 (by simpa using ims_reads ok ds xs its hx rv)
  | .list _, _, _, i, _ => by simp only [Im] at i
  | .dict _, _, _, i, _ => by simp only [Im] at i
theorem ims_reads (ok : HOk P w H h) : ∀ (ds : List PyData) (vs : List V) (us : List Value), ImAll H ds vs → Vals vs us → ReadsAll h us ds []
  | [], vs, us, i, r => by
    simp only [ImAll] at i; subst i
    cases r; exact .nil
  | d :: ds, vs, us, i, r => by
    simp only [ImAll] at i
    obtain ⟨v, t, rfl, i1, i2⟩ := i
    cases r with
    | cons r1 r2 =>
      have := ReadsAll.cons (im_reads ok d v _ i1 r1) (ims_reads ok ds t _ i2 r2)
      simpa using this
end
end
section
variable {P : Program} {w : World} {H : Hp} {a : Addr} {kvs : List (PyData × V)}
theorem kn_im {xs : List (NestedKey × Addr × Value)} (r : KN H kvs xs) : ImAll H (kvs.map (·.1)) (xs.map fun x => V.ref x.2.1) := by
  unfold KN at r
  induction r with
  | nil => exact im_nil
  | cons z _ ih => exact im_cons z.2.2.1 ih
theorem vals_at : ∀ {ys : List V} {us : List Value}, us.length = ys.length → (∀ (j : Nat) (u : Value), us[j]? = some u → ∃ y, ys[j]? = some y ∧ RelV y u) → Vals ys us
  | [], [], _, _ => .nil
  | y :: ys, u :: us, hl, h => by
    obtain ⟨z, e, r⟩ := h 0 u rfl
    obtain rfl : y = z := Option.some.inj e
    exact .cons r (vals_at (by simpa using hl) fun j v e => by simpa using h (j + 1) v (by simpa using e))
  | [], _ :: _, hl, _ => by simp at hl
  | _ :: _, [], hl, _ => by simp at hl
end
section
open PySem.W
variable {X : Cx}
def rSortN (P : Program) (w : World) : List V → Hp → VK → Prop := fun vs H Q => ∃ (a : Addr) (kvs : List (PyData × V)), vs = [.ref a] ∧ DR P w H a kvs ∧ AllAlike (kvs.map (·.1)) ∧ Sortable (kvs.map (·.1)) ∧ (∀ d ∈ kvs.map (·.1), d.depth ≤ 60) ∧
  ∀ (p : Addr) (zs : List V) (H' : Hp), H p = none → Same H H' → (∀ b, b ≠ p → H' b = H b) → H' p = some (.lst zs) → ImAll H' ((kvs.map (·.1)).mergeSort fun d e => !dataLt e d) zs → Q (.ref p) H'
theorem call_sortN {P : Program} {w : World} (hc : X.calm = true) (hu : X.A.units + 65 < cLine) (hP : X.prog = P := by rfl) (hw : X.w = w := by rfl) : CallR X (.builtin "sorted") (rSortN P w) := by
  subst hP hw
  intro pins s σ H vs us Q I r h
  obtain ⟨a, kvs, rfl, g, hal, hk, hd, q⟩ := h
  rw [Vals.ref1 r]
  obtain ⟨lo, xs, rel, hz, dd⟩ := dr_of I.hok g
  obtain ⟨es, ep, hr, hs, he⟩ := dd.raw
  have hlen : kvs.length = xs.length := rel.len
  refine Calls.call_function_entry PyProof.Rows.kind_sorted PyProof.Rows.plain_sorted PyProof.Rows.entry_sorted (PyProof.Rows.args_sorted1 _) ?_
  unfold Builtin.«sorted»
  refine wpAny_bind (m := checkCount "sorted" 1 1 _) (wpAny_pure ?_)
  refine wpAny_bind (kdu_collect (A := X.A.in1) (KdlSrc.rawDict (es := es) (ep := ep) lo) (I.ok.hd hc) hr (by rw [hs]; exact hz) fun h' tk acc hkp hacc => ?_)
  have hal' : acc.toList.length = xs.length := by rw [Array.length_toList, hacc.1, hs]
  have hv : Vals (xs.map fun x => V.ref x.2.1) acc.toList := vals_at (by rw [List.length_map]; exact hal') fun j u e => by
    obtain ⟨hi, e2⟩ := hacc.2 j u (by rw [← Array.getElem?_toList]; exact e)
    obtain ⟨y, hy, e3, _⟩ := he j hi
    exact ⟨.ref y.2.1, by rw [List.getElem?_map, hy]; rfl, by rw [e2, e3]; rfl⟩
  have im := kn_im rel
  have I1 : Inv X pins σ H { s with heap := h', toks := tk } := I.kept hkp
  refine wpAny_bind (wpAny_newList ?_ (by rw [hal']; exact hz))
  have hoL : (h'.push (PyProof.Rows.seqObj "list" acc.toList.toArray 0)).get? h'.objs.size = some (PyProof.Rows.seqObj "list" acc.toList.toArray 0) := Heap.get?_push_size _ rfl
  show wpAny _ _ _ _ _ { s with heap := h'.push (PyProof.Rows.seqObj "list" acc.toList.toArray 0), toks := tk }
  have I2 : Inv X pins σ H { s with heap := h'.push (PyProof.Rows.seqObj "list" acc.toList.toArray 0), toks := tk } := I1.kept (t' := tk) fun b u e => Heap.get?_push_of_some _ e
  have e1 : EachIs (fun u (b : V × PyData) => RelV b.1 u ∧ Im H b.2 b.1) acc.toList ((xs.map fun x => V.ref x.2.1).zip (kvs.map (·.1))) := ims_each im hv
  have hsnd : ((xs.map fun x => V.ref x.2.1).zip (kvs.map (·.1))).map (·.2) = kvs.map (·.1) := zip_snd (by rw [List.length_map, List.length_map]; omega)
  have er : EachIs (fun u (b : V × PyData) => ∃ as, Reads (h'.push (PyProof.Rows.seqObj "list" acc.toList.toArray 0)) u b.2 as ∧ h'.objs.size ∉ as) acc.toList ((xs.map fun x => V.ref x.2.1).zip (kvs.map (·.1))) :=
    e1.mono fun u b hb => ⟨[], im_reads I2.hok b.2 b.1 u hb.2 hb.1, by simp⟩
  have hlz : ((xs.map fun x => V.ref x.2.1).zip (kvs.map (·.1))).length = xs.length := by rw [List.length_zip, List.length_map, List.length_map]; omega
  refine wpAny_bind (wpAny_holding (list_sort_data (A := X.A.in1) (s := { s with heap := h'.push (PyProof.Rows.seqObj "list" acc.toList.toArray 0), toks := tk }) (enc := fun b : V × PyData => b.2) hoL e1 er (by rw [hsnd]; exact hal) (by rw [hsnd]; exact hk) (by rw [hlz]; exact hz) (fun b hb => ?_) fun out ho eo => ?_))
  · have hm : b.2 ∈ kvs.map (·.1) := by rw [← hsnd]; exact List.mem_map_of_mem hb
    have := hd _ hm
    show X.A.units + 1 + 1 + _ < _
    omega
  · obtain ⟨hv2, him⟩ := each_vals eo
    obtain ⟨e', he'⟩ := PyProof.Rows.sortedHeap_at (vs := acc.toList) (out := out.toArray) hoL
    have hms : (((xs.map fun x => V.ref x.2.1).zip (kvs.map (·.1))).mergeSort (dataLe false fun b : V × PyData => b.2)).map (·.2) = (kvs.map (·.1)).mergeSort fun d e => !dataLt e d :=
      (sort_maps (r := dataLe false fun b : V × PyData => b.2) (s := fun d e => !dataLt e d) (fun b : V × PyData => b.2) (l := (xs.map fun x => V.ref x.2.1).zip (kvs.map (·.1))) (fun _ _ _ _ => rfl)).trans (by rw [hsnd])
    rw [hms] at him
    have hlz2 : ((((xs.map fun x => V.ref x.2.1).zip (kvs.map (·.1))).mergeSort (dataLe false fun b : V × PyData => b.2)).map (·.1)).length ≤ sizeLine := by
      rw [List.length_map, List.length_mergeSort, hlz]; exact hz
    have hf := I1.hok.fresh (Nat.le_refl h'.objs.size)
    refine wpAny_pure ⟨_, rfl, .ref h'.objs.size, upd H h'.objs.size (.lst ((((xs.map fun x => V.ref x.2.1).zip (kvs.map (·.1))).mergeSort (dataLe false fun b : V × PyData => b.2)).map (·.1))),
      I1.laid (t' := tk) (fun b u e => ?_) (Nat.le_refl _) ⟨hlz2, out, e', hv2, he'⟩, rfl, q _ _ _ hf (same_new hf) (fun b hb => upd_ne hb) upd_same (imsNew hf him)⟩
    have hb : b < h'.objs.size := Heap.lt_size e
    rw [PyProof.Rows.sortedHeap_old (Nat.ne_of_lt hb) (by rw [Heap.size_push]; exact Nat.lt_succ_of_lt hb)]
    exact Heap.get?_push_of_some _ e
end
section
variable {X : Cx} {pins : List (Addr × Obj)} {σ : St} {H : Hp} {s : Shared} {D : Addr} {kvs : List (PyData × V)} {k : PyData} {y v : V} {u r : Value} {E : Value → Shared → Prop}
theorem n_dictSet {Q : Unit → Shared → Prop} (hu : X.A.units + 65 < cLine) (I : Inv X pins σ H s) (g : DN X.prog X.w H D kvs) (hk : KyD k) (ik : Im H k y) (hz : kvs.length < sizeLine) (ry : RelV y u) (rv : RelV v r)
    (h : ∀ o s', DN X.prog X.w (upd H D o) D (putK kvs k v) → Inv X pins σ (upd H D o) s' → Q () s') : wpAny (model X.prog X.w) X.A (dictSet D u r) Q E s := by
  obtain ⟨b, rfl⟩ := hk.ref ik
  cases (show u = Value.ref b from ry)
  obtain ⟨hd, xs, rel, z, dd⟩ := dr_of I.hok g.dr
  refine wpAny_dictSet_heap (hsz := z) (knd := nestedKind X.prog X.w) (show X.A.units + 8 < cLine by omega) (key_im I.hok hk ik) dd fun h' dd' hs => ?_
  obtain ⟨o, d', I'⟩ := n_made I g hd (kvs' := putK kvs k v) (by have := length_putK kvs k v; omega) (keys_put g.2.1) (rel.put hk ik rv) dd' hs
  exact h o _ d' I'
end
/-- {k: v for target in iter}, the keys tuples: D the new dict -/
def Dcl (P : Program) (w : World) (J : It) (g : TG) (tt : TT) (tk tv : TE) (vs : List Nat) (σ : St) (D : Addr) (H : Hp) (Q : Hp → Prop) : Prop := ∃ W : Nat → Nat → Hp → Prop, (∃ m, W 0 m (upd H D (dnO P w D []))) ∧ ∀ i m H, W i m H →
  (J.stop i H ∧ Q H) ∨ (J.go i H ∧ ∃ Nx : Hp → Prop, (∀ H', Nx H' → ∃ m', m' < m ∧ W (i + 1) m' H') ∧ ∀ x H', J.yld i H x H' → g x (wipe σ vs) H' fun σ2 H2 => wipe σ2 vs = wipe σ vs ∧ tt σ2 H2 fun b H3 =>
    if b = true then tk σ2 H3 fun y H4 => tv σ2 H4 fun z H5 => ∃ kvs k, DN P w H5 D kvs ∧ KyD k ∧ Im H5 k y ∧ kvs.length < sizeLine ∧ ∀ o, DN P w (upd H5 D o) D (putK kvs k z) → Nx (upd H5 D o) else Nx H3)
def tDcN (P : Program) (w : World) (wi : TI) (g : TG) (tt : TT) (tk tv : TE) (vs : List Nat) : TE := fun σ H Q => wi σ H fun J H1 => ∀ D, H1 D = none → Dcl P w J g tt tk tv vs σ D H1 (fun H2 => Q (.ref D) H2)
section
open PySem.Spec PyProof.Rows
variable {X : Cx}
theorem dcn_core {P : Program} {w : World} (hP : X.prog = P) (hw : X.w = w) (hu : X.A.units + 65 < cLine) {pins : List (Addr × Obj)} {s : Shared} {σ : L2.St} {H : Hp} {Q : VK} {kx vx tg iter : Expr} {ifs : List Expr} {scope : Scope} {own : List (Str × Nat)} {pos pos' : Pos} {wi : TI} {g : TG} {tt : TT} {tk tv : TE} {use : Option (Value → Sem Unit)} {Qf : Value → Shared → Prop}
    (hc : X.calm = true) (hN : X.N.Nodup) (I : Inv X pins σ H s) (hi : PI X tg iter wi) (ok : BlkOk X.N X.env.scope scope own)
    (hg : ∀ (s : Shared) (H : Hp) (C : Addr) (cl : List (Str × Addr)) (fp : List Addr), PG (X.blk s H scope (compEnvC scope cl C X.env) fp) tg g) (ht : ∀ (s : Shared) (H : Hp) (C : Addr) (cl : List (Str × Addr)) (fp : List Addr), PTs (X.blk s H scope (compEnvC scope cl C X.env) fp) ifs tt)
    (hk : ∀ (s : Shared) (H : Hp) (C : Addr) (cl : List (Str × Addr)) (fp : List Addr), PE (X.blk s H scope (compEnvC scope cl C X.env) fp) kx tk)
    (he : ∀ (s : Shared) (H : Hp) (C : Addr) (cl : List (Str × Addr)) (fp : List Addr), PE (X.blk s H scope (compEnvC scope cl C X.env) fp) vx tv) (hs : ∀ x, foldedSetIterable iter X.env x = pure x)
    (h : tDcN P w wi g tt tk tv (own.map (·.2)) σ H Q)
    (hRR : ∀ D C s' m H', Inv X pins σ H' s' → Q (.ref D) H' → s'.heap.Ns C m → FpOk X pins H' C → compPost (model X.prog X.w) X.A X.xe use Qf (.ref D) C (.ok .next) s') :
    wpAny (model X.prog X.w) X.A (comprehension (.DictComp kx vx [⟨tg, iter, ifs, 0⟩] scope pos) scope X.env pos' newDict false (eval iter X.env) use) Qf X.xe s := by
  subst hP hw
  have hfree : ∀ y ∈ scope.names, y.2 = .free → ∃ c, X.env.cells.lookup y.1 = some c := fun y hy e => by
    rcases ok.free y hy e with z | z
    · exact I.ok.has _ (.inl z)
    · exact I.ok.has _ (.inr z)
  refine wpAny_comprehension_free (use := use) rfl hs (closure_ok hfree) ok.kind (fun y hy e => by rw [ok.uniq y hy, e]) (thn (hi.run pins s σ H _ I h) fun xv s1 hx => thn hx fun itv s2 h2 => ?_)
  obtain ⟨it, fp, tn, J, H2, e, I2, T, st2, f2, q⟩ := h2
  subst e
  refine wpAny_newObj_type (newEnv_comp ?_)
  generalize hD : s2.heap.objs.size = D
  have hDn : H2 D = none := I2.hok.fresh (Nat.le_of_eq hD)
  obtain ⟨W, ⟨m0, w0⟩, turn⟩ := q D hDn
  generalize hs3 : ({ s2 with heap := s2.heap.push { cls := .type "dict", data := .dict #[] } } : Shared) = s3
  have I3 : Inv X pins σ (upd H2 D (dnO X.prog X.w D [])) s3 := by
    rw [← hs3]
    refine I2.laid (t' := s2.toks) (fun b o e => Heap.get?_push_of_some _ e) (Nat.le_of_eq hD) ?_
    rw [← hD]
    exact dn_okN (beq_eq_false_iff_ne.mpr (Ne.symm (Nat.ne_of_lt I2.big))) (Heap.DictOfH.new _)
  have h3 : s3.heap = s2.heap.push { cls := .type "dict", data := .dict #[] } := by rw [← hs3]
  have f3 : ∀ b ∈ fp, FpOk X pins (upd H2 D (dnO X.prog X.w D [])) b ∧ b < s3.heap.objs.size := fun b hb => by
    obtain ⟨ob, eb, _⟩ := T.obj _ _ st2 b hb
    have hlt := Heap.lt_size eb
    refine ⟨⟨?_, (f2 b hb).2⟩, by rw [h3, Heap.size_push]; exact Nat.lt_succ_of_lt hlt⟩
    rw [upd_ne (by rw [← hD]; exact Nat.ne_of_lt hlt)]
    exact (f2 b hb).1
  have st3 : tn 0 s3.heap := T.keep _ _ _ st2 fun b _ o e => by rw [h3]; exact Heap.get?_push_of_some _ e
  have I4 := block_start I3 ok hN f3
  have pg := hg s3 (upd H2 D (dnO X.prog X.w D [])) s3.heap.objs.size (cellsFrom (s3.heap.objs.size + 1) scope.names (cloFrom X.env.cells scope.names [])) fp
  have pt := ht s3 (upd H2 D (dnO X.prog X.w D [])) s3.heap.objs.size (cellsFrom (s3.heap.objs.size + 1) scope.names (cloFrom X.env.cells scope.names [])) fp
  have pk := hk s3 (upd H2 D (dnO X.prog X.w D [])) s3.heap.objs.size (cellsFrom (s3.heap.objs.size + 1) scope.names (cloFrom X.env.cells scope.names [])) fp
  have pe := he s3 (upd H2 D (dnO X.prog X.w D [])) s3.heap.objs.size (cellsFrom (s3.heap.objs.size + 1) scope.names (cloFrom X.env.cells scope.names [])) fp
  show codeAny _ _ (.compStart (.DictComp kx vx [⟨tg, iter, ifs, 0⟩] scope pos) 0 (.ref it) (.ref D) (compEnvC scope (cellsFrom (s3.heap.objs.size + 1) scope.names (cloFrom X.env.cells scope.names [])) s3.heap.objs.size X.env)) (compPost (model X.prog X.w) X.A X.xe use Qf (.ref D) s3.heap.objs.size) { s3 with heap := pushCells (s3.heap.push { cls := .type "dict", data := .dict #[] }) scope.names }
  have nfp : ∀ b ∈ fp, (upd H2 D (dnO X.prog X.w D [])) b = none := fun b hb => (f3 b hb).1.1
  generalize hce : compEnvC scope (cellsFrom (s3.heap.objs.size + 1) scope.names (cloFrom X.env.cells scope.names [])) s3.heap.objs.size X.env = ce at I4 pg pt pk pe ⊢
  have cL : ce.locals = s3.heap.objs.size := by subst hce; rfl
  generalize hH3 : upd H2 D (dnO X.prog X.w D []) = H3 at I3 I4 pg pt pk pe w0 nfp f3
  generalize hs4 : ({ s3 with heap := pushCells (s3.heap.push { cls := .type "dict", data := .dict #[] }) scope.names } : Shared) = s4 at I4 ⊢
  have st4 : tn 0 s4.heap := T.keep _ _ _ st3 fun b _ o e => by rw [← hs4]; exact pushCells_keeps _ _ _ _ (Heap.get?_push_of_some _ e)
  have stat : ∀ {σ' : L2.St} {H' : Hp} {s' : Shared}, Inv (X.blk s3 H3 scope ce fp) [] σ' H' s' → (∀ b ∈ fp, H' b = none) → ∀ b ∈ fp, FpOk (X.blk s3 H3 scope ce fp) [] H' b := fun {σ' H' s'} I' hn b hb =>
    ⟨hn b hb, (I'.ok.exf b hb).1, I'.ok.exfs b hb, .inl hb, fun x c e => (I'.ok.exf b hb).2 x c e, fun p hp => absurd (show p ∈ ([] : List (Addr × Obj)) ++ [] from hp) (by simp)⟩
  have loop : codeAny (model X.prog X.w) X.A (.compLoop (.DictComp kx vx [⟨tg, iter, ifs, 0⟩] scope pos) 0 (.ref it) (.ref D) ce) (compPost (model X.prog X.w) X.A X.xe use Qf (.ref D) s3.heap.objs.size) s4 := by
    refine compLoop_anyD (fun n s' => ∃ i H', Inv (X.blk s3 H3 scope ce fp) [] (wipe σ (own.map (·.2))) H' s' ∧ tn i s'.heap ∧ (∀ b ∈ fp, H' b = none) ∧ W i n H') ?_ m0 ⟨0, H3, I4, st4, nfp, w0⟩
    rintro n s5 ⟨i, H5, I5, st5, n5, w5⟩
    rcases turn i n H5 w5 with ⟨stop, qq⟩ | ⟨go, Nx, hNx, step⟩
    · have td := T.done (X.blk s3 H3 scope ce fp) rfl rfl rfl hc i [] s5 _ H5 (fun _ _ => False) I5 (stat I5 n5) st5 stop
      refine thnF td fun r s6 ⟨hr, I6⟩ => ?_
      subst hr
      have I7 : Inv X pins σ H5 s6 := I3.call' (ch := fp) I6.os I6.base I6.hok I6.bare fun b hb => ⟨(f3 b hb).1.2.2.2.1, (f3 b hb).1.2.1, (f3 b hb).1.2.2.2.2.1, (f3 b hb).1.2.2.2.2.2⟩
      have nC : H5 s3.heap.objs.size = none := by
        have z : H5 ce.locals = none := I6.free
        rw [cL] at z
        exact z
      obtain ⟨m, hn, _⟩ := I6.loc
      have hn : s6.heap.Ns ce.locals m := hn
      rw [cL] at hn
      exact hRR D s3.heap.objs.size s6 m H5 I7 qq hn (I3.fpOk (Nat.le_refl _) nC)
    · have ti := T.item (X.blk s3 H3 scope ce fp) rfl rfl rfl hc i [] s5 _ H5 (fun _ _ => False) I5 (stat I5 n5) st5 go
      refine thnF ti fun r s6 ⟨u, hr, h6⟩ => ?_
      subst hr
      refine thnF h6 fun _ s7 ⟨x, H7, I7, r7, y7, st7, n7⟩ => ?_
      have I7' := I7.pinned (stat I7 n7) (T.obj _ _ st7)
      refine thnF (pg.run _ s7 _ H7 x u _ I7' r7 (step x H7 y7)) fun _ s8 ⟨σ8, H8, I8, hw8, q8⟩ => ?_
      refine thnF (pt.run _ s8 σ8 H8 _ I8 q8) fun b s9 ⟨H9, I9, q9⟩ => ?_
      have fin : ∀ {s' : Shared} {H' : Hp}, Inv (X.blk s3 H3 scope ce fp) ([] ++ pinsAt fp s7.heap) σ8 H' s' → Nx H' → ∃ m, m < n ∧ ∃ i H', Inv (X.blk s3 H3 scope ce fp) [] (wipe σ (own.map (·.2))) H' s' ∧ tn i s'.heap ∧ (∀ b ∈ fp, H' b = none) ∧ W i m H' := fun {s' H'} I' nx => by
        obtain ⟨m', hm, w'⟩ := hNx H' nx
        have pin' : ∀ b ∈ fp, ∀ o, s7.heap.get? b = some o → s'.heap.get? b = some o ∧ H' b = none := fun b hb o e =>
          let z := I'.pin (b, o) (List.mem_append_right _ (List.mem_append_right _ (mem_pinsAt hb e)))
          ⟨z.1, z.2.1⟩
        have hl : (wipe σ (own.map (·.2))).length = σ8.length := by rw [← hw8, wipe_length]
        refine ⟨m', hm, i + 1, H', (I'.unpinned (pins := [])).weak hl (fun j v e => ?_), T.keep _ _ _ st7 fun b hb o e => (pin' b hb o e).1, fun b hb => ?_, w'⟩
        · rw [← hw8] at e
          exact (wipe_some e).1
        · obtain ⟨o, e, _⟩ := T.obj _ _ st7 b hb
          exact (pin' b hb o e).2
      cases b with
      | false =>
        simp only [Bool.false_eq_true, if_false] at q9 ⊢
        exact fin I9 q9
      | true =>
        simp only [if_true] at q9 ⊢
        refine thnF (pk.run _ s9 σ8 H9 _ I9 q9) fun z s10 ⟨yk, H10, I10, r10, q10⟩ => ?_
        refine thnF (pe.run _ s10 σ8 H10 _ I10 q10) fun z2 s11 ⟨yv, H11, I11, r11, kvs, k, g11, hk11, ik11, hz11, nx⟩ => ?_
        exact n_dictSet (X := X.blk s3 H3 scope ce fp) hu I11 g11 hk11 ik11 hz11 r10 r11 fun o s12 d12 I12 => fin I12 (nx o d12)
  exact codeAny_compStart_dict loop (T.self X.A 0 _ _ _ st4 loop)
theorem pe_dcN {P : Program} {w : World} {kx vx tg iter : Expr} {ifs : List Expr} {scope : Scope} {own : List (Str × Nat)} {pos : Pos} {wi : TI} {g : TG} {tt : TT} {tk tv : TE} (hu : X.A.units + 65 < cLine) (hc : X.calm = true) (hN : X.N.Nodup) (hi : PI X tg iter wi) (ok : BlkOk X.N X.env.scope scope own)
    (hg : ∀ (s : Shared) (H : Hp) (C : Addr) (cl : List (Str × Addr)) (fp : List Addr), PG (X.blk s H scope (compEnvC scope cl C X.env) fp) tg g) (ht : ∀ (s : Shared) (H : Hp) (C : Addr) (cl : List (Str × Addr)) (fp : List Addr), PTs (X.blk s H scope (compEnvC scope cl C X.env) fp) ifs tt)
    (hk : ∀ (s : Shared) (H : Hp) (C : Addr) (cl : List (Str × Addr)) (fp : List Addr), PE (X.blk s H scope (compEnvC scope cl C X.env) fp) kx tk)
    (he : ∀ (s : Shared) (H : Hp) (C : Addr) (cl : List (Str × Addr)) (fp : List Addr), PE (X.blk s H scope (compEnvC scope cl C X.env) fp) vx tv) (hs : ∀ x, foldedSetIterable iter X.env x = pure x := by intro _; rfl) (hP : X.prog = P := by rfl) (hw : X.w = w := by rfl) :
    PE X (.DictComp kx vx [⟨tg, iter, ifs, 0⟩] scope pos) (tDcN P w wi g tt tk tv (own.map (·.2))) := by
  refine ⟨fun pins s σ H Q I h => ?_⟩
  rw [arm_eval_DictComp]
  refine dcn_core hP hw hu hc hN I hi ok hg ht hk he hs h fun D C s' m H' I' q hn f => ⟨m, hn, fun h'' sb => ?_⟩
  obtain ⟨f0, f1, f2, f3, f4, f5⟩ := f
  exact ⟨.ref D, H', I'.turned (t' := s'.toks) (fun b o hb e => (sb.2 b hb).trans e) f0 f1 f3 f4 f5, rfl, q⟩
end
theorem Dcl.tup {P : Program} {w : World} {K : PySem.W.Frag} {a : Addr} {g : TG} {tt : TT} {tk tv : TE} {vs : List Nat} {σ : St} {H1 : Hp} {D : Addr} {Qd : Hp → Prop} (xs : List V) (Pv : Nat → Hp → Prop) (h0 : Pv 0 (upd H1 D (dnO P w D []))) (hl : ∀ i H, i ≤ xs.length → Pv i H → SqT K H a xs)
    (hs : ∀ i x H, xs[i]? = some x → Pv i H → g x (wipe σ vs) H fun σ2 H2 => wipe σ2 vs = wipe σ vs ∧ tt σ2 H2 fun b H3 =>
      if b = true then tk σ2 H3 fun y H4 => tv σ2 H4 fun z H5 => ∃ kvs k, DN P w H5 D kvs ∧ KyD k ∧ Im H5 k y ∧ kvs.length < sizeLine ∧ ∀ o, DN P w (upd H5 D o) D (putK kvs k z) → Pv (i + 1) (upd H5 D o) else Pv (i + 1) H3)
    (hd : ∀ H, Pv xs.length H → Qd H) : Dcl P w (Itt K a) g tt tk tv vs σ D H1 Qd := by
  refine ⟨fun i m H => m = xs.length - i ∧ i ≤ xs.length ∧ Pv i H, ⟨xs.length, by simp, Nat.zero_le _, h0⟩, ?_⟩
  rintro i m H ⟨rfl, hi, p⟩
  have q := hl i H hi p
  by_cases hlt : i < xs.length
  · exact .inr ⟨⟨xs, xs[i], q, by simp [hlt]⟩, Pv (i + 1), fun H' p' => ⟨xs.length - (i + 1), by omega, rfl, hlt, p'⟩, fun x H' y => by
      obtain ⟨e, y⟩ := y
      subst e
      exact hs i x _ (y xs q) p⟩
  · have e : i = xs.length := by omega
    subst e
    exact .inl ⟨⟨xs, q, Nat.le_refl _⟩, hd H p⟩
/-! ### for k in d, d locked -/
section
open PySem.Spec PyProof.Rows
variable {X : Cx} {pins : List (Addr × Obj)} {σ : L2.St} {H : Hp} {s : Shared} {d : Addr} {o : Obj} {kvs : List (PyData × V)}
def DF (P : Program) (w : World) (H : Hp) (d : Addr) (o : Obj) (kvs : List (PyData × V)) : Prop := kvs.length ≤ sizeLine ∧ (kvs.map (·.1)).Nodup ∧ ∃ xs, H d = some (.frz o (dnO P w d xs)) ∧ KN H kvs xs
theorem DF.dr {P : Program} {w : World} (f : DF P w H d o kvs) : DR P w H d kvs := by
  obtain ⟨h1, h2, xs, h3, h4⟩ := f
  exact ⟨h1, h2, xs, .inr ⟨o, h3⟩, h4⟩
theorem frzN (I : Inv X pins σ H s) (f : DF X.prog X.w H d o kvs) :
    (d == sysModules) = false ∧ s.heap.get? d = some o ∧ o.ExactDict ∧ ∃ (es : Array DictEntry) (ep : Nat), o.data = .dict es ep ∧ es.size = kvs.length ∧
      ∀ (i : Nat) (k : PyData) (v : V), kvs[i]? = some (k, v) → ∃ (en : DictEntry) (q : Addr), es[i]? = some en ∧ en.key = .ref q ∧ Im H k (.ref q) := by
  obtain ⟨_, _, xs, h3, h4⟩ := f
  obtain ⟨hg, ⟨⟨hd, o', es, ep, e1, e2, e3, e4, _⟩, _⟩⟩ := I.hok d _ h3
  rw [hg] at e1
  cases e1
  refine ⟨hd, hg, e2, es, ep, e3, ?_, fun i k v e => ?_⟩
  · rw [size_of_entries e4, ← h4.len]
  · obtain ⟨b, hb, z1, z2, z3, _⟩ := paired_get (show Paired _ kvs xs from h4) e
    have q := entry_at e4 i
    rw [hb] at q
    exact ⟨_, b.2.1, q, rfl, z3⟩
def Itn (P : Program) (w : World) (d : Addr) (o : Obj) (kvs : List (PyData × V)) : It :=
  ⟨fun i H => DF P w H d o kvs ∧ i < kvs.length, fun i H x H' => H' = H ∧ ∃ k v, kvs[i]? = some (k, v) ∧ Im H k x, fun i H => DF P w H d o kvs ∧ kvs.length ≤ i⟩
theorem turn_keysN {P : Program} {w : World} {K : PySem.W.Frag} {tg : Expr} {es : Array DictEntry} {ep : Nat} (it : Addr) (hod : o.data = .dict es ep) : Turn P w K tg (Itn P w d o kvs) [it] it (fun i h => h.IsKeyIter it d i kvs.length ep) where
  mem := by simp
  obj := fun i h st b hb => by
    have e : b = it := by simpa using hb
    subst e
    obtain ⟨oi, e, c, dd⟩ := st
    exact ⟨oi, e, fun v z => by rw [dd] at z; cases z⟩
  keep := fun i h h' st k => st.at fun oi e => k it (by simp) oi e
  item := by
    intro X hP hw hK hc i pins s σ H E I hf st hg
    subst hP hw hK
    obtain ⟨hd, hi⟩ := hg
    obtain ⟨f0, f1, f2, f3, f4, f5⟩ := hf it (by simp)
    obtain ⟨hs, hgd, hx, es', ep', hdt, hsz, ent⟩ := frzN I hd
    obtain ⟨rfl, rfl⟩ := dict_ep hod hdt
    obtain ⟨⟨k, v⟩, hkv⟩ : ∃ p, kvs[i]? = some p := ⟨kvs[i], List.getElem?_eq_getElem hi⟩
    obtain ⟨en, q, hen, hkey, hq⟩ := ent i k v hkv
    refine next_key_item st hgd hdt hsz hen fun h' st' sb => ?_
    have I1 : Inv X pins σ H { s with heap := h' } := I.turned (t' := s.toks) (fun b ob hb e => (sb.2 b hb).trans e) f0 f1 f3 f4 f5
    obtain ⟨oi, e, c, dd⟩ := id st'
    exact ⟨en.key, rfl, go_of (s := { s with heap := h' }) e c dd (by decide) ⟨.ref q, H, I1, hkey, ⟨rfl, k, v, hkv, hq⟩, st', fun b hb => (hf b hb).1⟩⟩
  done := by
    intro X hP hw hK hc i pins s σ H E I hf st hg
    subst hP hw hK
    obtain ⟨hd, hi⟩ := hg
    obtain ⟨f0, f1, f2, f3, f4, f5⟩ := hf it (by simp)
    obtain ⟨hs, hgd, hx, es', ep', hdt, hsz, ent⟩ := frzN I hd
    obtain ⟨rfl, rfl⟩ := dict_ep hod hdt
    exact next_key_end (I.ok.hd hc) st hgd hdt hsz hi fun h' eb => ⟨rfl, I.turned (t' := s.toks) (fun b ob hb e => eb b ob hb e) f0 f1 f3 f4 f5⟩
  self := fun A i s Q E st h => wpAny_pyIter_keyiter st h
def iKeysN (P : Program) (w : World) (td : TE) : TI := fun σ H R => td σ H fun x H1 => ∃ d o kvs, x = .ref d ∧ DF P w H1 d o kvs ∧ R (Itn P w d o kvs) H1
theorem pi_keysN {P : Program} {w : World} {tg e : Expr} {td : TE} (he : PE X e td) (hP : X.prog = P := by rfl) (hw : X.w = w := by rfl) : PI X tg e (iKeysN P w td) := by
  subst hP hw
  refine ⟨fun pins s σ H R I h => ?_⟩
  refine thn (he.run pins s σ H _ I h) fun u s1 ⟨x, H1, I1, rx, d, o, kvs, ex, hd, q⟩ => ?_
  subst ex
  obtain rfl : u = Value.ref d := rx
  obtain ⟨hs, hgd, hx, es, ep, hdt, hsz, ent⟩ := frzN I1 hd
  refine iter_keys hs hgd hx hdt (pi_one (tk := s1.toks) I1 _ (turn_keysN _ hdt) ⟨_, Heap.get?_push_size _ rfl, rfl, ?_⟩ q)
  rw [hsz] <;> rfl
end
theorem Loop.keysN {P : Program} {w : World} {d : Addr} {o : Obj} {kvs : List (PyData × V)} {g : TG} {tb : TS} {D : Ends} {σ : L2.St} {H : Hp} (Pv : Nat → L2.St → Hp → Prop) (h0 : Pv 0 σ H) (hl : ∀ i σ H, i ≤ kvs.length → Pv i σ H → DF P w H d o kvs)
    (hs : ∀ i k v x σ H, kvs[i]? = some (k, v) → Im H k x → Pv i σ H → g x σ H fun σ2 H2 => tb { D with nx := Pv (i + 1), ct := Pv (i + 1), bk := D.nx } σ2 H2) (hd : ∀ σ H, Pv kvs.length σ H → D.nx σ H) : Loop (Itn P w d o kvs) g tb D σ H := by
  refine ⟨fun i m σ H => m = kvs.length - i ∧ i ≤ kvs.length ∧ Pv i σ H, ⟨kvs.length, by simp, Nat.zero_le _, h0⟩, ?_⟩
  rintro i m σ H ⟨rfl, hi, p⟩
  by_cases hlt : i < kvs.length
  · refine .inr ⟨⟨hl i σ H hi p, hlt⟩, Pv (i + 1), fun σ' H' p' => ⟨kvs.length - (i + 1), by omega, rfl, hlt, p'⟩, fun x H' y => ?_⟩
    obtain ⟨e, k, v, hk, im⟩ := y
    subst e
    exact hs i k v x σ _ hk im p
  · have e : i = kvs.length := by omega
    subst e
    exact .inl ⟨⟨hl _ σ H (Nat.le_refl _) p, Nat.le_refl _⟩, hd σ H p⟩
/-- o.f within a comprehension: the facts' base is named -/
theorem pe_fldK {X : Cx} {K : PySem.W.Frag} {e : Expr} {f : Str} {pos : Pos} {ta : TE} (he : PE X e ta) (hb : attributeBase e f X.env (eval e X.env) = eval e X.env) (hK : X.K = K := by rfl) : PE X (.Attribute e f pos) (tFld K ta f) := by
  subst hK; exact pe_fld he hb
theorem atI4 {α : Type} {x y z t u : α} {xs : List α} : atI (x :: y :: z :: t :: u :: xs) 4 = some u := atI_nat (j := 4) rfl
theorem atI5 {α : Type} {x y z t u v : α} {xs : List α} : atI (x :: y :: z :: t :: u :: v :: xs) 5 = some v := atI_nat (j := 5) rfl
/-! ### pairs of ints; what stays behind a change of an object -/
def tD (t : Int × Int) : PyData := .tuple [.int t.1, .int t.2]
theorem tD_pl (w : Int × Int) : pl 1 (tD w) = true := by simp [tD, pl, plAll]
theorem tD_inj {a b : Int × Int} (h : tD a = tD b) : a = b := by
  obtain ⟨a1, a2⟩ := a; obtain ⟨b1, b2⟩ := b
  simp only [tD, PyData.tuple.injEq, List.cons.injEq, PyData.int.injEq, and_true] at h
  obtain ⟨h1, h2⟩ := h
  subst h1; subst h2; rfl
theorem tD_eqv (a b : Int × Int) : PyData.eqv (tD a) (tD b) = decide (a = b) := by
  rw [pl_eqv_dec (tD_pl a) (tD_pl b)]
  by_cases h : a = b
  · subst h; simp
  · rw [decide_eq_false h, decide_eq_false fun e => h (tD_inj e)]
theorem tD_shaped (a : Int × Int) : SeqAt.shaped (tD a) = true := pl_shaped (tD_pl a)
/-- all but what stands at p and l is as it was; nothing is lost -/
structure Bt (p l : Addr) (H H' : Hp) : Prop where
  keep : ∀ b o, H b = some o → b ≠ p → b ≠ l → H' b = some o
  non : ∀ b, H' b = none → H b = none
theorem Bt.refl (p l : Addr) (H : Hp) : Bt p l H H := ⟨fun _ _ e _ _ => e, fun _ e => e⟩
theorem Bt.of {p l : Addr} {H H' : Hp} (s : Same H H') : Bt p l H H' := ⟨fun b o e _ _ => s b o e, fun b e => by
  cases z : H b with
  | none => rfl
  | some o => rw [s _ _ z] at e; cases e⟩
theorem Bt.trans {p l : Addr} {H H1 H2 : Hp} (a : Bt p l H H1) (b : Bt p l H1 H2) : Bt p l H H2 := ⟨fun c o e n1 n2 => b.keep c o (a.keep c o e n1 n2) n1 n2, fun c e => a.non c (b.non c e)⟩
theorem Bt.same {p l : Addr} {H H1 H2 : Hp} (a : Bt p l H H1) (s : Same H1 H2) : Bt p l H H2 := a.trans (Bt.of s)
theorem Bt.new {p l q : Addr} {H H1 : Hp} {o : HO} (a : Bt p l H H1) (h : H1 q = none) : Bt p l H (upd H1 q o) := a.same (same_new h)
theorem Bt.putP {p l : Addr} {H H1 : Hp} {o : HO} (a : Bt p l H H1) : Bt p l H (upd H1 p o) := ⟨fun c x e n1 n2 => get_ne n1 (a.keep c x e n1 n2), fun c e => a.non c (upd_none e).2⟩
theorem Bt.putL {p l : Addr} {H H1 : Hp} {o : HO} (a : Bt p l H H1) : Bt p l H (upd H1 l o) := ⟨fun c x e n1 n2 => get_ne n2 (a.keep c x e n1 n2), fun c e => a.non c (upd_none e).2⟩
theorem Bt.one {p l : Addr} {H H' : Hp} (a : Bt p p H H') : Bt p l H H' := ⟨fun c x e n1 _ => a.keep c x e n1 n1, a.non⟩
/-- a new list of the def's own is put -/
theorem Bt.putN {p l q : Addr} {H H1 : Hp} {o : HO} (a : Bt p l H H1) (h : H q = none) : Bt p l H (upd H1 q o) := ⟨fun c x e n1 n2 => get_ne (ne_of_none e h) (a.keep c x e n1 n2), fun c e => a.non c (upd_none e).2⟩
theorem filter_take {α : Type} {P : α → Bool} {xs : List α} {i : Nat} {x : α} (h : xs[i]? = some x) : (xs.take (i + 1)).filter P = if P x = true then (xs.take i).filter P ++ [x] else (xs.take i).filter P := by
  rw [take_snoc h, List.filter_append]
  cases e : P x <;> simp [e]
theorem Bt.tk {p l C dx : Addr} {H H' : Hp} {fs : List (Str × V)} {ws : List V} (b : Bt p l H H') (hp : H p = some (.ins C dx fs)) (hl : H l = some (.lst ws)) : Tk H H' := fun c xs e => b.keep c _ e (ne_it hp e).symm (fun z => by subst z; rw [hl] at e; cases e)
theorem Bt.tk1 {p C dx : Addr} {H H' : Hp} {fs : List (Str × V)} (b : Bt p p H H') (hp : H p = some (.ins C dx fs)) : Tk H H' := fun c xs e => b.keep c _ e (ne_it hp e).symm (ne_it hp e).symm
theorem BtD.tk {p l : Addr} {H H' : Hp} {fs : List (Key × V)} {ws : List V} (b : Bt p l H H') (hp : H p = some (.dK fs)) (hl : H l = some (.lst ws)) : Tk H H' := fun c xs e => b.keep c _ e (fun z => by subst z; rw [hp] at e; cases e) (fun z => by subst z; rw [hl] at e; cases e)
theorem ImAll.erase {H : Hp} : ∀ {ds : List PyData} {vs : List V} (j : Nat), ImAll H ds vs → ImAll H (ds.eraseIdx j) (vs.eraseIdx j)
  | [], _, _, h => by simp only [ImAll] at h; subst h; exact im_nil
  | d :: ds, vs, 0, h => by
    simp only [ImAll] at h
    obtain ⟨u, r, rfl, h1, h2⟩ := h
    exact h2
  | d :: ds, vs, j + 1, h => by
    simp only [ImAll] at h
    obtain ⟨u, r, rfl, h1, h2⟩ := h
    exact im_cons h1 (ImAll.erase j h2)
theorem map_erase {α β : Type} (f : α → β) : ∀ (xs : List α) (j : Nat), (xs.map f).eraseIdx j = (xs.eraseIdx j).map f
  | [], _ => rfl
  | _ :: _, 0 => rfl
  | x :: xs, j + 1 => by simp only [List.map_cons, List.eraseIdx_cons_succ]; rw [map_erase f xs j]
/-- the heap with a new instance -/
theorem same_made {H : Hp} {x dx C : Addr} (nx : H x = none) (nd : H dx = none) : Same H (upd (upd H dx (.own x)) x (.ins C dx [])) := fun b o e => by
  rw [upd_ne (ne_of_none e nx), upd_ne (ne_of_none e nd)]; exact e
theorem made_none {H : Hp} {x dx C l : Addr} (h : upd (upd H dx (.own x)) x (.ins C dx []) l = none) : H l = none := (upd_none (upd_none h).2).2
theorem Same.non {H H' : Hp} (s : Same H H') {b : Addr} (h : H' b = none) : H b = none := by
  cases z : H b with
  | none => rfl
  | some o => rw [s _ _ z] at h; cases h
theorem imIns0 {H : Hp} {p dx C : Addr} {d : PyData} {v : V} (hp : H p = none) (hdx : H dx = none) (h : Im H d v) : Im (upd (upd H dx (.own p)) p (.ins C dx [])) d v := Same.im (same_made (C := C) hp hdx) h

theorem ImAll.set {H : Hp} : ∀ {ds : List PyData} {vs : List V} (j : Nat) {d : PyData} {v : V}, ImAll H ds vs → Im H d v → ImAll H (ds.set j d) (vs.set j v)
  | [], _, _, _, _, h, _ => by simp only [ImAll] at h; subst h; exact im_nil
  | d :: ds, vs, 0, _, _, h, i => by
    simp only [ImAll] at h
    obtain ⟨u, r, rfl, h1, h2⟩ := h
    exact im_cons i h2
  | d :: ds, vs, j + 1, _, _, h, i => by
    simp only [ImAll] at h
    obtain ⟨u, r, rfl, h1, h2⟩ := h
    exact im_cons h1 (ImAll.set j h2 i)
/-! ### locks: the data, the mirror -/
abbrev Who := Int × Int × Int
def wD (w : Who) : PyData := .tuple [.tuple [.int w.1, .int w.2.1], .int w.2.2]
def hD : Option Who → PyData
  | none => .none
  | some w => wD w
abbrev Who.tr (w : Who) : Int × Int := (w.1, w.2.1)
abbrev Who.at (w : Who) : Int := w.2.2
theorem wD_pl (w : Who) : pl 2 (wD w) = true := by simp [wD, pl, plAll]
theorem hD_pl (w : Option Who) : pl 2 (hD w) = true := by cases w <;> simp [hD, wD, pl, plAll]
theorem wD_inj {a b : Who} (h : wD a = wD b) : a = b := by
  obtain ⟨a1, a2, a3⟩ := a; obtain ⟨b1, b2, b3⟩ := b
  simp only [wD, PyData.tuple.injEq, List.cons.injEq, PyData.int.injEq, and_true] at h
  obtain ⟨⟨h1, h2⟩, h3⟩ := h
  subst h1; subst h2; subst h3; rfl
theorem hD_inj {a b : Option Who} (h : hD a = hD b) : a = b := by
  cases a <;> cases b
  · rfl
  · simp [hD, wD] at h
  · simp [hD, wD] at h
  · exact congrArg some (wD_inj (by simpa only [hD] using h))
theorem wD_eqv (a b : Who) : PyData.eqv (wD a) (wD b) = decide (a = b) := by
  rw [pl_eqv_dec (wD_pl a) (wD_pl b)]
  by_cases h : a = b
  · subst h; simp
  · rw [decide_eq_false h, decide_eq_false fun e => h (wD_inj e)]
theorem hD_eqv (a b : Option Who) : PyData.eqv (hD a) (hD b) = decide (a = b) := by
  rw [pl_eqv_dec (hD_pl a) (hD_pl b)]
  by_cases h : a = b
  · subst h; simp
  · rw [decide_eq_false h, decide_eq_false fun e => h (hD_inj e)]
theorem wD_shaped (a : Who) : SeqAt.shaped (wD a) = true := pl_shaped (wD_pl a)
theorem hD_shaped (a : Option Who) : SeqAt.shaped (hD a) = true := pl_shaped (hD_pl a)
theorem wDs_shaped (ws : List Who) : SeqAt.shaped (.list (ws.map wD)) = true := pl_shaped (pl_list fun d h => by obtain ⟨w, _, rfl⟩ := List.mem_map.mp h; exact wD_pl w)
theorem wDs_any (ws : List Who) (w : Who) : ((ws.map wD).any fun z => PyData.eqv z (wD w)) = decide (w ∈ ws) := by
  rw [Bool.eq_iff_iff, List.any_eq_true, decide_eq_true_eq]
  constructor
  · rintro ⟨z, hz, e⟩
    obtain ⟨u, hu, rfl⟩ := List.mem_map.mp hz
    rw [wD_eqv, decide_eq_true_eq] at e
    subst e; exact hu
  · intro h
    exact ⟨wD w, List.mem_map_of_mem h, by rw [wD_eqv]; simp⟩
theorem wD_depth (w : Who) : (wD w).depth = 2 := by simp [wD, PyData.depth, PyData.depthAll]
/-- a who as it stands -/
theorem wD_at {H : Hp} {w : Who} {v : V} (i : Im H (wD w) v) : ∃ a t, v = .ref a ∧ H a = some (.tup [t, .int w.2.2]) ∧ Im H (tD w.tr) t := by
  obtain ⟨a, xs, rfl, ha, hx⟩ := im_tupE i
  simp only [ImAll] at hx
  obtain ⟨v1, r1, rfl, h1, v2, r2, rfl, h2, rfl⟩ := hx
  simp only [Im] at h2
  subst h2
  exact ⟨a, v1, rfl, ha, h1⟩
theorem hD_none {H : Hp} {v : V} (i : Im H (hD none) v) : v = .non := by simpa only [hD, Im] using i
theorem hD_ref {H : Hp} {w : Who} {v : V} (i : Im H (hD (some w)) v) : ∃ a t, v = .ref a ∧ H a = some (.tup [t, .int w.2.2]) ∧ Im H (tD w.tr) t := wD_at i
/-- elder than: by the transaction's place, its number, then the attempt -/
def ltW (a b : Who) : Bool := decide (a.1 < b.1 ∨ (a.1 = b.1 ∧ (a.2.1 < b.2.1 ∨ (a.2.1 = b.2.1 ∧ a.2.2 < b.2.2))))
open PySem.W in
theorem wD_alike (a b : Who) : alike (wD a) (wD b) = true := by simp [wD, alike, alikeAll]
open PySem.W in
theorem wD_lt (a b : Who) : dataLt (wD a) (wD b) = ltW a b := by
  obtain ⟨a1, a2, a3⟩ := a; obtain ⟨b1, b2, b3⟩ := b
  show dataLt (.tuple [.tuple [.int a1, .int a2], .int a3]) (.tuple [.tuple [.int b1, .int b2], .int b3]) = _
  rw [dataLt_pair (by simp [alike, alikeAll]) (by simp [alike]), dataLt_ii, dataLt_int]
  have e1 : PyData.eqv (.tuple [.int a1, .int a2]) (.tuple [.int b1, .int b2]) = decide (a1 = b1 ∧ a2 = b2) := by
    rw [Bool.eq_iff_iff]; simp [PyData.eqv, PyData.eqvAll]
  have e2 : PyData.eqv (.int a3) (.int b3) = decide (a3 = b3) := by
    rw [Bool.eq_iff_iff]; simp [PyData.eqv]
  rw [e1, e2]
  unfold ltW
  simp only [decide_eq_true_eq]
  by_cases h1 : a1 = b1 <;> by_cases h2 : a2 = b2 <;> by_cases h3 : a3 = b3
  all_goals simp only [h1, h2, h3, true_and, and_true, if_true, if_false, and_self, false_and, and_false, Int.lt_irrefl, decide_false, false_or, or_false]
  all_goals try rfl
theorem ltW_irr (a : Who) : ltW a a = false := by simp [ltW]
theorem ltW_tri {a b : Who} (h1 : ltW a b = false) (h2 : ltW b a = false) : a = b := by
  obtain ⟨a1, a2, a3⟩ := a; obtain ⟨b1, b2, b3⟩ := b
  simp only [ltW, decide_eq_false_iff_not] at h1 h2
  have : a1 = b1 ∧ a2 = b2 ∧ a3 = b3 := by omega
  obtain ⟨rfl, rfl, rfl⟩ := this; rfl
theorem ltW_tr {a b c : Who} (h1 : ltW b a = false) (h2 : ltW c b = false) : ltW c a = false := by
  simp only [ltW, decide_eq_false_iff_not] at *
  omega
theorem ltW_tot (a b : Who) : ltW b a = false ∨ ltW a b = false := by
  simp only [ltW, decide_eq_false_iff_not]
  omega
def sortW (ws : List Who) : List Who := ws.mergeSort fun a b => !ltW b a
def minW (w : Who) (ws : List Who) : Who := ws.foldl (fun a y => if ltW y a then y else a) w
open PySem.W in
theorem sortW_map (ws : List Who) : (ws.map wD).mergeSort (fun d e => !dataLt e d) = (sortW ws).map wD := by
  unfold sortW
  rw [← sort_maps (r := fun a b => !ltW b a) (s := fun d e => !dataLt e d) wD fun a _ b _ => by rw [wD_lt]]
open PySem.W in
theorem minW_map (w : Who) (ws : List Who) : minD (wD w) (ws.map wD) = wD (minW w ws) := by
  unfold minD minW
  induction ws generalizing w with
  | nil => rfl
  | cons y ws ih =>
    simp only [List.map_cons, List.foldl_cons, wD_lt]
    rw [← ih]
    congr 1
    split <;> rfl
theorem minW_mem (w : Who) : ∀ ws : List Who, minW w ws ∈ w :: ws := by
  intro ws
  unfold minW
  induction ws generalizing w with
  | nil => simp
  | cons e ds ih =>
    simp only [List.foldl_cons]
    have := ih (if ltW e w = true then e else w)
    rcases List.mem_cons.mp this with h | h
    · rw [h]; split <;> simp
    · simp [h]
theorem minW_le (w : Who) : ∀ ws : List Who, ∀ x ∈ w :: ws, ltW x (minW w ws) = false := by
  intro ws
  unfold minW
  induction ws generalizing w with
  | nil => intro x hx; rw [List.mem_singleton] at hx; subst hx; exact ltW_irr _
  | cons e ds ih =>
    intro x hx
    simp only [List.foldl_cons]
    have h0 := ih (if ltW e w = true then e else w)
    have hh := h0 _ List.mem_cons_self
    rcases List.mem_cons.mp hx with rfl | hx
    · cases he : ltW e x with
      | true =>
        rw [he] at hh
        simp only [if_true] at hh
        have : ltW x e = false := by
          rcases ltW_tot e x with h | h
          · exact h
          · rw [he] at h; cases h
        simp only [if_true]
        exact ltW_tr hh this
      | false =>
        rw [he] at hh
        simpa using hh
    rcases List.mem_cons.mp hx with rfl | hx
    · cases he : ltW x w with
      | true =>
        rw [he] at hh
        simpa using hh
      | false =>
        rw [he] at hh
        simp only [Bool.false_eq_true, if_false] at hh ⊢
        exact ltW_tr hh he
    · exact h0 x (List.mem_cons_of_mem _ hx)
theorem sortW_head (w : Who) (ws : List Who) : ∃ r, sortW (w :: ws) = minW w ws :: r := by
  have hp := List.mergeSort_perm (w :: ws) fun a b => !ltW b a
  have hs : (sortW (w :: ws)).Pairwise fun a b => (!ltW b a) = true := List.pairwise_mergeSort (le := fun a b => !ltW b a)
    (fun a b c h1 h2 => by simp only [Bool.not_eq_true'] at *; exact ltW_tr h1 h2) (fun a b => by
      rcases ltW_tot a b with h | h
      · simp [h]
      · simp [h]) _
  cases e : sortW (w :: ws) with
  | nil =>
    have := hp.length_eq
    unfold sortW at e
    rw [e] at this; simp at this
  | cons x r =>
    rw [e] at hs
    have hx : x ∈ w :: ws := by
      have : x ∈ sortW (w :: ws) := by rw [e]; simp
      exact hp.mem_iff.mp this
    have hm : minW w ws ∈ x :: r := by
      rw [← e]; exact hp.mem_iff.mpr (minW_mem w ws)
    rcases List.mem_cons.mp hm with h | h
    · exact ⟨r, by rw [h]⟩
    · have h1 := (List.pairwise_cons.mp hs).1 _ h
      simp only [Bool.not_eq_true'] at h1
      exact ⟨r, by rw [ltW_tri h1 (minW_le w ws x hx)]⟩
/-- a lock's state -/
structure LS where
  value : Int
  turn : Int
  holder : Option Who
  waiting : List Who
/-- who waits of other transactions, or with a later attempt -/
abbrev LS.left (S : LS) (t : Int × Int) (a : Int) : List Who := S.waiting.filter fun w => decide (w.tr ≠ t ∨ a < w.2.2)
def freeS (S : LS) (t : Int × Int) (a : Int) : LS × List Who :=
  match S.holder with
  | none => (⟨S.value, S.turn, none, S.left t a⟩, [])
  | some h => if h.tr ≠ t ∨ a < h.2.2 then (⟨S.value, S.turn, some h, S.left t a⟩, []) else
    match S.left t a with
    | [] => (⟨S.value, S.turn, none, []⟩, [])
    | w :: ws => (⟨S.value, S.turn + 1, some (minW w ws), (w :: ws).filter fun x => decide (x ≠ minW w ws)⟩, [minW w ws])
def askS (S : LS) (w : Who) : LS × List Who :=
  match (freeS S w.tr (w.2.2 - 1)).1.holder with
  | none => (⟨S.value, (freeS S w.tr (w.2.2 - 1)).1.turn + 1, some w, (freeS S w.tr (w.2.2 - 1)).1.waiting⟩, [w])
  | some h => if h ≠ w ∧ w ∉ (freeS S w.tr (w.2.2 - 1)).1.waiting then
      (⟨S.value, (freeS S w.tr (w.2.2 - 1)).1.turn, some h, (freeS S w.tr (w.2.2 - 1)).1.waiting ++ [w]⟩, (freeS S w.tr (w.2.2 - 1)).2)
    else freeS S w.tr (w.2.2 - 1)
def finS (S : LS) (w : Who) (v : Int) : LS × List Who := if S.holder ≠ some w then (S, []) else freeS { S with value := v } w.tr w.2.2
theorem freeS_value (S : LS) (t : Int × Int) (a : Int) : (freeS S t a).1.value = S.value := by
  unfold freeS; split
  · rfl
  · split
    · rfl
    · split <;> rfl
theorem left_len (S : LS) (t : Int × Int) (a : Int) : (S.left t a).length ≤ S.waiting.length := List.length_filter_le _ _
theorem freeS_len (S : LS) (t : Int × Int) (a : Int) : (freeS S t a).1.waiting.length ≤ S.waiting.length := by
  have h := left_len S t a
  unfold freeS; split
  · exact h
  · split
    · exact h
    · split
      · simp
      · rename_i w ws e
        rw [e] at h
        exact Nat.le_trans (List.length_filter_le _ _) h
theorem freeS_nd (S : LS) (t : Int × Int) (a : Int) (h : S.waiting.Nodup) : (freeS S t a).1.waiting.Nodup := by
  have hl : (S.left t a).Nodup := h.filter _
  unfold freeS; split
  · exact hl
  · split
    · exact hl
    · split
      · exact List.nodup_nil
      · rename_i w ws e
        rw [e] at hl
        show List.Nodup (List.filter _ _)
        exact List.Pairwise.filter _ hl
theorem askS_len (S : LS) (w : Who) : (askS S w).1.waiting.length ≤ S.waiting.length + 1 := by
  have h := freeS_len S w.tr (w.2.2 - 1)
  unfold askS; split
  · exact Nat.le_succ_of_le h
  · split
    · simp; omega
    · omega
theorem askS_nd (S : LS) (w : Who) (h : S.waiting.Nodup) : (askS S w).1.waiting.Nodup := by
  have h := freeS_nd S w.tr (w.2.2 - 1) h
  unfold askS; split
  · exact h
  · split
    · rename_i hh
      exact List.nodup_append.mpr ⟨h, by simp, fun a ha b hb => by rw [List.mem_singleton] at hb; subst hb; rintro rfl; exact hh.2 ha⟩
    · exact h
theorem finS_len (S : LS) (w : Who) (v : Int) : (finS S w v).1.waiting.length ≤ S.waiting.length := by
  unfold finS; split
  · exact Nat.le_refl _
  · exact freeS_len _ _ _
theorem finS_nd (S : LS) (w : Who) (v : Int) (h : S.waiting.Nodup) : (finS S w v).1.waiting.Nodup := by
  unfold finS; split
  · exact h
  · exact freeS_nd _ _ _ h
/-! ### locks on the heap, their plain models -/
def lockF (v t : Int) (h : V) (l : Addr) : List (Str × V) := [(Str.ofString "value", .int v), (Str.ofString "turn", .int t), (Str.ofString "holder", h), (Str.ofString "_waiting", .ref l)]
def LockAt (C : Addr) (H : Hp) (p l : Addr) (S : LS) : Prop := ∃ dx hv ws, H p = some (.ins C dx (lockF S.value S.turn hv l)) ∧ Im H (hD S.holder) hv ∧ H l = some (.lst ws) ∧ ImAll H (S.waiting.map wD) ws
def modF (v t : Int) (h : V) (l : Addr) : List (Key × V) := [(Sum.inr (Str.ofString "value"), .int v), (Sum.inr (Str.ofString "turn"), .int t), (Sum.inr (Str.ofString "holder"), h), (Sum.inr (Str.ofString "waiting"), .ref l)]
def ModAt (H : Hp) (p l : Addr) (S : LS) : Prop := ∃ hv ws, H p = some (.dK (modF S.value S.turn hv l)) ∧ Im H (hD S.holder) hv ∧ H l = some (.lst ws) ∧ ImAll H (S.waiting.map wD) ws
open PySem.W in
theorem wDs_alike (ws : List Who) : AllAlike (ws.map wD) := AllAlike.of wD_alike
open PySem.W in
theorem wDs_sortable (ws : List Who) : Sortable (ws.map wD) := Sortable.tuples fun w => ⟨_, _, rfl⟩
theorem wDs_depth (ws : List Who) : ∀ d ∈ ws.map wD, d.depth ≤ 60 := fun d h => by
  obtain ⟨w, _, rfl⟩ := List.mem_map.mp h
  rw [wD_depth]; decide
theorem ims_who {H : Hp} {ws : List Who} {vs : List V} {i : Nat} {v : V} (h : ImAll H (ws.map wD) vs) (e : vs[i]? = some v) : ∃ w, ws[i]? = some w ∧ Im H (wD w) v := by
  obtain ⟨d, e1, e2⟩ := h.get e
  rw [List.getElem?_map] at e1
  cases q : ws[i]? with
  | none => rw [q] at e1; cases e1
  | some w => rw [q] at e1; cases e1; exact ⟨w, rfl, e2⟩
open PySem.W in
theorem wDs_alikeAll (ws : List Who) : AlikeAll (ws.map wD) := ⟨fun x hx y hy => by
  obtain ⟨a, _, rfl⟩ := List.mem_map.mp hx
  obtain ⟨b, _, rfl⟩ := List.mem_map.mp hy
  exact wD_alike a b, fun x hx => by
  obtain ⟨a, _, rfl⟩ := List.mem_map.mp hx
  simp [wD]⟩
theorem free_no {H H' : Hp} (s : Same H H') {q : Addr} (h : H' q = none) : H q = none := by
  cases z : H q with
  | none => rfl
  | some o => rw [s _ _ z] at h; cases h
section
variable {v t : Int} {h : V} {l : Addr}
theorem mk_value_turn : (Str.ofString "value" = Str.ofString "turn") = False := eq_false (by decide +kernel)
theorem mk_value_holder : (Str.ofString "value" = Str.ofString "holder") = False := eq_false (by decide +kernel)
theorem mk_value_waiting : (Str.ofString "value" = Str.ofString "waiting") = False := eq_false (by decide +kernel)
theorem mk_turn_value : (Str.ofString "turn" = Str.ofString "value") = False := eq_false (by decide +kernel)
theorem mk_turn_holder : (Str.ofString "turn" = Str.ofString "holder") = False := eq_false (by decide +kernel)
theorem mk_turn_waiting : (Str.ofString "turn" = Str.ofString "waiting") = False := eq_false (by decide +kernel)
theorem mk_holder_value : (Str.ofString "holder" = Str.ofString "value") = False := eq_false (by decide +kernel)
theorem mk_holder_turn : (Str.ofString "holder" = Str.ofString "turn") = False := eq_false (by decide +kernel)
theorem mk_holder_waiting : (Str.ofString "holder" = Str.ofString "waiting") = False := eq_false (by decide +kernel)
theorem mk_waiting_value : (Str.ofString "waiting" = Str.ofString "value") = False := eq_false (by decide +kernel)
theorem mk_waiting_turn : (Str.ofString "waiting" = Str.ofString "turn") = False := eq_false (by decide +kernel)
theorem mk_waiting_holder : (Str.ofString "waiting" = Str.ofString "holder") = False := eq_false (by decide +kernel)
theorem modF_len : (modF v t h l).length = 4 := rfl
theorem modF_value : valV (modF v t h l) (Sum.inr (Str.ofString "value")) = some (.int v) := by simp only [modF, valV_cons, Sum.inr.injEq, mk_value_turn, mk_value_holder, mk_value_waiting, mk_turn_value, mk_turn_holder, mk_turn_waiting, mk_holder_value, mk_holder_turn, mk_holder_waiting, mk_waiting_value, mk_waiting_turn, mk_waiting_holder, if_false, if_true]
theorem modF_turn : valV (modF v t h l) (Sum.inr (Str.ofString "turn")) = some (.int t) := by simp only [modF, valV_cons, Sum.inr.injEq, mk_value_turn, mk_value_holder, mk_value_waiting, mk_turn_value, mk_turn_holder, mk_turn_waiting, mk_holder_value, mk_holder_turn, mk_holder_waiting, mk_waiting_value, mk_waiting_turn, mk_waiting_holder, if_false, if_true]
theorem modF_holder : valV (modF v t h l) (Sum.inr (Str.ofString "holder")) = some (h) := by simp only [modF, valV_cons, Sum.inr.injEq, mk_value_turn, mk_value_holder, mk_value_waiting, mk_turn_value, mk_turn_holder, mk_turn_waiting, mk_holder_value, mk_holder_turn, mk_holder_waiting, mk_waiting_value, mk_waiting_turn, mk_waiting_holder, if_false, if_true]
theorem modF_waiting : valV (modF v t h l) (Sum.inr (Str.ofString "waiting")) = some (.ref l) := by simp only [modF, valV_cons, Sum.inr.injEq, mk_value_turn, mk_value_holder, mk_value_waiting, mk_turn_value, mk_turn_holder, mk_turn_waiting, mk_holder_value, mk_holder_turn, mk_holder_waiting, mk_waiting_value, mk_waiting_turn, mk_waiting_holder, if_false, if_true]
theorem modF_put_value {x : Int} : putK (modF v t h l) (Sum.inr (Str.ofString "value")) (.int x) = modF x t h l := by simp only [modF, putK, List.any_cons, List.any_nil, List.map_cons, List.map_nil, Sum.inr.injEq, mk_value_turn, mk_value_holder, mk_value_waiting, mk_turn_value, mk_turn_holder, mk_turn_waiting, mk_holder_value, mk_holder_turn, mk_holder_waiting, mk_waiting_value, mk_waiting_turn, mk_waiting_holder, if_false, if_true, decide_true, decide_false, Bool.or_true, Bool.true_or, Bool.or_false, Bool.false_or]
theorem modF_put_turn {x : Int} : putK (modF v t h l) (Sum.inr (Str.ofString "turn")) (.int x) = modF v x h l := by simp only [modF, putK, List.any_cons, List.any_nil, List.map_cons, List.map_nil, Sum.inr.injEq, mk_value_turn, mk_value_holder, mk_value_waiting, mk_turn_value, mk_turn_holder, mk_turn_waiting, mk_holder_value, mk_holder_turn, mk_holder_waiting, mk_waiting_value, mk_waiting_turn, mk_waiting_holder, if_false, if_true, decide_true, decide_false, Bool.or_true, Bool.true_or, Bool.or_false, Bool.false_or]
theorem modF_put_holder {x : V} : putK (modF v t h l) (Sum.inr (Str.ofString "holder")) (x) = modF v t x l := by simp only [modF, putK, List.any_cons, List.any_nil, List.map_cons, List.map_nil, Sum.inr.injEq, mk_value_turn, mk_value_holder, mk_value_waiting, mk_turn_value, mk_turn_holder, mk_turn_waiting, mk_holder_value, mk_holder_turn, mk_holder_waiting, mk_waiting_value, mk_waiting_turn, mk_waiting_holder, if_false, if_true, decide_true, decide_false, Bool.or_true, Bool.true_or, Bool.or_false, Bool.false_or]
theorem modF_put_waiting {x : Addr} : putK (modF v t h l) (Sum.inr (Str.ofString "waiting")) (.ref x) = modF v t h x := by simp only [modF, putK, List.any_cons, List.any_nil, List.map_cons, List.map_nil, Sum.inr.injEq, mk_value_turn, mk_value_holder, mk_value_waiting, mk_turn_value, mk_turn_holder, mk_turn_waiting, mk_holder_value, mk_holder_turn, mk_holder_waiting, mk_waiting_value, mk_waiting_turn, mk_waiting_holder, if_false, if_true, decide_true, decide_false, Bool.or_true, Bool.true_or, Bool.or_false, Bool.false_or]
theorem modF_merge : mergeK [] (modF v t h l) = modF v t h l := by simp only [mergeK, modF, putK, List.foldl_cons, List.foldl_nil, List.any_cons, List.any_nil, List.nil_append, List.cons_append, Sum.inr.injEq, mk_value_turn, mk_value_holder, mk_value_waiting, mk_turn_value, mk_turn_holder, mk_turn_waiting, mk_holder_value, mk_holder_turn, mk_holder_waiting, mk_waiting_value, mk_waiting_turn, mk_waiting_holder, if_false, if_true, decide_true, decide_false, Bool.or_true, Bool.true_or, Bool.or_false, Bool.false_or, Bool.false_eq_true]
end
theorem erase_who {m : Who} : ∀ {ws : List Who}, ws.Nodup → m ∈ ws → ∃ j, SeqAt.dataPlace (ws.map wD) (wD m) = some j ∧ ws.eraseIdx j = ws.filter fun x => decide (x ≠ m)
  | [], _, h => by simp at h
  | w :: ws, nd, h => by
    by_cases e : w = m
    · subst e
      refine ⟨0, by simp [SeqAt.dataPlace, List.findIdx?_cons, wD_eqv], ?_⟩
      have hn := (List.nodup_cons.mp nd).1
      simp only [List.eraseIdx_cons_zero, List.filter_cons, ne_eq, not_true, decide_false, Bool.false_eq_true, if_false]
      refine (List.filter_eq_self.mpr fun x hx => ?_).symm
      exact decide_eq_true fun z => hn (z ▸ hx)
    · obtain ⟨j, h1, h2⟩ := erase_who (List.nodup_cons.mp nd).2 ((List.mem_cons.mp h).resolve_left fun z => e z.symm)
      refine ⟨j + 1, ?_, ?_⟩
      · unfold SeqAt.dataPlace at h1 ⊢
        rw [List.map_cons, List.findIdx?_cons, wD_eqv, decide_eq_false e]
        simp [h1]
      · simp only [List.eraseIdx_cons_succ, List.filter_cons, ne_eq, e, not_false_eq_true, decide_true, if_true]
        rw [h2]
theorem wDs_plain : ∀ ws : List Who, PyData.plainAll (ws.map wD) = true
  | [] => rfl
  | w :: ws => by
    have := wDs_plain ws
    simp [PyData.plainAll, PyData.plain, wD, this]
theorem wD_plain (w : Who) : (wD w).plain = true := by simp [PyData.plain, PyData.plainAll, wD]
theorem left_not {w : Who} {t : Int × Int} {a : Int} : (¬ (w.tr = t ∧ w.2.2 ≤ a)) ↔ (w.tr ≠ t ∨ a < w.2.2) := by
  constructor
  · intro h
    by_cases e : w.tr = t
    · exact .inr (Int.not_le.mp fun z => h ⟨e, z⟩)
    · exact .inl e
  · rintro (h | h) z
    · exact h z.1
    · omega
theorem kd_fa : (Str.ofString "free" = Str.ofString "ask") = False := eq_false (by decide +kernel)
theorem kd_na : (Str.ofString "finish" = Str.ofString "ask") = False := eq_false (by decide +kernel)
theorem kd_nf : (Str.ofString "finish" = Str.ofString "free") = False := eq_false (by decide +kernel)
theorem sortW_len (ws : List Who) : (sortW ws).length = ws.length := List.length_mergeSort _
/-- a lock and its plain model stand side by side, in one state -/
structure Both (C : Addr) (H : Hp) (p l d m : Addr) (S : LS) : Prop where
  lk : LockAt C H p l S
  md : ModAt H d m S
  ne : l ≠ m
theorem LockAt.same {C p l : Addr} {H H' : Hp} {S : LS} (a : LockAt C H p l S) (s : Same H H') : LockAt C H' p l S := by
  obtain ⟨dx, hv, ws, h1, h2, h3, h4⟩ := a
  exact ⟨dx, hv, ws, s _ _ h1, Same.im s h2, s _ _ h3, Same.ims s h4⟩
theorem ModAt.same {p l : Addr} {H H' : Hp} {S : LS} (a : ModAt H p l S) (s : Same H H') : ModAt H' p l S := by
  obtain ⟨hv, ws, h1, h2, h3, h4⟩ := a
  exact ⟨hv, ws, s _ _ h1, Same.im s h2, s _ _ h3, Same.ims s h4⟩
theorem Both.same {C p l d m : Addr} {H H' : Hp} {S : LS} (a : Both C H p l d m S) (s : Same H H') : Both C H' p l d m S := ⟨a.lk.same s, a.md.same s, a.ne⟩
/-- a change elsewhere -/
theorem LockAt.keep {C p l : Addr} {H H' : Hp} {S : LS} (a : LockAt C H p l S) (tk : Tk H H') (k : ∀ b o, H b = some o → (b = p ∨ b = l) → H' b = some o) : LockAt C H' p l S := by
  obtain ⟨dx, hv, ws, h1, h2, h3, h4⟩ := a
  exact ⟨dx, hv, ws, k _ _ h1 (.inl rfl), Im.mono tk _ _ h2, k _ _ h3 (.inr rfl), ImAll.mono tk _ _ h4⟩
theorem ModAt.keep {p l : Addr} {H H' : Hp} {S : LS} (a : ModAt H p l S) (tk : Tk H H') (k : ∀ b o, H b = some o → (b = p ∨ b = l) → H' b = some o) : ModAt H' p l S := by
  obtain ⟨hv, ws, h1, h2, h3, h4⟩ := a
  exact ⟨hv, ws, k _ _ h1 (.inl rfl), Im.mono tk _ _ h2, k _ _ h3 (.inr rfl), ImAll.mono tk _ _ h4⟩
theorem freeS_out (S : LS) (t : Int × Int) (a : Int) : (freeS S t a).2.length ≤ 1 := by
  unfold freeS; split
  · simp
  · split
    · simp
    · split <;> simp
theorem askS_out (S : LS) (w : Who) : (askS S w).2.length ≤ 1 := by
  unfold askS; split
  · simp
  · split
    · exact freeS_out _ _ _
    · exact freeS_out _ _ _
theorem finS_out (S : LS) (w : Who) (v : Int) : (finS S w v).2.length ≤ 1 := by
  unfold finS; split
  · simp
  · exact freeS_out _ _ _
theorem made_both {C p dx l d m : Addr} {Hs H1 H2 : Hp} {S : LS} (hp : Hs p = none) (hdx : Hs dx = none) (hl : upd (upd Hs dx (.own p)) p (.ins C dx []) l = none) (L1 : LockAt C H1 p l S) (b1 : Bt p p (upd (upd Hs dx (.own p)) p (.ins C dx [])) H1)
    (hd : H1 d = none) (hm : H1 m = none) (M2 : ModAt H2 d m S) (s2 : Same H1 H2) : Both C H2 p l d m S ∧ Same Hs H2 ∧ Hs l = none ∧ Hs d = none ∧ Hs m = none := by
  have s0 := same_made (C := C) hp hdx
  have sH1 : Same Hs H1 := fun b o e => b1.keep b o (s0 b o e) (ne_of_none e hp) (ne_of_none e hp)
  refine ⟨⟨L1.same s2, M2, ?_⟩, sH1.trans s2, made_none hl, made_none (b1.non _ hd), made_none (b1.non _ hm)⟩
  obtain ⟨dx1, hv, ws, h1, h2, h3, h4⟩ := L1
  exact ne_of_none h3 hm/-! ### sorted does not look at the order that was -/
section
open PySem.W
theorem dataLt_tri {n m : Nat} {d e : PyData} (ha : alike d e = true) (hd : pl n d = true) (he : pl m e = true) (h1 : dataLt d e = false) (h2 : dataLt e d = false) : d = e := by
  have ht : keyToks d = keyToks e := PyProof.Rows.lex_total _ _ h1 h2
  by_cases z : PyData.eqv d e = true
  · exact (pl_eqv _ _ _ _ hd he).mp z
  · have z : PyData.eqv d e = false := by simpa using z
    have q := (toks_eqv d e ha).2 z [] [.inl 0]
    have q2 : dataLt d e = true := by
      rw [show dataLt d e = _ from q.symm, ht]
      rw [lex_pre]; rfl
    rw [h1] at q2; cases q2
theorem dataLe_tr (a b c : PyData) (h1 : (!dataLt b a) = true) (h2 : (!dataLt c b) = true) : (!dataLt c a) = true := by
  simp only [Bool.not_eq_true'] at *
  cases h : dataLt c a with
  | false => rfl
  | true => rcases PyProof.Rows.lex_negTrans _ (keyToks b) _ h with x | x
            · exact absurd (show dataLt c b = true from x) (by simp [h2])
            · exact absurd (show dataLt b a = true from x) (by simp [h1])
theorem dataLe_tot (a b : PyData) : ((!dataLt b a) || (!dataLt a b)) = true := by
  cases h : dataLt b a with
  | false => rfl
  | true =>
    cases h2 : dataLt a b with
    | false => rfl
    | true =>
      have := PyProof.Rows.lex_trans _ _ _ h2 h
      rw [PyProof.Rows.lex_irrefl] at this; cases this
theorem sortD_sorted (ds : List PyData) : (ds.mergeSort fun d e => !dataLt e d).Pairwise fun d e => (!dataLt e d) = true := List.pairwise_mergeSort dataLe_tr dataLe_tot ds
theorem sort_perm {n : Nat} {ds es : List PyData} (p : ds.Perm es) (al : AllAlike ds) (h : ∀ d ∈ ds, pl n d = true) : (ds.mergeSort fun d e => !dataLt e d) = es.mergeSort fun d e => !dataLt e d := by
  have p1 := List.mergeSort_perm ds fun d e => !dataLt e d
  have p2 := List.mergeSort_perm es fun d e => !dataLt e d
  refine List.Perm.eq_of_pairwise (le := fun d e => (!dataLt e d) = true) ?_ (sortD_sorted ds) (sortD_sorted es) ((p1.trans p).trans p2.symm)
  intro a b ha hb h1 h2
  have ha' := p1.mem_iff.mp ha
  have hb' := p.mem_iff.mpr (p2.mem_iff.mp hb)
  simp only [Bool.not_eq_true'] at h1 h2
  exact dataLt_tri (al a ha' b hb') (h a ha') (h b hb') h2 h1
end
/-! ### frames: what may change -/
structure Fr (ow : Addr → Prop) (H H' : Hp) : Prop where
  keep : ∀ b o, H b = some o → ¬ ow b → H' b = some o
  non : ∀ b, H' b = none → H b = none
  tk : Tk H H'
theorem Fr.refl {ow : Addr → Prop} {H : Hp} : Fr ow H H := ⟨fun _ _ e _ => e, fun _ e => e, Tk.refl H⟩
theorem Fr.of {ow : Addr → Prop} {H H' : Hp} (s : Same H H') : Fr ow H H' := ⟨fun b o e _ => s b o e, fun _ e => Same.non s e, Same.tk s⟩
theorem Fr.trans {ow ow1 : Addr → Prop} {H H1 H2 : Hp} (a : Fr ow H H1) (b : Fr ow1 H1 H2) (h : ∀ c, ow1 c → ow c ∨ H c = none) : Fr ow H H2 :=
  ⟨fun c o e n => b.keep c o (a.keep c o e n) fun z => (h c z).elim n fun y => (by rw [e] at y; cases y), fun c e => a.non c (b.non c e), a.tk.trans b.tk⟩
theorem Fr.mono {ow ow1 : Addr → Prop} {H H1 : Hp} (a : Fr ow H H1) (h : ∀ c, ow c → ow1 c ∨ H c = none) : Fr ow1 H H1 :=
  ⟨fun c o e n => a.keep c o e fun z => (h c z).elim n fun y => (by rw [e] at y; cases y), a.non, a.tk⟩
theorem Fr.same {ow : Addr → Prop} {H H1 H2 : Hp} (a : Fr ow H H1) (s : Same H1 H2) : Fr ow H H2 := a.trans (ow1 := fun _ => False) (Fr.of s) fun _ z => z.elim
/-! ### keys, pairs of key and transaction -/
structure Ky where
  h : Int
  n : Str
  ok : PyData.strOk n = true
noncomputable instance : DecidableEq Ky := fun a b => Classical.propDecidable (a = b)
abbrev Pr := Ky × (Int × Int)
noncomputable instance : DecidableEq Pr := fun a b => Classical.propDecidable (a = b)
def kyD (k : Ky) : PyData := .tuple [.int k.h, .str k.n]
def prD (p : Pr) : PyData := .tuple [kyD p.1, tD p.2]
theorem kyD_inj {a b : Ky} (h : kyD a = kyD b) : a = b := by
  obtain ⟨a1, a2, _⟩ := a; obtain ⟨b1, b2, _⟩ := b
  simp only [kyD, PyData.tuple.injEq, List.cons.injEq, PyData.int.injEq, PyData.str.injEq, and_true] at h
  obtain ⟨h1, h2⟩ := h
  subst h1; subst h2; rfl
theorem prD_inj {a b : Pr} (h : prD a = prD b) : a = b := by
  obtain ⟨a1, a2⟩ := a; obtain ⟨b1, b2⟩ := b
  simp only [prD, PyData.tuple.injEq, List.cons.injEq, and_true] at h
  obtain ⟨h1, h2⟩ := h
  have e1 := kyD_inj h1
  have e2 := tD_inj h2
  subst e1; subst e2; rfl
theorem kyD_pl (k : Ky) : pl 1 (kyD k) = true := by simp [kyD, pl, plAll, k.ok]
theorem prD_pl (p : Pr) : pl 2 (prD p) = true := by simp [prD, kyD, tD, pl, plAll, p.1.ok]
theorem kyD_ky (k : Ky) : KyD (kyD k) := ⟨by simp [kyD, kyOk, kyAll], _, rfl⟩
theorem prD_ky (p : Pr) : KyD (prD p) := ⟨by simp [prD, kyD, tD, kyOk, kyAll], _, rfl⟩
open PySem.W in
theorem kyD_alike (a b : Ky) : alike (kyD a) (kyD b) = true := by simp [kyD, alike, alikeAll]
open PySem.W in
theorem prD_alike (a b : Pr) : alike (prD a) (prD b) = true := by simp [prD, kyD, tD, alike, alikeAll]
theorem kyD_depth (k : Ky) : (kyD k).depth = 1 := by simp [kyD, PyData.depth, PyData.depthAll]
theorem prD_depth (p : Pr) : (prD p).depth = 2 := by simp [prD, kyD, tD, PyData.depth, PyData.depthAll]
theorem kyD_eqv (a b : Ky) : PyData.eqv (kyD a) (kyD b) = decide (a = b) := by
  rw [pl_eqv_dec (kyD_pl a) (kyD_pl b)]
  by_cases h : a = b
  · subst h; simp
  · rw [decide_eq_false h, decide_eq_false fun e => h (kyD_inj e)]
theorem kyD_at {H : Hp} {k : Ky} {v : V} (i : Im H (kyD k) v) : ∃ a, v = .ref a ∧ H a = some (.tup [.int k.h, .str k.n]) := by
  obtain ⟨a, xs, rfl, ha, hx⟩ := im_tupE i
  simp only [ImAll] at hx
  obtain ⟨v1, r1, rfl, h1, v2, r2, rfl, h2, rfl⟩ := hx
  simp only [Im] at h1 h2
  subst h1; subst h2
  exact ⟨a, rfl, ha⟩
theorem prD_at {H : Hp} {p : Pr} {v : V} (i : Im H (prD p) v) : ∃ a x y, v = .ref a ∧ H a = some (.tup [x, y]) ∧ Im H (kyD p.1) x ∧ Im H (tD p.2) y := by
  obtain ⟨a, xs, rfl, ha, hx⟩ := im_tupE i
  simp only [ImAll] at hx
  obtain ⟨v1, r1, rfl, h1, v2, r2, rfl, h2, rfl⟩ := hx
  exact ⟨a, v1, v2, rfl, ha, h1, h2⟩
theorem tD_at' {H : Hp} {t : Int × Int} {v : V} (i : Im H (tD t) v) : ∃ a, v = .ref a ∧ H a = some (.tup [.int t.1, .int t.2]) := by
  obtain ⟨a, xs, rfl, ha, hx⟩ := im_tupE i
  simp only [ImAll] at hx
  obtain ⟨v1, r1, rfl, h1, v2, r2, rfl, h2, rfl⟩ := hx
  simp only [Im] at h1 h2
  subst h1; subst h2
  exact ⟨a, rfl, ha⟩
/-! ### tables by lists of keys -/
section
variable {κ : Type} [DecidableEq κ]
def addK (l : List κ) (k : κ) : List κ := if k ∈ l then l else l ++ [k]
theorem addK_mem {l : List κ} {k j : κ} : j ∈ addK l k ↔ j ∈ l ∨ j = k := by
  unfold addK; split
  · rename_i h
    constructor
    · exact .inl
    · rintro (z | rfl)
      · exact z
      · exact h
  · rw [List.mem_append, List.mem_singleton]
theorem addK_len (l : List κ) (k : κ) : (addK l k).length ≤ l.length + 1 := by unfold addK; split <;> simp
theorem addK_nd {l : List κ} {k : κ} (h : l.Nodup) : (addK l k).Nodup := by
  unfold addK; split
  · exact h
  · rename_i z
    exact List.nodup_append.mpr ⟨h, by simp, fun a ha b hb => by rw [List.mem_singleton] at hb; subst hb; rintro rfl; exact z ha⟩
theorem addK_perm {l m : List κ} (p : l.Perm m) (k : κ) : (addK l k).Perm (addK m k) := by
  unfold addK
  by_cases h : k ∈ l
  · rw [if_pos h, if_pos (p.mem_iff.mp h)]; exact p
  · rw [if_neg h, if_neg fun z => h (p.mem_iff.mpr z)]; exact p.append_right _
def setF {β : Type} (f : κ → β) (k : κ) (b : β) : κ → β := fun j => if j = k then b else f j
theorem setF_same {β : Type} {f : κ → β} {k : κ} {b : β} : setF f k b k = b := if_pos rfl
theorem setF_ne {β : Type} {f : κ → β} {k j : κ} {b : β} (h : j ≠ k) : setF f k b j = f j := if_neg h
theorem setF_id {β : Type} {f : κ → β} {k : κ} : setF f k (f k) = f := by
  funext j; unfold setF; split
  · rename_i h; rw [h]
  · rfl
theorem valV_map' {f : κ → PyData} (hf : ∀ {a b}, f a = f b → a = b) {g : κ → V} {k : κ} : ∀ {l : List κ}, valV (l.map fun j => (f j, g j)) (f k) = if k ∈ l then some (g k) else none
  | [] => by simp [valV]
  | j :: l => by
    rw [List.map_cons]
    by_cases e : j = k
    · subst e; rw [valV_pos rfl, if_pos List.mem_cons_self]
    · rw [valV_neg (fun z => e (hf z)), valV_map' hf]
      by_cases h : k ∈ l
      · rw [if_pos h, if_pos (List.mem_cons_of_mem _ h)]
      · rw [if_neg h, if_neg]
        intro z
        rcases List.mem_cons.mp z with z | z
        · exact e z.symm
        · exact h z
theorem putK_map' {f : κ → PyData} (hf : ∀ {a b}, f a = f b → a = b) {g : κ → V} {k : κ} {v : V} {l : List κ} : putK (l.map fun j => (f j, g j)) (f k) v = (addK l k).map fun j => (f j, setF g k v j) := by
  have e : ((l.map fun j => (f j, g j)).any fun kv => decide (kv.1 = f k)) = decide (k ∈ l) := by
    rw [valV_any, valV_map' hf]
    by_cases h : k ∈ l <;> simp [h]
  unfold putK addK
  rw [e]
  by_cases h : k ∈ l
  · rw [decide_eq_true h, if_pos rfl, if_pos h, List.map_map]
    refine List.map_congr_left fun j _ => ?_
    show (if f j = f k then (f j, v) else (f j, g j)) = (f j, setF g k v j)
    by_cases z : j = k
    · subst z; rw [if_pos rfl, setF_same]
    · rw [if_neg (fun y => z (hf y)), setF_ne z]
  · rw [decide_eq_false h, if_neg (by simp), if_neg h, List.map_append]
    have : l.map (fun j => (f j, setF g k v j)) = l.map fun j => (f j, g j) := List.map_congr_left fun j hj => by rw [setF_ne (by rintro rfl; exact h hj)]
    rw [this]
    simp [setF]
end
/-! ### shelves: the mirror -/
structure SS where
  st : Ky → LS
  pa : Pr → Int
def LS0 : LS := ⟨0, 0, none, []⟩
def gmD (w : Who) (k : Ky) (turn value : Int) : PyData := .tuple [.int w.2.1, .tuple [.str (Str.ofString "granted"), tD w.tr, .int w.2.2, kyD k, .int turn, .int value]]
def bmD (w : Who) (k : Ky) (turn : Int) (h : Who) : PyData := .tuple [.int w.2.1, .tuple [.str (Str.ofString "behind"), tD w.tr, .int w.2.2, kyD k, .int turn, tD h.tr, .int h.2.2]]
def fmD (s : Str) (w : Who) (k : Ky) : PyData := .tuple [.int w.2.1, .tuple [.str s, tD w.tr, .int w.2.2, kyD k]]
/-- what tells a who how it stands -/
def stateD (L : LS) (k : Ky) (w : Who) : PyData := match L.holder with
  | none => .none
  | some h => if h = w then gmD w k L.turn L.value else bmD w k L.turn h
def changesD (L : LS) (k : Ky) (g : List Who) : List PyData := if g = [] then [] else (g ++ sortW L.waiting).map (stateD L k)
inductive Kd | ask | free | finish
  deriving DecidableEq
def Kd.s : Kd → Str
  | .ask => Str.ofString "ask"
  | .free => Str.ofString "free"
  | .finish => Str.ofString "finish"
structure Bd where
  kd : Kd
  w : Who
  k : Ky
  v : Int
def Bd.more (b : Bd) : List PyData := if b.kd = .finish then [.int b.v] else []
def bdD (b : Bd) : PyData := .tuple (.str b.kd.s :: tD b.w.tr :: .int b.w.2.2 :: kyD b.k :: b.more)
noncomputable def noteS (S : SS) (k : Ky) (w : Who) : SS := ⟨S.st, setF S.pa (k, w.tr) (if w.2.2 < S.pa (k, w.tr) then S.pa (k, w.tr) else w.2.2)⟩
noncomputable def lockS (S : SS) (k : Ky) (L : LS) : SS := ⟨setF S.st k L, S.pa⟩
noncomputable def askH (S : SS) (k : Ky) (w : Who) : SS × List PyData :=
  if w.2.2 ≤ S.pa (k, w.tr) then (S, []) else
    (lockS S k (askS (S.st k) w).1, if (askS (S.st k) w).2 = [] then [stateD (askS (S.st k) w).1 k w] else changesD (askS (S.st k) w).1 k (askS (S.st k) w).2)
noncomputable def freeH (S : SS) (k : Ky) (w : Who) : SS × List PyData :=
  (lockS (noteS S k w) k (freeS (S.st k) w.tr w.2.2).1, changesD (freeS (S.st k) w.tr w.2.2).1 k (freeS (S.st k) w.tr w.2.2).2 ++ [fmD (Str.ofString "freed") w k])
noncomputable def finN (S : SS) (k : Ky) (w : Who) : SS := if (S.st k).holder = some w then noteS S k w else S
noncomputable def finH (S : SS) (k : Ky) (w : Who) (v : Int) : SS × List PyData :=
  (lockS (finN S k w) k (finS (S.st k) w v).1, if (finN S k w).pa (k, w.tr) < w.2.2 then [] else changesD (finS (S.st k) w v).1 k (finS (S.st k) w v).2 ++ [fmD (Str.ofString "finished") w k])
noncomputable def handH (S : SS) (b : Bd) : SS × List PyData := match b.kd with
  | .ask => askH S b.k b.w
  | .free => freeH S b.k b.w
  | .finish => finH S b.k b.w b.v
/-- the pairs that are there behind a body -/
noncomputable def psH (S : SS) (ps : List Pr) (b : Bd) : List Pr := match b.kd with
  | .ask => ps
  | .free => addK ps (b.k, b.w.tr)
  | .finish => if (S.st b.k).holder = some b.w then addK ps (b.k, b.w.tr) else ps
theorem askS_none {L : LS} {w : Who} (h : (askS L w).2 = []) : ∃ x, (askS L w).1.holder = some x := by
  unfold askS at h ⊢
  split at h
  · cases h
  · rename_i x e
    split at h
    · rename_i c
      rw [if_pos c]; exact ⟨x, rfl⟩
    · rename_i c
      rw [if_neg c]; exact ⟨x, e⟩
theorem freeS_some {L : LS} {t : Int × Int} {a : Int} (h : (freeS L t a).2 ≠ []) : ∃ x, (freeS L t a).1.holder = some x := by
  unfold freeS at h ⊢
  split at h
  · exact absurd rfl h
  · split at h
    · exact absurd rfl h
    · rename_i c
      rw [if_neg c]
      split at h
      · exact absurd rfl h
      · exact ⟨_, rfl⟩
theorem askS_some {L : LS} {w : Who} : ∃ x, (askS L w).1.holder = some x := by
  by_cases h : (askS L w).2 = []
  · exact askS_none h
  · unfold askS at h ⊢
    split
    · exact ⟨_, rfl⟩
    · rename_i x e
      split
      · exact ⟨_, rfl⟩
      · exact ⟨_, e⟩
theorem finS_some {L : LS} {w : Who} {v : Int} (h : (finS L w v).2 ≠ []) : ∃ x, (finS L w v).1.holder = some x := by
  unfold finS at h ⊢
  split at h
  · exact absurd rfl h
  · rename_i c
    rw [if_neg c]; exact freeS_some h
theorem msg_pl : PyData.strOk (Str.ofString "granted") = true ∧ PyData.strOk (Str.ofString "behind") = true ∧ PyData.strOk (Str.ofString "freed") = true ∧ PyData.strOk (Str.ofString "finished") = true := by decide +kernel
theorem stateD_pl (L : LS) (k : Ky) (w : Who) : pl 4 (stateD L k w) = true := by
  obtain ⟨h1, h2, _, _⟩ := msg_pl
  unfold stateD
  split
  · simp [pl]
  · split
    · simp [gmD, tD, kyD, pl, plAll, h1, k.ok]
    · simp [bmD, tD, kyD, pl, plAll, h2, k.ok]
theorem changesD_pl (L : LS) (k : Ky) (g : List Who) : ∀ d ∈ changesD L k g, pl 4 d = true := by
  unfold changesD
  split
  · intro d h; simp at h
  · intro d h
    obtain ⟨w, _, rfl⟩ := List.mem_map.mp h
    exact stateD_pl L k w
theorem fmD_pl1 (w : Who) (k : Ky) : pl 4 (fmD (Str.ofString "freed") w k) = true := by
  obtain ⟨_, _, h, _⟩ := msg_pl
  simp [fmD, tD, kyD, pl, plAll, h, k.ok]
theorem fmD_pl2 (w : Who) (k : Ky) : pl 4 (fmD (Str.ofString "finished") w k) = true := by
  obtain ⟨_, _, _, h⟩ := msg_pl
  simp [fmD, tD, kyD, pl, plAll, h, k.ok]
theorem handH_pl (S : SS) (b : Bd) : ∀ d ∈ (handH S b).2, pl 4 d = true := by
  unfold handH
  split
  · unfold askH
    split
    · intro d h; simp at h
    · intro d h
      simp only [] at h
      split at h
      · rw [List.mem_singleton] at h; rw [h]; exact stateD_pl _ _ _
      · exact changesD_pl _ _ _ d h
  · intro d h
    rcases List.mem_append.mp h with h | h
    · exact changesD_pl _ _ _ d h
    · rw [List.mem_singleton] at h; rw [h]; exact fmD_pl1 _ _
  · unfold finH
    intro d h
    simp only [] at h
    split at h
    · simp at h
    · rcases List.mem_append.mp h with h | h
      · exact changesD_pl _ _ _ d h
      · rw [List.mem_singleton] at h; rw [h]; exact fmD_pl2 _ _
/-! ### shelves, and their plain models, on the heap -/
def shF (L Pd : Addr) : List (Str × V) := [(Str.ofString "_locks", .ref L), (Str.ofString "_past", .ref Pd)]
def mdF (L Pd : Addr) : List (Key × V) := [(Sum.inr (Str.ofString "locks"), .ref L), (Sum.inr (Str.ofString "past"), .ref Pd)]
/-- a row's description -/
structure RowD (R : Hp → Addr → Addr → LS → Prop) : Prop where
  keep : ∀ {H H' : Hp} {p l : Addr} {S : LS}, R H p l S → Tk H H' → (∀ b o, H b = some o → (b = p ∨ b = l) → H' b = some o) → R H' p l S
  some1 : ∀ {H : Hp} {p l : Addr} {S : LS}, R H p l S → ∃ o, H p = some o
  list : ∀ {H : Hp} {p l : Addr} {S : LS}, R H p l S → ∃ ws, H l = some (.lst ws)
  obj : ∀ {H : Hp} {p l : Addr} {S : LS}, R H p l S → (∃ C dx fs, H p = some (.ins C dx fs)) ∨ ∃ fs, H p = some (.dK fs)
theorem rowLock (C : Addr) : RowD (LockAt C) := ⟨fun a t k => a.keep t k, fun ⟨dx, hv, ws, h, _⟩ => ⟨_, h⟩, fun ⟨dx, hv, ws, _, _, h, _⟩ => ⟨_, h⟩, fun ⟨dx, hv, ws, h, _⟩ => .inl ⟨_, _, _, h⟩⟩
theorem rowMod : RowD ModAt := ⟨fun a t k => a.keep t k, fun ⟨hv, ws, h, _⟩ => ⟨_, h⟩, fun ⟨hv, ws, _, _, h, _⟩ => ⟨_, h⟩, fun ⟨hv, ws, h, _⟩ => .inr ⟨_, h⟩⟩
structure Shv (P : Program) (w : World) (R : Hp → Addr → Addr → LS → Prop) (H : Hp) (L Pd : Addr) (ks : List Ky) (lk ll : Ky → Addr) (ps : List Pr) (S : SS) : Prop where
  dl : DN P w H L (ks.map fun k => (kyD k, V.ref (lk k)))
  dp : DN P w H Pd (ps.map fun q => (prD q, V.int (S.pa q)))
  nLP : L ≠ Pd
  at_ : ∀ k ∈ ks, R H (lk k) (ll k) (S.st k)
  nk : ∀ j ∈ ks, ∀ k ∈ ks, j ≠ k → lk j ≠ lk k ∧ ll j ≠ ll k
  s0 : ∀ k, k ∉ ks → S.st k = LS0
  p0 : ∀ q, q ∉ ps → S.pa q = 0
/-- what it stands on -/
def shOw (L Pd : Addr) (ks : List Ky) (lk ll : Ky → Addr) : Addr → Prop := fun b => b = L ∨ b = Pd ∨ ∃ k ∈ ks, b = lk k ∨ b = ll k
section
variable {P : Program} {w : World} {R : Hp → Addr → Addr → LS → Prop} {H H' : Hp} {L Pd : Addr} {ks : List Ky} {lk ll : Ky → Addr} {ps : List Pr} {S : SS}
theorem Shv.keep (h : Shv P w R H L Pd ks lk ll ps S) (rd : RowD R) (t : Tk H H') (k : ∀ b o, H b = some o → shOw L Pd ks lk ll b → H' b = some o) : Shv P w R H' L Pd ks lk ll ps S :=
  { h with
    dl := h.dl.keep (fun o e => k _ o e (.inl rfl)) t
    dp := h.dp.keep (fun o e => k _ o e (.inr (.inl rfl))) t
    at_ := fun j hj => rd.keep (h.at_ j hj) t fun b o e z => k b o e (.inr (.inr ⟨j, hj, z⟩)) }
theorem Shv.same (h : Shv P w R H L Pd ks lk ll ps S) (rd : RowD R) (s : Same H H') : Shv P w R H' L Pd ks lk ll ps S := h.keep rd (Same.tk s) fun b o e _ => s b o e
theorem Shv.fr {ow : Addr → Prop} (h : Shv P w R H L Pd ks lk ll ps S) (rd : RowD R) (f : Fr ow H H') (n : ∀ b, shOw L Pd ks lk ll b → ¬ ow b) : Shv P w R H' L Pd ks lk ll ps S := h.keep rd f.tk fun b o e z => f.keep b o e (n b z)
/-- what it stands on is there -/
theorem Shv.there (h : Shv P w R H L Pd ks lk ll ps S) (rd : RowD R) : ∀ b, shOw L Pd ks lk ll b → ∃ o, H b = some o := by
  rintro b (rfl | rfl | ⟨k, hk, rfl | rfl⟩)
  · exact h.dl.ex
  · exact h.dp.ex
  · exact rd.some1 (h.at_ k hk)
  · obtain ⟨ws, e⟩ := rd.list (h.at_ k hk)
    exact ⟨_, e⟩
theorem Shv.fresh (h : Shv P w R H L Pd ks lk ll ps S) (rd : RowD R) {q : Addr} (hq : H q = none) : ¬ shOw L Pd ks lk ll q := fun z => by
  obtain ⟨o, e⟩ := h.there rd q z
  rw [hq] at e; cases e
theorem Shv.notTup (h : Shv P w R H L Pd ks lk ll ps S) (rd : RowD R) : ∀ b xs, shOw L Pd ks lk ll b → H b ≠ some (.tup xs) := by
  rintro b xs (rfl | rfl | ⟨k, hk, rfl | rfl⟩) e
  · exact h.dl.ne_t e rfl
  · exact h.dp.ne_t e rfl
  · rcases rd.obj (h.at_ k hk) with ⟨C, dx, fs, z⟩ | ⟨fs, z⟩
    · rw [z] at e; cases e
    · rw [z] at e; cases e
  · obtain ⟨ws, z⟩ := rd.list (h.at_ k hk)
    rw [z] at e; cases e
theorem Shv.neL (h : Shv P w R H L Pd ks lk ll ps S) (rd : RowD R) {k : Ky} (hk : k ∈ ks) : lk k ≠ L ∧ ll k ≠ L ∧ lk k ≠ Pd ∧ ll k ≠ Pd := by
  obtain ⟨ws, e⟩ := rd.list (h.at_ k hk)
  rcases rd.obj (h.at_ k hk) with ⟨C, dx, fs, z⟩ | ⟨fs, z⟩
  · exact ⟨h.dl.ne_i z, h.dl.ne_l e, h.dp.ne_i z, h.dp.ne_l e⟩
  · exact ⟨h.dl.ne_d z, h.dl.ne_l e, h.dp.ne_d z, h.dp.ne_l e⟩
theorem Shv.neR (h : Shv P w R H L Pd ks lk ll ps S) (rd : RowD R) {j k : Ky} (hj : j ∈ ks) (hk : k ∈ ks) : lk j ≠ ll k := by
  obtain ⟨ws, e⟩ := rd.list (h.at_ k hk)
  rcases rd.obj (h.at_ j hj) with ⟨C, dx, fs, z⟩ | ⟨fs, z⟩
  · exact ne_il z e
  · exact ne_dl z e
/-- one row has changed -/
theorem Shv.row (h : Shv P w R H L Pd ks lk ll ps S) (rd : RowD R) {k : Ky} (hk : k ∈ ks) {l' : Addr} {T : LS} (r : R H' (lk k) l' T) (hl : l' = ll k ∨ H l' = none) (b : Bt (lk k) (ll k) H H') :
    Shv P w R H' L Pd ks lk (setF ll k l') ps (lockS S k T) ∧ Fr (shOw L Pd ks lk ll) H H' ∧ (∀ c, shOw L Pd ks lk (setF ll k l') c → shOw L Pd ks lk ll c ∨ H c = none) := by
  obtain ⟨n1, n2, n3, n4⟩ := h.neL rd hk
  have tk : Tk H H' := fun c xs e => b.keep c _ e (fun z => h.notTup rd _ xs (.inr (.inr ⟨k, hk, .inl rfl⟩)) (z ▸ e)) (fun z => h.notTup rd _ xs (.inr (.inr ⟨k, hk, .inr rfl⟩)) (z ▸ e))
  have hkeep : ∀ j ∈ ks, j ≠ k → R H' (lk j) (ll j) (S.st j) := fun j hj n => rd.keep (h.at_ j hj) tk fun c o e z => by
    obtain ⟨m1, m2⟩ := h.nk j hj k hk n
    rcases z with rfl | rfl
    · exact b.keep _ o e m1 (h.neR rd hj hk)
    · exact b.keep _ o e (h.neR rd hk hj).symm m2
  have nl' : ∀ j ∈ ks, j ≠ k → ll j ≠ l' := fun j hj n => by
    obtain ⟨ws, e⟩ := rd.list (h.at_ j hj)
    rcases hl with rfl | hl
    · exact (h.nk j hj k hk n).2
    · exact ne_of_none e hl
  refine ⟨{ h with dl := h.dl.keep (fun o e => b.keep _ o e n1.symm n2.symm) tk, dp := h.dp.keep (fun o e => b.keep _ o e n3.symm n4.symm) tk, at_ := fun j hj => ?_, nk := fun i hi j hj n => ⟨(h.nk i hi j hj n).1, ?_⟩, s0 := fun j hj => ?_ },
    ⟨fun c o e n => b.keep c o e (fun z => n (.inr (.inr ⟨k, hk, .inl z⟩))) (fun z => n (.inr (.inr ⟨k, hk, .inr z⟩))), b.non, tk⟩, ?_⟩
  · by_cases e : j = k
    · subst e
      show R H' (lk j) (setF ll j l' j) (setF S.st j T j)
      rw [setF_same, setF_same]; exact r
    · show R H' (lk j) (setF ll k l' j) (setF S.st k T j)
      rw [setF_ne e, setF_ne e]; exact hkeep j hj e
  · by_cases e1 : i = k
    · subst e1
      rw [setF_same, setF_ne n.symm]
      exact (nl' j hj n.symm).symm
    · rw [setF_ne e1]
      by_cases e2 : j = k
      · subst e2; rw [setF_same]; exact nl' i hi e1
      · rw [setF_ne e2]; exact (h.nk i hi j hj n).2
  · show setF S.st k T j = LS0
    rw [setF_ne (by rintro rfl; exact hj hk)]; exact h.s0 j hj
  · rintro c (z | z | ⟨j, hj, z | z⟩)
    · exact .inl (.inl z)
    · exact .inl (.inr (.inl z))
    · exact .inl (.inr (.inr ⟨j, hj, .inl z⟩))
    · by_cases e : j = k
      · subst e
        rw [setF_same] at z
        rcases hl with y | y
        · exact .inl (.inr (.inr ⟨j, hj, .inr (z.trans y)⟩))
        · rw [z]; exact .inr y
      · rw [setF_ne e] at z
        exact .inl (.inr (.inr ⟨j, hj, .inr z⟩))
/-- a pair has been noted -/
theorem Shv.note (h : Shv P w R H L Pd ks lk ll ps S) (rd : RowD R) {o : HO} {q : Pr} {x : Int} (d : DN P w (upd H Pd o) Pd (putK (ps.map fun q => (prD q, V.int (S.pa q))) (prD q) (.int x))) :
    Shv P w R (upd H Pd o) L Pd ks lk ll (addK ps q) ⟨S.st, setF S.pa q x⟩ ∧ Fr (shOw L Pd ks lk ll) H (upd H Pd o) := by
  have tk : Tk H (upd H Pd o) := h.dp.tk
  refine ⟨{ h with dl := h.dl.putN h.dp h.nLP, dp := ?_, at_ := fun j hj => ?_, p0 := fun r hr => ?_ }, ⟨fun c o' e n => get_ne (fun z => n (.inr (.inl z))) e, fun c e => (upd_none e).2, tk⟩⟩
  · rw [putK_map' (fun z => prD_inj z)] at d
    have : (fun j => (prD j, setF (fun q => V.int (S.pa q)) q (V.int x) j)) = fun j => (prD j, V.int (setF S.pa q x j)) := by
      funext j; unfold setF; split <;> rfl
    rw [this] at d
    exact d
  · obtain ⟨n1, n2, n3, n4⟩ := h.neL rd hj
    exact rd.keep (h.at_ j hj) tk fun b o' e z => by
      rcases z with rfl | rfl
      · exact get_ne n3 e
      · exact get_ne n4 e
  · show setF S.pa q x r = 0
    have : r ∉ ps ∧ r ≠ q := ⟨fun z => hr (addK_mem.mpr (.inl z)), fun z => hr (addK_mem.mpr (.inr z))⟩
    rw [setF_ne this.2]; exact h.p0 r this.1
/-- a new row has been laid -/
theorem Shv.laid (h : Shv P w R H L Pd ks lk ll ps S) (rd : RowD R) {o : HO} {k : Ky} (hk : k ∉ ks) {p l : Addr} (r : R H p l LS0) (np : ¬ shOw L Pd ks lk ll p) (nl : ¬ shOw L Pd ks lk ll l) (d : DN P w (upd H L o) L (putK (ks.map fun k => (kyD k, V.ref (lk k))) (kyD k) (.ref p))) :
    Shv P w R (upd H L o) L Pd (addK ks k) (setF lk k p) (setF ll k l) ps S := by
  have tk : Tk H (upd H L o) := h.dl.tk
  have npL : p ≠ L := fun z => np (.inl z)
  have nlL : l ≠ L := fun z => nl (.inl z)
  refine { h with dl := ?_, dp := h.dp.putN h.dl h.nLP.symm, at_ := fun j hj => ?_, nk := fun i hi j hj n => ?_, s0 := fun j hj => ?_ }
  · rw [putK_map' (fun z => kyD_inj z)] at d
    have : (fun j => (kyD j, setF (fun k => V.ref (lk k)) k (V.ref p) j)) = fun j => (kyD j, V.ref (setF lk k p j)) := by
      funext j; unfold setF; split <;> rfl
    rw [this] at d
    exact d
  · by_cases e : j = k
    · subst e
      rw [setF_same, setF_same, h.s0 j hk]
      exact rd.keep r tk fun b o' e z => by
        rcases z with rfl | rfl
        · exact get_ne npL e
        · exact get_ne nlL e
    · have hj' : j ∈ ks := (addK_mem.mp hj).resolve_right e
      rw [setF_ne e, setF_ne e]
      obtain ⟨n1, n2, n3, n4⟩ := h.neL rd hj'
      exact rd.keep (h.at_ j hj') tk fun b o' e z => by
        rcases z with rfl | rfl
        · exact get_ne n1 e
        · exact get_ne n2 e
  · have far : ∀ i ∈ ks, i ≠ k → setF lk k p i ≠ p ∧ setF ll k l i ≠ l := fun i hi n => by
      rw [setF_ne n, setF_ne n]
      exact ⟨fun z => np (.inr (.inr ⟨i, hi, .inl z.symm⟩)), fun z => nl (.inr (.inr ⟨i, hi, .inr z.symm⟩))⟩
    by_cases e1 : i = k
    · subst e1
      have hj' : j ∈ ks := (addK_mem.mp hj).resolve_right n.symm
      obtain ⟨f1, f2⟩ := far j hj' n.symm
      rw [setF_same, setF_same]
      exact ⟨f1.symm, f2.symm⟩
    · have hi' : i ∈ ks := (addK_mem.mp hi).resolve_right e1
      by_cases e2 : j = k
      · subst e2
        obtain ⟨f1, f2⟩ := far i hi' e1
        rw [setF_same, setF_same]
        exact ⟨f1, f2⟩
      · have hj' : j ∈ ks := (addK_mem.mp hj).resolve_right e2
        rw [setF_ne e1, setF_ne e1, setF_ne e2, setF_ne e2]
        exact h.nk i hi' j hj' n
  · exact h.s0 j fun z => hj (addK_mem.mpr (.inl z))
theorem shOw_add {k : Ky} {p l : Addr} : ∀ c, shOw L Pd (addK ks k) (setF lk k p) (setF ll k l) c → shOw L Pd ks lk ll c ∨ c = p ∨ c = l := by
  rintro c (z | z | ⟨j, hj, z⟩)
  · exact .inl (.inl z)
  · exact .inl (.inr (.inl z))
  · by_cases e : j = k
    · subst e
      rw [setF_same, setF_same] at z
      exact .inr z
    · rw [setF_ne e, setF_ne e] at z
      exact .inl (.inr (.inr ⟨j, (addK_mem.mp hj).resolve_right e, z⟩))
theorem Shv.get (h : Shv P w R H L Pd ks lk ll ps S) (k : Ky) : valV (ks.map fun k => (kyD k, V.ref (lk k))) (kyD k) = if k ∈ ks then some (.ref (lk k)) else none := valV_map' (fun z => kyD_inj z)
theorem Shv.got (h : Shv P w R H L Pd ks lk ll ps S) (q : Pr) : (valV (ps.map fun q => (prD q, V.int (S.pa q))) (prD q)).getD (.int 0) = .int (S.pa q) := by
  rw [valV_map' (fun z => prD_inj z)]
  by_cases e : q ∈ ps
  · rw [if_pos e]; rfl
  · rw [if_neg e, h.p0 q e]; rfl
end
theorem nd_map {α β : Type} {f : α → β} (hf : ∀ {a b}, f a = f b → a = b) : ∀ {l : List α}, (l.map f).Nodup → l.Nodup
  | [], _ => List.nodup_nil
  | x :: l, h => by
    rw [List.map_cons, List.nodup_cons] at h
    exact List.nodup_cons.mpr ⟨fun z => h.1 (List.mem_map_of_mem z), nd_map hf h.2⟩
theorem Fr.dn {P : Program} {w : World} {ow : Addr → Prop} {H : Hp} {a : Addr} {kvs : List (PyData × V)} {o : HO} (d : DN P w H a kvs) (h : ow a) : Fr ow H (upd H a o) :=
  ⟨fun _ _ e n => get_ne (fun z => n (z ▸ h)) e, fun _ e => (upd_none e).2, d.tk⟩
theorem lockS_st {S : SS} {k : Ky} {L : LS} : (lockS S k L).st k = L := setF_same
/-! ### sorted keys; a shelf as it is kept -/
section
open PySem.W
noncomputable def sortK (ks : List Ky) : List Ky := ks.mergeSort fun a b => !dataLt (kyD b) (kyD a)
noncomputable def sortR (ps : List Pr) : List Pr := ps.mergeSort fun a b => !dataLt (prD b) (prD a)
theorem sortK_map (ks : List Ky) : (ks.map kyD).mergeSort (fun d e => !dataLt e d) = (sortK ks).map kyD := by
  unfold sortK
  rw [← sort_maps (r := fun a b => !dataLt (kyD b) (kyD a)) (s := fun d e => !dataLt e d) kyD fun a _ b _ => rfl]
theorem sortR_map (ks : List Pr) : (ks.map prD).mergeSort (fun d e => !dataLt e d) = (sortR ks).map prD := by
  unfold sortR
  rw [← sort_maps (r := fun a b => !dataLt (prD b) (prD a)) (s := fun d e => !dataLt e d) prD fun a _ b _ => rfl]
theorem map_inj' {α β : Type} {f : α → β} (hf : ∀ {a b}, f a = f b → a = b) : ∀ {xs ys : List α}, xs.map f = ys.map f → xs = ys
  | [], [], _ => rfl
  | [], _ :: _, h => by simp at h
  | _ :: _, [], h => by simp at h
  | x :: xs, y :: ys, h => by
    simp only [List.map_cons, List.cons.injEq] at h
    rw [hf h.1, map_inj' hf h.2]
theorem kys_alike (ks : List Ky) : AllAlike (ks.map kyD) := AllAlike.of kyD_alike
theorem kys_sortable (ks : List Ky) : Sortable (ks.map kyD) := Sortable.tuples fun k => ⟨_, _, rfl⟩
theorem prs_alike (ks : List Pr) : AllAlike (ks.map prD) := AllAlike.of prD_alike
theorem prs_sortable (ks : List Pr) : Sortable (ks.map prD) := Sortable.tuples fun k => ⟨_, _, rfl⟩
theorem kysD_depth (ks : List Ky) : ∀ d ∈ ks.map kyD, d.depth ≤ 60 := fun d h => by obtain ⟨k, _, rfl⟩ := List.mem_map.mp h; rw [kyD_depth]; decide
theorem prs_depth (ks : List Pr) : ∀ d ∈ ks.map prD, d.depth ≤ 60 := fun d h => by obtain ⟨k, _, rfl⟩ := List.mem_map.mp h; rw [prD_depth]; decide
theorem sortK_perm {ks ms : List Ky} (p : ks.Perm ms) : sortK ks = sortK ms := by
  refine map_inj' (f := kyD) (fun z => kyD_inj z) ?_
  rw [← sortK_map, ← sortK_map]
  exact sort_perm (p.map kyD) (kys_alike ks) fun d h => by obtain ⟨k, _, rfl⟩ := List.mem_map.mp h; exact kyD_pl k
theorem sortR_perm {ks ms : List Pr} (p : ks.Perm ms) : sortR ks = sortR ms := by
  refine map_inj' (f := prD) (fun z => prD_inj z) ?_
  rw [← sortR_map, ← sortR_map]
  exact sort_perm (p.map prD) (prs_alike ks) fun d h => by obtain ⟨k, _, rfl⟩ := List.mem_map.mp h; exact prD_pl k
theorem sortK_p (ks : List Ky) : (sortK ks).Perm ks := List.mergeSort_perm _ _
theorem sortR_p (ks : List Pr) : (sortR ks).Perm ks := List.mergeSort_perm _ _
end
def rwD (L : LS) : List PyData := [.int L.value, .int L.turn, hD L.holder]
def rowD (st : Ky → LS) (k : Ky) : PyData := .tuple (kyD k :: rwD (st k))
def patD (pa : Pr → Int) (q : Pr) : PyData := .tuple [kyD q.1, tD q.2, .int (pa q)]
theorem rowD_pl (st : Ky → LS) (k : Ky) : pl 4 (rowD st k) = true := by
  have := hD_pl (st k).holder
  have h2 := k.ok
  unfold rowD rwD
  cases e : (st k).holder <;> simp [hD, wD, kyD, pl, plAll, h2]
theorem patD_pl (pa : Pr → Int) (q : Pr) : pl 4 (patD pa q) = true := by
  have h2 := q.1.ok
  simp [patD, kyD, tD, pl, plAll, h2]
theorem ims_map {α : Type} {f : α → PyData} {H : Hp} {ws : List α} {vs : List V} {i : Nat} {v : V} (h : ImAll H (ws.map f) vs) (e : vs[i]? = some v) : ∃ w, ws[i]? = some w ∧ Im H (f w) v := by
  obtain ⟨d, e1, e2⟩ := h.get e
  rw [List.getElem?_map] at e1
  cases q : ws[i]? with
  | none => rw [q] at e1; cases e1
  | some w => rw [q] at e1; cases e1; exact ⟨w, rfl, e2⟩
theorem rowD_at {H : Hp} {st : Ky → LS} {k : Ky} {v : V} (i : Im H (rowD st k) v) : ∃ a kv hv, v = .ref a ∧ H a = some (.tup [kv, .int (st k).value, .int (st k).turn, hv]) ∧ Im H (kyD k) kv ∧ Im H (hD (st k).holder) hv := by
  obtain ⟨a, xs, rfl, ha, hx⟩ := im_tupE i
  simp only [rwD, ImAll] at hx
  obtain ⟨v1, r1, rfl, h1, v2, r2, rfl, h2, v3, r3, rfl, h3, v4, r4, rfl, h4, rfl⟩ := hx
  simp only [Im] at h2 h3
  subst h2; subst h3
  exact ⟨a, v1, v4, rfl, ha, h1, h4⟩
theorem patD_at {H : Hp} {pa : Pr → Int} {q : Pr} {v : V} (i : Im H (patD pa q) v) : ∃ a kv tv, v = .ref a ∧ H a = some (.tup [kv, tv, .int (pa q)]) ∧ Im H (kyD q.1) kv ∧ Im H (tD q.2) tv := by
  obtain ⟨a, xs, rfl, ha, hx⟩ := im_tupE i
  simp only [ImAll] at hx
  obtain ⟨v1, r1, rfl, h1, v2, r2, rfl, h2, v3, r3, rfl, h3, rfl⟩ := hx
  simp only [Im] at h3
  subst h3
  exact ⟨a, v1, v2, rfl, ha, h1, h2⟩
/-- locks that are being laid -/
structure Lks (P : Program) (w : World) (R : Hp → Addr → Addr → LS → Prop) (H : Hp) (L : Addr) (ks : List Ky) (lk ll : Ky → Addr) (st : Ky → LS) : Prop where
  dl : DN P w H L (ks.map fun k => (kyD k, V.ref (lk k)))
  at_ : ∀ k ∈ ks, R H (lk k) (ll k) (st k)
  nk : ∀ j ∈ ks, ∀ k ∈ ks, j ≠ k → lk j ≠ lk k ∧ ll j ≠ ll k
section
variable {P : Program} {w : World} {R : Hp → Addr → Addr → LS → Prop} {H H' : Hp} {L : Addr} {ks : List Ky} {lk ll : Ky → Addr} {st : Ky → LS}
theorem Lks.keep (h : Lks P w R H L ks lk ll st) (rd : RowD R) (s : Same H H') : Lks P w R H' L ks lk ll st :=
  { h with dl := h.dl.same s, at_ := fun j hj => rd.keep (h.at_ j hj) (Same.tk s) fun b o e _ => s b o e }
theorem Lks.neL (h : Lks P w R H L ks lk ll st) (rd : RowD R) {k : Ky} (hk : k ∈ ks) : lk k ≠ L ∧ ll k ≠ L := by
  obtain ⟨ws, e⟩ := rd.list (h.at_ k hk)
  rcases rd.obj (h.at_ k hk) with ⟨C, dx, fs, z⟩ | ⟨fs, z⟩
  · exact ⟨h.dl.ne_i z, h.dl.ne_l e⟩
  · exact ⟨h.dl.ne_d z, h.dl.ne_l e⟩
theorem Lks.laid (h : Lks P w R H L ks lk ll st) (rd : RowD R) {o : HO} {k : Ky} (hk : k ∉ ks) {p l : Addr} (r : R H p l (st k)) (np : ∀ j ∈ ks, lk j ≠ p) (nl : ∀ j ∈ ks, ll j ≠ l) (npL : p ≠ L) (nlL : l ≠ L)
    (d : DN P w (upd H L o) L (putK (ks.map fun k => (kyD k, V.ref (lk k))) (kyD k) (.ref p))) : Lks P w R (upd H L o) L (ks ++ [k]) (setF lk k p) (setF ll k l) st := by
  have tk : Tk H (upd H L o) := h.dl.tk
  have ea : addK ks k = ks ++ [k] := if_neg hk
  have mem : ∀ {j}, j ∈ ks ++ [k] → j ≠ k → j ∈ ks := fun hj n => (List.mem_append.mp hj).elim id fun z => absurd (List.mem_singleton.mp z) n
  refine ⟨?_, fun j hj => ?_, fun i hi j hj n => ?_⟩
  · rw [putK_map' (fun z => kyD_inj z), ea] at d
    have : (fun j => (kyD j, setF (fun k => V.ref (lk k)) k (V.ref p) j)) = fun j => (kyD j, V.ref (setF lk k p j)) := by
      funext j; unfold setF; split <;> rfl
    rw [this] at d
    exact d
  · by_cases e : j = k
    · subst e
      rw [setF_same, setF_same]
      exact rd.keep r tk fun b o' e z => by
        rcases z with rfl | rfl
        · exact get_ne npL e
        · exact get_ne nlL e
    · have hj' := mem hj e
      rw [setF_ne e, setF_ne e]
      obtain ⟨n1, n2⟩ := h.neL rd hj'
      exact rd.keep (h.at_ j hj') tk fun b o' e z => by
        rcases z with rfl | rfl
        · exact get_ne n1 e
        · exact get_ne n2 e
  · by_cases e1 : i = k
    · subst e1
      have hj' := mem hj n.symm
      rw [setF_same, setF_same, setF_ne n.symm, setF_ne n.symm]
      exact ⟨(np j hj').symm, (nl j hj').symm⟩
    · have hi' := mem hi e1
      by_cases e2 : j = k
      · subst e2
        rw [setF_same, setF_same, setF_ne e1, setF_ne e1]
        exact ⟨np i hi', nl i hi'⟩
      · have hj' := mem hj e2
        rw [setF_ne e1, setF_ne e1, setF_ne e2, setF_ne e2]
        exact h.nk i hi' j hj' n
end
theorem sqT_mono {K : PySem.W.Frag} {H H' : Hp} {a : Addr} {xs : List V} (h : SqT K H a xs) (k : ∀ o, H a = some o → H' a = some o) : SqT K H' a xs := h.imp (fun z => z.imp (fun y => k _ y) fun ⟨o, y⟩ => ⟨o, k _ y⟩) id
theorem nodup_take {α : Type} {l : List α} (h : l.Nodup) {i : Nat} {x : α} (e : l[i]? = some x) : x ∉ l.take i := by
  intro z
  obtain ⟨j, hj, ej⟩ := List.mem_iff_getElem.mp z
  rw [List.length_take] at hj
  rw [List.getElem_take] at ej
  obtain ⟨hi, ei⟩ := List.getElem?_eq_some_iff.mp e
  have := (List.getElem_inj h).mp (ej.trans ei.symm)
  omega
section
variable {L Pd : Addr}
theorem md_lp : (Str.ofString "locks" = Str.ofString "past") = False := eq_false (by decide +kernel)
theorem md_pl : (Str.ofString "past" = Str.ofString "locks") = False := eq_false (by decide +kernel)
theorem mdF_locks : valV (mdF L Pd) (Sum.inr (Str.ofString "locks")) = some (.ref L) := by simp only [mdF, valV_cons, Sum.inr.injEq, if_true]
theorem mdF_past : valV (mdF L Pd) (Sum.inr (Str.ofString "past")) = some (.ref Pd) := by simp only [mdF, valV_cons, Sum.inr.injEq, md_lp, if_false, if_true]
theorem mdF_merge : mergeK [] (mdF L Pd) = mdF L Pd := by simp only [mergeK, mdF, putK, List.foldl_cons, List.foldl_nil, List.any_cons, List.any_nil, List.nil_append, List.cons_append, Sum.inr.injEq, md_lp, md_pl, if_false, if_true, decide_true, decide_false, Bool.or_true, Bool.true_or, Bool.or_false, Bool.false_or, Bool.false_eq_true]
theorem mdF_len : (mdF L Pd).length = 2 := rfl
end
noncomputable def SS0 : SS := ⟨fun _ => LS0, fun _ => 0⟩
theorem max_sw (a b : Int) : (if a > b then a else b) = if a < b then b else a := by
  split <;> split <;> omega
def K1 : Ky := ⟨2, Str.ofString "b", by decide +kernel⟩
def K2 : Ky := ⟨2, Str.ofString "ab", by decide +kernel⟩
def K3 : Ky := ⟨10, Str.ofString "a", by decide +kernel⟩
theorem rowsD_shaped (st : Ky → LS) (ks : List Ky) : SeqAt.shaped (.tuple (ks.map (rowD st))) = true := pl_shaped (pl_tuple fun d h => by obtain ⟨k, _, rfl⟩ := List.mem_map.mp h; exact rowD_pl st k)
theorem patsD_shaped (pa : Pr → Int) (ps : List Pr) : SeqAt.shaped (.tuple (ps.map (patD pa))) = true := pl_shaped (pl_tuple fun d h => by obtain ⟨k, _, rfl⟩ := List.mem_map.mp h; exact patD_pl pa k)
theorem rwD_shaped (L : LS) : SeqAt.shaped (.tuple (rwD L)) = true := pl_shaped (n := 4) (by cases e : L.holder <;> simp [rwD, e, hD, wD, pl, plAll])
/-! ### a shelf and its plain model, side by side -/
structure Sd (P : Program) (w : World) (C CL : Addr) (H0 H : Hp) (p dx L Pd d ML MP : Addr) (ks ms : List Ky) (lk ll md mm : Ky → Addr) (ps qs : List Pr) (S : SS) : Prop where
  hp : H p = some (.ins C dx (shF L Pd))
  hd : H d = some (.dK (mdF ML MP))
  h : Shv P w (LockAt CL) H L Pd ks lk ll ps S
  m : Shv P w ModAt H ML MP ms md mm qs S
  po : ¬ shOw L Pd ks lk ll p
  pm : ¬ shOw ML MP ms md mm p
  dp : ¬ shOw L Pd ks lk ll d
  dm : ¬ shOw ML MP ms md mm d
  ap : ∀ b, shOw L Pd ks lk ll b → ¬ shOw ML MP ms md mm b
  n : ∀ b, shOw L Pd ks lk ll b ∨ shOw ML MP ms md mm b ∨ b = p ∨ b = d → H0 b = none
  sm : Same H0 H
  pk : ks.Perm ms
  pp : ps.Perm qs
section
variable {P : Program} {w : World} {C CL : Addr} {H0 H H1 H2 : Hp} {p dx L Pd d ML MP : Addr} {ks ms : List Ky} {lk ll md mm : Ky → Addr} {ps qs : List Pr} {S : SS}
theorem Sd.same (s : Sd P w C CL H0 H p dx L Pd d ML MP ks ms lk ll md mm ps qs S) (e : Same H H1) : Sd P w C CL H0 H1 p dx L Pd d ML MP ks ms lk ll md mm ps qs S :=
  { s with hp := e _ _ s.hp, hd := e _ _ s.hd, h := s.h.same (rowLock _) e, m := s.m.same rowMod e, sm := s.sm.trans e }
/-- a list that is no part of either is changed -/
theorem Sd.put (s : Sd P w C CL H0 H p dx L Pd d ML MP ks ms lk ll md mm ps qs S) {z : Addr} {xs : List V} {o : HO} (hz : H z = some (.lst xs)) (hz0 : H0 z = none) (n1 : ¬ shOw L Pd ks lk ll z) (n2 : ¬ shOw ML MP ms md mm z) :
    Sd P w C CL H0 (upd H z o) p dx L Pd d ML MP ks ms lk ll md mm ps qs S :=
  { s with
    hp := get_ne (ne_il s.hp hz) s.hp
    hd := get_ne (ne_dl s.hd hz) s.hd
    h := s.h.keep (rowLock _) (Tk.put hz) fun b o e y => get_ne (fun q => n1 (q ▸ y)) e
    m := s.m.keep rowMod (Tk.put hz) fun b o e y => get_ne (fun q => n2 (q ▸ y)) e
    sm := fun b o e => get_ne (ne_of_none e hz0) (s.sm _ _ e) }
/-- both have done the same -/
theorem Sd.step (s : Sd P w C CL H0 H p dx L Pd d ML MP ks ms lk ll md mm ps qs S) {ks' ms' : List Ky} {lk' ll' md' mm' : Ky → Addr} {ps' qs' : List Pr} {S' : SS}
    (m1 : Shv P w ModAt H1 ML MP ms' md' mm' qs' S') (f1 : Fr (shOw ML MP ms md mm) H H1) (o1 : ∀ c, shOw ML MP ms' md' mm' c → shOw ML MP ms md mm c ∨ H c = none)
    (h2 : Shv P w (LockAt CL) H2 L Pd ks' lk' ll' ps' S') (f2 : Fr (shOw L Pd ks lk ll) H1 H2) (o2 : ∀ c, shOw L Pd ks' lk' ll' c → shOw L Pd ks lk ll c ∨ H1 c = none) (pk : ks'.Perm ms') (pp : ps'.Perm qs') :
    Sd P w C CL H0 H2 p dx L Pd d ML MP ks' ms' lk' ll' md' mm' ps' qs' S' := by
  have non0 : ∀ b, H b = none → H0 b = none := fun b e => Same.non s.sm e
  have mo : ∀ b, shOw ML MP ms' md' mm' b → ¬ shOw L Pd ks lk ll b := fun b y z => by
    rcases o1 b y with q | q
    · exact s.ap b z q
    · obtain ⟨o, e⟩ := s.h.there (rowLock _) b z
      rw [q] at e; cases e
  refine { hp := f2.keep _ _ (f1.keep _ _ s.hp s.pm) s.po, hd := f2.keep _ _ (f1.keep _ _ s.hd s.dm) s.dp, h := h2, m := m1.fr rowMod f2 mo, po := fun z => ?_, pm := fun z => ?_, dp := fun z => ?_, dm := fun z => ?_, ap := fun b y z => ?_, n := fun b y => ?_, sm := fun b o e => ?_, pk := pk, pp := pp }
  · exact (o2 p z).elim s.po fun q => by rw [f1.keep _ _ s.hp s.pm] at q; cases q
  · exact (o1 p z).elim s.pm fun q => by rw [s.hp] at q; cases q
  · exact (o2 d z).elim s.dp fun q => by rw [f1.keep _ _ s.hd s.dm] at q; cases q
  · exact (o1 d z).elim s.dm fun q => by rw [s.hd] at q; cases q
  · rcases o2 b y with q | q
    · exact mo b z q
    · obtain ⟨o, e⟩ := m1.there rowMod b z
      rw [q] at e; cases e
  · rcases y with y | y | y
    · rcases o2 b y with q | q
      · exact s.n b (.inl q)
      · exact non0 _ (f1.non _ q)
    · rcases o1 b y with q | q
      · exact s.n b (.inr (.inl q))
      · exact non0 _ q
    · exact s.n b (.inr (.inr y))
  · have q1 : ¬ shOw ML MP ms md mm b := fun z => by rw [s.n b (.inr (.inl z))] at e; cases e
    have q2 : ¬ shOw L Pd ks lk ll b := fun z => by rw [s.n b (.inl z)] at e; cases e
    exact f2.keep _ _ (f1.keep _ _ (s.sm _ _ e) q1) q2
end
theorem handH_wait (S : SS) (b : Bd) {n : Nat} (h : ∀ k, (S.st k).waiting.length ≤ n) : ∀ k, ((handH S b).1.st k).waiting.length ≤ n + 1 := by
  intro j
  have h1 := h j
  have h2 := h b.k
  have row : ∀ (T : SS) (L : LS), T.st = S.st → L.waiting.length ≤ n + 1 → ((lockS T b.k L).st j).waiting.length ≤ n + 1 := fun T L e q => by
    show (setF T.st b.k L j).waiting.length ≤ n + 1
    unfold setF; split
    · exact q
    · rw [e]; omega
  unfold handH
  split
  · unfold askH
    split
    · show (S.st j).waiting.length ≤ n + 1
      omega
    · exact row _ _ rfl (by have := askS_len (S.st b.k) b.w; omega)
  · exact row (noteS S b.k b.w) _ rfl (by have := freeS_len (S.st b.k) b.w.tr b.w.2.2; omega)
  · exact row (finN S b.k b.w) _ (by unfold finN; split <;> rfl) (by have := finS_len (S.st b.k) b.w b.v; omega)
theorem handH_nd (S : SS) (b : Bd) (h : ∀ k, (S.st k).waiting.Nodup) : ∀ k, ((handH S b).1.st k).waiting.Nodup := by
  intro j
  have h1 := h j
  have h2 := h b.k
  have row : ∀ (T : SS) (L : LS), T.st = S.st → L.waiting.Nodup → ((lockS T b.k L).st j).waiting.Nodup := fun T L e q => by
    show (setF T.st b.k L j).waiting.Nodup
    unfold setF; split
    · exact q
    · rw [e]; exact h1
  unfold handH
  split
  · unfold askH
    split
    · exact h1
    · exact row _ _ rfl (askS_nd _ _ h2)
  · exact row (noteS S b.k b.w) _ rfl (freeS_nd _ _ _ h2)
  · exact row (finN S b.k b.w) _ (by unfold finN; split <;> rfl) (finS_nd _ _ _ h2)
theorem psH_len (S : SS) (ps : List Pr) (b : Bd) : (psH S ps b).length ≤ ps.length + 1 := by
  unfold psH
  split
  · omega
  · exact addK_len _ _
  · split
    · exact addK_len _ _
    · omega
theorem psH_perm {S : SS} {ps qs : List Pr} {b : Bd} (h : ps.Perm qs) : (psH S ps b).Perm (psH S qs b) := by
  unfold psH
  split
  · exact h
  · exact addK_perm h _
  · split
    · exact addK_perm h _
    · exact h
theorem ansD_shaped (S : SS) (b : Bd) : SeqAt.shaped (.list (handH S b).2) = true := pl_shaped (pl_list (handH_pl S b))
theorem kd_af : (Str.ofString "ask" = Str.ofString "free") = False := eq_false (by decide +kernel)
theorem kd_an : (Str.ofString "ask" = Str.ofString "finish") = False := eq_false (by decide +kernel)
theorem kd_fn : (Str.ofString "free" = Str.ofString "finish") = False := eq_false (by decide +kernel)
/-! ### a shelf made anew -/
theorem upd_comm {H : Hp} {a b : Addr} {x y : HO} (h : a ≠ b) : upd (upd H a x) b y = upd (upd H b y) a x := by
  funext c
  by_cases e1 : c = b
  · subst e1; rw [upd_same, upd_ne h.symm, upd_same]
  · rw [upd_ne e1]
    by_cases e2 : c = a
    · subst e2; rw [upd_same, upd_same]
    · rw [upd_ne e2, upd_ne e2, upd_ne e1]
theorem upd_self {H : Hp} {a : Addr} {u : HO} (h : H a = some u) : upd H a u = H := by
  funext c
  by_cases e : c = a
  · subst e; rw [upd_same, h]
  · rw [upd_ne e]
def keptL (L : LS) : LS := ⟨L.value, L.turn, L.holder, []⟩
def keptS (S : SS) : SS := ⟨fun k => keptL (S.st k), S.pa⟩
noncomputable def keptI (S : SS) (ms : List Ky) (i : Nat) : SS := ⟨fun k => if k ∈ ms.take i then keptL (S.st k) else S.st k, S.pa⟩
theorem rowD_kept (S : SS) (ks : List Ky) : ks.map (rowD (keptS S).st) = ks.map (rowD S.st) := rfl
theorem keptI_zero (S : SS) (ms : List Ky) : keptI S ms 0 = S := by
  unfold keptI
  simp
theorem keptI_succ (S : SS) {ms : List Ky} {i : Nat} {k : Ky} (h : ms[i]? = some k) : lockS (keptI S ms i) k (keptL (S.st k)) = keptI S ms (i + 1) := by
  unfold lockS keptI
  congr 1
  funext j
  unfold setF
  rw [take_snoc h]
  by_cases e : j = k
  · subst e
    rw [if_pos rfl, if_pos (by simp)]
  · rw [if_neg e]
    show (if j ∈ ms.take i then keptL (S.st j) else S.st j) = _
    by_cases e2 : j ∈ ms.take i
    · rw [if_pos e2, if_pos (by simp [e2])]
    · rw [if_neg e2, if_neg]
      intro z
      rcases List.mem_append.mp z with z | z
      · exact e2 z
      · exact e (List.mem_singleton.mp z)
theorem keptI_all (S : SS) {ms : List Ky} (h : ∀ k, k ∉ ms → S.st k = LS0) : keptI S ms ms.length = keptS S := by
  unfold keptI keptS
  congr 1
  funext j
  rw [List.take_length]
  split
  · rfl
  · rename_i e
    rw [h j e]; rfl
theorem Sd.anew {P : Program} {w : World} {C CL : Addr} {H0 H H1 H2 : Hp} {p dx L Pd d ML MP : Addr} {ks ms : List Ky} {lk ll md mm : Ky → Addr} {ps qs : List Pr} {S : SS} (s : Sd P w C CL H0 H p dx L Pd d ML MP ks ms lk ll md mm ps qs S)
    {p' dx' L' Pd' : Addr} {ks' : List Ky} {lk' ll' mm' : Ky → Addr} {ps' : List Pr} {S' : SS} (s1 : Same H H1) (hp : H p' = none) (hp1 : H1 p' = some (.ins C dx' (shF L' Pd'))) (h1 : Shv P w (LockAt CL) H1 L' Pd' ks' lk' ll' ps' S') (o1 : ∀ c, shOw L' Pd' ks' lk' ll' c → H c = none)
    (np : ¬ shOw L' Pd' ks' lk' ll' p')
    (m2 : Shv P w ModAt H2 ML MP ms md mm' qs S') (f2 : Fr (shOw ML MP ms md mm) H1 H2) (o2 : ∀ c, shOw ML MP ms md mm' c → shOw ML MP ms md mm c ∨ H1 c = none) (pk : ks'.Perm ms) (pp : ps'.Perm qs) :
    Sd P w C CL H0 H2 p' dx' L' Pd' d ML MP ks' ms lk' ll' md mm' ps' qs S' := by
  have non0 : ∀ b, H b = none → H0 b = none := fun b e => Same.non s.sm e
  have ap1 : ∀ b, shOw L' Pd' ks' lk' ll' b → ¬ shOw ML MP ms md mm b := fun b y z => by
    obtain ⟨o, e⟩ := s.m.there rowMod b z
    rw [o1 b y] at e; cases e
  have pm1 : ¬ shOw ML MP ms md mm p' := fun z => by
    obtain ⟨o, e⟩ := s.m.there rowMod _ z
    rw [hp] at e; cases e
  refine { hp := f2.keep _ _ hp1 pm1, hd := f2.keep _ _ (s1 _ _ s.hd) s.dm, h := h1.fr (rowLock _) f2 ap1, m := m2, po := np, pm := fun z => ?_, dp := fun z => ?_, dm := fun z => ?_, ap := fun b y z => ?_, n := fun b y => ?_, sm := fun b o e => ?_, pk := pk, pp := pp }
  · exact (o2 _ z).elim pm1 fun q => by rw [hp1] at q; cases q
  · have := o1 d z
    rw [s.hd] at this; cases this
  · exact (o2 d z).elim s.dm fun q => by rw [s1 _ _ s.hd] at q; cases q
  · rcases o2 b z with q | q
    · exact ap1 b y q
    · obtain ⟨o, e⟩ := h1.there (rowLock _) b y
      rw [q] at e; cases e
  · rcases y with y | y | y | y
    · exact non0 _ (o1 b y)
    · rcases o2 b y with q | q
      · exact s.n b (.inr (.inl q))
      · exact non0 _ (Same.non s1 q)
    · rw [y]; exact non0 _ hp
    · exact s.n b (.inr (.inr (.inr y)))
  · have q1 : ¬ shOw ML MP ms md mm b := fun z => by rw [s.n b (.inr (.inl z))] at e; cases e
    exact f2.keep _ _ (s1 _ _ (s.sm _ _ e)) q1
/-- the stream has gone on -/
theorem Sd.gn {P : Program} {w : World} {C CL : Addr} {H0 H H1 : Hp} {p dx L Pd d ML MP s0 : Addr} {ks ms : List Ky} {lk ll md mm : Ky → Addr} {ps qs : List Pr} {S : SS} (s : Sd P w C CL H0 H p dx L Pd d ML MP ks ms lk ll md mm ps qs S) (g : Gn s0 H H1) (h0 : H0 s0 = none) (n1 : ¬ shOw L Pd ks lk ll s0) (n2 : ¬ shOw ML MP ms md mm s0) :
    Sd P w C CL H0 H1 p dx L Pd d ML MP ks ms lk ll md mm ps qs S := by
  obtain ⟨dd, r, h⟩ := g.st0
  exact { s with
    hp := g.but _ _ s.hp (ne_il s.hp h)
    hd := g.but _ _ s.hd (ne_dl s.hd h)
    h := s.h.keep (rowLock _) g.tk fun b o e y => g.but _ _ e fun q => n1 (q ▸ y)
    m := s.m.keep rowMod g.tk fun b o e y => g.but _ _ e fun q => n2 (q ▸ y)
    sm := fun b o e => g.but _ _ (s.sm _ _ e) (ne_of_none e h0) }
/-! ### list(range(n)), the greatest of data -/
section
open PySem.Calls PyProof.Rows PyProof.V PySem.Spec PySem.W
variable {X : Cx}
def rRng1 : List V → Hp → VK → Prop := fun vs H Q => ∃ j : Int, vs = [V.int j] ∧ ∀ p, H p = none → Q (.ref p) (upd H p (.rng 0 j))
theorem call_rng1 : CallR X (.type "range") rRng1 := by
  intro pins s σ H vs us Q I r h
  obtain ⟨j, rfl, q⟩ := h
  obtain ⟨u, rfl, rj⟩ := vals1 r
  obtain ⟨t, rfl⟩ := rj
  refine call_range_1 ⟨.ref s.heap.objs.size, upd H s.heap.objs.size (.rng 0 j), I.laid (t' := s.toks + 1 + 1) (fun b o e => Heap.get?_push_of_some _ e) (Nat.le_refl _) ?_, rfl, q _ (I.hok.fresh (Nat.le_refl _))⟩
  exact ⟨s.toks, t, s.toks + 1, Heap.get?_push_size _ rfl⟩
theorem vals_upto : ∀ (l : List Value) (lo : Int), (∀ (j : Nat) v, l[j]? = some v → ∃ t, v = .int (lo + j) t) → Vals ((List.range l.length).map fun j : Nat => V.int (lo + j)) l
  | [], _, _ => .nil
  | x :: l, lo, h => by
    rw [List.length_cons, List.range_succ_eq_map, List.map_cons, List.map_map]
    obtain ⟨t, ht⟩ := h 0 x rfl
    subst ht
    refine .cons ⟨t, by simp⟩ ?_
    have h2 := vals_upto l (lo + 1) fun j v e => by
      obtain ⟨u, hu⟩ := h (j + 1) v (by simpa using e)
      exact ⟨u, by rw [hu]; congr 1; omega⟩
    have e : ((fun j : Nat => V.int (lo + j)) ∘ Nat.succ) = fun j : Nat => V.int (lo + 1 + j) := by
      funext j
      show V.int (lo + ((j + 1 : Nat) : Int)) = _
      congr 1; omega
    rw [e]; exact h2
def rListR : List V → Hp → VK → Prop := fun vs H Q => ∃ (p : Addr) (n : Nat), vs = [V.ref p] ∧ H p = some (.rng 0 n) ∧ n ≤ 1000 ∧ ∀ (l : Addr), H l = none → Q (.ref l) (upd H l (.lst ((List.range n).map fun j : Nat => V.int j)))
theorem call_listR (hc : X.calm = true) : CallR X (.type "list") rListR := by
  intro pins s σ H vs us Q I r h
  obtain ⟨p, n, rfl, hp, hn, q⟩ := h
  rw [Vals.ref1 r]
  obtain ⟨t, u, v, ho⟩ := (show ObjOk X.prog X.w H s.heap p (.rng 0 n) from I.hok p _ hp)
  refine call_list_range (r := p) (a := 0) (b := n) (c := 1) (t := t) (u := u) (v := v) (n := n) (I.ok.hd hc) ho ?_ ?_ (by omega) fun h' tk acc c' hk hS hi => ?_
  · exact small_one (by omega) (by omega) (by omega) (by omega)
  · unfold Builtin.Range.rangeSize
    simp
    omega
  · have hv := vals_upto acc.toList 0 fun j v e => by
      obtain ⟨t', ht⟩ := hi.2 j v (by simpa using e)
      exact ⟨t', by rw [ht]; congr 1; omega⟩
    rw [Array.length_toList, hi.1] at hv
    have e : (fun j : Nat => V.int (0 + (j : Int))) = fun j : Nat => V.int j := by
      funext j; congr 1; omega
    rw [e] at hv
    refine ⟨.ref s.heap.objs.size, _, I.laid (t' := tk) (o := .lst ((List.range n).map fun j : Nat => V.int j)) hk (Nat.le_refl _) ⟨by rw [List.length_map, List.length_range, sizeLine_eq]; omega, acc.toList, c', hv, by simpa using hS⟩, rfl, q _ (I.hok.fresh (Nat.le_refl _))⟩
theorem maxD_mem (d : PyData) : ∀ ds : List PyData, maxD d ds ∈ d :: ds := by
  intro ds
  unfold maxD
  induction ds generalizing d with
  | nil => simp
  | cons e ds ih =>
    simp only [List.foldl_cons]
    rcases List.mem_cons.mp (ih (if dataLt d e = true then e else d)) with h | h
    · rw [h]; split <;> simp
    · simp [h]
def rMaxD : List V → Hp → VK → Prop := fun vs H Q => ∃ (a : Addr) (ys : List V) (d : PyData) (ds : List PyData), vs = [.ref a] ∧ H a = some (.lst ys) ∧ ImAll H (d :: ds) ys ∧ AlikeAll (d :: ds) ∧ (∀ e ∈ d :: ds, e.depth ≤ 60) ∧
  ∀ v : V, v ∈ ys → Im H (maxD d ds) v → Q v H
theorem call_maxD (hc : X.calm = true) (hu : X.A.units + 65 < cLine) : CallR X (.builtin "max") rMaxD := by
  intro pins s σ H vs us Q I r h
  obtain ⟨a, ys, d, ds, rfl, ha, hi, hal, hd, q⟩ := h
  obtain ⟨its, rv, hl, hz⟩ := I.list (SqL.of (K := X.K) ha)
  rw [Vals.ref1 r]
  obtain ⟨as, hr⟩ := Dp.readsAll I (d :: ds) ys its (ImAll.dp _ _ hi) rv
  have hda := depthAll_le hd
  refine max_list_data (vs := its.toArray) (I.ok.hd hc) hl.isList (by simpa using hr) hal (by omega) fun i v h' tk bs hv hm hk => ?_
  have hv' : its[i]? = some v := by simpa using hv
  have hl1 := rv.length
  have hi1 : i < ys.length := by rw [hl1]; exact (List.getElem?_eq_some_iff.mp hv').1
  have hy : ys[i]? = some ys[i] := by simp [hi1]
  obtain ⟨u, hu1, hu2⟩ := rv.get hy
  rw [hv'] at hu1
  cases hu1
  obtain ⟨e, he1, he2⟩ := hi.get hy
  obtain ⟨cs, hre⟩ := Dp.reads I e ys[i] v (Im.dp _ _ he2) hu2
  have hem : e ∈ d :: ds := List.mem_of_getElem? he1
  have heq : e = maxD d ds := alike_unique _ _ _ _ _ (hal.1 e hem _ (maxD_mem d ds)) (PyProof.Rows.Reads.keeps hk hre) hm
  refine ⟨ys[i], H, I.kept (t' := tk) hk, hu2, q _ (List.getElem_mem hi1) ?_⟩
  rw [← heq]; exact he2
end
/-! ### dict(d), d != e for dicts whose keys are tuples; the greatest of a tuple of data -/
section
open PySem.Spec PyProof.Rows PySem.W
variable {prog : Program} {w : World} {K : Type} [DecidableEq K] {knd : HeapKind prog w K} {A : Around} {E : Value → Shared → Prop} {s : Shared}
theorem call_dictH {o : Addr} {more : List (K × Addr × Value)} {Q : Value → Shared → Prop} (hu : knd.room A.in1.in1) (hoS : (o == sysModules) = false) (ho : s.heap.DictOfH knd o more) (hsz : more.length ≤ sizeLine)
    (hty : ∀ x ∈ more, s.TypeIs (.ref x.2.1) "tuple") (hap : (more.map fun x => knd.hash x.1).Nodup) (hst : ∀ h', (∀ b o, s.heap.get? b = some o → h'.get? b = some o) → ∀ x ∈ more, knd.is h' x.1 x.2.1)
    (h : ∀ h', h'.DictOfH knd s.heap.objs.size more → (∀ b o, s.heap.get? b = some o → h'.get? b = some o) → Q (.ref s.heap.objs.size) { s with heap := h' }) :
    wpAny (model prog w) A (call (.type "dict") [.ref o]) Q E s := by
  refine callType_codes (Q₁ := fun obj s₁ => obj = .ref s.heap.objs.size ∧ s₁ = { s with heap := s.heap.push { cls := .type "dict", data := .dict #[] } }) F.kt_called_dict (F.kt_typeCall_dict_1 _) F.entry_dict_init (kt_code_dict_new _ ⟨rfl, rfl⟩) ?_
  rintro obj s₁ ⟨rfl, rfl⟩
  have hnew : (s.heap.push { cls := .type "dict", data := .dict #[] }).DictOfH knd s.heap.objs.size [] := Heap.DictOfH.new s.heap
  have hpush : ∀ b u, s.heap.get? b = some u → (s.heap.push { cls := .type "dict", data := .dict #[] }).get? b = some u := fun b u e => Heap.get?_push_of_some _ e
  obtain ⟨oo, es, ep, hoo, hc, hdd, he, his, hn⟩ := ho
  have ho' : (s.heap.push { cls := .type "dict", data := .dict #[] }).DictOfH knd o more := ⟨oo, es, ep, hpush _ _ hoo, hc, hdd, he, hst _ hpush, hn⟩
  have hdo : s.heap.objs.size ≠ o := fun e => absurd (Heap.lt_size hoo) (by rw [e]; exact Nat.lt_irrefl _)
  have hty' : ∀ x ∈ more, Shared.TypeIs { s with heap := s.heap.push { cls := .type "dict", data := .dict #[] } } (.ref x.2.1) "tuple" := fun x hx => by
    obtain ⟨u, hu1, hu2⟩ := hty x hx
    exact ⟨u, hpush _ _ hu1, hu2⟩
  refine ⟨hnew.typeIs, F.args_dict_init_2 _ _, ?_⟩
  unfold Builtin.«dict.__init__»
  refine wpAny_bind ?_
  unfold Builtin.Dict.selfAndRest
  refine wpAny_bind (wpAny_notOrdered_dict hnew.typeIs ?_)
  show wpAny _ _ (pure (s.heap.objs.size, [Value.ref o])) _ _ _
  refine wpAny_pure ?_
  show wpAny _ _ (Builtin.Dict.updateFrom "dict.__init__" s.heap.objs.size (.ref o) [] .none) _ _ _
  unfold Builtin.Dict.updateFrom
  refine wpAny_bind (wpAny_typeOf ho'.typeIs ?_)
  rw [if_neg (by decide)]
  refine wpAny_bind ?_
  unfold Builtin.Dict.merge
  refine wpAny_bind ?_
  unfold Builtin.Dict.readDirectly
  refine wpAny_bind (wpAny_isInstance ho'.typeIs isSubtype_dict_dict ?_)
  simp only [Bool.not_true, Bool.false_eq_true, if_false]
  refine wpAny_bind (wpAny_specialOf ho'.typeIs F.slot_dict_iter.lookup (wpAny_pure ?_))
  simp only [beq_self_eq_true, if_true]
  refine wpAny_bind (wpAny_pure ?_)
  refine wpAny_mergeDict_heap (hsz := by simpa using hsz) hu hdo hoS hnew ho' (.inr ⟨hty', hap⟩) fun h' hd' _ hs' => ?_
  show wpAny _ _ (Builtin.Dict.addKeywords s.heap.objs.size [] >>= _) _ _ _
  rw [storedAllH_nil_of_nodup more hn] at hd'
  refine wpAny_bind (wpAny_pure (wpAny_pure ⟨rfl, h h' hd' fun b u e => ?_⟩))
  exact (hs'.2 b (Nat.ne_of_lt (Heap.lt_size e))).trans (hpush b u e)
theorem samePairsH {nm : String} {a b : Addr} {xs ys : List (K × Addr × Value)} {Q : Bool → Shared → Prop} (hu : knd.room A) (ha : (a == sysModules) = false) (hb : (b == sysModules) = false)
    (da : s.heap.DictOfH knd a xs) (db : s.heap.DictOfH knd b ys) (hl : xs.length = ys.length) (hxy : ∀ (i : Nat) (k : K) (p : Addr) (v : Value), xs[i]? = some (k, p, v) → ∃ p', ys[i]? = some (k, p', v)) (h : Q true s) :
    wpAny (model prog w) A (Builtin.Dict.samePairs nm a b) Q E s := by
  obtain ⟨oa, es, ep, hoa, _, hda, hka, hisa, hna⟩ := da
  obtain ⟨ob, es', ep', hob, _, hdb, hkb, hisb, hnb⟩ := db
  have hla : es.size = xs.length := size_of_entries hka
  have hlb : es'.size = ys.length := size_of_entries hkb
  have hsz : es.size = es'.size := by omega
  unfold Builtin.Dict.samePairs Builtin.Dict.showsAll
  rw [if_neg (show ¬ (a == sysModules) = true by rw [ha]; exact Bool.false_ne_true), if_neg (show ¬ (b == sysModules) = true by rw [hb]; exact Bool.false_ne_true)]
  refine wpAny_bind (wpAny_pure (wpAny_bind (wpAny_pure ?_)))
  refine wpAny_bind (wpAny_dictEntries hoa hda ?_)
  dsimp only
  refine wpAny_bind (wpAny_dictEntries hob hdb ?_)
  rw [if_neg (by rw [hsz]; simp)]
  refine wpAny_bind (wpAny_dictEpoch hoa hda ?_)
  refine wpAny_bind ?_
  rw [Std.Legacy.Range.forIn_eq_forIn_range']
  simp only [Std.Legacy.Range.size, Nat.sub_zero, Nat.add_sub_cancel, Nat.div_one]
  refine wpAny_forIn_list _
    (fun rest q s' => s' = s ∧ q = (none, ()) ∧ ∃ i, rest = List.range' i (es.size - i) ∧ i ≤ es.size)
    _ ?_ ?_ _ _ ⟨rfl, rfl, 0, by simp, Nat.zero_le _⟩
  · rintro x rest q s' ⟨rfl, rfl, i, hr, hi⟩
    have hlt : i < es.size := by
      rcases Nat.lt_or_ge i es.size with h | h
      · exact h
      · rw [Nat.sub_eq_zero_of_le h] at hr; simp at hr
    obtain ⟨rfl, hrest⟩ : x = i ∧ rest = List.range' (i + 1) (es.size - (i + 1)) := by
      have e : es.size - i = (es.size - (i + 1)) + 1 := by omega
      rw [e, List.range'_succ] at hr
      injection hr with h1 h2
      exact ⟨h1, h2⟩
    refine wpAny_bind (wpAny_dictEntries hoa hda ?_)
    obtain ⟨⟨k, p, v⟩, hkv⟩ : ∃ kv, xs[x]? = some kv := ⟨xs[x]'(by omega), List.getElem?_eq_getElem _⟩
    obtain ⟨p', hy⟩ := hxy x k p v hkv
    rw [entry_at hka x, hkv]
    show wpAny _ _ (holding [.ref p, v] _ >>= _) _ _ _
    refine wpAny_bind (wpAny_holding (wpAny_bind (wpAny_dictFind_heap hu (hisa _ (List.mem_of_getElem? hkv)) hob hdb hkb hisb hnb (fun n => absurd hy (n x (p', v))) fun j r hj => ?_)))
    have hjx : j = x := by
      have e1 : (ys.map (·.1))[j]? = some k := by rw [List.getElem?_map, hj]; rfl
      have e2 : (ys.map (·.1))[x]? = some k := by rw [List.getElem?_map, hy]; rfl
      have h1 := (List.getElem?_eq_some_iff.mp e1)
      have h2 := (List.getElem?_eq_some_iff.mp e2)
      exact (List.getElem_inj hnb).mp (h1.2.trans h2.2.symm)
    subst hjx
    rw [hy] at hj
    cases hj
    refine wpAny_bind (wpAny_dictEntries hob hdb ?_)
    rw [entry_at hkb j, hy]
    refine wpAny_holding ((SeqAt.EqAt.same v) prog w _ _ ?_)
    show wpAny _ _ (if (!true) = true then _ else _) _ _ _
    rw [if_neg (by decide)]
    refine wpAny_bind (wpAny_dictEpoch hoa hda ?_)
    rw [if_neg (by simp)]
    exact wpAny_pure ⟨rfl, rfl, j + 1, hrest, hlt⟩
  · rintro q s' ⟨rfl, rfl, i, hr, hi⟩
    exact wpAny_pure h
end
section
open PySem.Spec PyProof.Rows PySem.W
theorem KN.fst {H : Hp} {kvs : List (PyData × V)} {xs : List (NestedKey × Addr × Value)} (r : KN H kvs xs) : xs.map (·.1) = kvs.map fun kv => nkOf kv.1 := by
  unfold KN at r
  induction r with
  | nil => rfl
  | cons z _ ih => rw [List.map_cons, List.map_cons, z.1, ih]
variable {X : Cx}
def rDictN (P : Program) (w : World) : List V → Hp → VK → Prop := fun vs H Q => ∃ (a : Addr) (kvs : List (PyData × V)), vs = [.ref a] ∧ DR P w H a kvs ∧ (kvs.map fun kv => (nkOf kv.1).hash w).Nodup ∧ ∀ (p : Addr) (o : HO), H p = none → DN P w (upd H p o) p kvs → Q (.ref p) (upd H p o)
theorem call_dictN {P : Program} {w : World} (hu : X.A.units + 65 < cLine) (hP : X.prog = P := by rfl) (hw : X.w = w := by rfl) : CallR X (.type "dict") (rDictN P w) := by
  subst hP hw
  intro pins s σ H vs us Q I r h
  obtain ⟨a, kvs, rfl, g, hap, q⟩ := h
  rw [Vals.ref1 r]
  obtain ⟨lo, xs, rel, hz, dd⟩ := dr_of I.hok g
  have hap' : (xs.map fun x => (nestedKind X.prog X.w).hash x.1).Nodup := by
    have e : (xs.map fun x => (nestedKind X.prog X.w).hash x.1) = kvs.map fun kv => (nkOf kv.1).hash X.w := by
      show xs.map ((fun k => NestedKey.hash X.w k) ∘ (·.1)) = _
      rw [← List.map_map, rel.fst, List.map_map]; rfl
    rw [e]; exact hap
  have hty := keyed_apart nestedKind_stays dd
  refine call_dictH (knd := nestedKind X.prog X.w) (show X.A.units + 1 + 1 + 8 < cLine by omega) lo dd hz hty hap' (fun h' hk x hx => ?_) fun h' dd' hk => ?_
  · obtain ⟨_, _, _, _, _, _, _, his, _⟩ := id dd
    exact nestedKind_stays.stays (fun b o _ _ e _ => hk b o e) (his x hx)
  · have hf := I.hok.fresh (Nat.le_refl s.heap.objs.size)
    have I1 : Inv X pins σ (upd H s.heap.objs.size (dnO X.prog X.w s.heap.objs.size xs)) { s with heap := h' } := I.laid (t' := s.toks) hk (Nat.le_refl _) (dn_okN (beq_eq_false_iff_ne.mpr (Ne.symm (Nat.ne_of_lt I.big))) dd')
    exact ⟨.ref s.heap.objs.size, _, I1, rfl, q _ _ hf ⟨g.1, g.2.1, xs, upd_same, rel.tk (Tk.new hf)⟩⟩
def rNeN (P : Program) (w : World) : R2 := fun x y H Q => ∃ (a b : Addr) (kvs : List (PyData × V)), x = .ref a ∧ y = .ref b ∧ DR P w H a kvs ∧ DR P w H b kvs ∧ (∀ kv ∈ kvs, ∃ c, kv.2 = .ref c) ∧ Q (.bl false) H
theorem op_neN {P : Program} {w : World} (hu : X.A.units + 65 < cLine) (hP : X.prog = P := by rfl) (hw : X.w = w := by rfl) : OpR X (compareOp .NotEq) (rNeN P w) := by
  subst hP hw
  intro pins s σ H x y v u Q I rx ry h
  obtain ⟨a, b, kvs, rfl, rfl, ga, gb, href, q⟩ := h
  cases (show v = Value.ref a from rx)
  cases (show u = Value.ref b from ry)
  obtain ⟨la, xs, rela, hza, da⟩ := dr_of I.hok ga
  obtain ⟨lb, ys, relb, hzb, db⟩ := dr_of I.hok gb
  refine wpAny_richCompare_same_room (op := .NotEq) da.typeIs db.typeIs PySem.F.slot_dict_ne (wpAny_call_entry PySem.F.slot_dict_ne da.typeIs PySem.F.entry_dict_ne ?_ (PySem.F.args_dict_ne_2 _ _)) (by omega)
  show wpAny _ _ (Builtin.Dict.dictSlotArgs "__ne__" ⟨[.ref a, .ref b], []⟩ >>= _) _ _ s
  refine wpAny_bind ?_
  unfold Builtin.Dict.dictSlotArgs
  refine wpAny_bind (wpAny_notOrdered_dict da.typeIs ?_)
  show wpAny _ _ (pure (Value.ref a, Value.ref b)) _ _ s
  refine wpAny_pure ?_
  refine wpAny_bind (wpAny_isInstance (T := "dict") db.typeIs PySem.F.sub_dict_dict ?_)
  simp only [Bool.not_true, Bool.false_eq_true, if_false]
  refine wpAny_bind (wpAny_pure (wpAny_bind (wpAny_pure ?_)))
  refine wpAny_bind (samePairsH (knd := nestedKind X.prog X.w) (dn_room hu _ _) la lb da db (by rw [← rela.len, ← relb.len]) (fun i k p v hx => ?_) ?_)
  · have hil : i < kvs.length := by rw [rela.len]; exact (List.getElem?_eq_some_iff.mp hx).1
    have hkv : kvs[i]? = some kvs[i] := by simp [hil]
    obtain ⟨_, hx2, z1, z2, z3, z4⟩ := paired_get (show Paired _ kvs xs from rela) hkv
    rw [hx] at hx2
    cases hx2
    obtain ⟨⟨k', p', v'⟩, hy, y1, y2, y3, y4⟩ := paired_get (show Paired _ kvs ys from relb) hkv
    obtain ⟨c, hc⟩ := href _ (List.mem_of_getElem? hkv)
    rw [hc] at z4 y4
    cases (show v = Value.ref c from z4)
    cases (show v' = Value.ref c from y4)
    simp only at y1 z1
    exact ⟨p', by rw [hy, y1, z1]⟩
  · refine wpAny_pure ⟨_, rfl, ?_, ?_⟩
    · exact fun x => nomatch x
    · exact ⟨.bl false, H, I, rfl, q⟩
def rMaxT : List V → Hp → VK → Prop := fun vs H Q => ∃ (a : Addr) (ys : List V) (d : PyData) (ds : List PyData), vs = [.ref a] ∧ H a = some (.tup ys) ∧ ImAll H (d :: ds) ys ∧ AlikeAll (d :: ds) ∧ (∀ e ∈ d :: ds, e.depth ≤ 60) ∧
  ∀ v : V, v ∈ ys → Im H (maxD d ds) v → Q v H
theorem call_maxT (hc : X.calm = true) (hu : X.A.units + 65 < cLine) : CallR X (.builtin "max") rMaxT := by
  intro pins s σ H vs us Q I r h
  obtain ⟨a, ys, d, ds, rfl, ha, hi, hal, hd, q⟩ := h
  obtain ⟨its, rv, hl, hz⟩ := I.tuple (SqT.of (K := X.K) ha)
  rw [Vals.ref1 r]
  obtain ⟨as, hr⟩ := Dp.readsAll I (d :: ds) ys its (ImAll.dp _ _ hi) rv
  have hda := depthAll_le hd
  refine max_tuple_data (vs := its.toArray) (I.ok.hd hc) hl (by simpa using hr) hal (by omega) fun i v h' tk bs hv hm hk => ?_
  have hv' : its[i]? = some v := by simpa using hv
  have hl1 := rv.length
  have hi1 : i < ys.length := by rw [hl1]; exact (List.getElem?_eq_some_iff.mp hv').1
  have hy : ys[i]? = some ys[i] := by simp [hi1]
  obtain ⟨u, hu1, hu2⟩ := rv.get hy
  rw [hv'] at hu1
  cases hu1
  obtain ⟨e, he1, he2⟩ := hi.get hy
  obtain ⟨cs, hre⟩ := Dp.reads I e ys[i] v (Im.dp _ _ he2) hu2
  have hem : e ∈ d :: ds := List.mem_of_getElem? he1
  have heq : e = maxD d ds := alike_unique _ _ _ _ _ (hal.1 e hem _ (maxD_mem d ds)) (PyProof.Rows.Reads.keeps hk hre) hm
  refine ⟨ys[i], H, I.kept (t' := tk) hk, hu2, q _ (List.getElem_mem hi1) ?_⟩
  rw [← heq]; exact he2
end
/-! ### the keys of the small graphs hash apart -/
def hII (p : Int × Int) : Int := reduceHash (Builtin.Tuple.tupleHashOf [hashInt p.1, hashInt p.2])
def dom34 : List (Int × Int) := ((List.range 14).flatMap fun i : Nat => (List.range 6).map fun j : Nat => ((i : Int) + 1, (j : Int))) ++ (List.range 300).map fun i : Nat => ((i : Int) + 100, (9 : Int))
def dm0 : List (Int × Int) := [(1, 0), (1, 1), (1, 2), (1, 3), (1, 4), (1, 5), (2, 0), (2, 1), (2, 2), (2, 3), (2, 4), (2, 5), (3, 0), (3, 1), (3, 2), (3, 3), (3, 4), (3, 5), (4, 0), (4, 1), (4, 2), (4, 3), (4, 4), (4, 5), (5, 0), (5, 1), (5, 2), (5, 3), (5, 4), (5, 5), (6, 0), (6, 1), (6, 2), (6, 3), (6, 4), (6, 5), (7, 0), (7, 1), (7, 2), (7, 3), (7, 4), (7, 5), (8, 0), (8, 1), (8, 2), (8, 3), (8, 4), (8, 5)]
def hs0 : List Int := [-5164621852614943976, 8389048192121911274, -3550055125485641917, -1440771752368011620, -6333845781340707986, 173794974761290439, 4685526799349444076, 6794810172467074373, 1901736143494378007, 8409376899596376432, 3516302870623680066, -8422800446983873125, 2248468952609198383, 8756109708711196808, 3863035679738500442, 5972319052856130739, 1079245023883434373, 7586885779985432798, -6348126469135965181, 159514286966033244, -9131917124991031250, -2624276368889032825, 3883364387212965600, -1009709641759730766, -3054609118068388172, 3453031638033610253, -5838399773923454241, 669240982178544184, -4223833046794152182, 2283807709307846243, -5491666964808633865, 8062003079928221385, -3877100237679331806, 2630540518422666619, -6660890893534397875, -153250137432399450, 4358481687155754187, -7580621630451799004, 5973048414285056246, 8082331787402686543, 3189257758429990177, -8749845559177563014, 1921423840415508494, 8429064596517506919, 3535990567544810553, -8403112750062742638, 752199911689744484, 7259840667791742909]
theorem tab0 : dm0.map hII = hs0 := by decide +kernel
def dm1 : List (Int × Int) := [(9, 0), (9, 1), (9, 2), (9, 3), (9, 4), (9, 5), (10, 0), (10, 1), (10, 2), (10, 3), (10, 4), (10, 5), (11, 0), (11, 1), (11, 2), (11, 3), (11, 4), (11, 5), (12, 0), (12, 1), (12, 2), (12, 3), (12, 4), (12, 5), (13, 0), (13, 1), (13, 2), (13, 3), (13, 4), (13, 5), (14, 0), (14, 1), (14, 2), (14, 3), (14, 4), (14, 5), (100, 9), (101, 9), (102, 9), (103, 9), (104, 9), (105, 9), (106, 9), (107, 9), (108, 9), (109, 9), (110, 9), (111, 9)]
def hs1 : List Int := [-6675171581329655070, -167530825227656645, -5060604854200353011, -2951321481082722714, 3556319275019275711, -1336754753953420655, -3381654230262078061, 3125986525839920364, -1767087503132776002, 342195869984854295, -4550878158987842071, 1956762597114156354, 6468494421702309991, -5470608895905243200, 3684703765847243922, -8254399551760309269, 5299270492976545981, -6639832824631007210, 4031436574962064298, -7907666742645488893, 5646003302091366357, -6293100015516186834, 2862212646236300288, -9076890671371252903, 5992736111206186733, 8102019484323817030, 3208945455351120664, -8730157862256432527, 4823512182480422723, 6932795555598053020, -1271641495715522257, 5235999260386476168, 342925231413779802, 2452208604531410099, -2440865424441286267, 4066775331660712158, -5478294832440840526, -8344315056378181388, 7665371170591124535, -8820073366874304646, -3368282097894284722, -1406982561650162287, -8671360168571871277, 7338326058397434646, -1258269363347728918, 703030172896393517, 3996547523963970526, -8998405280765561166]
theorem tab1 : dm1.map hII = hs1 := by decide +kernel
def dm2 : List (Int × Int) := [(112, 9), (113, 9), (114, 9), (115, 9), (116, 9), (117, 9), (118, 9), (119, 9), (120, 9), (121, 9), (122, 9), (123, 9), (124, 9), (125, 9), (126, 9), (127, 9), (128, 9), (129, 9), (130, 9), (131, 9), (132, 9), (133, 9), (134, 9), (135, 9), (136, 9), (137, 9), (138, 9), (139, 9), (140, 9), (141, 9), (142, 9), (143, 9), (144, 9), (145, 9), (146, 9), (147, 9), (148, 9), (149, 9), (150, 9), (151, 9), (152, 9), (153, 9), (154, 9), (155, 9), (156, 9), (157, 9), (158, 9), (159, 9)]
def hs2 : List Int := [-7037105744521438731, -1585314475541418807, 6106560258510526330, -6888392546219005362, -4927093009974882927, -7364150856715128620, 8216572993057082134, 5779515146316836441, -2817080275428327123, -5254138122168572816, -1960620771100995807, 7889527880863392245, 5452470034123146552, -3144125387622017012, 149391963445559997, -8447203458299603567, 7562482768669702356, 5125424921929456663, -3471170499815706901, -177653148748129892, -8774248570493293456, 7235437656476012467, -1361157765269151097, 1932359585798425912, 3893659122042548347, -9101293682686983345, -7139994146442860910, 4042372320344981716, 6003671856589104151, 3566614009848858458, -5029981411896305106, -1736464060828728097, 3715327208151291827, 5676626744395414262, -2919968677349749302, 373548673717827707, -2063509173022417986, 7786639478941970066, 5349581632201724373, 2483561408264383511, 46503561524137818, -8550091860221025746, 7459594366748280177, 5022536520008034484, 2156516296070693622, -280541550669552071, -8877136972414715635, 7132549254554590288]
theorem tab2 : dm2.map hII = hs2 := by decide +kernel
def dm3 : List (Int × Int) := [(160, 9), (161, 9), (162, 9), (163, 9), (164, 9), (165, 9), (166, 9), (167, 9), (168, 9), (169, 9), (170, 9), (171, 9), (172, 9), (173, 9), (174, 9), (175, 9), (176, 9), (177, 9), (178, 9), (179, 9), (180, 9), (181, 9), (182, 9), (183, 9), (184, 9), (185, 9), (186, 9), (187, 9), (188, 9), (189, 9), (190, 9), (191, 9), (192, 9), (193, 9), (194, 9), (195, 9), (196, 9), (197, 9), (198, 9), (199, 9), (200, 9), (201, 9), (202, 9), (203, 9), (204, 9), (205, 9), (206, 9), (207, 9)]
def hs3 : List Int := [4266529030617249426, 1829471183877003733, 3790770720121126168, -9204182084608405524, -5910664733540828515, 3939483918423559537, 1502426071683313844, 3463725607927436279, -3800651998994272711, -1839352462750150276, 3612438806229869648, 5573738342473992083, -1690639264447716907, 270660271796405528, -2166397574943840165, 7683751077020547887, 5246693230280302194, 2380673006342961332, -56384840397284361, -8652980262142447925, 7356705964826857998, -7796520757815116609, 2053627894149271443, -383429952590974250, -8980025374336137814, -5686508023268560805, -8123565870008806498, 1726582781955581554, -710475064784664139, -3576495288722005001, -6013553135462250694, 3836595516502137358, 1399537669761891665, -2309302381260857989, -3903540400915694890, -1942240864671572455, 3509550404308447469, -4597647029698670313, -1793527666369139086, 167771869874983349, -2269285976865262344, 7580862675099125708, -526334758907992074, -2120572778562828975, -159273242318706540, -8755868664063870104, -5462351312996293095, -853379871101681963]
theorem tab3 : dm3.map hII = hs3 := by decide +kernel
def dm4 : List (Int × Int) := [(208, 9), (209, 9), (210, 9), (211, 9), (212, 9), (213, 9), (214, 9), (215, 9), (216, 9), (217, 9), (218, 9), (219, 9), (220, 9), (221, 9), (222, 9), (223, 9), (224, 9), (225, 9), (226, 9), (227, 9), (228, 9), (229, 9), (230, 9), (231, 9), (232, 9), (233, 9), (234, 9), (235, 9), (236, 9), (237, 9), (238, 9), (239, 9), (240, 9), (241, 9), (242, 9), (243, 9), (244, 9), (245, 9), (246, 9), (247, 9), (248, 9), (249, 9), (250, 9), (251, 9), (252, 9), (253, 9), (254, 9), (255, 9)]
def hs4 : List Int := [1950739492227849264, -486318354512396429, -3352338578449737291, -5789396425189982984, -1180424983295371852, 1623694380034159375, -6483503053972958407, -3679383690643427180, -6116441537383672873, 3733707114580715179, -4373490319426402603, -6810548166166648296, -4006428802837117069, -2045129266592994634, -2263477584879846799, -4700535431620092492, -1896416068290561265, 64883467953561170, -2372174378786684523, -2590522697073536688, -629223160829414253, -2223461180484251154, -262161644240128719, -8369359078247246501, 1480789573717141551, -956268273023104142, 1847851090306427085, -6259346343700690697, -3455226980371159470, 1153744461523451662, -1283313385216794031, -4149333609154134893, -6586391455894380586, -3782272092564849359, 826699349329761773, -2039320874607579089, -4476378721347824782, -6913436568088070475, -4109317204758539248, -2148017668514416813, -2366365986801268978, -4803423833541514671, -1999304470211983444, -4436362316952229137, -8145202367974978791, -2693411098994958867, -732111562750836432, -2326349582405673333]
theorem tab4 : dm4.map hII = hs4 := by decide +kernel
def dm5 : List (Int × Int) := [(256, 9), (257, 9), (258, 9), (259, 9), (260, 9), (261, 9), (262, 9), (263, 9), (264, 9), (265, 9), (266, 9), (267, 9), (268, 9), (269, 9), (270, 9), (271, 9), (272, 9), (273, 9), (274, 9), (275, 9), (276, 9), (277, 9), (278, 9), (279, 9), (280, 9), (281, 9), (282, 9), (283, 9), (284, 9), (285, 9), (286, 9), (287, 9), (288, 9), (289, 9), (290, 9), (291, 9), (292, 9), (293, 9), (294, 9), (295, 9), (296, 9), (297, 9), (298, 9), (299, 9), (300, 9), (301, 9), (302, 9), (303, 9)]
def hs5 : List Int := [8013197057296760501, -8472247480168668680, 1377901171795719372, -1059156674944526321, -8323534281866235311, -6362234745622112876, -3558115382292581649, 1050856059602029483, 4344373410669606492, -4252222011075557072, -6689279857815802765, -3885160494486271538, 6454386145216162296, -2142209276529001268, -4579267123269246961, -7016324970009492654, -4212205606679961427, 6127341033022472407, -2469254388722691157, -4906312235462936850, -2945012699218814415, 8237353767569028211, -8248090769896400970, -2796299500916381046, -834999964672258611, -8099377571593967601, 7910308655375338322, -8575135882090090859, 1275012769874297193, 4568530120941874202, -8426422683787657490, -6465123147543535055, -1013331878563515131, 6678542855488430006, 4241485008748184313, -4355110412996979251, -6792168259737224944, 8788555590034985810, 6351497743294740117, -2245097678450423447, -4682155525190669140, -7119213371930914833, 8461510477841295921, 6024452631101050228, -2572142790644113336, -5009200637384359029, -1715683286316782020, 8134465365647606032]
theorem tab5 : dm5.map hII = hs5 := by decide +kernel
def dm6 : List (Int × Int) := [(304, 9), (305, 9), (306, 9), (307, 9), (308, 9), (309, 9), (310, 9), (311, 9), (312, 9), (313, 9), (314, 9), (315, 9), (316, 9), (317, 9), (318, 9), (319, 9), (320, 9), (321, 9), (322, 9), (323, 9), (324, 9), (325, 9), (326, 9), (327, 9), (328, 9), (329, 9), (330, 9), (331, 9), (332, 9), (333, 9), (334, 9), (335, 9), (336, 9), (337, 9), (338, 9), (339, 9), (340, 9), (341, 9), (342, 9), (343, 9), (344, 9), (345, 9), (346, 9), (347, 9), (348, 9), (349, 9), (350, 9), (351, 9)]
def hs6 : List Int := [5697407518907360339, -2899187902837803225, 394329448229773784, -8202265973515389780, 7807420253453916143, -8678024284011513038, 2504342182776329588, 4465641719020452023, -8529311085709079669, -6568011549464957234, 4614354917322885392, 6575654453567007827, 4138596606826762134, -4457998814918401430, -6895056661658647123, 4287309805129195503, 6248609341373317938, 3811551494633072245, -4785043927112091319, -1491526576044514310, 8358622075919873742, 5921564229179628049, -2675031192565535515, 618486158502041494, -1818571688238204199, 8031576963726183853, 5594519116985938160, 2728498893048597298, 291441046308351605, -8305154375436811959, 7704531851532493964, -7448694871109480643, 2401453780854907409, 4362753317099029844, -8632199487630501848, -5338682136562924839, 4511466515401463213, 2074408668661217520, 4035708204905339955, -4560887216839823609, -1267369865772246600, 4184421403207773324, 6145720939451895759, 3708663092711650066, 842642868774309204, -1594414977965936489, 8255733673998451563, 5818675827258205870]
theorem tab6 : dm6.map hII = hs6 := by decide +kernel
def dm7 : List (Int × Int) := [(352, 9), (353, 9), (354, 9), (355, 9), (356, 9), (357, 9), (358, 9), (359, 9), (360, 9), (361, 9), (362, 9), (363, 9), (364, 9), (365, 9), (366, 9), (367, 9), (368, 9), (369, 9), (370, 9), (371, 9), (372, 9), (373, 9), (374, 9), (375, 9), (376, 9), (377, 9), (378, 9), (379, 9), (380, 9), (381, 9), (382, 9), (383, 9), (384, 9), (385, 9), (386, 9), (387, 9), (388, 9), (389, 9), (390, 9), (391, 9), (392, 9), (393, 9), (394, 9), (395, 9), (396, 9), (397, 9), (398, 9), (399, 9)]
def hs7 : List Int := [2952655603320865008, 515597756580619315, -1921460090159626378, 7928688561804761674, -7224538160837212933, 2625610491127175119, 188552644386929426, -8408042777358234138, -5114525426290657129, -7551583273030902822, 2298565378933485230, -138492467806760463, -3004512691744101325, -5441570538484347018, -3480271002240224583, 1971520266739795341, 3932819802983917776, -3331557803937791214, -1370258267693668779, 4081533001286351145, 6042832537530473580, -9110394185111501027, 739754466852887025, -1697303379887358668, 8152845272077029384, -7000381450564945223, -1548590181584925299, 412709354659197136, -2024348492081048557, -4890368716018389419, -7327426562758635112, 2522722089205752940, 85664242465507247, -2780355981471833615, -5217413828212079308, -7654471674952325001, 2195676977012063051, -241380869728182642, -3107401093665523504, -5544458940405769197, -3583159404161646762, 1868631864818373162, 5162149215885950171, -3434446205859213393, -1473146669615090958, 3978644599364928966, 7272161950432505975, -9213282587032923206]
theorem tab7 : dm7.map hII = hs7 := by decide +kernel
theorem dom34_is : dom34 = [dm0, dm1, dm2, dm3, dm4, dm5, dm6, dm7].flatten := by decide +kernel
def chkB : List Int → Nat → Bool
  | [], _ => true
  | x :: l, s => !s.testBit (x % 3193).toNat && chkB l (s ||| 1 <<< (x % 3193).toNat)
theorem chkB_says : ∀ (l : List Int) (s : Nat), chkB l s = true → (∀ x ∈ l, s.testBit (x % 3193).toNat = false) ∧ l.Nodup
  | [], s, _ => ⟨fun x h => by simp at h, by simp⟩
  | x :: l, s, h => by
    simp only [chkB, Bool.and_eq_true, Bool.not_eq_true'] at h
    obtain ⟨h1, h2⟩ := chkB_says l _ h.2
    refine ⟨fun y hy => ?_, ?_⟩
    · rcases List.mem_cons.mp hy with rfl | hy
      · exact h.1
      · have := h1 y hy
        rw [Nat.testBit_or, Bool.or_eq_false_iff] at this
        exact this.1
    · rw [List.nodup_cons]
      refine ⟨fun z => ?_, h2⟩
      have := h1 x z
      rw [Nat.testBit_or, Bool.or_eq_false_iff] at this
      have h3 := this.2
      rw [Nat.one_shiftLeft, Nat.testBit_two_pow_self] at h3
      cases h3
theorem hs_nd : [hs0, hs1, hs2, hs3, hs4, hs5, hs6, hs7].flatten.Nodup := (chkB_says _ 0 (by decide +kernel)).2
theorem dom34_nd : (dom34.map hII).Nodup := by
  rw [dom34_is, List.map_flatten]
  simp only [List.map_cons, List.map_nil, tab0, tab1, tab2, tab3, tab4, tab5, tab6, tab7]
  exact hs_nd
/-! ### graphs: who waits for whom -/
abbrev Nd := Int × Int
theorem tD_ky (t : Nd) : KyD (tD t) := ⟨by simp [tD, kyOk, kyAll], _, rfl⟩
theorem tD_depth (k : Nd) : (tD k).depth = 1 := by simp [tD, PyData.depth, PyData.depthAll]
section
open PySem.W
theorem tD_alike (a b : Nd) : alike (tD a) (tD b) = true := by simp [tD, alike, alikeAll]
def sortN (ks : List Nd) : List Nd := ks.mergeSort fun a b => !dataLt (tD b) (tD a)
theorem sortN_map (ks : List Nd) : (ks.map tD).mergeSort (fun d e => !dataLt e d) = (sortN ks).map tD := by
  unfold sortN
  rw [← sort_maps (r := fun a b => !dataLt (tD b) (tD a)) (s := fun d e => !dataLt e d) tD fun a _ b _ => rfl]
theorem sortN_p (ks : List Nd) : (sortN ks).Perm ks := List.mergeSort_perm _ _
theorem nds_alike (ks : List Nd) : AllAlike (ks.map tD) := AllAlike.of tD_alike
theorem nds_sortable (ks : List Nd) : Sortable (ks.map tD) := Sortable.tuples fun k => ⟨_, _, rfl⟩
theorem nds_depth (ks : List Nd) : ∀ d ∈ ks.map tD, d.depth ≤ 60 := fun d h => by obtain ⟨k, _, rfl⟩ := List.mem_map.mp h; rw [tD_depth]; decide
end
def oD : Option Nd → PyData
  | none => .none
  | some y => tD y
theorem oD_shaped (y : Option Nd) : SeqAt.shaped (oD y) = true := by
  cases y with
  | none => rfl
  | some y => exact tD_shaped y
theorem oD_eqv (y : Option Nd) (x : Nd) : PyData.eqv (oD y) (tD x) = decide (y = some x) := by
  cases y with
  | none => simp [oD, tD, PyData.eqv]
  | some y => show PyData.eqv (tD y) (tD x) = _; rw [tD_eqv]; simp
theorem nds_shaped (ks : List Nd) : SeqAt.shaped (.tuple (ks.map tD)) = true := pl_shaped (pl_tuple fun d h => by obtain ⟨k, _, rfl⟩ := List.mem_map.mp h; exact tD_pl k)
theorem ndl_shaped (ks : List Nd) : SeqAt.shaped (.list (ks.map tD)) = true := pl_shaped (pl_list fun d h => by obtain ⟨k, _, rfl⟩ := List.mem_map.mp h; exact tD_pl k)
section
variable {P : Program} {w : World} {H H' : Hp} {a : Addr} {ks : List Nd} {vv : Nd → V} {g : Nd → Option Nd}
structure Gr (P : Program) (w : World) (H : Hp) (a : Addr) (ks : List Nd) (vv : Nd → V) (g : Nd → Option Nd) : Prop where
  dr : DR P w H a (ks.map fun k => (tD k, vv k))
  at_ : ∀ k ∈ ks, ∃ y, g k = some y ∧ Im H (tD y) (vv k)
  no : ∀ k, k ∉ ks → g k = none
structure GN (P : Program) (w : World) (H : Hp) (a : Addr) (ks : List Nd) (vv : Nd → V) (g : Nd → Option Nd) : Prop where
  dn : DN P w H a (ks.map fun k => (tD k, vv k))
  at_ : ∀ k ∈ ks, ∃ y, g k = some y ∧ Im H (tD y) (vv k)
  no : ∀ k, k ∉ ks → g k = none
theorem GN.gr (m : GN P w H a ks vv g) : Gr P w H a ks vv g := ⟨m.dn.dr, m.at_, m.no⟩
theorem GN.keep (m : GN P w H a ks vv g) (k : ∀ o, H a = some o → H' a = some o) (t : Tk H H') : GN P w H' a ks vv g :=
  ⟨m.dn.keep k t, fun k hk => by obtain ⟨y, e, i⟩ := m.at_ k hk; exact ⟨y, e, Im.mono t _ _ i⟩, m.no⟩
theorem GN.same (m : GN P w H a ks vv g) (s : Same H H') : GN P w H' a ks vv g := m.keep (fun o e => s _ _ e) (Same.tk s)
theorem GN.new {p : Addr} : GN P w (upd H p (dnO P w p [])) p [] (fun _ => .non) (fun _ => none) := ⟨DN.new, fun k h => by simp at h, fun _ _ => rfl⟩
theorem GN.nd (m : GN P w H a ks vv g) : ks.Nodup := nd_map (f := tD) (fun z => tD_inj z) (by have := m.dn.2.1; rw [List.map_map] at this; exact this)
theorem Gr.get (m : Gr P w H a ks vv g) (k : Nd) : Im H (oD (g k)) ((valV (ks.map fun k => (tD k, vv k)) (tD k)).getD .non) := by
  rw [valV_map' (fun z => tD_inj z)]
  by_cases hk : k ∈ ks
  · rw [if_pos hk]
    obtain ⟨y, e, i⟩ := m.at_ k hk
    rw [e]; exact i
  · rw [if_neg hk, m.no k hk]; exact im_non
theorem Gr.ref (m : Gr P w H a ks vv g) : ∀ kv ∈ ks.map (fun k => (tD k, vv k)), ∃ c, kv.2 = .ref c := fun kv h => by
  obtain ⟨k, hk, rfl⟩ := List.mem_map.mp h
  obtain ⟨y, _, i⟩ := m.at_ k hk
  obtain ⟨c, xs, e, _⟩ := im_tupE i
  exact ⟨c, e⟩
theorem GN.put (m : GN P w H a ks vv g) (k : Nd) {y : Nd} {v : V} (i : Im H (tD y) v) : ∀ o, DN P w (upd H a o) a (putK (ks.map fun k => (tD k, vv k)) (tD k) v) → GN P w (upd H a o) a (addK ks k) (setF vv k v) (setF g k (some y)) := fun o dn => by
  refine ⟨?_, fun j hj => ?_, fun j hj => ?_⟩
  · rw [putK_map' (fun z => tD_inj z)] at dn; exact dn
  · by_cases z : j = k
    · subst z; rw [setF_same, setF_same]; exact ⟨y, rfl, Im.mono m.dn.tk _ _ i⟩
    · rw [setF_ne z, setF_ne z]
      obtain ⟨y, e, i⟩ := m.at_ j ((addK_mem.mp hj).resolve_right z)
      exact ⟨y, e, Im.mono m.dn.tk _ _ i⟩
  · have z : j ≠ k := fun z => hj (addK_mem.mpr (.inr z))
    rw [setF_ne z]
    exact m.no j fun z => hj (addK_mem.mpr (.inl z))
end
/-- the ring from x on, so far acc, n steps left -/
def rg (g : Nd → Option Nd) (x : Nd) : Nat → Nd → List Nd → List Nd
  | 0, _, _ => []
  | n + 1, l, acc => match g l with
    | none => []
    | some y => if y = x then acc else rg g x n y (acc ++ [y])
def ringS (g : Nd → Option Nd) (n : Nat) (x : Nd) : List Nd := rg g x n x [x]
def okS (g : Nd → Option Nd) (n : Nat) (t : Nd) : Bool := match ringS g n t with
  | [] => false
  | r :: rs => PyData.eqv (PySem.W.maxD (tD r) (rs.map tD)) (tD t)
def dueS (g : Nd → Option Nd) (n : Nat) (ts : List Nd) : List (List Nd) := ts.flatMap fun t => if okS g n t = true then [ringS g n t] else []
def rrD (rs : List (List Nd)) : List PyData := rs.map fun r => .tuple (r.map tD)
theorem rrD_shaped (rs : List (List Nd)) : SeqAt.shaped (.list (rrD rs)) = true := pl_shaped (pl_list fun d h => by
  obtain ⟨r, _, rfl⟩ := List.mem_map.mp h
  exact pl_tuple (n := 1) fun d h => by obtain ⟨k, _, rfl⟩ := List.mem_map.mp h; exact tD_pl k)
theorem dueS_snoc (g : Nd → Option Nd) (n : Nat) {ts : List Nd} {i : Nat} {t : Nd} (h : ts[i]? = some t) : dueS g n (ts.take (i + 1)) = dueS g n (ts.take i) ++ if okS g n t = true then [ringS g n t] else [] := by
  unfold dueS
  rw [take_snoc h, List.flatMap_append]
  simp
theorem dueS_len (g : Nd → Option Nd) (n : Nat) : ∀ (ts : List Nd), (dueS g n ts).length ≤ ts.length
  | [] => by simp [dueS]
  | t :: ts => by
    have ih := dueS_len g n ts
    have e : dueS g n (t :: ts) = (if okS g n t = true then [ringS g n t] else []) ++ dueS g n ts := rfl
    rw [e, List.length_append, List.length_cons]
    split
    · simp only [List.length_cons, List.length_nil]; omega
    · simp only [List.length_nil]; omega
theorem rg_len (g : Nd → Option Nd) (x : Nd) : ∀ (n : Nat) (l : Nd) (acc : List Nd), (rg g x n l acc).length ≤ acc.length + n
  | 0, _, _ => by simp [rg]
  | n + 1, l, acc => by
    unfold rg
    split
    · simp
    · split
      · omega
      · have := rg_len g x n ‹_› (acc ++ [‹_›])
        rw [List.length_append] at this
        simp only [List.length_cons, List.length_nil] at this
        omega
theorem hII_eq (w : World) (p : Int × Int) : NestedKey.hash w (nkOf (tD p)) = hII p := by
  simp only [tD, nkOf, nksOf, NestedKey.hash, NestedKey.hashes, hII]
theorem nodup_of_sub {α β : Type} (f : α → β) : ∀ {l d : List α}, l.Nodup → (∀ x ∈ l, x ∈ d) → (∀ x ∈ d, ∀ y ∈ d, f x = f y → x = y) → (l.map f).Nodup
  | [], d, _, _, _ => by simp
  | x :: l, d, h, hs, inj => by
    rw [List.nodup_cons] at h
    rw [List.map_cons, List.nodup_cons]
    refine ⟨fun z => ?_, nodup_of_sub f h.2 (fun y hy => hs y (List.mem_cons_of_mem _ hy)) inj⟩
    obtain ⟨y, hy, e⟩ := List.mem_map.mp z
    have := inj y (hs y (List.mem_cons_of_mem _ hy)) x (hs x List.mem_cons_self) e
    subst this
    exact h.1 hy
theorem inj_of_nodup {α β : Type} (f : α → β) : ∀ {d : List α}, (d.map f).Nodup → ∀ x ∈ d, ∀ y ∈ d, f x = f y → x = y
  | [], _, x, hx, _, _, _ => by simp at hx
  | a :: d, h, x, hx, y, hy, e => by
    rw [List.map_cons, List.nodup_cons] at h
    rcases List.mem_cons.mp hx with ex | hx
    · rcases List.mem_cons.mp hy with ey | hy
      · exact ex.trans ey.symm
      · exact absurd (List.mem_map.mpr ⟨y, hy, by rw [← ex, e]⟩) h.1
    · rcases List.mem_cons.mp hy with ey | hy
      · exact absurd (List.mem_map.mpr ⟨x, hx, by rw [← ey, e]⟩) h.1
      · exact inj_of_nodup f h.2 x hx y hy e
theorem GN.apart {P : Program} {w : World} {H : Hp} {a : Addr} {ks : List Nd} {vv : Nd → V} {g : Nd → Option Nd} (m : GN P w H a ks vv g) (hs : ∀ k ∈ ks, k ∈ dom34) : ((ks.map fun k => (tD k, vv k)).map fun kv => (nkOf kv.1).hash w).Nodup := by
  have e : ∀ l : List Nd, ((l.map fun k => (tD k, vv k)).map fun kv => (nkOf kv.1).hash w) = l.map hII := by
    intro l
    induction l with
    | nil => rfl
    | cons x l ih => rw [List.map_cons, List.map_cons, List.map_cons, ih, hII_eq]
  rw [e]
  exact nodup_of_sub hII m.nd hs (inj_of_nodup hII dom34_nd)
theorem dom_a {i j : Int} (h1 : 0 ≤ i) (h2 : i < 14) (h3 : 0 ≤ j) (h4 : j < 6) : (1 + i, j) ∈ dom34 := by
  refine List.mem_append_left _ (List.mem_flatMap.mpr ⟨i.toNat, List.mem_range.mpr (by omega), List.mem_map.mpr ⟨j.toNat, List.mem_range.mpr (by omega), ?_⟩⟩)
  exact Prod.ext (by show (i.toNat : Int) + 1 = 1 + i; omega) (by show (j.toNat : Int) = j; omega)
theorem dom_b {i : Int} (h1 : 0 ≤ i) (h2 : i < 300) : (100 + i, 9) ∈ dom34 := by
  refine List.mem_append_right _ (List.mem_map.mpr ⟨i.toNat, List.mem_range.mpr (by omega), ?_⟩)
  exact Prod.ext (by show (i.toNat : Int) + 100 = 100 + i; omega) rfl
theorem rg_none {g : Nd → Option Nd} {x : Nd} {n : Nat} {l : Nd} {acc : List Nd} (h : g l = none) : rg g x n l acc = [] := by
  cases n with
  | zero => rfl
  | succ n => simp only [rg, h]
theorem rg_home {g : Nd → Option Nd} {x : Nd} {n : Nat} {l : Nd} {acc : List Nd} (h : g l = some x) (hn : 0 < n) : rg g x n l acc = acc := by
  obtain ⟨m, rfl⟩ : ∃ m, n = m + 1 := ⟨n - 1, by omega⟩
  simp only [rg, h, if_true]
theorem rg_on {g : Nd → Option Nd} {x y : Nd} {n : Nat} {l : Nd} {acc : List Nd} (h : g l = some y) (hy : y ≠ x) (hn : 0 < n) : rg g x n l acc = rg g x (n - 1) y (acc ++ [y]) := by
  obtain ⟨m, rfl⟩ : ∃ m, n = m + 1 := ⟨n - 1, by omega⟩
  simp only [rg, h, if_neg hy, Nat.add_sub_cancel]
theorem oD_none {H : Hp} {v : V} (i : Im H (oD none) v) : v = .non := by simpa only [oD, Im] using i
theorem oD_some {H : Hp} {y : Nd} {v : V} (i : Im H (oD (some y)) v) : Im H (tD y) v := i
theorem same_put_new {H H1 : Hp} {p : Addr} {o : HO} (s : Same H H1) (hp : H p = none) : Same H (upd H1 p o) := fun b u e => get_ne (ne_of_none e hp) (s b u e)
theorem atI_m1 {α : Type} {xs : List α} {i : Nat} {v : α} (hl : xs.length = i + 1) (h : xs[i]? = some v) : atI xs (-1) = some v := by
  rcases List.eq_nil_or_concat xs with rfl | ⟨ys, u, e⟩
  · simp at hl
  · have e' : xs = ys ++ [u] := by rw [e, List.concat_eq_append]
    subst e'
    have hy : ys.length = i := by rw [List.length_append] at hl; simpa using hl
    rw [List.getElem?_append_right (by omega), hy] at h
    simp at h
    subst h
    exact atI_last ys u
open PySem.W in
theorem maxD_nd (t : Nd) (ts : List Nd) : ∃ m : Nd, maxD (tD t) (ts.map tD) = tD m := by
  have h := maxD_mem (tD t) (ts.map tD)
  rw [← List.map_cons] at h
  obtain ⟨m, _, e⟩ := List.mem_map.mp h
  exact ⟨m, e.symm⟩
theorem okS_nil {g : Nd → Option Nd} {n : Nat} {t : Nd} (h : ringS g n t = []) : okS g n t = false := by unfold okS; rw [h]
theorem okS_cons {g : Nd → Option Nd} {n : Nat} {t r : Nd} {rs : List Nd} (h : ringS g n t = r :: rs) : okS g n t = PyData.eqv (PySem.W.maxD (tD r) (rs.map tD)) (tD t) := by unfold okS; rw [h]
open PySem.W in
theorem nds_alikeAll (ks : List Nd) : AlikeAll (ks.map tD) := by
  refine ⟨fun a ha b hb => ?_, fun a ha => ?_⟩
  · obtain ⟨x, _, rfl⟩ := List.mem_map.mp ha
    obtain ⟨y, _, rfl⟩ := List.mem_map.mp hb
    exact tD_alike x y
  · obtain ⟨x, _, rfl⟩ := List.mem_map.mp ha
    exact fun e => by cases e
theorem nds_any (ws : List Nd) (v : Nd) : ((ws.map tD).any fun z => PyData.eqv z (tD v)) = decide (v ∈ ws) := by
  rw [Bool.eq_iff_iff, List.any_eq_true, decide_eq_true_eq]
  constructor
  · rintro ⟨z, hz, e⟩
    obtain ⟨u, hu, rfl⟩ := List.mem_map.mp hz
    rw [tD_eqv, decide_eq_true_eq] at e
    subst e; exact hu
  · intro h
    exact ⟨tD v, List.mem_map_of_mem h, by rw [tD_eqv]; simp⟩
theorem GN.gn {P : Program} {w : World} {H H' : Hp} {a s0 : Addr} {ks : List Nd} {vv : Nd → V} {g : Nd → Option Nd} (m : GN P w H a ks vv g) (n : a ≠ s0) (f : Gn s0 H H') : GN P w H' a ks vv g := m.keep (fun o e => f.but _ _ e n) f.tk

local macro_rules | `(tactic| walk_at "hp") => `(tactic| first
  | assumption | exact upd_same | (refine get_new (by assumption) ?_; walk_at "hp") | (refine Gn.at (by assumption) ?_ (by assumption); walk_at "hp")
  | (refine (by assumption : Same _ _) _ _ ?_; walk_at "hp") | (refine get_ne (by assumption) ?_; walk_at "hp") | (refine get_ne (Ne.symm (by assumption)) ?_; walk_at "hp"))
local macro_rules | `(tactic| walk_at "im") => `(tactic| first
  | assumption | exact im_int | exact im_str | exact im_non | exact im_bool
  | (refine Gn.im (by assumption) ?_; walk_at "im") | (refine imNew (by assumption) ?_; walk_at "im") | (refine Same.im (by assumption) ?_; walk_at "im")
  | (refine imPut (by assumption) ?_; walk_at "im") | (refine imIns (by assumption) ?_; walk_at "im") | (refine imDk (by assumption) ?_; walk_at "im")
  | (refine im_tupNew (by assumption) ?_; walk_at "ims") | (refine im_tup (by assumption) ?_; walk_at "ims"))
local macro_rules | `(tactic| walk_at "ims") => `(tactic| first
  | assumption | exact im_nil | (refine Gn.ims (by assumption) ?_; walk_at "ims") | (refine imsNew (by assumption) ?_; walk_at "ims") | (refine Same.ims (by assumption) ?_; walk_at "ims")
  | (refine imsPut (by assumption) ?_; walk_at "ims") | (refine imsIns (by assumption) ?_; walk_at "ims") | (refine imsDk (by assumption) ?_; walk_at "ims") | (refine im_cons ?_ ?_; walk_at "im"; walk_at "ims"))

def top (i : Nat) : Stmt := PySem.Challenge.pw_ringloosed_k34_rings_of_waits.main.body.getD i (.Pass ⟨0, 0, 0, 0⟩)
abbrev s_ring_of : Stmt := top 1
abbrev N_ring_of : List Str := ["graph", "transaction", "ring", "other"]
theorem sc_ring_of : FnScope N_ring_of ["graph", "transaction"] (defScope s_ring_of) := ⟨rfl, rfl, rfl, by decide +kernel, rfl, by decide +kernel, by decide +kernel⟩
abbrev s_rings : Stmt := top 2
abbrev N_rings : List Str := ["graph", "found", "transaction", "ring"]
theorem sc_rings : FnScope N_rings ["graph"] (defScope s_rings) := ⟨rfl, rfl, rfl, by decide +kernel, rfl, by decide +kernel, by decide +kernel⟩
abbrev s_law_stream : Stmt := top 4
abbrev N_law_stream : List Str := ["_law_cell", "_law_k", "_law_digits"]
theorem sc_law_stream : FnScope N_law_stream ["_law_cell", "_law_k"] (defScope s_law_stream) := ⟨rfl, rfl, rfl, by decide +kernel, rfl, by decide +kernel, by decide +kernel⟩
abbrev s_law_next : Stmt := top 5
abbrev N_law_next : List Str := ["_law_stream_here", "_law_size", "_law_drawn_here"]
theorem sc_law_next : FnScope N_law_next ["_law_stream_here", "_law_size"] (defScope s_law_next) := ⟨rfl, rfl, rfl, by decide +kernel, rfl, by decide +kernel, by decide +kernel⟩
abbrev s_law_ring : Stmt := top 6
abbrev N_law_ring : List Str := ["_law_graph", "_law_name", "_law_ring_here", "_law_turn", "_law_last"]
theorem sc_law_ring : FnScope N_law_ring ["_law_graph", "_law_name"] (defScope s_law_ring) := ⟨rfl, rfl, rfl, by decide +kernel, rfl, by decide +kernel, by decide +kernel⟩
abbrev s_law_drawn : Stmt := top 7
abbrev N_law_drawn : List Str := ["_law_stream_here", "_law_k", "_law_names", "_law_turn", "_law_name", "_law_graph", "_law_other", "_law_step", "_law_place"]
theorem sc_law_drawn : FnScope N_law_drawn ["_law_stream_here", "_law_k"] (defScope s_law_drawn) := ⟨rfl, rfl, rfl, by decide +kernel, rfl, by decide +kernel, by decide +kernel⟩
abbrev s_law : Stmt := top 8
abbrev N_law : List Str := ["_law_script", "_law_k", "_law_names", "_law_graph", "_law_given", "_law_name", "_law_told", "_law_due", "_law_ring_here", "_law_turn", "_law_found", "_law_long", "_law_place"]
theorem sc_law : FnScope N_law ["_law_script"] (defScope s_law) := ⟨rfl, rfl, rfl, by decide +kernel, rfl, by decide +kernel, by decide +kernel⟩
structure Txt (K : PySem.W.Frag) (mg : Str → Option Value) where
  f_ring_of : Addr
  d_ring_of : FuncData
  F_ring_of : Fun K "ring_of" "ring_of" s_ring_of f_ring_of d_ring_of
  b_ring_of : Binds K d_ring_of ["graph", "transaction"] []
  g_ring_of : mg "ring_of" = some (.ref f_ring_of)
  f_rings : Addr
  d_rings : FuncData
  F_rings : Fun K "rings" "rings" s_rings f_rings d_rings
  b_rings : Binds K d_rings ["graph"] []
  g_rings : mg "rings" = some (.ref f_rings)
  f_law_stream : Addr
  d_law_stream : FuncData
  F_law_stream : Fun K "_law_stream" "_law_stream" s_law_stream f_law_stream d_law_stream
  b_law_stream : Binds K d_law_stream ["_law_cell", "_law_k"] []
  g_law_stream : mg "_law_stream" = some (.ref f_law_stream)
  f_law_next : Addr
  d_law_next : FuncData
  F_law_next : Fun K "_law_next" "_law_next" s_law_next f_law_next d_law_next
  b_law_next : Binds K d_law_next ["_law_stream_here", "_law_size"] []
  g_law_next : mg "_law_next" = some (.ref f_law_next)
  f_law_ring : Addr
  d_law_ring : FuncData
  F_law_ring : Fun K "_law_ring" "_law_ring" s_law_ring f_law_ring d_law_ring
  b_law_ring : Binds K d_law_ring ["_law_graph", "_law_name"] []
  g_law_ring : mg "_law_ring" = some (.ref f_law_ring)
  f_law_drawn : Addr
  d_law_drawn : FuncData
  F_law_drawn : Fun K "_law_drawn" "_law_drawn" s_law_drawn f_law_drawn d_law_drawn
  b_law_drawn : Binds K d_law_drawn ["_law_stream_here", "_law_k"] []
  g_law_drawn : mg "_law_drawn" = some (.ref f_law_drawn)
  f_law : Addr
  d_law : FuncData
  F_law : Fun K "law" "law" s_law f_law d_law
  b_law : Binds K d_law ["_law_script"] []
  g_law : mg "law" = some (.ref f_law)
  z_tuple : mg "tuple" = none
  z_len : mg "len" = none
  z_sorted : mg "sorted" = none
  z_max : mg "max" = none
  z_int : mg "int" = none
  z_range : mg "range" = none
  z_min : mg "min" = none
  z_dict : mg "dict" = none
  z_isinstance : mg "isinstance" = none
  z_list : mg "list" = none
section
variable {P : Program} {w : World} {K : PySem.W.Frag} {mg : Str → Option Value} {base : Heap}
def spLaw (K : PySem.W.Frag) : Sp := fun vs H Q _ => ∃ (a : Addr) (ns : List Int), vs = [.ref a] ∧ SqL K H a (ns.map V.int) ∧ ns.length ≤ 63 ∧ ∀ H', Q (.bl true) H'
def sp_ring_of (P : Program) (w : World) : Sp := fun vs H Q _ => ∃ (a : Addr) (ks : List Nd) (vv : Nd → V) (g : Nd → Option Nd) (t : Nd) (tv : V), vs = [.ref a, tv] ∧ (∀ H', Same H H' → Gr P w H' a ks vv g) ∧ Im H (tD t) tv ∧ ks.length ≤ 1300 ∧
  ∀ (q : Addr) (zs : List V) (H' : Hp), H' q = some (.tup zs) → ImAll H' ((ringS g ks.length t).map tD) zs → Same H H' → Q (.ref q) H'
theorem ok_ring_of (T : Txt K mg) : FnOk P w K mg base CX0 1 T.f_ring_of T.d_ring_of ["graph", "transaction"] (sp_ring_of P w) := by
  refine Fun.ok T.F_ring_of sc_ring_of (fun vs H Q E h => ?_) (fun cdv A outer s H vs Q E hr h => ?_)
  · obtain ⟨a, ks, vv, g, t, tv, rfl, ms, it, hlen, kk⟩ := h; rfl
  · obtain ⟨a, ks, vv, g, t, tv, rfl, ms, it, hlen, kk⟩ := h
    have hu := hu_of hr
    refine ⟨_, (pss_cons (ps_set (i := 2) sc_ring_of.nd rfl (Or.inl rfl) (pe_lst (pa_cons (pv 1) pa_nil)))
      (pss_cons (ps_set (i := 3) sc_ring_of.nd rfl (Or.inl rfl) (pe_bmN (P := P) (w := w) PySem.F.slot_dict_get PySem.F.type_dict_get (mt_get1N (P := P) (w := w) (hu65 hr)) (pv 0) (pa_cons (pv 1) pa_nil)))
      (pss_cons (ps_while PassesOwn.never (PW.pt (pw_and (pt_cmp (pc_notN (pv 3))) (pw_and (pt_cmpR (op_neDK (K := K) rfl hr.units) (pv 3) (pv 1) (nomark _)) (pw_and1 (pt_cmpR op_lt (pe_callB call_lenS (by rfl) T.z_len (by decide +kernel) (pa_cons (pv 2) pa_nil)) (pe_callB (call_lenN (P := P) (w := w)) (by rfl) T.z_len (by decide +kernel) (pa_cons (pv 0) pa_nil)) (nomark _))))))
      (pss_cons (ps_expr (pe_bm PySem.F.plainAttrs_list PySem.F.slot_list_append PySem.F.type_list_append mt_append (pv 2) (pa_cons (pv 3) pa_nil)))
      (pss_one (ps_set (i := 3) sc_ring_of.nd rfl (Or.inl rfl) (pe_bmN (P := P) (w := w) PySem.F.slot_dict_get PySem.F.type_dict_get (mt_get1N (P := P) (w := w) (hu65 hr)) (pv 0) (pa_cons (pv 3) pa_nil))))))
      (pss_cons (ps_if (pt_cmpR (op_eqDK (K := K) rfl hr.units) (pv 3) (pv 1) (nomark _)) (pss_one (ps_ret (pe_callTy call_tupS (by rfl) T.z_tuple (by decide +kernel) (pa_cons (pv 2) pa_nil)))) pss_nil)
      (pss_one (ps_ret (pe_tup pa_nil))))))), ?_⟩
    (try simp only [cxOf, Cx.nox, Cx.wish, tSeq, tAsg, tC, gName, tIfS, tTest, tOp, tUn, rU, rI0, rI, tVar, tNext, tRevT, tDNewK, tBreak, tChain, iStr, tRet, tRetN, tDrop, tLst, tTup, tCons, tNil, tCB, tB, tOr, tAnd, tNot, tIf, tCall, tFor_eq, tLc_eq, iRng1, iRng2, iList, iTup, gTup, gTupH, gUnlH, gCons, gNil, gSub, rSetL, rIxL, rIxT, rIxLH, rIxTH, rSlTS, rCatS, rTupS, rIsiH, rLenS, V.ty.injEq, tyS_non, tyS_bl, tyS_int, tyS_str, tyS_ref, tyO_l, tyO_t, tyO_d, tyO_dt, kit_ll, kit_tt, kit_bb, kit_ii, kit_ib, kit_bi, kit_nt, kit_it, kit_st, kit_bt, kit_lt, kit_dt, kit_ni, kit_si, kit_ti, kit_li, kit_di, kit_nb, kit_ns, kit_is, kit_bs, kit_ss, kit_ts, kit_ls, kit_ds, kit_dd, lenS_ref, lenO_l, lenO_t,  rAppend, tM1, rIxS, tSl, tPart, tNoPart, tBM, tBM0, tDGetS, sDPutS, tTruS, truO_l, truO_t, truS_ref, truS_non, truS_bl, truS_int, tFld, sFld, sFldAug, rAdd, tMeth, tProp, tMake, tMakeK, List.take_succ_cons, List.take_zero, List.drop_succ_cons, List.drop_zero, List.take_nil, tIsN, tNotN, tAndV, tOrV, tNotV, putF, List.lookup, List.any_cons, List.any_nil, Sum.inr.injEq, HO.ins.injEq, HO.dK.injEq, eq_self, beq_self_eq_true, beq_iff_eq, decide_true, decide_false, Bool.or_true, Bool.true_or, Bool.or_false, Bool.false_or, tYes, rEq, rNe, _root_.L2.start, wipe, List.map_cons, List.map_nil, List.length_cons, List.length_nil, List.append_nil, Nat.reduceAdd, Nat.reduceSub, List.replicate_succ, List.replicate_zero, List.cons_append, List.nil_append, List.getElem?_cons_zero, List.getElem?_cons_succ, List.set_cons_zero, List.set_cons_succ, Option.some.injEq, V.int.injEq, V.ref.injEq, V.bl.injEq, V.str.injEq, List.cons.injEq, HO.lst.injEq, HO.tup.injEq, and_assoc, and_true, true_and, exists_eq_left, exists_eq_left', exists_and_left, exists_eq, reduceCtorEq, false_and, and_false, or_false, false_or, exists_false, decide_eq_true_eq, CPow, CDivW, Int.reducePow, Int.reduceLT, Int.reduceLE, Int.reduceNeg, Int.reduceToNat, Int.reduceAbs, Nat.reducePow, Nat.reduceLT, Nat.reduceLeDiff, sizeLine_eq, Int.reduceMul, Int.reduceAdd, Int.reduceSub, Bool.not_eq_true', decide_eq_false_iff_not, scal, Bool.not_true, Bool.not_false, Bool.true_eq_false, Bool.false_eq_true, ite_false, ite_true, if_true, if_false, ite_self, forall_const, atI0, atI1, atI2, atI3, ixN20, ixN21, upd_same, upd_upd, Int.zero_add, CMul, Int.reduceSub, Nat.le_refl, Nat.zero_le, or_true, true_or, exists_const, Int.sub_zero, tDNewN, tDGetN, tDInN, tDNotInN, sDPutN, sDDelN, rLenN, tBMN, rGet1N, rGet2N, rSetdefN, tDcN, iKeysN, tLock, Option.isSome_none, Option.isSome_some, atI4, atI5])
    intro p hp
    have s0 := same_new hp (o := .lst [tv])
    refine ⟨⟨_, (ms _ s0).dr⟩, tD t, _, (ms _ s0).dr, tD_ky t, imNew hp it, ?_⟩
    have i0 := (ms _ s0).get t
    refine ⟨fun m σ H' => ∃ (i : Nat) (acc : List Nd) (accv : List V) (l : Nd) (ov : V), σ = [some (.ref a), some tv, some (.ref p), some ov] ∧ H' p = some (.lst accv) ∧ ImAll H' (acc.map tD) accv ∧ Im H' (oD (g l)) ov ∧ Same H H' ∧ acc.length = i + 1 ∧ (i < ks.length ∨ g l = none) ∧ m = ks.length - i ∧ rg g t (ks.length - i) l acc = ringS g ks.length t,
      ⟨_, 0, [t], [tv], t, _, rfl, upd_same, im_cons (imNew hp it) im_nil, i0, s0, rfl, ?_, rfl, rfl⟩, ?_⟩
    · cases hk : ks with
      | nil => exact .inr ((ms _ (Same.refl _)).no t (by rw [hk]; simp))
      | cons x xs => exact .inl (by simp)
    rintro m σ H1 ⟨i, acc, accv, l, ov, rfl, hacc, iacc, io, s1, hal, hin, rfl, hrg⟩
    have it1 := Same.im s1 it
    have hal' := iacc.len
    rw [List.length_map] at hal'
    cases hg : g l with
    | none =>
      rw [hg] at io
      obtain rfl := oD_none io
      (try simp only [cxOf, Cx.nox, Cx.wish, tSeq, tAsg, tC, gName, tIfS, tTest, tOp, tUn, rU, rI0, rI, tVar, tNext, tRevT, tDNewK, tBreak, tChain, iStr, tRet, tRetN, tDrop, tLst, tTup, tCons, tNil, tCB, tB, tOr, tAnd, tNot, tIf, tCall, tFor_eq, tLc_eq, iRng1, iRng2, iList, iTup, gTup, gTupH, gUnlH, gCons, gNil, gSub, rSetL, rIxL, rIxT, rIxLH, rIxTH, rSlTS, rCatS, rTupS, rIsiH, rLenS, V.ty.injEq, tyS_non, tyS_bl, tyS_int, tyS_str, tyS_ref, tyO_l, tyO_t, tyO_d, tyO_dt, kit_ll, kit_tt, kit_bb, kit_ii, kit_ib, kit_bi, kit_nt, kit_it, kit_st, kit_bt, kit_lt, kit_dt, kit_ni, kit_si, kit_ti, kit_li, kit_di, kit_nb, kit_ns, kit_is, kit_bs, kit_ss, kit_ts, kit_ls, kit_ds, kit_dd, lenS_ref, lenO_l, lenO_t,  rAppend, tM1, rIxS, tSl, tPart, tNoPart, tBM, tBM0, tDGetS, sDPutS, tTruS, truO_l, truO_t, truS_ref, truS_non, truS_bl, truS_int, tFld, sFld, sFldAug, rAdd, tMeth, tProp, tMake, tMakeK, List.take_succ_cons, List.take_zero, List.drop_succ_cons, List.drop_zero, List.take_nil, tIsN, tNotN, tAndV, tOrV, tNotV, putF, List.lookup, List.any_cons, List.any_nil, Sum.inr.injEq, HO.ins.injEq, HO.dK.injEq, eq_self, beq_self_eq_true, beq_iff_eq, decide_true, decide_false, Bool.or_true, Bool.true_or, Bool.or_false, Bool.false_or, tYes, rEq, rNe, _root_.L2.start, wipe, List.map_cons, List.map_nil, List.length_cons, List.length_nil, List.append_nil, Nat.reduceAdd, Nat.reduceSub, List.replicate_succ, List.replicate_zero, List.cons_append, List.nil_append, List.getElem?_cons_zero, List.getElem?_cons_succ, List.set_cons_zero, List.set_cons_succ, Option.some.injEq, V.int.injEq, V.ref.injEq, V.bl.injEq, V.str.injEq, List.cons.injEq, HO.lst.injEq, HO.tup.injEq, and_assoc, and_true, true_and, exists_eq_left, exists_eq_left', exists_and_left, exists_eq, reduceCtorEq, false_and, and_false, or_false, false_or, exists_false, decide_eq_true_eq, CPow, CDivW, Int.reducePow, Int.reduceLT, Int.reduceLE, Int.reduceNeg, Int.reduceToNat, Int.reduceAbs, Nat.reducePow, Nat.reduceLT, Nat.reduceLeDiff, sizeLine_eq, Int.reduceMul, Int.reduceAdd, Int.reduceSub, Bool.not_eq_true', decide_eq_false_iff_not, scal, Bool.not_true, Bool.not_false, Bool.true_eq_false, Bool.false_eq_true, ite_false, ite_true, if_true, if_false, ite_self, forall_const, atI0, atI1, atI2, atI3, ixN20, ixN21, upd_same, upd_upd, Int.zero_add, CMul, Int.reduceSub, Nat.le_refl, Nat.zero_le, or_true, true_or, exists_const, Int.sub_zero, tDNewN, tDGetN, tDInN, tDNotInN, sDPutN, sDDelN, rLenN, tBMN, rGet1N, rGet2N, rSetdefN, tDcN, iKeysN, tLock, Option.isSome_none, Option.isSome_some, atI4, atI5])
      unfold rEqD
      refine ⟨.none, _, .non, Im.dp _ _ it1, rfl, tD_shaped t, ?_⟩
      rw [show PyData.eqv .none (tD t) = false from rfl]
      (try simp only [cxOf, Cx.nox, Cx.wish, tSeq, tAsg, tC, gName, tIfS, tTest, tOp, tUn, rU, rI0, rI, tVar, tNext, tRevT, tDNewK, tBreak, tChain, iStr, tRet, tRetN, tDrop, tLst, tTup, tCons, tNil, tCB, tB, tOr, tAnd, tNot, tIf, tCall, tFor_eq, tLc_eq, iRng1, iRng2, iList, iTup, gTup, gTupH, gUnlH, gCons, gNil, gSub, rSetL, rIxL, rIxT, rIxLH, rIxTH, rSlTS, rCatS, rTupS, rIsiH, rLenS, V.ty.injEq, tyS_non, tyS_bl, tyS_int, tyS_str, tyS_ref, tyO_l, tyO_t, tyO_d, tyO_dt, kit_ll, kit_tt, kit_bb, kit_ii, kit_ib, kit_bi, kit_nt, kit_it, kit_st, kit_bt, kit_lt, kit_dt, kit_ni, kit_si, kit_ti, kit_li, kit_di, kit_nb, kit_ns, kit_is, kit_bs, kit_ss, kit_ts, kit_ls, kit_ds, kit_dd, lenS_ref, lenO_l, lenO_t,  rAppend, tM1, rIxS, tSl, tPart, tNoPart, tBM, tBM0, tDGetS, sDPutS, tTruS, truO_l, truO_t, truS_ref, truS_non, truS_bl, truS_int, tFld, sFld, sFldAug, rAdd, tMeth, tProp, tMake, tMakeK, List.take_succ_cons, List.take_zero, List.drop_succ_cons, List.drop_zero, List.take_nil, tIsN, tNotN, tAndV, tOrV, tNotV, putF, List.lookup, List.any_cons, List.any_nil, Sum.inr.injEq, HO.ins.injEq, HO.dK.injEq, eq_self, beq_self_eq_true, beq_iff_eq, decide_true, decide_false, Bool.or_true, Bool.true_or, Bool.or_false, Bool.false_or, tYes, rEq, rNe, _root_.L2.start, wipe, List.map_cons, List.map_nil, List.length_cons, List.length_nil, List.append_nil, Nat.reduceAdd, Nat.reduceSub, List.replicate_succ, List.replicate_zero, List.cons_append, List.nil_append, List.getElem?_cons_zero, List.getElem?_cons_succ, List.set_cons_zero, List.set_cons_succ, Option.some.injEq, V.int.injEq, V.ref.injEq, V.bl.injEq, V.str.injEq, List.cons.injEq, HO.lst.injEq, HO.tup.injEq, and_assoc, and_true, true_and, exists_eq_left, exists_eq_left', exists_and_left, exists_eq, reduceCtorEq, false_and, and_false, or_false, false_or, exists_false, decide_eq_true_eq, CPow, CDivW, Int.reducePow, Int.reduceLT, Int.reduceLE, Int.reduceNeg, Int.reduceToNat, Int.reduceAbs, Nat.reducePow, Nat.reduceLT, Nat.reduceLeDiff, sizeLine_eq, Int.reduceMul, Int.reduceAdd, Int.reduceSub, Bool.not_eq_true', decide_eq_false_iff_not, scal, Bool.not_true, Bool.not_false, Bool.true_eq_false, Bool.false_eq_true, ite_false, ite_true, if_true, if_false, ite_self, forall_const, atI0, atI1, atI2, atI3, ixN20, ixN21, upd_same, upd_upd, Int.zero_add, CMul, Int.reduceSub, Nat.le_refl, Nat.zero_le, or_true, true_or, exists_const, Int.sub_zero, tDNewN, tDGetN, tDInN, tDNotInN, sDPutN, sDDelN, rLenN, tBMN, rGet1N, rGet2N, rSetdefN, tDcN, iKeysN, tLock, Option.isSome_none, Option.isSome_some, atI4, atI5])
      intro q hq
      refine kk q _ _ upd_same ?_ (s1.trans (same_new hq))
      rw [← hrg, rg_none hg]
      exact im_nil
    | some y =>
      rw [hg] at io
      have iy := oD_some io
      obtain ⟨yc, rfl, hyc⟩ := tD_at' iy
      have hi : i < ks.length := hin.resolve_right (by rw [hg]; simp)
      have end_ : PyData.eqv (tD y) (tD t) = decide (y = t) := tD_eqv y t
      (try simp only [cxOf, Cx.nox, Cx.wish, tSeq, tAsg, tC, gName, tIfS, tTest, tOp, tUn, rU, rI0, rI, tVar, tNext, tRevT, tDNewK, tBreak, tChain, iStr, tRet, tRetN, tDrop, tLst, tTup, tCons, tNil, tCB, tB, tOr, tAnd, tNot, tIf, tCall, tFor_eq, tLc_eq, iRng1, iRng2, iList, iTup, gTup, gTupH, gUnlH, gCons, gNil, gSub, rSetL, rIxL, rIxT, rIxLH, rIxTH, rSlTS, rCatS, rTupS, rIsiH, rLenS, V.ty.injEq, tyS_non, tyS_bl, tyS_int, tyS_str, tyS_ref, tyO_l, tyO_t, tyO_d, tyO_dt, kit_ll, kit_tt, kit_bb, kit_ii, kit_ib, kit_bi, kit_nt, kit_it, kit_st, kit_bt, kit_lt, kit_dt, kit_ni, kit_si, kit_ti, kit_li, kit_di, kit_nb, kit_ns, kit_is, kit_bs, kit_ss, kit_ts, kit_ls, kit_ds, kit_dd, lenS_ref, lenO_l, lenO_t,  rAppend, tM1, rIxS, tSl, tPart, tNoPart, tBM, tBM0, tDGetS, sDPutS, tTruS, truO_l, truO_t, truS_ref, truS_non, truS_bl, truS_int, tFld, sFld, sFldAug, rAdd, tMeth, tProp, tMake, tMakeK, List.take_succ_cons, List.take_zero, List.drop_succ_cons, List.drop_zero, List.take_nil, tIsN, tNotN, tAndV, tOrV, tNotV, putF, List.lookup, List.any_cons, List.any_nil, Sum.inr.injEq, HO.ins.injEq, HO.dK.injEq, eq_self, beq_self_eq_true, beq_iff_eq, decide_true, decide_false, Bool.or_true, Bool.true_or, Bool.or_false, Bool.false_or, tYes, rEq, rNe, _root_.L2.start, wipe, List.map_cons, List.map_nil, List.length_cons, List.length_nil, List.append_nil, Nat.reduceAdd, Nat.reduceSub, List.replicate_succ, List.replicate_zero, List.cons_append, List.nil_append, List.getElem?_cons_zero, List.getElem?_cons_succ, List.set_cons_zero, List.set_cons_succ, Option.some.injEq, V.int.injEq, V.ref.injEq, V.bl.injEq, V.str.injEq, List.cons.injEq, HO.lst.injEq, HO.tup.injEq, and_assoc, and_true, true_and, exists_eq_left, exists_eq_left', exists_and_left, exists_eq, reduceCtorEq, false_and, and_false, or_false, false_or, exists_false, decide_eq_true_eq, CPow, CDivW, Int.reducePow, Int.reduceLT, Int.reduceLE, Int.reduceNeg, Int.reduceToNat, Int.reduceAbs, Nat.reducePow, Nat.reduceLT, Nat.reduceLeDiff, sizeLine_eq, Int.reduceMul, Int.reduceAdd, Int.reduceSub, Bool.not_eq_true', decide_eq_false_iff_not, scal, Bool.not_true, Bool.not_false, Bool.true_eq_false, Bool.false_eq_true, ite_false, ite_true, if_true, if_false, ite_self, forall_const, atI0, atI1, atI2, atI3, ixN20, ixN21, upd_same, upd_upd, Int.zero_add, CMul, Int.reduceSub, Nat.le_refl, Nat.zero_le, or_true, true_or, exists_const, Int.sub_zero, tDNewN, tDGetN, tDInN, tDNotInN, sDPutN, sDDelN, rLenN, tBMN, rGet1N, rGet2N, rSetdefN, tDcN, iKeysN, tLock, Option.isSome_none, Option.isSome_some, atI4, atI5])
      rw [if_pos not_false]
      unfold rNeD rEqD
      refine ⟨_, _, Im.dp _ _ iy, Im.dp _ _ it1, tD_shaped y, tD_shaped t, ?_⟩
      rw [end_]
      by_cases hyt : y = t
      · rw [decide_eq_true hyt]
        (try simp only [cxOf, Cx.nox, Cx.wish, tSeq, tAsg, tC, gName, tIfS, tTest, tOp, tUn, rU, rI0, rI, tVar, tNext, tRevT, tDNewK, tBreak, tChain, iStr, tRet, tRetN, tDrop, tLst, tTup, tCons, tNil, tCB, tB, tOr, tAnd, tNot, tIf, tCall, tFor_eq, tLc_eq, iRng1, iRng2, iList, iTup, gTup, gTupH, gUnlH, gCons, gNil, gSub, rSetL, rIxL, rIxT, rIxLH, rIxTH, rSlTS, rCatS, rTupS, rIsiH, rLenS, V.ty.injEq, tyS_non, tyS_bl, tyS_int, tyS_str, tyS_ref, tyO_l, tyO_t, tyO_d, tyO_dt, kit_ll, kit_tt, kit_bb, kit_ii, kit_ib, kit_bi, kit_nt, kit_it, kit_st, kit_bt, kit_lt, kit_dt, kit_ni, kit_si, kit_ti, kit_li, kit_di, kit_nb, kit_ns, kit_is, kit_bs, kit_ss, kit_ts, kit_ls, kit_ds, kit_dd, lenS_ref, lenO_l, lenO_t,  rAppend, tM1, rIxS, tSl, tPart, tNoPart, tBM, tBM0, tDGetS, sDPutS, tTruS, truO_l, truO_t, truS_ref, truS_non, truS_bl, truS_int, tFld, sFld, sFldAug, rAdd, tMeth, tProp, tMake, tMakeK, List.take_succ_cons, List.take_zero, List.drop_succ_cons, List.drop_zero, List.take_nil, tIsN, tNotN, tAndV, tOrV, tNotV, putF, List.lookup, List.any_cons, List.any_nil, Sum.inr.injEq, HO.ins.injEq, HO.dK.injEq, eq_self, beq_self_eq_true, beq_iff_eq, decide_true, decide_false, Bool.or_true, Bool.true_or, Bool.or_false, Bool.false_or, tYes, rEq, rNe, _root_.L2.start, wipe, List.map_cons, List.map_nil, List.length_cons, List.length_nil, List.append_nil, Nat.reduceAdd, Nat.reduceSub, List.replicate_succ, List.replicate_zero, List.cons_append, List.nil_append, List.getElem?_cons_zero, List.getElem?_cons_succ, List.set_cons_zero, List.set_cons_succ, Option.some.injEq, V.int.injEq, V.ref.injEq, V.bl.injEq, V.str.injEq, List.cons.injEq, HO.lst.injEq, HO.tup.injEq, and_assoc, and_true, true_and, exists_eq_left, exists_eq_left', exists_and_left, exists_eq, reduceCtorEq, false_and, and_false, or_false, false_or, exists_false, decide_eq_true_eq, CPow, CDivW, Int.reducePow, Int.reduceLT, Int.reduceLE, Int.reduceNeg, Int.reduceToNat, Int.reduceAbs, Nat.reducePow, Nat.reduceLT, Nat.reduceLeDiff, sizeLine_eq, Int.reduceMul, Int.reduceAdd, Int.reduceSub, Bool.not_eq_true', decide_eq_false_iff_not, scal, Bool.not_true, Bool.not_false, Bool.true_eq_false, Bool.false_eq_true, ite_false, ite_true, if_true, if_false, ite_self, forall_const, atI0, atI1, atI2, atI3, ixN20, ixN21, upd_same, upd_upd, Int.zero_add, CMul, Int.reduceSub, Nat.le_refl, Nat.zero_le, or_true, true_or, exists_const, Int.sub_zero, tDNewN, tDGetN, tDInN, tDNotInN, sDPutN, sDDelN, rLenN, tBMN, rGet1N, rGet2N, rSetdefN, tDcN, iKeysN, tLock, Option.isSome_none, Option.isSome_some, atI4, atI5])
        refine ⟨_, Im.dp _ _ iy, _, Im.dp _ _ it1, tD_shaped y, tD_shaped t, ?_⟩
        rw [end_, decide_eq_true hyt]
        (try simp only [cxOf, Cx.nox, Cx.wish, tSeq, tAsg, tC, gName, tIfS, tTest, tOp, tUn, rU, rI0, rI, tVar, tNext, tRevT, tDNewK, tBreak, tChain, iStr, tRet, tRetN, tDrop, tLst, tTup, tCons, tNil, tCB, tB, tOr, tAnd, tNot, tIf, tCall, tFor_eq, tLc_eq, iRng1, iRng2, iList, iTup, gTup, gTupH, gUnlH, gCons, gNil, gSub, rSetL, rIxL, rIxT, rIxLH, rIxTH, rSlTS, rCatS, rTupS, rIsiH, rLenS, V.ty.injEq, tyS_non, tyS_bl, tyS_int, tyS_str, tyS_ref, tyO_l, tyO_t, tyO_d, tyO_dt, kit_ll, kit_tt, kit_bb, kit_ii, kit_ib, kit_bi, kit_nt, kit_it, kit_st, kit_bt, kit_lt, kit_dt, kit_ni, kit_si, kit_ti, kit_li, kit_di, kit_nb, kit_ns, kit_is, kit_bs, kit_ss, kit_ts, kit_ls, kit_ds, kit_dd, lenS_ref, lenO_l, lenO_t,  rAppend, tM1, rIxS, tSl, tPart, tNoPart, tBM, tBM0, tDGetS, sDPutS, tTruS, truO_l, truO_t, truS_ref, truS_non, truS_bl, truS_int, tFld, sFld, sFldAug, rAdd, tMeth, tProp, tMake, tMakeK, List.take_succ_cons, List.take_zero, List.drop_succ_cons, List.drop_zero, List.take_nil, tIsN, tNotN, tAndV, tOrV, tNotV, putF, List.lookup, List.any_cons, List.any_nil, Sum.inr.injEq, HO.ins.injEq, HO.dK.injEq, eq_self, beq_self_eq_true, beq_iff_eq, decide_true, decide_false, Bool.or_true, Bool.true_or, Bool.or_false, Bool.false_or, tYes, rEq, rNe, _root_.L2.start, wipe, List.map_cons, List.map_nil, List.length_cons, List.length_nil, List.append_nil, Nat.reduceAdd, Nat.reduceSub, List.replicate_succ, List.replicate_zero, List.cons_append, List.nil_append, List.getElem?_cons_zero, List.getElem?_cons_succ, List.set_cons_zero, List.set_cons_succ, Option.some.injEq, V.int.injEq, V.ref.injEq, V.bl.injEq, V.str.injEq, List.cons.injEq, HO.lst.injEq, HO.tup.injEq, and_assoc, and_true, true_and, exists_eq_left, exists_eq_left', exists_and_left, exists_eq, reduceCtorEq, false_and, and_false, or_false, false_or, exists_false, decide_eq_true_eq, CPow, CDivW, Int.reducePow, Int.reduceLT, Int.reduceLE, Int.reduceNeg, Int.reduceToNat, Int.reduceAbs, Nat.reducePow, Nat.reduceLT, Nat.reduceLeDiff, sizeLine_eq, Int.reduceMul, Int.reduceAdd, Int.reduceSub, Bool.not_eq_true', decide_eq_false_iff_not, scal, Bool.not_true, Bool.not_false, Bool.true_eq_false, Bool.false_eq_true, ite_false, ite_true, if_true, if_false, ite_self, forall_const, atI0, atI1, atI2, atI3, ixN20, ixN21, upd_same, upd_upd, Int.zero_add, CMul, Int.reduceSub, Nat.le_refl, Nat.zero_le, or_true, true_or, exists_const, Int.sub_zero, tDNewN, tDGetN, tDInN, tDNotInN, sDPutN, sDDelN, rLenN, tBMN, rGet1N, rGet2N, rSetdefN, tDcN, iKeysN, tLock, Option.isSome_none, Option.isSome_some, atI4, atI5, hacc])
        intro q H2 s2 hq
        refine kk q _ _ hq ?_ (s1.trans s2)
        rw [← hrg, rg_home (hyt ▸ hg) (by omega)]
        exact Same.ims s2 iacc
      · rw [decide_eq_false hyt]
        (try simp only [cxOf, Cx.nox, Cx.wish, tSeq, tAsg, tC, gName, tIfS, tTest, tOp, tUn, rU, rI0, rI, tVar, tNext, tRevT, tDNewK, tBreak, tChain, iStr, tRet, tRetN, tDrop, tLst, tTup, tCons, tNil, tCB, tB, tOr, tAnd, tNot, tIf, tCall, tFor_eq, tLc_eq, iRng1, iRng2, iList, iTup, gTup, gTupH, gUnlH, gCons, gNil, gSub, rSetL, rIxL, rIxT, rIxLH, rIxTH, rSlTS, rCatS, rTupS, rIsiH, rLenS, V.ty.injEq, tyS_non, tyS_bl, tyS_int, tyS_str, tyS_ref, tyO_l, tyO_t, tyO_d, tyO_dt, kit_ll, kit_tt, kit_bb, kit_ii, kit_ib, kit_bi, kit_nt, kit_it, kit_st, kit_bt, kit_lt, kit_dt, kit_ni, kit_si, kit_ti, kit_li, kit_di, kit_nb, kit_ns, kit_is, kit_bs, kit_ss, kit_ts, kit_ls, kit_ds, kit_dd, lenS_ref, lenO_l, lenO_t,  rAppend, tM1, rIxS, tSl, tPart, tNoPart, tBM, tBM0, tDGetS, sDPutS, tTruS, truO_l, truO_t, truS_ref, truS_non, truS_bl, truS_int, tFld, sFld, sFldAug, rAdd, tMeth, tProp, tMake, tMakeK, List.take_succ_cons, List.take_zero, List.drop_succ_cons, List.drop_zero, List.take_nil, tIsN, tNotN, tAndV, tOrV, tNotV, putF, List.lookup, List.any_cons, List.any_nil, Sum.inr.injEq, HO.ins.injEq, HO.dK.injEq, eq_self, beq_self_eq_true, beq_iff_eq, decide_true, decide_false, Bool.or_true, Bool.true_or, Bool.or_false, Bool.false_or, tYes, rEq, rNe, _root_.L2.start, wipe, List.map_cons, List.map_nil, List.length_cons, List.length_nil, List.append_nil, Nat.reduceAdd, Nat.reduceSub, List.replicate_succ, List.replicate_zero, List.cons_append, List.nil_append, List.getElem?_cons_zero, List.getElem?_cons_succ, List.set_cons_zero, List.set_cons_succ, Option.some.injEq, V.int.injEq, V.ref.injEq, V.bl.injEq, V.str.injEq, List.cons.injEq, HO.lst.injEq, HO.tup.injEq, and_assoc, and_true, true_and, exists_eq_left, exists_eq_left', exists_and_left, exists_eq, reduceCtorEq, false_and, and_false, or_false, false_or, exists_false, decide_eq_true_eq, CPow, CDivW, Int.reducePow, Int.reduceLT, Int.reduceLE, Int.reduceNeg, Int.reduceToNat, Int.reduceAbs, Nat.reducePow, Nat.reduceLT, Nat.reduceLeDiff, sizeLine_eq, Int.reduceMul, Int.reduceAdd, Int.reduceSub, Bool.not_eq_true', decide_eq_false_iff_not, scal, Bool.not_true, Bool.not_false, Bool.true_eq_false, Bool.false_eq_true, ite_false, ite_true, if_true, if_false, ite_self, forall_const, atI0, atI1, atI2, atI3, ixN20, ixN21, upd_same, upd_upd, Int.zero_add, CMul, Int.reduceSub, Nat.le_refl, Nat.zero_le, or_true, true_or, exists_const, Int.sub_zero, tDNewN, tDGetN, tDInN, tDNotInN, sDPutN, sDDelN, rLenN, tBMN, rGet1N, rGet2N, rSetdefN, tDcN, iKeysN, tLock, Option.isSome_none, Option.isSome_some, atI4, atI5, hacc])
        refine ⟨_, (ms _ s1).dr, ?_⟩
        rw [List.length_map]
        by_cases hlt : (accv.length : Int) < (ks.length : Int)
        · rw [if_pos hlt]
          have hnp : H p = none := hp
          have sx := same_put_new (o := .lst (accv ++ [.ref yc])) s1 hnp
          refine ⟨_, fun σ' H' z => z, tyL hacc, by omega, ⟨_, (ms _ sx).dr⟩, tD y, _, (ms _ sx).dr, tD_ky y, imPut hacc iy, ks.length - (i + 1), by omega, i + 1, acc ++ [y], _, y, _, rfl, upd_same, ?_, (ms _ sx).get y, sx, by rw [List.length_append, hal]; rfl, ?_, rfl, ?_⟩
          · rw [List.map_append]; exact ims_app hacc iacc iy
          · exact .inl (by omega)
          · rw [← hrg, rg_on hg hyt (by omega)]; rfl
        · rw [if_neg hlt]
          refine ⟨_, Im.dp _ _ iy, _, Im.dp _ _ it1, tD_shaped y, tD_shaped t, ?_⟩
          rw [end_, decide_eq_false hyt]
          (try simp only [cxOf, Cx.nox, Cx.wish, tSeq, tAsg, tC, gName, tIfS, tTest, tOp, tUn, rU, rI0, rI, tVar, tNext, tRevT, tDNewK, tBreak, tChain, iStr, tRet, tRetN, tDrop, tLst, tTup, tCons, tNil, tCB, tB, tOr, tAnd, tNot, tIf, tCall, tFor_eq, tLc_eq, iRng1, iRng2, iList, iTup, gTup, gTupH, gUnlH, gCons, gNil, gSub, rSetL, rIxL, rIxT, rIxLH, rIxTH, rSlTS, rCatS, rTupS, rIsiH, rLenS, V.ty.injEq, tyS_non, tyS_bl, tyS_int, tyS_str, tyS_ref, tyO_l, tyO_t, tyO_d, tyO_dt, kit_ll, kit_tt, kit_bb, kit_ii, kit_ib, kit_bi, kit_nt, kit_it, kit_st, kit_bt, kit_lt, kit_dt, kit_ni, kit_si, kit_ti, kit_li, kit_di, kit_nb, kit_ns, kit_is, kit_bs, kit_ss, kit_ts, kit_ls, kit_ds, kit_dd, lenS_ref, lenO_l, lenO_t,  rAppend, tM1, rIxS, tSl, tPart, tNoPart, tBM, tBM0, tDGetS, sDPutS, tTruS, truO_l, truO_t, truS_ref, truS_non, truS_bl, truS_int, tFld, sFld, sFldAug, rAdd, tMeth, tProp, tMake, tMakeK, List.take_succ_cons, List.take_zero, List.drop_succ_cons, List.drop_zero, List.take_nil, tIsN, tNotN, tAndV, tOrV, tNotV, putF, List.lookup, List.any_cons, List.any_nil, Sum.inr.injEq, HO.ins.injEq, HO.dK.injEq, eq_self, beq_self_eq_true, beq_iff_eq, decide_true, decide_false, Bool.or_true, Bool.true_or, Bool.or_false, Bool.false_or, tYes, rEq, rNe, _root_.L2.start, wipe, List.map_cons, List.map_nil, List.length_cons, List.length_nil, List.append_nil, Nat.reduceAdd, Nat.reduceSub, List.replicate_succ, List.replicate_zero, List.cons_append, List.nil_append, List.getElem?_cons_zero, List.getElem?_cons_succ, List.set_cons_zero, List.set_cons_succ, Option.some.injEq, V.int.injEq, V.ref.injEq, V.bl.injEq, V.str.injEq, List.cons.injEq, HO.lst.injEq, HO.tup.injEq, and_assoc, and_true, true_and, exists_eq_left, exists_eq_left', exists_and_left, exists_eq, reduceCtorEq, false_and, and_false, or_false, false_or, exists_false, decide_eq_true_eq, CPow, CDivW, Int.reducePow, Int.reduceLT, Int.reduceLE, Int.reduceNeg, Int.reduceToNat, Int.reduceAbs, Nat.reducePow, Nat.reduceLT, Nat.reduceLeDiff, sizeLine_eq, Int.reduceMul, Int.reduceAdd, Int.reduceSub, Bool.not_eq_true', decide_eq_false_iff_not, scal, Bool.not_true, Bool.not_false, Bool.true_eq_false, Bool.false_eq_true, ite_false, ite_true, if_true, if_false, ite_self, forall_const, atI0, atI1, atI2, atI3, ixN20, ixN21, upd_same, upd_upd, Int.zero_add, CMul, Int.reduceSub, Nat.le_refl, Nat.zero_le, or_true, true_or, exists_const, Int.sub_zero, tDNewN, tDGetN, tDInN, tDNotInN, sDPutN, sDDelN, rLenN, tBMN, rGet1N, rGet2N, rSetdefN, tDcN, iKeysN, tLock, Option.isSome_none, Option.isSome_some, atI4, atI5])
          intro q hq
          refine kk q _ _ upd_same ?_ (s1.trans (same_new hq))
          have e1 : ks.length - i = 1 := by omega
          rw [← hrg, rg_on hg hyt (by omega), e1]
          exact im_nil
def sp_law_stream : Sp := fun vs H Q _ => ∃ c k : Int, vs = [.int c, .int k] ∧ ∀ (p : Addr) (H' : Hp), H p = none → St2 H' p → Same H H' → (∀ b, b ≠ p → H' b = H b) → Q (.ref p) H'
theorem ok_law_stream (T : Txt K mg) : FnOk P w K mg base CX0 1 T.f_law_stream T.d_law_stream ["_law_cell", "_law_k"] (sp_law_stream) := by
  refine Fun.ok T.F_law_stream sc_law_stream (fun vs H Q E h => ?_) (fun cdv A outer s H vs Q E hr h => ?_)
  · obtain ⟨c, k, rfl, kk⟩ := h; rfl
  · obtain ⟨c, k, rfl, kk⟩ := h
    have hu := hu_of hr
    refine ⟨_, (pss_cons (ps_set (i := 2) sc_law_stream.nd rfl (Or.inl rfl) pe_int)
      (pss_cons (ps_if (pt_cmpR op_ge (pv 0) (pe_op op_pow pe_int pe_int) (nomark _)) (pss_one (ps_set (i := 2) sc_law_stream.nd rfl (Or.inl rfl) (pv 0))) pss_nil)
      (pss_one (ps_ret (pe_lst (pa_cons (pv 2) (pa_cons (pe_op op_mod (pe_callTy call_int1 (by rfl) T.z_int (by decide +kernel) (pa_cons (pe_op op_add (pe_op op_add (pe_op op_mul (pv 0) pe_int) (pe_op op_mul (pv 1) pe_int)) pe_int) pa_nil)) pe_int) pa_nil))))))), ?_⟩
    (try simp only [cxOf, Cx.nox, Cx.wish, tSeq, tAsg, tC, gName, tIfS, tTest, tOp, tUn, rU, rI0, rI, tVar, tNext, tRevT, tDNewK, tBreak, tChain, iStr, tRet, tRetN, tDrop, tLst, tTup, tCons, tNil, tCB, tB, tOr, tAnd, tNot, tIf, tCall, tFor_eq, tLc_eq, iRng1, iRng2, iList, iTup, gTup, gTupH, gUnlH, gCons, gNil, gSub, rSetL, rIxL, rIxT, rIxLH, rIxTH, rSlTS, rCatS, rTupS, rIsiH, rLenS, V.ty.injEq, tyS_non, tyS_bl, tyS_int, tyS_str, tyS_ref, tyO_l, tyO_t, tyO_d, tyO_dt, kit_ll, kit_tt, kit_bb, kit_ii, kit_ib, kit_bi, kit_nt, kit_it, kit_st, kit_bt, kit_lt, kit_dt, kit_ni, kit_si, kit_ti, kit_li, kit_di, kit_nb, kit_ns, kit_is, kit_bs, kit_ss, kit_ts, kit_ls, kit_ds, kit_dd, lenS_ref, lenO_l, lenO_t,  rAppend, tM1, rIxS, tSl, tPart, tNoPart, tBM, tBM0, tDGetS, sDPutS, tTruS, truO_l, truO_t, truS_ref, truS_non, truS_bl, truS_int, tFld, sFld, sFldAug, rAdd, tMeth, tProp, tMake, tMakeK, List.take_succ_cons, List.take_zero, List.drop_succ_cons, List.drop_zero, List.take_nil, tIsN, tNotN, tAndV, tOrV, tNotV, putF, List.lookup, List.any_cons, List.any_nil, Sum.inr.injEq, HO.ins.injEq, HO.dK.injEq, eq_self, beq_self_eq_true, beq_iff_eq, decide_true, decide_false, Bool.or_true, Bool.true_or, Bool.or_false, Bool.false_or, tYes, rEq, rNe, _root_.L2.start, wipe, List.map_cons, List.map_nil, List.length_cons, List.length_nil, List.append_nil, Nat.reduceAdd, Nat.reduceSub, List.replicate_succ, List.replicate_zero, List.cons_append, List.nil_append, List.getElem?_cons_zero, List.getElem?_cons_succ, List.set_cons_zero, List.set_cons_succ, Option.some.injEq, V.int.injEq, V.ref.injEq, V.bl.injEq, V.str.injEq, List.cons.injEq, HO.lst.injEq, HO.tup.injEq, and_assoc, and_true, true_and, exists_eq_left, exists_eq_left', exists_and_left, exists_eq, reduceCtorEq, false_and, and_false, or_false, false_or, exists_false, decide_eq_true_eq, CPow, CDivW, Int.reducePow, Int.reduceLT, Int.reduceLE, Int.reduceNeg, Int.reduceToNat, Int.reduceAbs, Nat.reducePow, Nat.reduceLT, Nat.reduceLeDiff, sizeLine_eq, Int.reduceMul, Int.reduceAdd, Int.reduceSub, Bool.not_eq_true', decide_eq_false_iff_not, scal, Bool.not_true, Bool.not_false, Bool.true_eq_false, Bool.false_eq_true, ite_false, ite_true, if_true, if_false, ite_self, forall_const, atI0, atI1, atI2, atI3, ixN20, ixN21, upd_same, upd_upd, Int.zero_add, CMul, Int.reduceSub, Nat.le_refl, Nat.zero_le, or_true, true_or, exists_const, Int.sub_zero, tDNewN, tDGetN, tDInN, tDNotInN, sDPutN, sDDelN, rLenN, tBMN, rGet1N, rGet2N, rSetdefN, tDcN, iKeysN, tLock, Option.isSome_none, Option.isSome_some, atI4, atI5])
    split
    all_goals exact fun p hp => kk p _ hp ⟨_, _, upd_same⟩ (same_new hp) (fun b hb => upd_ne hb)
def sp_law_next : Sp := fun vs H Q _ => ∃ (p : Addr) (n : Int), vs = [.ref p, .int n] ∧ St2 H p ∧ 0 < n ∧ n ≤ 1000000000000000000 ∧ ∀ (v : Int) (H' : Hp), 0 ≤ v → v < n → Gn p H H' → Q (.int v) H'
theorem ok_law_next (T : Txt K mg) : FnOk P w K mg base CX0 1 T.f_law_next T.d_law_next ["_law_stream_here", "_law_size"] (sp_law_next) := by
  refine Fun.ok T.F_law_next sc_law_next (fun vs H Q E h => ?_) (fun cdv A outer s H vs Q E hr h => ?_)
  · obtain ⟨p, n, rfl, ⟨d, r, hp⟩, n0, n1, kk⟩ := h; rfl
  · obtain ⟨p, n, rfl, ⟨d, r, hp⟩, n0, n1, kk⟩ := h
    have hu := hu_of hr
    refine ⟨_, (pss_cons (ps_if (pt_cmpR op_gt (pe_ix ix_listH (pv 0) pe_int (fun _ _ => rfl)) pe_int (nomark _)) (pss_cons (ps_set (i := 2) sc_law_next.nd rfl (Or.inl rfl) (pe_op op_mod (pe_callTy call_int1 (by rfl) T.z_int (by decide +kernel) (pa_cons (pe_ix ix_listH (pv 0) pe_int (fun _ _ => rfl)) pa_nil)) (pv 1)))
      (pss_cons (ps_asg (pe_op op_fdivW (pe_ix ix_listH (pv 0) pe_int (fun _ _ => rfl)) (pv 1)) (pg_sub (pv 0) pe_int set_list))
      (pss_one (ps_ret (pv 2))))) pss_nil)
      (pss_cons (ps_asg (pe_op op_mod (pe_callTy call_int1 (by rfl) T.z_int (by decide +kernel) (pa_cons (pe_op op_add (pe_op op_mul (pe_ix ix_listH (pv 0) pe_int (fun _ _ => rfl)) pe_int) pe_int) pa_nil)) pe_int) (pg_sub (pv 0) pe_int set_list))
      (pss_one (ps_ret (pe_op op_mod (pe_callTy call_int1 (by rfl) T.z_int (by decide +kernel) (pa_cons (pe_op op_fdivW (pe_op op_mod (pe_callTy call_int1 (by rfl) T.z_int (by decide +kernel) (pa_cons (pe_op op_add (pe_op op_mul (pe_ix ix_listH (pv 0) pe_int (fun _ _ => rfl)) pe_int) pe_int) pa_nil)) pe_int) pe_int) pa_nil)) (pv 1)))))), ?_⟩
    have hl : n.natAbs.log2 < 9000 := Nat.lt_of_lt_of_le (PySem.Flt.log2_lt_of (k := 64) (by decide) (by omega)) (by decide)
    (try simp only [cxOf, Cx.nox, Cx.wish, tSeq, tAsg, tC, gName, tIfS, tTest, tOp, tUn, rU, rI0, rI, tVar, tNext, tRevT, tDNewK, tBreak, tChain, iStr, tRet, tRetN, tDrop, tLst, tTup, tCons, tNil, tCB, tB, tOr, tAnd, tNot, tIf, tCall, tFor_eq, tLc_eq, iRng1, iRng2, iList, iTup, gTup, gTupH, gUnlH, gCons, gNil, gSub, rSetL, rIxL, rIxT, rIxLH, rIxTH, rSlTS, rCatS, rTupS, rIsiH, rLenS, V.ty.injEq, tyS_non, tyS_bl, tyS_int, tyS_str, tyS_ref, tyO_l, tyO_t, tyO_d, tyO_dt, kit_ll, kit_tt, kit_bb, kit_ii, kit_ib, kit_bi, kit_nt, kit_it, kit_st, kit_bt, kit_lt, kit_dt, kit_ni, kit_si, kit_ti, kit_li, kit_di, kit_nb, kit_ns, kit_is, kit_bs, kit_ss, kit_ts, kit_ls, kit_ds, kit_dd, lenS_ref, lenO_l, lenO_t,  rAppend, tM1, rIxS, tSl, tPart, tNoPart, tBM, tBM0, tDGetS, sDPutS, tTruS, truO_l, truO_t, truS_ref, truS_non, truS_bl, truS_int, tFld, sFld, sFldAug, rAdd, tMeth, tProp, tMake, tMakeK, List.take_succ_cons, List.take_zero, List.drop_succ_cons, List.drop_zero, List.take_nil, tIsN, tNotN, tAndV, tOrV, tNotV, putF, List.lookup, List.any_cons, List.any_nil, Sum.inr.injEq, HO.ins.injEq, HO.dK.injEq, eq_self, beq_self_eq_true, beq_iff_eq, decide_true, decide_false, Bool.or_true, Bool.true_or, Bool.or_false, Bool.false_or, tYes, rEq, rNe, _root_.L2.start, wipe, List.map_cons, List.map_nil, List.length_cons, List.length_nil, List.append_nil, Nat.reduceAdd, Nat.reduceSub, List.replicate_succ, List.replicate_zero, List.cons_append, List.nil_append, List.getElem?_cons_zero, List.getElem?_cons_succ, List.set_cons_zero, List.set_cons_succ, Option.some.injEq, V.int.injEq, V.ref.injEq, V.bl.injEq, V.str.injEq, List.cons.injEq, HO.lst.injEq, HO.tup.injEq, and_assoc, and_true, true_and, exists_eq_left, exists_eq_left', exists_and_left, exists_eq, reduceCtorEq, false_and, and_false, or_false, false_or, exists_false, decide_eq_true_eq, CPow, CDivW, Int.reducePow, Int.reduceLT, Int.reduceLE, Int.reduceNeg, Int.reduceToNat, Int.reduceAbs, Nat.reducePow, Nat.reduceLT, Nat.reduceLeDiff, sizeLine_eq, Int.reduceMul, Int.reduceAdd, Int.reduceSub, Bool.not_eq_true', decide_eq_false_iff_not, scal, Bool.not_true, Bool.not_false, Bool.true_eq_false, Bool.false_eq_true, ite_false, ite_true, if_true, if_false, ite_self, forall_const, atI0, atI1, atI2, atI3, ixN20, ixN21, upd_same, upd_upd, Int.zero_add, CMul, Int.reduceSub, Nat.le_refl, Nat.zero_le, or_true, true_or, exists_const, Int.sub_zero, tDNewN, tDGetN, tDInN, tDNotInN, sDPutN, sDDelN, rLenN, tBMN, rGet1N, rGet2N, rSetdefN, tDcN, iKeysN, tLock, Option.isSome_none, Option.isSome_some, atI4, atI5, hp])
    split
    · exact ⟨n0, n0, hl, kk _ _ (Int.emod_nonneg _ (by omega)) (Int.emod_lt_of_pos _ n0) (Gn.upd ⟨d, r, hp⟩)⟩
    · exact ⟨by decide, n0, kk _ _ (Int.emod_nonneg _ (by omega)) (Int.emod_lt_of_pos _ n0) (Gn.upd ⟨d, r, hp⟩)⟩
def sp_law_ring (P : Program) (w : World) : Sp := fun vs H Q _ => ∃ (a : Addr) (ks : List Nd) (vv : Nd → V) (g : Nd → Option Nd) (t : Nd) (tv : V), vs = [.ref a, tv] ∧ (∀ H', Same H H' → Gr P w H' a ks vv g) ∧ Im H (tD t) tv ∧ ks.length ≤ 1300 ∧
  ∀ (q : Addr) (zs : List V) (H' : Hp), H q = none → H' q = some (.lst zs) → ImAll H' ((ringS g ks.length t).map tD) zs → Same H H' → Q (.ref q) H'
theorem ok_law_ring (T : Txt K mg) : FnOk P w K mg base CX0 1 T.f_law_ring T.d_law_ring ["_law_graph", "_law_name"] (sp_law_ring P w) := by
  refine Fun.ok T.F_law_ring sc_law_ring (fun vs H Q E h => ?_) (fun cdv A outer s H vs Q E hr h => ?_)
  · obtain ⟨a, ks, vv, g, t, tv, rfl, ms, it, hlen, kk⟩ := h; rfl
  · obtain ⟨a, ks, vv, g, t, tv, rfl, ms, it, hlen, kk⟩ := h
    have hu := hu_of hr
    refine ⟨_, (pss_cons (ps_set (i := 2) sc_law_ring.nd rfl (Or.inl rfl) (pe_lst (pa_cons (pv 1) pa_nil)))
      (pss_cons (ps_for PassesOwn.never rfl (pi_range1 (by rfl) T.z_range (pa_cons (pe_callB (call_lenN (P := P) (w := w)) (by rfl) T.z_len (by decide +kernel) (pa_cons (pv 0) pa_nil)) pa_nil)) (pg_name (i := 3) sc_law_ring.nd rfl (Or.inl rfl))
      (pss_cons (ps_set (i := 4) sc_law_ring.nd rfl (Or.inl rfl) (pe_bmN (P := P) (w := w) PySem.F.slot_dict_get PySem.F.type_dict_get (mt_get1N (P := P) (w := w) (hu65 hr)) (pv 0) (pa_cons (pe_ix ix_listH (pv 2) (pe_un un_neg pe_int) (fun _ _ => rfl)) pa_nil)))
      (pss_cons (ps_if (pt_cmpR (op_eqDK (K := K) rfl hr.units) (pv 4) (pv 1) (nomark _)) (pss_one (ps_ret (pv 2))) pss_nil)
      (pss_cons (ps_if (pt_cmp (pc_isN (pv 4))) (pss_one (ps_ret (pe_lst pa_nil))) pss_nil)
      (pss_one (ps_expr (pe_bm PySem.F.plainAttrs_list PySem.F.slot_list_append PySem.F.type_list_append mt_append (pv 2) (pa_cons (pv 4) pa_nil))))))))
      (pss_one (ps_ret (pe_lst pa_nil))))), ?_⟩
    (try simp only [cxOf, Cx.nox, Cx.wish, tSeq, tAsg, tC, gName, tIfS, tTest, tOp, tUn, rU, rI0, rI, tVar, tNext, tRevT, tDNewK, tBreak, tChain, iStr, tRet, tRetN, tDrop, tLst, tTup, tCons, tNil, tCB, tB, tOr, tAnd, tNot, tIf, tCall, tFor_eq, tLc_eq, iRng1, iRng2, iList, iTup, gTup, gTupH, gUnlH, gCons, gNil, gSub, rSetL, rIxL, rIxT, rIxLH, rIxTH, rSlTS, rCatS, rTupS, rIsiH, rLenS, V.ty.injEq, tyS_non, tyS_bl, tyS_int, tyS_str, tyS_ref, tyO_l, tyO_t, tyO_d, tyO_dt, kit_ll, kit_tt, kit_bb, kit_ii, kit_ib, kit_bi, kit_nt, kit_it, kit_st, kit_bt, kit_lt, kit_dt, kit_ni, kit_si, kit_ti, kit_li, kit_di, kit_nb, kit_ns, kit_is, kit_bs, kit_ss, kit_ts, kit_ls, kit_ds, kit_dd, lenS_ref, lenO_l, lenO_t,  rAppend, tM1, rIxS, tSl, tPart, tNoPart, tBM, tBM0, tDGetS, sDPutS, tTruS, truO_l, truO_t, truS_ref, truS_non, truS_bl, truS_int, tFld, sFld, sFldAug, rAdd, tMeth, tProp, tMake, tMakeK, List.take_succ_cons, List.take_zero, List.drop_succ_cons, List.drop_zero, List.take_nil, tIsN, tNotN, tAndV, tOrV, tNotV, putF, List.lookup, List.any_cons, List.any_nil, Sum.inr.injEq, HO.ins.injEq, HO.dK.injEq, eq_self, beq_self_eq_true, beq_iff_eq, decide_true, decide_false, Bool.or_true, Bool.true_or, Bool.or_false, Bool.false_or, tYes, rEq, rNe, _root_.L2.start, wipe, List.map_cons, List.map_nil, List.length_cons, List.length_nil, List.append_nil, Nat.reduceAdd, Nat.reduceSub, List.replicate_succ, List.replicate_zero, List.cons_append, List.nil_append, List.getElem?_cons_zero, List.getElem?_cons_succ, List.set_cons_zero, List.set_cons_succ, Option.some.injEq, V.int.injEq, V.ref.injEq, V.bl.injEq, V.str.injEq, List.cons.injEq, HO.lst.injEq, HO.tup.injEq, and_assoc, and_true, true_and, exists_eq_left, exists_eq_left', exists_and_left, exists_eq, reduceCtorEq, false_and, and_false, or_false, false_or, exists_false, decide_eq_true_eq, CPow, CDivW, Int.reducePow, Int.reduceLT, Int.reduceLE, Int.reduceNeg, Int.reduceToNat, Int.reduceAbs, Nat.reducePow, Nat.reduceLT, Nat.reduceLeDiff, sizeLine_eq, Int.reduceMul, Int.reduceAdd, Int.reduceSub, Bool.not_eq_true', decide_eq_false_iff_not, scal, Bool.not_true, Bool.not_false, Bool.true_eq_false, Bool.false_eq_true, ite_false, ite_true, if_true, if_false, ite_self, forall_const, atI0, atI1, atI2, atI3, ixN20, ixN21, upd_same, upd_upd, Int.zero_add, CMul, Int.reduceSub, Nat.le_refl, Nat.zero_le, or_true, true_or, exists_const, Int.sub_zero, tDNewN, tDGetN, tDInN, tDNotInN, sDPutN, sDDelN, rLenN, tBMN, rGet1N, rGet2N, rSetdefN, tDcN, iKeysN, tLock, Option.isSome_none, Option.isSome_some, atI4, atI5])
    intro p hp
    have s0 := same_new hp (o := .lst [tv])
    refine ⟨_, (ms _ s0).dr, ?_⟩
    rw [List.length_map]
    refine ⟨by omega, by omega, Loop.range (fun i σ H' => ∃ (acc : List Nd) (accv : List V) (l : Nd) (b3 b4 : Option V), σ = [some (.ref a), some tv, some (.ref p), b3, b4] ∧ H' p = some (.lst accv) ∧ ImAll H' (acc.map tD) accv ∧ Same H H' ∧ acc.length = i + 1 ∧ acc[i]? = some l ∧ rg g t (ks.length - i) l acc = ringS g ks.length t)
      ⟨[t], [tv], t, none, none, rfl, upd_same, im_cons (imNew hp it) im_nil, s0, rfl, rfl, rfl⟩ ?_ ?_⟩
    · rintro i σ H1 hi ⟨acc, accv, l, b3, b4, rfl, hacc, iacc, s1, hal, hl, hrg⟩
      have hal' := iacc.len
      rw [List.length_map] at hal'
      have it1 := Same.im s1 it
      have hli : i < accv.length := by omega
      have hv : accv[i]? = some accv[i] := by simp [hli]
      obtain ⟨l', hl', il⟩ := ims_map iacc hv
      rw [hl] at hl'
      cases hl'
      have eat := atI_m1 (by omega : accv.length = i + 1) hv
      have hi' : i < ks.length := by omega
      (try simp only [cxOf, Cx.nox, Cx.wish, tSeq, tAsg, tC, gName, tIfS, tTest, tOp, tUn, rU, rI0, rI, tVar, tNext, tRevT, tDNewK, tBreak, tChain, iStr, tRet, tRetN, tDrop, tLst, tTup, tCons, tNil, tCB, tB, tOr, tAnd, tNot, tIf, tCall, tFor_eq, tLc_eq, iRng1, iRng2, iList, iTup, gTup, gTupH, gUnlH, gCons, gNil, gSub, rSetL, rIxL, rIxT, rIxLH, rIxTH, rSlTS, rCatS, rTupS, rIsiH, rLenS, V.ty.injEq, tyS_non, tyS_bl, tyS_int, tyS_str, tyS_ref, tyO_l, tyO_t, tyO_d, tyO_dt, kit_ll, kit_tt, kit_bb, kit_ii, kit_ib, kit_bi, kit_nt, kit_it, kit_st, kit_bt, kit_lt, kit_dt, kit_ni, kit_si, kit_ti, kit_li, kit_di, kit_nb, kit_ns, kit_is, kit_bs, kit_ss, kit_ts, kit_ls, kit_ds, kit_dd, lenS_ref, lenO_l, lenO_t,  rAppend, tM1, rIxS, tSl, tPart, tNoPart, tBM, tBM0, tDGetS, sDPutS, tTruS, truO_l, truO_t, truS_ref, truS_non, truS_bl, truS_int, tFld, sFld, sFldAug, rAdd, tMeth, tProp, tMake, tMakeK, List.take_succ_cons, List.take_zero, List.drop_succ_cons, List.drop_zero, List.take_nil, tIsN, tNotN, tAndV, tOrV, tNotV, putF, List.lookup, List.any_cons, List.any_nil, Sum.inr.injEq, HO.ins.injEq, HO.dK.injEq, eq_self, beq_self_eq_true, beq_iff_eq, decide_true, decide_false, Bool.or_true, Bool.true_or, Bool.or_false, Bool.false_or, tYes, rEq, rNe, _root_.L2.start, wipe, List.map_cons, List.map_nil, List.length_cons, List.length_nil, List.append_nil, Nat.reduceAdd, Nat.reduceSub, List.replicate_succ, List.replicate_zero, List.cons_append, List.nil_append, List.getElem?_cons_zero, List.getElem?_cons_succ, List.set_cons_zero, List.set_cons_succ, Option.some.injEq, V.int.injEq, V.ref.injEq, V.bl.injEq, V.str.injEq, List.cons.injEq, HO.lst.injEq, HO.tup.injEq, and_assoc, and_true, true_and, exists_eq_left, exists_eq_left', exists_and_left, exists_eq, reduceCtorEq, false_and, and_false, or_false, false_or, exists_false, decide_eq_true_eq, CPow, CDivW, Int.reducePow, Int.reduceLT, Int.reduceLE, Int.reduceNeg, Int.reduceToNat, Int.reduceAbs, Nat.reducePow, Nat.reduceLT, Nat.reduceLeDiff, sizeLine_eq, Int.reduceMul, Int.reduceAdd, Int.reduceSub, Bool.not_eq_true', decide_eq_false_iff_not, scal, Bool.not_true, Bool.not_false, Bool.true_eq_false, Bool.false_eq_true, ite_false, ite_true, if_true, if_false, ite_self, forall_const, atI0, atI1, atI2, atI3, ixN20, ixN21, upd_same, upd_upd, Int.zero_add, CMul, Int.reduceSub, Nat.le_refl, Nat.zero_le, or_true, true_or, exists_const, Int.sub_zero, tDNewN, tDGetN, tDInN, tDNotInN, sDPutN, sDDelN, rLenN, tBMN, rGet1N, rGet2N, rSetdefN, tDcN, iKeysN, tLock, Option.isSome_none, Option.isSome_some, atI4, atI5, hacc, eat])
      have m1 := ms _ s1
      refine ⟨⟨_, m1.dr⟩, tD l, _, m1.dr, tD_ky l, il, ?_⟩
      have io := m1.get l
      generalize (valV (ks.map fun k => (tD k, vv k)) (tD l)).getD V.non = ov at io
      unfold rEqD
      refine ⟨_, _, Im.dp _ _ io, Im.dp _ _ it1, oD_shaped _, tD_shaped t, ?_⟩
      rw [oD_eqv]
      cases hg : g l with
      | none =>
        rw [hg] at io
        obtain rfl := oD_none io
        (try simp only [cxOf, Cx.nox, Cx.wish, tSeq, tAsg, tC, gName, tIfS, tTest, tOp, tUn, rU, rI0, rI, tVar, tNext, tRevT, tDNewK, tBreak, tChain, iStr, tRet, tRetN, tDrop, tLst, tTup, tCons, tNil, tCB, tB, tOr, tAnd, tNot, tIf, tCall, tFor_eq, tLc_eq, iRng1, iRng2, iList, iTup, gTup, gTupH, gUnlH, gCons, gNil, gSub, rSetL, rIxL, rIxT, rIxLH, rIxTH, rSlTS, rCatS, rTupS, rIsiH, rLenS, V.ty.injEq, tyS_non, tyS_bl, tyS_int, tyS_str, tyS_ref, tyO_l, tyO_t, tyO_d, tyO_dt, kit_ll, kit_tt, kit_bb, kit_ii, kit_ib, kit_bi, kit_nt, kit_it, kit_st, kit_bt, kit_lt, kit_dt, kit_ni, kit_si, kit_ti, kit_li, kit_di, kit_nb, kit_ns, kit_is, kit_bs, kit_ss, kit_ts, kit_ls, kit_ds, kit_dd, lenS_ref, lenO_l, lenO_t,  rAppend, tM1, rIxS, tSl, tPart, tNoPart, tBM, tBM0, tDGetS, sDPutS, tTruS, truO_l, truO_t, truS_ref, truS_non, truS_bl, truS_int, tFld, sFld, sFldAug, rAdd, tMeth, tProp, tMake, tMakeK, List.take_succ_cons, List.take_zero, List.drop_succ_cons, List.drop_zero, List.take_nil, tIsN, tNotN, tAndV, tOrV, tNotV, putF, List.lookup, List.any_cons, List.any_nil, Sum.inr.injEq, HO.ins.injEq, HO.dK.injEq, eq_self, beq_self_eq_true, beq_iff_eq, decide_true, decide_false, Bool.or_true, Bool.true_or, Bool.or_false, Bool.false_or, tYes, rEq, rNe, _root_.L2.start, wipe, List.map_cons, List.map_nil, List.length_cons, List.length_nil, List.append_nil, Nat.reduceAdd, Nat.reduceSub, List.replicate_succ, List.replicate_zero, List.cons_append, List.nil_append, List.getElem?_cons_zero, List.getElem?_cons_succ, List.set_cons_zero, List.set_cons_succ, Option.some.injEq, V.int.injEq, V.ref.injEq, V.bl.injEq, V.str.injEq, List.cons.injEq, HO.lst.injEq, HO.tup.injEq, and_assoc, and_true, true_and, exists_eq_left, exists_eq_left', exists_and_left, exists_eq, reduceCtorEq, false_and, and_false, or_false, false_or, exists_false, decide_eq_true_eq, CPow, CDivW, Int.reducePow, Int.reduceLT, Int.reduceLE, Int.reduceNeg, Int.reduceToNat, Int.reduceAbs, Nat.reducePow, Nat.reduceLT, Nat.reduceLeDiff, sizeLine_eq, Int.reduceMul, Int.reduceAdd, Int.reduceSub, Bool.not_eq_true', decide_eq_false_iff_not, scal, Bool.not_true, Bool.not_false, Bool.true_eq_false, Bool.false_eq_true, ite_false, ite_true, if_true, if_false, ite_self, forall_const, atI0, atI1, atI2, atI3, ixN20, ixN21, upd_same, upd_upd, Int.zero_add, CMul, Int.reduceSub, Nat.le_refl, Nat.zero_le, or_true, true_or, exists_const, Int.sub_zero, tDNewN, tDGetN, tDInN, tDNotInN, sDPutN, sDDelN, rLenN, tBMN, rGet1N, rGet2N, rSetdefN, tDcN, iKeysN, tLock, Option.isSome_none, Option.isSome_some, atI4, atI5])
        intro q hq
        refine kk q _ _ (Same.non s1 hq) upd_same ?_ (s1.trans (same_new hq))
        rw [← hrg, rg_none hg]
        exact im_nil
      | some y =>
        rw [hg] at io
        have iy := oD_some io
        obtain ⟨yc, rfl, hyc⟩ := tD_at' iy
        by_cases hyt : y = t
        · rw [show decide (some y = some t) = true by simp [hyt]]
          (try simp only [cxOf, Cx.nox, Cx.wish, tSeq, tAsg, tC, gName, tIfS, tTest, tOp, tUn, rU, rI0, rI, tVar, tNext, tRevT, tDNewK, tBreak, tChain, iStr, tRet, tRetN, tDrop, tLst, tTup, tCons, tNil, tCB, tB, tOr, tAnd, tNot, tIf, tCall, tFor_eq, tLc_eq, iRng1, iRng2, iList, iTup, gTup, gTupH, gUnlH, gCons, gNil, gSub, rSetL, rIxL, rIxT, rIxLH, rIxTH, rSlTS, rCatS, rTupS, rIsiH, rLenS, V.ty.injEq, tyS_non, tyS_bl, tyS_int, tyS_str, tyS_ref, tyO_l, tyO_t, tyO_d, tyO_dt, kit_ll, kit_tt, kit_bb, kit_ii, kit_ib, kit_bi, kit_nt, kit_it, kit_st, kit_bt, kit_lt, kit_dt, kit_ni, kit_si, kit_ti, kit_li, kit_di, kit_nb, kit_ns, kit_is, kit_bs, kit_ss, kit_ts, kit_ls, kit_ds, kit_dd, lenS_ref, lenO_l, lenO_t,  rAppend, tM1, rIxS, tSl, tPart, tNoPart, tBM, tBM0, tDGetS, sDPutS, tTruS, truO_l, truO_t, truS_ref, truS_non, truS_bl, truS_int, tFld, sFld, sFldAug, rAdd, tMeth, tProp, tMake, tMakeK, List.take_succ_cons, List.take_zero, List.drop_succ_cons, List.drop_zero, List.take_nil, tIsN, tNotN, tAndV, tOrV, tNotV, putF, List.lookup, List.any_cons, List.any_nil, Sum.inr.injEq, HO.ins.injEq, HO.dK.injEq, eq_self, beq_self_eq_true, beq_iff_eq, decide_true, decide_false, Bool.or_true, Bool.true_or, Bool.or_false, Bool.false_or, tYes, rEq, rNe, _root_.L2.start, wipe, List.map_cons, List.map_nil, List.length_cons, List.length_nil, List.append_nil, Nat.reduceAdd, Nat.reduceSub, List.replicate_succ, List.replicate_zero, List.cons_append, List.nil_append, List.getElem?_cons_zero, List.getElem?_cons_succ, List.set_cons_zero, List.set_cons_succ, Option.some.injEq, V.int.injEq, V.ref.injEq, V.bl.injEq, V.str.injEq, List.cons.injEq, HO.lst.injEq, HO.tup.injEq, and_assoc, and_true, true_and, exists_eq_left, exists_eq_left', exists_and_left, exists_eq, reduceCtorEq, false_and, and_false, or_false, false_or, exists_false, decide_eq_true_eq, CPow, CDivW, Int.reducePow, Int.reduceLT, Int.reduceLE, Int.reduceNeg, Int.reduceToNat, Int.reduceAbs, Nat.reducePow, Nat.reduceLT, Nat.reduceLeDiff, sizeLine_eq, Int.reduceMul, Int.reduceAdd, Int.reduceSub, Bool.not_eq_true', decide_eq_false_iff_not, scal, Bool.not_true, Bool.not_false, Bool.true_eq_false, Bool.false_eq_true, ite_false, ite_true, if_true, if_false, ite_self, forall_const, atI0, atI1, atI2, atI3, ixN20, ixN21, upd_same, upd_upd, Int.zero_add, CMul, Int.reduceSub, Nat.le_refl, Nat.zero_le, or_true, true_or, exists_const, Int.sub_zero, tDNewN, tDGetN, tDInN, tDNotInN, sDPutN, sDDelN, rLenN, tBMN, rGet1N, rGet2N, rSetdefN, tDcN, iKeysN, tLock, Option.isSome_none, Option.isSome_some, atI4, atI5])
          refine kk p _ _ hp hacc ?_ s1
          rw [← hrg, rg_home (hyt ▸ hg) (by omega)]
          exact iacc
        · rw [show decide (some y = some t) = false by simp [hyt]]
          (try simp only [cxOf, Cx.nox, Cx.wish, tSeq, tAsg, tC, gName, tIfS, tTest, tOp, tUn, rU, rI0, rI, tVar, tNext, tRevT, tDNewK, tBreak, tChain, iStr, tRet, tRetN, tDrop, tLst, tTup, tCons, tNil, tCB, tB, tOr, tAnd, tNot, tIf, tCall, tFor_eq, tLc_eq, iRng1, iRng2, iList, iTup, gTup, gTupH, gUnlH, gCons, gNil, gSub, rSetL, rIxL, rIxT, rIxLH, rIxTH, rSlTS, rCatS, rTupS, rIsiH, rLenS, V.ty.injEq, tyS_non, tyS_bl, tyS_int, tyS_str, tyS_ref, tyO_l, tyO_t, tyO_d, tyO_dt, kit_ll, kit_tt, kit_bb, kit_ii, kit_ib, kit_bi, kit_nt, kit_it, kit_st, kit_bt, kit_lt, kit_dt, kit_ni, kit_si, kit_ti, kit_li, kit_di, kit_nb, kit_ns, kit_is, kit_bs, kit_ss, kit_ts, kit_ls, kit_ds, kit_dd, lenS_ref, lenO_l, lenO_t,  rAppend, tM1, rIxS, tSl, tPart, tNoPart, tBM, tBM0, tDGetS, sDPutS, tTruS, truO_l, truO_t, truS_ref, truS_non, truS_bl, truS_int, tFld, sFld, sFldAug, rAdd, tMeth, tProp, tMake, tMakeK, List.take_succ_cons, List.take_zero, List.drop_succ_cons, List.drop_zero, List.take_nil, tIsN, tNotN, tAndV, tOrV, tNotV, putF, List.lookup, List.any_cons, List.any_nil, Sum.inr.injEq, HO.ins.injEq, HO.dK.injEq, eq_self, beq_self_eq_true, beq_iff_eq, decide_true, decide_false, Bool.or_true, Bool.true_or, Bool.or_false, Bool.false_or, tYes, rEq, rNe, _root_.L2.start, wipe, List.map_cons, List.map_nil, List.length_cons, List.length_nil, List.append_nil, Nat.reduceAdd, Nat.reduceSub, List.replicate_succ, List.replicate_zero, List.cons_append, List.nil_append, List.getElem?_cons_zero, List.getElem?_cons_succ, List.set_cons_zero, List.set_cons_succ, Option.some.injEq, V.int.injEq, V.ref.injEq, V.bl.injEq, V.str.injEq, List.cons.injEq, HO.lst.injEq, HO.tup.injEq, and_assoc, and_true, true_and, exists_eq_left, exists_eq_left', exists_and_left, exists_eq, reduceCtorEq, false_and, and_false, or_false, false_or, exists_false, decide_eq_true_eq, CPow, CDivW, Int.reducePow, Int.reduceLT, Int.reduceLE, Int.reduceNeg, Int.reduceToNat, Int.reduceAbs, Nat.reducePow, Nat.reduceLT, Nat.reduceLeDiff, sizeLine_eq, Int.reduceMul, Int.reduceAdd, Int.reduceSub, Bool.not_eq_true', decide_eq_false_iff_not, scal, Bool.not_true, Bool.not_false, Bool.true_eq_false, Bool.false_eq_true, ite_false, ite_true, if_true, if_false, ite_self, forall_const, atI0, atI1, atI2, atI3, ixN20, ixN21, upd_same, upd_upd, Int.zero_add, CMul, Int.reduceSub, Nat.le_refl, Nat.zero_le, or_true, true_or, exists_const, Int.sub_zero, tDNewN, tDGetN, tDInN, tDNotInN, sDPutN, sDDelN, rLenN, tBMN, rGet1N, rGet2N, rSetdefN, tDcN, iKeysN, tLock, Option.isSome_none, Option.isSome_some, atI4, atI5, hacc])
          refine ⟨tyL hacc, by omega, acc ++ [y], ?_, same_put_new s1 hp, by rw [List.length_append, hal]; rfl, y, ?_, ?_⟩
          · rw [List.map_append]; exact ims_app hacc iacc iy
          · rw [List.getElem?_append_right (by omega), hal]; simp
          · rw [← hrg, rg_on hg hyt (by omega)]; rfl
    · rintro σ H1 ⟨acc, accv, l, b3, b4, rfl, hacc, iacc, s1, hal, hl, hrg⟩
      (try simp only [cxOf, Cx.nox, Cx.wish, tSeq, tAsg, tC, gName, tIfS, tTest, tOp, tUn, rU, rI0, rI, tVar, tNext, tRevT, tDNewK, tBreak, tChain, iStr, tRet, tRetN, tDrop, tLst, tTup, tCons, tNil, tCB, tB, tOr, tAnd, tNot, tIf, tCall, tFor_eq, tLc_eq, iRng1, iRng2, iList, iTup, gTup, gTupH, gUnlH, gCons, gNil, gSub, rSetL, rIxL, rIxT, rIxLH, rIxTH, rSlTS, rCatS, rTupS, rIsiH, rLenS, V.ty.injEq, tyS_non, tyS_bl, tyS_int, tyS_str, tyS_ref, tyO_l, tyO_t, tyO_d, tyO_dt, kit_ll, kit_tt, kit_bb, kit_ii, kit_ib, kit_bi, kit_nt, kit_it, kit_st, kit_bt, kit_lt, kit_dt, kit_ni, kit_si, kit_ti, kit_li, kit_di, kit_nb, kit_ns, kit_is, kit_bs, kit_ss, kit_ts, kit_ls, kit_ds, kit_dd, lenS_ref, lenO_l, lenO_t,  rAppend, tM1, rIxS, tSl, tPart, tNoPart, tBM, tBM0, tDGetS, sDPutS, tTruS, truO_l, truO_t, truS_ref, truS_non, truS_bl, truS_int, tFld, sFld, sFldAug, rAdd, tMeth, tProp, tMake, tMakeK, List.take_succ_cons, List.take_zero, List.drop_succ_cons, List.drop_zero, List.take_nil, tIsN, tNotN, tAndV, tOrV, tNotV, putF, List.lookup, List.any_cons, List.any_nil, Sum.inr.injEq, HO.ins.injEq, HO.dK.injEq, eq_self, beq_self_eq_true, beq_iff_eq, decide_true, decide_false, Bool.or_true, Bool.true_or, Bool.or_false, Bool.false_or, tYes, rEq, rNe, _root_.L2.start, wipe, List.map_cons, List.map_nil, List.length_cons, List.length_nil, List.append_nil, Nat.reduceAdd, Nat.reduceSub, List.replicate_succ, List.replicate_zero, List.cons_append, List.nil_append, List.getElem?_cons_zero, List.getElem?_cons_succ, List.set_cons_zero, List.set_cons_succ, Option.some.injEq, V.int.injEq, V.ref.injEq, V.bl.injEq, V.str.injEq, List.cons.injEq, HO.lst.injEq, HO.tup.injEq, and_assoc, and_true, true_and, exists_eq_left, exists_eq_left', exists_and_left, exists_eq, reduceCtorEq, false_and, and_false, or_false, false_or, exists_false, decide_eq_true_eq, CPow, CDivW, Int.reducePow, Int.reduceLT, Int.reduceLE, Int.reduceNeg, Int.reduceToNat, Int.reduceAbs, Nat.reducePow, Nat.reduceLT, Nat.reduceLeDiff, sizeLine_eq, Int.reduceMul, Int.reduceAdd, Int.reduceSub, Bool.not_eq_true', decide_eq_false_iff_not, scal, Bool.not_true, Bool.not_false, Bool.true_eq_false, Bool.false_eq_true, ite_false, ite_true, if_true, if_false, ite_self, forall_const, atI0, atI1, atI2, atI3, ixN20, ixN21, upd_same, upd_upd, Int.zero_add, CMul, Int.reduceSub, Nat.le_refl, Nat.zero_le, or_true, true_or, exists_const, Int.sub_zero, tDNewN, tDGetN, tDInN, tDNotInN, sDPutN, sDDelN, rLenN, tBMN, rGet1N, rGet2N, rSetdefN, tDcN, iKeysN, tLock, Option.isSome_none, Option.isSome_some, atI4, atI5])
      intro q hq
      refine kk q _ _ (Same.non s1 hq) upd_same ?_ (s1.trans (same_new hq))
      rw [← hrg, show ks.length - ((ks.length : Int)).toNat = 0 by omega]
      exact im_nil
def sp_rings (P : Program) (w : World) : Sp := fun vs H Q _ => ∃ (a : Addr) (ks : List Nd) (vv : Nd → V) (g : Nd → Option Nd), vs = [.ref a] ∧ (∀ H', Same H H' → Gr P w H' a ks vv g) ∧ ks.length ≤ 1300 ∧
  ∀ (q : Addr) (zs : List V) (H' : Hp), H q = none → H' q = some (.lst zs) → ImAll H' (rrD (dueS g ks.length (sortN ks))) zs → Same H H' → Q (.ref q) H'
theorem ok_rings (T : Txt K mg) : FnOk P w K mg base CX0 2 T.f_rings T.d_rings ["graph"] (sp_rings P w) := by
  refine Fun.ok T.F_rings sc_rings (fun vs H Q E h => ?_) (fun cdv A outer s H vs Q E hr h => ?_)
  · obtain ⟨a, ks, vv, g, rfl, ms, hlen, kk⟩ := h; rfl
  · obtain ⟨a, ks, vv, g, rfl, ms, hlen, kk⟩ := h
    have hu := hu_of hr
    refine ⟨_, (pss_cons (ps_set (i := 1) sc_rings.nd rfl (Or.inl rfl) (pe_lst pa_nil))
      (pss_cons (ps_for PassesOwn.never rfl (pi_list (pe_callB (call_sortN (P := P) (w := w) rfl (hu65 hr)) (by rfl) T.z_sorted (by decide +kernel) (pa_cons (pv 0) pa_nil))) (pg_name (i := 2) sc_rings.nd rfl (Or.inl rfl))
      (pss_cons (ps_set (i := 3) sc_rings.nd rfl (Or.inl rfl) (pe_call (ok_ring_of T) (hr.mono (by decide)) rfl T.g_ring_of T.F_ring_of.kp T.b_ring_of .nil pass0 (pa_cons (pv 0) (pa_cons (pv 2) pa_nil))))
      (pss_one (ps_if (PW.pt (pw_and (pt_cmpR (op_neDK (K := K) rfl hr.units) (pv 3) (pe_tup pa_nil) (nomark _)) (pw_and1 (pt_cmpR (op_eqDK (K := K) rfl hr.units) (pe_callB (call_maxT rfl (hu65 hr)) (by rfl) T.z_max (by decide +kernel) (pa_cons (pv 3) pa_nil)) (pv 2) (nomark _))))) (pss_one (ps_expr (pe_bm PySem.F.plainAttrs_list PySem.F.slot_list_append PySem.F.type_list_append mt_append (pv 1) (pa_cons (pv 3) pa_nil)))) pss_nil))))
      (pss_one (ps_ret (pv 1))))), ?_⟩
    (try simp only [cxOf, Cx.nox, Cx.wish, tSeq, tAsg, tC, gName, tIfS, tTest, tOp, tUn, rU, rI0, rI, tVar, tNext, tRevT, tDNewK, tBreak, tChain, iStr, tRet, tRetN, tDrop, tLst, tTup, tCons, tNil, tCB, tB, tOr, tAnd, tNot, tIf, tCall, tFor_eq, tLc_eq, iRng1, iRng2, iList, iTup, gTup, gTupH, gUnlH, gCons, gNil, gSub, rSetL, rIxL, rIxT, rIxLH, rIxTH, rSlTS, rCatS, rTupS, rIsiH, rLenS, V.ty.injEq, tyS_non, tyS_bl, tyS_int, tyS_str, tyS_ref, tyO_l, tyO_t, tyO_d, tyO_dt, kit_ll, kit_tt, kit_bb, kit_ii, kit_ib, kit_bi, kit_nt, kit_it, kit_st, kit_bt, kit_lt, kit_dt, kit_ni, kit_si, kit_ti, kit_li, kit_di, kit_nb, kit_ns, kit_is, kit_bs, kit_ss, kit_ts, kit_ls, kit_ds, kit_dd, lenS_ref, lenO_l, lenO_t,  rAppend, tM1, rIxS, tSl, tPart, tNoPart, tBM, tBM0, tDGetS, sDPutS, tTruS, truO_l, truO_t, truS_ref, truS_non, truS_bl, truS_int, tFld, sFld, sFldAug, rAdd, tMeth, tProp, tMake, tMakeK, List.take_succ_cons, List.take_zero, List.drop_succ_cons, List.drop_zero, List.take_nil, tIsN, tNotN, tAndV, tOrV, tNotV, putF, List.lookup, List.any_cons, List.any_nil, Sum.inr.injEq, HO.ins.injEq, HO.dK.injEq, eq_self, beq_self_eq_true, beq_iff_eq, decide_true, decide_false, Bool.or_true, Bool.true_or, Bool.or_false, Bool.false_or, tYes, rEq, rNe, _root_.L2.start, wipe, List.map_cons, List.map_nil, List.length_cons, List.length_nil, List.append_nil, Nat.reduceAdd, Nat.reduceSub, List.replicate_succ, List.replicate_zero, List.cons_append, List.nil_append, List.getElem?_cons_zero, List.getElem?_cons_succ, List.set_cons_zero, List.set_cons_succ, Option.some.injEq, V.int.injEq, V.ref.injEq, V.bl.injEq, V.str.injEq, List.cons.injEq, HO.lst.injEq, HO.tup.injEq, and_assoc, and_true, true_and, exists_eq_left, exists_eq_left', exists_and_left, exists_eq, reduceCtorEq, false_and, and_false, or_false, false_or, exists_false, decide_eq_true_eq, CPow, CDivW, Int.reducePow, Int.reduceLT, Int.reduceLE, Int.reduceNeg, Int.reduceToNat, Int.reduceAbs, Nat.reducePow, Nat.reduceLT, Nat.reduceLeDiff, sizeLine_eq, Int.reduceMul, Int.reduceAdd, Int.reduceSub, Bool.not_eq_true', decide_eq_false_iff_not, scal, Bool.not_true, Bool.not_false, Bool.true_eq_false, Bool.false_eq_true, ite_false, ite_true, if_true, if_false, ite_self, forall_const, atI0, atI1, atI2, atI3, ixN20, ixN21, upd_same, upd_upd, Int.zero_add, CMul, Int.reduceSub, Nat.le_refl, Nat.zero_le, or_true, true_or, exists_const, Int.sub_zero, tDNewN, tDGetN, tDInN, tDNotInN, sDPutN, sDDelN, rLenN, tBMN, rGet1N, rGet2N, rSetdefN, tDcN, iKeysN, tLock, Option.isSome_none, Option.isSome_some, atI4, atI5])
    intro p hp
    have s0 := same_new hp (o := .lst [])
    unfold rSortN
    refine ⟨a, _, rfl, (ms _ s0).dr, ?_⟩
    have ek : (ks.map fun k => (tD k, vv k)).map (·.1) = ks.map tD := by rw [List.map_map]; rfl
    rw [ek]
    refine ⟨nds_alike _, nds_sortable _, nds_depth _, fun q zs H1 hq s1 _ hz iz => ?_⟩
    rw [sortN_map] at iz
    have hzl := iz.len
    rw [List.length_map, (sortN_p ks).length_eq] at hzl
    have nqp : p ≠ q := ne_of_none upd_same hq
    (try simp only [cxOf, Cx.nox, Cx.wish, tSeq, tAsg, tC, gName, tIfS, tTest, tOp, tUn, rU, rI0, rI, tVar, tNext, tRevT, tDNewK, tBreak, tChain, iStr, tRet, tRetN, tDrop, tLst, tTup, tCons, tNil, tCB, tB, tOr, tAnd, tNot, tIf, tCall, tFor_eq, tLc_eq, iRng1, iRng2, iList, iTup, gTup, gTupH, gUnlH, gCons, gNil, gSub, rSetL, rIxL, rIxT, rIxLH, rIxTH, rSlTS, rCatS, rTupS, rIsiH, rLenS, V.ty.injEq, tyS_non, tyS_bl, tyS_int, tyS_str, tyS_ref, tyO_l, tyO_t, tyO_d, tyO_dt, kit_ll, kit_tt, kit_bb, kit_ii, kit_ib, kit_bi, kit_nt, kit_it, kit_st, kit_bt, kit_lt, kit_dt, kit_ni, kit_si, kit_ti, kit_li, kit_di, kit_nb, kit_ns, kit_is, kit_bs, kit_ss, kit_ts, kit_ls, kit_ds, kit_dd, lenS_ref, lenO_l, lenO_t,  rAppend, tM1, rIxS, tSl, tPart, tNoPart, tBM, tBM0, tDGetS, sDPutS, tTruS, truO_l, truO_t, truS_ref, truS_non, truS_bl, truS_int, tFld, sFld, sFldAug, rAdd, tMeth, tProp, tMake, tMakeK, List.take_succ_cons, List.take_zero, List.drop_succ_cons, List.drop_zero, List.take_nil, tIsN, tNotN, tAndV, tOrV, tNotV, putF, List.lookup, List.any_cons, List.any_nil, Sum.inr.injEq, HO.ins.injEq, HO.dK.injEq, eq_self, beq_self_eq_true, beq_iff_eq, decide_true, decide_false, Bool.or_true, Bool.true_or, Bool.or_false, Bool.false_or, tYes, rEq, rNe, _root_.L2.start, wipe, List.map_cons, List.map_nil, List.length_cons, List.length_nil, List.append_nil, Nat.reduceAdd, Nat.reduceSub, List.replicate_succ, List.replicate_zero, List.cons_append, List.nil_append, List.getElem?_cons_zero, List.getElem?_cons_succ, List.set_cons_zero, List.set_cons_succ, Option.some.injEq, V.int.injEq, V.ref.injEq, V.bl.injEq, V.str.injEq, List.cons.injEq, HO.lst.injEq, HO.tup.injEq, and_assoc, and_true, true_and, exists_eq_left, exists_eq_left', exists_and_left, exists_eq, reduceCtorEq, false_and, and_false, or_false, false_or, exists_false, decide_eq_true_eq, CPow, CDivW, Int.reducePow, Int.reduceLT, Int.reduceLE, Int.reduceNeg, Int.reduceToNat, Int.reduceAbs, Nat.reducePow, Nat.reduceLT, Nat.reduceLeDiff, sizeLine_eq, Int.reduceMul, Int.reduceAdd, Int.reduceSub, Bool.not_eq_true', decide_eq_false_iff_not, scal, Bool.not_true, Bool.not_false, Bool.true_eq_false, Bool.false_eq_true, ite_false, ite_true, if_true, if_false, ite_self, forall_const, atI0, atI1, atI2, atI3, ixN20, ixN21, upd_same, upd_upd, Int.zero_add, CMul, Int.reduceSub, Nat.le_refl, Nat.zero_le, or_true, true_or, exists_const, Int.sub_zero, tDNewN, tDGetN, tDInN, tDNotInN, sDPutN, sDDelN, rLenN, tBMN, rGet1N, rGet2N, rSetdefN, tDcN, iKeysN, tLock, Option.isSome_none, Option.isSome_some, atI4, atI5])
    refine ⟨⟨_, SqL.of hz⟩, Loop.list zs (fun i σ H' => ∃ (acc : List V) (b2 b3 : Option V), σ = [some (.ref a), some (.ref p), b2, b3] ∧ H' p = some (.lst acc) ∧ ImAll H' (rrD (dueS g ks.length ((sortN ks).take i))) acc ∧ Same H H' ∧ H' q = some (.lst zs) ∧ ImAll H' ((sortN ks).map tD) zs)
      ⟨[], none, none, rfl, s1 _ _ upd_same, im_nil, s0.trans s1, hz, iz⟩ (fun i σ H' _ ⟨_, _, _, _, _, _, _, h, _⟩ => SqL.of h) ?_ ?_⟩
    · rintro i x σ H2 hx ⟨acc, b2, b3, rfl, hacc, iacc, s2, hq2, iz2⟩
      obtain ⟨t, ht, it⟩ := ims_map iz2 hx
      (try simp only [cxOf, Cx.nox, Cx.wish, tSeq, tAsg, tC, gName, tIfS, tTest, tOp, tUn, rU, rI0, rI, tVar, tNext, tRevT, tDNewK, tBreak, tChain, iStr, tRet, tRetN, tDrop, tLst, tTup, tCons, tNil, tCB, tB, tOr, tAnd, tNot, tIf, tCall, tFor_eq, tLc_eq, iRng1, iRng2, iList, iTup, gTup, gTupH, gUnlH, gCons, gNil, gSub, rSetL, rIxL, rIxT, rIxLH, rIxTH, rSlTS, rCatS, rTupS, rIsiH, rLenS, V.ty.injEq, tyS_non, tyS_bl, tyS_int, tyS_str, tyS_ref, tyO_l, tyO_t, tyO_d, tyO_dt, kit_ll, kit_tt, kit_bb, kit_ii, kit_ib, kit_bi, kit_nt, kit_it, kit_st, kit_bt, kit_lt, kit_dt, kit_ni, kit_si, kit_ti, kit_li, kit_di, kit_nb, kit_ns, kit_is, kit_bs, kit_ss, kit_ts, kit_ls, kit_ds, kit_dd, lenS_ref, lenO_l, lenO_t,  rAppend, tM1, rIxS, tSl, tPart, tNoPart, tBM, tBM0, tDGetS, sDPutS, tTruS, truO_l, truO_t, truS_ref, truS_non, truS_bl, truS_int, tFld, sFld, sFldAug, rAdd, tMeth, tProp, tMake, tMakeK, List.take_succ_cons, List.take_zero, List.drop_succ_cons, List.drop_zero, List.take_nil, tIsN, tNotN, tAndV, tOrV, tNotV, putF, List.lookup, List.any_cons, List.any_nil, Sum.inr.injEq, HO.ins.injEq, HO.dK.injEq, eq_self, beq_self_eq_true, beq_iff_eq, decide_true, decide_false, Bool.or_true, Bool.true_or, Bool.or_false, Bool.false_or, tYes, rEq, rNe, _root_.L2.start, wipe, List.map_cons, List.map_nil, List.length_cons, List.length_nil, List.append_nil, Nat.reduceAdd, Nat.reduceSub, List.replicate_succ, List.replicate_zero, List.cons_append, List.nil_append, List.getElem?_cons_zero, List.getElem?_cons_succ, List.set_cons_zero, List.set_cons_succ, Option.some.injEq, V.int.injEq, V.ref.injEq, V.bl.injEq, V.str.injEq, List.cons.injEq, HO.lst.injEq, HO.tup.injEq, and_assoc, and_true, true_and, exists_eq_left, exists_eq_left', exists_and_left, exists_eq, reduceCtorEq, false_and, and_false, or_false, false_or, exists_false, decide_eq_true_eq, CPow, CDivW, Int.reducePow, Int.reduceLT, Int.reduceLE, Int.reduceNeg, Int.reduceToNat, Int.reduceAbs, Nat.reducePow, Nat.reduceLT, Nat.reduceLeDiff, sizeLine_eq, Int.reduceMul, Int.reduceAdd, Int.reduceSub, Bool.not_eq_true', decide_eq_false_iff_not, scal, Bool.not_true, Bool.not_false, Bool.true_eq_false, Bool.false_eq_true, ite_false, ite_true, if_true, if_false, ite_self, forall_const, atI0, atI1, atI2, atI3, ixN20, ixN21, upd_same, upd_upd, Int.zero_add, CMul, Int.reduceSub, Nat.le_refl, Nat.zero_le, or_true, true_or, exists_const, Int.sub_zero, tDNewN, tDGetN, tDInN, tDNotInN, sDPutN, sDDelN, rLenN, tBMN, rGet1N, rGet2N, rSetdefN, tDcN, iKeysN, tLock, Option.isSome_none, Option.isSome_some, atI4, atI5])
      refine ⟨a, ks, vv, g, t, x, rfl, fun H' s => ms H' (s2.trans s), it, hlen, fun r rs H3 hr ir s3 => ?_⟩
      intro z hz3
      unfold rNeD
      have s34 := same_new hz3 (o := .tup [])
      have hr4 := s34 _ _ hr
      have ir4 := Same.ims s34 ir
      have s24 := s3.trans s34
      have hacc4 := s24 _ _ hacc
      have iacc4 := Same.ims s24 iacc
      have it4 := Same.im s24 it
      have hq4 := s24 _ _ hq2
      have iz4 := Same.ims s24 iz2
      have sH4 := s2.trans s24
      have hi : i < (sortN ks).length := (List.getElem?_eq_some_iff.mp ht).1
      have hil : i ≤ 1300 := by have := (sortN_p ks).length_eq; omega
      have hal := iacc.len
      have hdl := dueS_len g ks.length ((sortN ks).take i)
      rw [rrD, List.length_map] at hal
      rw [List.length_take] at hdl
      refine ⟨.tuple ((ringS g ks.length t).map tD), .tuple [], Im.dp _ _ (im_tup hr4 ir4), .tup (SqT.of upd_same) .nil, nds_shaped _, rfl, ?_⟩
      generalize upd H3 z (.tup []) = H4 at hr4 ir4 hacc4 iacc4 it4 hq4 iz4 sH4
      clear s24 s34 hz3 hr ir s3 hacc iacc it hq2 iz2 s2
      rw [dueS_snoc g ks.length ht]
      cases hR : ringS g ks.length t with
      | nil =>
        rw [show PyData.eqv (.tuple (([] : List Nd).map tD)) (.tuple []) = true from rfl, okS_nil hR]
        (try simp only [cxOf, Cx.nox, Cx.wish, tSeq, tAsg, tC, gName, tIfS, tTest, tOp, tUn, rU, rI0, rI, tVar, tNext, tRevT, tDNewK, tBreak, tChain, iStr, tRet, tRetN, tDrop, tLst, tTup, tCons, tNil, tCB, tB, tOr, tAnd, tNot, tIf, tCall, tFor_eq, tLc_eq, iRng1, iRng2, iList, iTup, gTup, gTupH, gUnlH, gCons, gNil, gSub, rSetL, rIxL, rIxT, rIxLH, rIxTH, rSlTS, rCatS, rTupS, rIsiH, rLenS, V.ty.injEq, tyS_non, tyS_bl, tyS_int, tyS_str, tyS_ref, tyO_l, tyO_t, tyO_d, tyO_dt, kit_ll, kit_tt, kit_bb, kit_ii, kit_ib, kit_bi, kit_nt, kit_it, kit_st, kit_bt, kit_lt, kit_dt, kit_ni, kit_si, kit_ti, kit_li, kit_di, kit_nb, kit_ns, kit_is, kit_bs, kit_ss, kit_ts, kit_ls, kit_ds, kit_dd, lenS_ref, lenO_l, lenO_t,  rAppend, tM1, rIxS, tSl, tPart, tNoPart, tBM, tBM0, tDGetS, sDPutS, tTruS, truO_l, truO_t, truS_ref, truS_non, truS_bl, truS_int, tFld, sFld, sFldAug, rAdd, tMeth, tProp, tMake, tMakeK, List.take_succ_cons, List.take_zero, List.drop_succ_cons, List.drop_zero, List.take_nil, tIsN, tNotN, tAndV, tOrV, tNotV, putF, List.lookup, List.any_cons, List.any_nil, Sum.inr.injEq, HO.ins.injEq, HO.dK.injEq, eq_self, beq_self_eq_true, beq_iff_eq, decide_true, decide_false, Bool.or_true, Bool.true_or, Bool.or_false, Bool.false_or, tYes, rEq, rNe, _root_.L2.start, wipe, List.map_cons, List.map_nil, List.length_cons, List.length_nil, List.append_nil, Nat.reduceAdd, Nat.reduceSub, List.replicate_succ, List.replicate_zero, List.cons_append, List.nil_append, List.getElem?_cons_zero, List.getElem?_cons_succ, List.set_cons_zero, List.set_cons_succ, Option.some.injEq, V.int.injEq, V.ref.injEq, V.bl.injEq, V.str.injEq, List.cons.injEq, HO.lst.injEq, HO.tup.injEq, and_assoc, and_true, true_and, exists_eq_left, exists_eq_left', exists_and_left, exists_eq, reduceCtorEq, false_and, and_false, or_false, false_or, exists_false, decide_eq_true_eq, CPow, CDivW, Int.reducePow, Int.reduceLT, Int.reduceLE, Int.reduceNeg, Int.reduceToNat, Int.reduceAbs, Nat.reducePow, Nat.reduceLT, Nat.reduceLeDiff, sizeLine_eq, Int.reduceMul, Int.reduceAdd, Int.reduceSub, Bool.not_eq_true', decide_eq_false_iff_not, scal, Bool.not_true, Bool.not_false, Bool.true_eq_false, Bool.false_eq_true, ite_false, ite_true, if_true, if_false, ite_self, forall_const, atI0, atI1, atI2, atI3, ixN20, ixN21, upd_same, upd_upd, Int.zero_add, CMul, Int.reduceSub, Nat.le_refl, Nat.zero_le, or_true, true_or, exists_const, Int.sub_zero, tDNewN, tDGetN, tDInN, tDNotInN, sDPutN, sDDelN, rLenN, tBMN, rGet1N, rGet2N, rSetdefN, tDcN, iKeysN, tLock, Option.isSome_none, Option.isSome_some, atI4, atI5])
        exact ⟨acc, hacc4, iacc4, sH4, hq4, iz4⟩
      | cons r0 rs' =>
        rw [show PyData.eqv (.tuple ((r0 :: rs').map tD)) (.tuple []) = false from by simp [PyData.eqv, PyData.eqvAll], okS_cons hR]
        (try simp only [cxOf, Cx.nox, Cx.wish, tSeq, tAsg, tC, gName, tIfS, tTest, tOp, tUn, rU, rI0, rI, tVar, tNext, tRevT, tDNewK, tBreak, tChain, iStr, tRet, tRetN, tDrop, tLst, tTup, tCons, tNil, tCB, tB, tOr, tAnd, tNot, tIf, tCall, tFor_eq, tLc_eq, iRng1, iRng2, iList, iTup, gTup, gTupH, gUnlH, gCons, gNil, gSub, rSetL, rIxL, rIxT, rIxLH, rIxTH, rSlTS, rCatS, rTupS, rIsiH, rLenS, V.ty.injEq, tyS_non, tyS_bl, tyS_int, tyS_str, tyS_ref, tyO_l, tyO_t, tyO_d, tyO_dt, kit_ll, kit_tt, kit_bb, kit_ii, kit_ib, kit_bi, kit_nt, kit_it, kit_st, kit_bt, kit_lt, kit_dt, kit_ni, kit_si, kit_ti, kit_li, kit_di, kit_nb, kit_ns, kit_is, kit_bs, kit_ss, kit_ts, kit_ls, kit_ds, kit_dd, lenS_ref, lenO_l, lenO_t,  rAppend, tM1, rIxS, tSl, tPart, tNoPart, tBM, tBM0, tDGetS, sDPutS, tTruS, truO_l, truO_t, truS_ref, truS_non, truS_bl, truS_int, tFld, sFld, sFldAug, rAdd, tMeth, tProp, tMake, tMakeK, List.take_succ_cons, List.take_zero, List.drop_succ_cons, List.drop_zero, List.take_nil, tIsN, tNotN, tAndV, tOrV, tNotV, putF, List.lookup, List.any_cons, List.any_nil, Sum.inr.injEq, HO.ins.injEq, HO.dK.injEq, eq_self, beq_self_eq_true, beq_iff_eq, decide_true, decide_false, Bool.or_true, Bool.true_or, Bool.or_false, Bool.false_or, tYes, rEq, rNe, _root_.L2.start, wipe, List.map_cons, List.map_nil, List.length_cons, List.length_nil, List.append_nil, Nat.reduceAdd, Nat.reduceSub, List.replicate_succ, List.replicate_zero, List.cons_append, List.nil_append, List.getElem?_cons_zero, List.getElem?_cons_succ, List.set_cons_zero, List.set_cons_succ, Option.some.injEq, V.int.injEq, V.ref.injEq, V.bl.injEq, V.str.injEq, List.cons.injEq, HO.lst.injEq, HO.tup.injEq, and_assoc, and_true, true_and, exists_eq_left, exists_eq_left', exists_and_left, exists_eq, reduceCtorEq, false_and, and_false, or_false, false_or, exists_false, decide_eq_true_eq, CPow, CDivW, Int.reducePow, Int.reduceLT, Int.reduceLE, Int.reduceNeg, Int.reduceToNat, Int.reduceAbs, Nat.reducePow, Nat.reduceLT, Nat.reduceLeDiff, sizeLine_eq, Int.reduceMul, Int.reduceAdd, Int.reduceSub, Bool.not_eq_true', decide_eq_false_iff_not, scal, Bool.not_true, Bool.not_false, Bool.true_eq_false, Bool.false_eq_true, ite_false, ite_true, if_true, if_false, ite_self, forall_const, atI0, atI1, atI2, atI3, ixN20, ixN21, upd_same, upd_upd, Int.zero_add, CMul, Int.reduceSub, Nat.le_refl, Nat.zero_le, or_true, true_or, exists_const, Int.sub_zero, tDNewN, tDGetN, tDInN, tDNotInN, sDPutN, sDDelN, rLenN, tBMN, rGet1N, rGet2N, rSetdefN, tDcN, iKeysN, tLock, Option.isSome_none, Option.isSome_some, atI4, atI5])
        rw [hR] at ir4
        unfold rMaxT
        refine ⟨r, rs, tD r0, rs'.map tD, rfl, hr4, ir4, nds_alikeAll (r0 :: rs'), nds_depth (r0 :: rs'), fun v _ iv => ?_⟩
        obtain ⟨m, em⟩ := maxD_nd r0 rs'
        rw [em] at iv ⊢
        unfold rEqD
        refine ⟨_, _, Im.dp _ _ iv, Im.dp _ _ it4, tD_shaped m, tD_shaped t, ?_⟩
        by_cases e : PyData.eqv (tD m) (tD t) = true
        · rw [e]
          (try simp only [cxOf, Cx.nox, Cx.wish, tSeq, tAsg, tC, gName, tIfS, tTest, tOp, tUn, rU, rI0, rI, tVar, tNext, tRevT, tDNewK, tBreak, tChain, iStr, tRet, tRetN, tDrop, tLst, tTup, tCons, tNil, tCB, tB, tOr, tAnd, tNot, tIf, tCall, tFor_eq, tLc_eq, iRng1, iRng2, iList, iTup, gTup, gTupH, gUnlH, gCons, gNil, gSub, rSetL, rIxL, rIxT, rIxLH, rIxTH, rSlTS, rCatS, rTupS, rIsiH, rLenS, V.ty.injEq, tyS_non, tyS_bl, tyS_int, tyS_str, tyS_ref, tyO_l, tyO_t, tyO_d, tyO_dt, kit_ll, kit_tt, kit_bb, kit_ii, kit_ib, kit_bi, kit_nt, kit_it, kit_st, kit_bt, kit_lt, kit_dt, kit_ni, kit_si, kit_ti, kit_li, kit_di, kit_nb, kit_ns, kit_is, kit_bs, kit_ss, kit_ts, kit_ls, kit_ds, kit_dd, lenS_ref, lenO_l, lenO_t,  rAppend, tM1, rIxS, tSl, tPart, tNoPart, tBM, tBM0, tDGetS, sDPutS, tTruS, truO_l, truO_t, truS_ref, truS_non, truS_bl, truS_int, tFld, sFld, sFldAug, rAdd, tMeth, tProp, tMake, tMakeK, List.take_succ_cons, List.take_zero, List.drop_succ_cons, List.drop_zero, List.take_nil, tIsN, tNotN, tAndV, tOrV, tNotV, putF, List.lookup, List.any_cons, List.any_nil, Sum.inr.injEq, HO.ins.injEq, HO.dK.injEq, eq_self, beq_self_eq_true, beq_iff_eq, decide_true, decide_false, Bool.or_true, Bool.true_or, Bool.or_false, Bool.false_or, tYes, rEq, rNe, _root_.L2.start, wipe, List.map_cons, List.map_nil, List.length_cons, List.length_nil, List.append_nil, Nat.reduceAdd, Nat.reduceSub, List.replicate_succ, List.replicate_zero, List.cons_append, List.nil_append, List.getElem?_cons_zero, List.getElem?_cons_succ, List.set_cons_zero, List.set_cons_succ, Option.some.injEq, V.int.injEq, V.ref.injEq, V.bl.injEq, V.str.injEq, List.cons.injEq, HO.lst.injEq, HO.tup.injEq, and_assoc, and_true, true_and, exists_eq_left, exists_eq_left', exists_and_left, exists_eq, reduceCtorEq, false_and, and_false, or_false, false_or, exists_false, decide_eq_true_eq, CPow, CDivW, Int.reducePow, Int.reduceLT, Int.reduceLE, Int.reduceNeg, Int.reduceToNat, Int.reduceAbs, Nat.reducePow, Nat.reduceLT, Nat.reduceLeDiff, sizeLine_eq, Int.reduceMul, Int.reduceAdd, Int.reduceSub, Bool.not_eq_true', decide_eq_false_iff_not, scal, Bool.not_true, Bool.not_false, Bool.true_eq_false, Bool.false_eq_true, ite_false, ite_true, if_true, if_false, ite_self, forall_const, atI0, atI1, atI2, atI3, ixN20, ixN21, upd_same, upd_upd, Int.zero_add, CMul, Int.reduceSub, Nat.le_refl, Nat.zero_le, or_true, true_or, exists_const, Int.sub_zero, tDNewN, tDGetN, tDInN, tDNotInN, sDPutN, sDDelN, rLenN, tBMN, rGet1N, rGet2N, rSetdefN, tDcN, iKeysN, tLock, Option.isSome_none, Option.isSome_some, atI4, atI5, hacc4])
          refine ⟨tyL hacc4, by omega, ?_, same_put_new sH4 hp, get_ne nqp.symm hq4, imsPut hacc4 iz4⟩
          rw [rrD, List.map_append]
          exact ims_app hacc4 iacc4 (im_tup hr4 ir4)
        · rw [eq_false_of_ne_true e]
          (try simp only [cxOf, Cx.nox, Cx.wish, tSeq, tAsg, tC, gName, tIfS, tTest, tOp, tUn, rU, rI0, rI, tVar, tNext, tRevT, tDNewK, tBreak, tChain, iStr, tRet, tRetN, tDrop, tLst, tTup, tCons, tNil, tCB, tB, tOr, tAnd, tNot, tIf, tCall, tFor_eq, tLc_eq, iRng1, iRng2, iList, iTup, gTup, gTupH, gUnlH, gCons, gNil, gSub, rSetL, rIxL, rIxT, rIxLH, rIxTH, rSlTS, rCatS, rTupS, rIsiH, rLenS, V.ty.injEq, tyS_non, tyS_bl, tyS_int, tyS_str, tyS_ref, tyO_l, tyO_t, tyO_d, tyO_dt, kit_ll, kit_tt, kit_bb, kit_ii, kit_ib, kit_bi, kit_nt, kit_it, kit_st, kit_bt, kit_lt, kit_dt, kit_ni, kit_si, kit_ti, kit_li, kit_di, kit_nb, kit_ns, kit_is, kit_bs, kit_ss, kit_ts, kit_ls, kit_ds, kit_dd, lenS_ref, lenO_l, lenO_t,  rAppend, tM1, rIxS, tSl, tPart, tNoPart, tBM, tBM0, tDGetS, sDPutS, tTruS, truO_l, truO_t, truS_ref, truS_non, truS_bl, truS_int, tFld, sFld, sFldAug, rAdd, tMeth, tProp, tMake, tMakeK, List.take_succ_cons, List.take_zero, List.drop_succ_cons, List.drop_zero, List.take_nil, tIsN, tNotN, tAndV, tOrV, tNotV, putF, List.lookup, List.any_cons, List.any_nil, Sum.inr.injEq, HO.ins.injEq, HO.dK.injEq, eq_self, beq_self_eq_true, beq_iff_eq, decide_true, decide_false, Bool.or_true, Bool.true_or, Bool.or_false, Bool.false_or, tYes, rEq, rNe, _root_.L2.start, wipe, List.map_cons, List.map_nil, List.length_cons, List.length_nil, List.append_nil, Nat.reduceAdd, Nat.reduceSub, List.replicate_succ, List.replicate_zero, List.cons_append, List.nil_append, List.getElem?_cons_zero, List.getElem?_cons_succ, List.set_cons_zero, List.set_cons_succ, Option.some.injEq, V.int.injEq, V.ref.injEq, V.bl.injEq, V.str.injEq, List.cons.injEq, HO.lst.injEq, HO.tup.injEq, and_assoc, and_true, true_and, exists_eq_left, exists_eq_left', exists_and_left, exists_eq, reduceCtorEq, false_and, and_false, or_false, false_or, exists_false, decide_eq_true_eq, CPow, CDivW, Int.reducePow, Int.reduceLT, Int.reduceLE, Int.reduceNeg, Int.reduceToNat, Int.reduceAbs, Nat.reducePow, Nat.reduceLT, Nat.reduceLeDiff, sizeLine_eq, Int.reduceMul, Int.reduceAdd, Int.reduceSub, Bool.not_eq_true', decide_eq_false_iff_not, scal, Bool.not_true, Bool.not_false, Bool.true_eq_false, Bool.false_eq_true, ite_false, ite_true, if_true, if_false, ite_self, forall_const, atI0, atI1, atI2, atI3, ixN20, ixN21, upd_same, upd_upd, Int.zero_add, CMul, Int.reduceSub, Nat.le_refl, Nat.zero_le, or_true, true_or, exists_const, Int.sub_zero, tDNewN, tDGetN, tDInN, tDNotInN, sDPutN, sDDelN, rLenN, tBMN, rGet1N, rGet2N, rSetdefN, tDcN, iKeysN, tLock, Option.isSome_none, Option.isSome_some, atI4, atI5])
          exact ⟨acc, hacc4, iacc4, sH4, hq4, iz4⟩
    · rintro σ H2 ⟨acc, b2, b3, rfl, hacc, iacc, s2, hq2, iz2⟩
      rw [show zs.length = (sortN ks).length by rw [hzl, (sortN_p ks).length_eq], List.take_length] at iacc
      (try simp only [cxOf, Cx.nox, Cx.wish, tSeq, tAsg, tC, gName, tIfS, tTest, tOp, tUn, rU, rI0, rI, tVar, tNext, tRevT, tDNewK, tBreak, tChain, iStr, tRet, tRetN, tDrop, tLst, tTup, tCons, tNil, tCB, tB, tOr, tAnd, tNot, tIf, tCall, tFor_eq, tLc_eq, iRng1, iRng2, iList, iTup, gTup, gTupH, gUnlH, gCons, gNil, gSub, rSetL, rIxL, rIxT, rIxLH, rIxTH, rSlTS, rCatS, rTupS, rIsiH, rLenS, V.ty.injEq, tyS_non, tyS_bl, tyS_int, tyS_str, tyS_ref, tyO_l, tyO_t, tyO_d, tyO_dt, kit_ll, kit_tt, kit_bb, kit_ii, kit_ib, kit_bi, kit_nt, kit_it, kit_st, kit_bt, kit_lt, kit_dt, kit_ni, kit_si, kit_ti, kit_li, kit_di, kit_nb, kit_ns, kit_is, kit_bs, kit_ss, kit_ts, kit_ls, kit_ds, kit_dd, lenS_ref, lenO_l, lenO_t,  rAppend, tM1, rIxS, tSl, tPart, tNoPart, tBM, tBM0, tDGetS, sDPutS, tTruS, truO_l, truO_t, truS_ref, truS_non, truS_bl, truS_int, tFld, sFld, sFldAug, rAdd, tMeth, tProp, tMake, tMakeK, List.take_succ_cons, List.take_zero, List.drop_succ_cons, List.drop_zero, List.take_nil, tIsN, tNotN, tAndV, tOrV, tNotV, putF, List.lookup, List.any_cons, List.any_nil, Sum.inr.injEq, HO.ins.injEq, HO.dK.injEq, eq_self, beq_self_eq_true, beq_iff_eq, decide_true, decide_false, Bool.or_true, Bool.true_or, Bool.or_false, Bool.false_or, tYes, rEq, rNe, _root_.L2.start, wipe, List.map_cons, List.map_nil, List.length_cons, List.length_nil, List.append_nil, Nat.reduceAdd, Nat.reduceSub, List.replicate_succ, List.replicate_zero, List.cons_append, List.nil_append, List.getElem?_cons_zero, List.getElem?_cons_succ, List.set_cons_zero, List.set_cons_succ, Option.some.injEq, V.int.injEq, V.ref.injEq, V.bl.injEq, V.str.injEq, List.cons.injEq, HO.lst.injEq, HO.tup.injEq, and_assoc, and_true, true_and, exists_eq_left, exists_eq_left', exists_and_left, exists_eq, reduceCtorEq, false_and, and_false, or_false, false_or, exists_false, decide_eq_true_eq, CPow, CDivW, Int.reducePow, Int.reduceLT, Int.reduceLE, Int.reduceNeg, Int.reduceToNat, Int.reduceAbs, Nat.reducePow, Nat.reduceLT, Nat.reduceLeDiff, sizeLine_eq, Int.reduceMul, Int.reduceAdd, Int.reduceSub, Bool.not_eq_true', decide_eq_false_iff_not, scal, Bool.not_true, Bool.not_false, Bool.true_eq_false, Bool.false_eq_true, ite_false, ite_true, if_true, if_false, ite_self, forall_const, atI0, atI1, atI2, atI3, ixN20, ixN21, upd_same, upd_upd, Int.zero_add, CMul, Int.reduceSub, Nat.le_refl, Nat.zero_le, or_true, true_or, exists_const, Int.sub_zero, tDNewN, tDGetN, tDInN, tDNotInN, sDPutN, sDDelN, rLenN, tBMN, rGet1N, rGet2N, rSetdefN, tDcN, iKeysN, tLock, Option.isSome_none, Option.isSome_some, atI4, atI5])
      exact kk p _ _ hp hacc iacc s2
def sp_law_drawn (P : Program) (w : World) : Sp := fun vs H Q _ => ∃ (s0 : Addr) (k : Int), vs = [.ref s0, .int k] ∧ St2 H s0 ∧
  ∀ (l nl a : Addr) (names : List Nd) (nvs : List V) (ks : List Nd) (vv : Nd → V) (g : Nd → Option Nd) (H' : Hp), H' l = some (.lst [.ref nl, .ref a]) → H' nl = some (.lst nvs) → ImAll H' (names.map tD) nvs → names.length ≤ 30 → GN P w H' a ks vv g → (∀ k ∈ ks, k ∈ dom34) → ks.length ≤ 400 →
    Gn s0 H H' → Q (.ref l) H'
theorem ok_law_drawn (T : Txt K mg) : FnOk P w K mg base CX0 2 T.f_law_drawn T.d_law_drawn ["_law_stream_here", "_law_k"] (sp_law_drawn P w) := by
  refine Fun.ok T.F_law_drawn sc_law_drawn (fun vs H Q E h => ?_) (fun cdv A outer s H vs Q E hr h => ?_)
  · obtain ⟨s0, k, rfl, st, kk⟩ := h; rfl
  · obtain ⟨s0, k, rfl, st, kk⟩ := h
    have hu := hu_of hr
    refine ⟨_, (pss_cons (ps_set (i := 2) sc_law_drawn.nd rfl (Or.inl rfl) (pe_lst pa_nil))
      (pss_cons (ps_for PassesOwn.never rfl (pi_range1 (by rfl) T.z_range (pa_cons (pe_call (ok_law_next T) (hr.mono (by decide)) rfl T.g_law_next T.F_law_next.kp T.b_law_next .nil pass0 (pa_cons (pv 0) (pa_cons pe_int pa_nil))) pa_nil)) (pg_name (i := 3) sc_law_drawn.nd rfl (Or.inl rfl))
      (pss_cons (ps_set (i := 4) sc_law_drawn.nd rfl (Or.inl rfl) (pe_tup (pa_cons (pe_op op_add pe_int (pe_call (ok_law_next T) (hr.mono (by decide)) rfl T.g_law_next T.F_law_next.kp T.b_law_next .nil pass0 (pa_cons (pv 0) (pa_cons pe_int pa_nil)))) (pa_cons (pe_call (ok_law_next T) (hr.mono (by decide)) rfl T.g_law_next T.F_law_next.kp T.b_law_next .nil pass0 (pa_cons (pv 0) (pa_cons pe_int pa_nil))) pa_nil))))
      (pss_one (ps_if (pt_cmpR (op_notInDK (K := K) rfl (hu65 hr)) (pv 4) (pv 2) (by rfl)) (pss_one (ps_expr (pe_bm PySem.F.plainAttrs_list PySem.F.slot_list_append PySem.F.type_list_append mt_append (pv 2) (pa_cons (pv 4) pa_nil)))) pss_nil))))
      (pss_cons (ps_set (i := 5) sc_law_drawn.nd rfl (Or.inl rfl) (pe_dnewN (P := P) (w := w)))
      (pss_cons (ps_for PassesOwn.never rfl (pi_list (pv 2)) (pg_name (i := 4) sc_law_drawn.nd rfl (Or.inl rfl))
      (pss_cons (ps_set (i := 6) sc_law_drawn.nd rfl (Or.inl rfl) (pe_ix ix_listH (pv 2) (pe_call (ok_law_next T) (hr.mono (by decide)) rfl T.g_law_next T.F_law_next.kp T.b_law_next .nil pass0 (pa_cons (pv 0) (pa_cons (pe_callB call_lenS (by rfl) T.z_len (by decide +kernel) (pa_cons (pv 2) pa_nil)) pa_nil))) (fun _ _ => rfl)))
      (pss_one (ps_if (PW.pt (pw_and (pt_cmpR (op_neDK (K := K) rfl hr.units) (pv 6) (pv 4) (nomark _)) (pw_and1 (pt_cmpR op_gt (pe_call (ok_law_next T) (hr.mono (by decide)) rfl T.g_law_next T.F_law_next.kp T.b_law_next .nil pass0 (pa_cons (pv 0) (pa_cons pe_int pa_nil))) pe_int (nomark _))))) (pss_one (ps_dputN (P := P) (w := w) (hu65 hr) (pv 5) (pv 4) (pv 6) rfl)) pss_nil))))
      (C8.pss_cut (ps_if (PW.pt (pw_and (pt_cmpR op_eq (pv 1) pe_int (nomark _)) (pw_and1 (pt_cmpR op_eq (pe_call (ok_law_next T) (hr.mono (by decide)) rfl T.g_law_next T.F_law_next.kp T.b_law_next .nil pass0 (pa_cons (pv 0) (pa_cons pe_int pa_nil))) pe_int (nomark _))))) (pss_cons (ps_set (i := 7) sc_law_drawn.nd rfl (Or.inl rfl) (pe_ix ix_tupH (pe_tup (pa_cons pe_int (pa_cons pe_int (pa_cons pe_int (pa_cons pe_int pa_nil))))) (pe_call (ok_law_next T) (hr.mono (by decide)) rfl T.g_law_next T.F_law_next.kp T.b_law_next .nil pass0 (pa_cons (pv 0) (pa_cons pe_int pa_nil))) (fun _ _ => rfl)))
      (pss_one (ps_for PassesOwn.never rfl (pi_range1 (by rfl) T.z_range (pa_cons pe_int pa_nil)) (pg_name (i := 8) sc_law_drawn.nd rfl (Or.inl rfl))
      (pss_one (ps_dputN (P := P) (w := w) (hu65 hr) (pv 5) (pe_tup (pa_cons (pe_op op_add pe_int (pe_op op_mod (pe_callTy call_int1 (by rfl) T.z_int (by decide +kernel) (pa_cons (pe_op op_mul (pv 8) (pv 7)) pa_nil)) pe_int)) (pa_cons pe_int pa_nil))) (pe_tup (pa_cons (pe_op op_add pe_int (pe_op op_mod (pe_callTy call_int1 (by rfl) T.z_int (by decide +kernel) (pa_cons (pe_op op_add (pe_op op_mul (pv 8) (pv 7)) (pv 7)) pa_nil)) pe_int)) (pa_cons pe_int pa_nil))) rfl))))) pss_nil)
      (pss_one (ps_ret (pe_lst (pa_cons (pe_op op_cat (pv 2) (pe_lst (pa_cons (pe_tup (pa_cons pe_int (pa_cons pe_int pa_nil))) pa_nil))) (pa_cons (pv 5) pa_nil)))))))))), ?_⟩
    (try simp only [cxOf, Cx.nox, Cx.wish, tSeq, tAsg, tC, gName, tIfS, tTest, tOp, tUn, rU, rI0, rI, tVar, tNext, tRevT, tDNewK, tBreak, tChain, iStr, tRet, tRetN, tDrop, tLst, tTup, tCons, tNil, tCB, tB, tOr, tAnd, tNot, tIf, tCall, tFor_eq, tLc_eq, iRng1, iRng2, iList, iTup, gTup, gTupH, gUnlH, gCons, gNil, gSub, rSetL, rIxL, rIxT, rIxLH, rIxTH, rSlTS, rCatS, rTupS, rIsiH, rLenS, V.ty.injEq, tyS_non, tyS_bl, tyS_int, tyS_str, tyS_ref, tyO_l, tyO_t, tyO_d, tyO_dt, kit_ll, kit_tt, kit_bb, kit_ii, kit_ib, kit_bi, kit_nt, kit_it, kit_st, kit_bt, kit_lt, kit_dt, kit_ni, kit_si, kit_ti, kit_li, kit_di, kit_nb, kit_ns, kit_is, kit_bs, kit_ss, kit_ts, kit_ls, kit_ds, kit_dd, lenS_ref, lenO_l, lenO_t,  rAppend, tM1, rIxS, tSl, tPart, tNoPart, tBM, tBM0, tDGetS, sDPutS, tTruS, truO_l, truO_t, truS_ref, truS_non, truS_bl, truS_int, tFld, sFld, sFldAug, rAdd, tMeth, tProp, tMake, tMakeK, List.take_succ_cons, List.take_zero, List.drop_succ_cons, List.drop_zero, List.take_nil, tIsN, tNotN, tAndV, tOrV, tNotV, putF, List.lookup, List.any_cons, List.any_nil, Sum.inr.injEq, HO.ins.injEq, HO.dK.injEq, eq_self, beq_self_eq_true, beq_iff_eq, decide_true, decide_false, Bool.or_true, Bool.true_or, Bool.or_false, Bool.false_or, tYes, rEq, rNe, _root_.L2.start, wipe, List.map_cons, List.map_nil, List.length_cons, List.length_nil, List.append_nil, Nat.reduceAdd, Nat.reduceSub, List.replicate_succ, List.replicate_zero, List.cons_append, List.nil_append, List.getElem?_cons_zero, List.getElem?_cons_succ, List.set_cons_zero, List.set_cons_succ, Option.some.injEq, V.int.injEq, V.ref.injEq, V.bl.injEq, V.str.injEq, List.cons.injEq, HO.lst.injEq, HO.tup.injEq, and_assoc, and_true, true_and, exists_eq_left, exists_eq_left', exists_and_left, exists_eq, reduceCtorEq, false_and, and_false, or_false, false_or, exists_false, decide_eq_true_eq, CPow, CDivW, Int.reducePow, Int.reduceLT, Int.reduceLE, Int.reduceNeg, Int.reduceToNat, Int.reduceAbs, Nat.reducePow, Nat.reduceLT, Nat.reduceLeDiff, sizeLine_eq, Int.reduceMul, Int.reduceAdd, Int.reduceSub, Bool.not_eq_true', decide_eq_false_iff_not, scal, Bool.not_true, Bool.not_false, Bool.true_eq_false, Bool.false_eq_true, ite_false, ite_true, if_true, if_false, ite_self, forall_const, atI0, atI1, atI2, atI3, ixN20, ixN21, upd_same, upd_upd, Int.zero_add, CMul, Int.reduceSub, Nat.le_refl, Nat.zero_le, or_true, true_or, exists_const, Int.sub_zero, tDNewN, tDGetN, tDInN, tDNotInN, sDPutN, sDDelN, rLenN, tBMN, rGet1N, rGet2N, rSetdefN, tDcN, iKeysN, tLock, Option.isSome_none, Option.isSome_some, atI4, atI5])
    intro p hp
    refine ⟨s0, 21, rfl, st.new hp, by omega, by omega, fun v H1 v0 v1 g1 => ?_⟩
    refine ⟨v, rfl, by omega, by omega, ?_⟩
    have nps : p ≠ s0 := by obtain ⟨x, y, e⟩ := st; exact (ne_of_none e hp).symm
    have hp1 := g1.at upd_same nps
    have gg := Gn.trans ((Gn.refl st).new hp) g1
    clear g1
    refine Loop.range (fun i σ H' => ∃ (names : List Nd) (nvs : List V) (b3 b4 b5 b6 b7 b8 : Option V), σ = [some (.ref s0), some (.int k), some (.ref p), b3, b4, b5, b6, b7, b8] ∧ H' p = some (.lst nvs) ∧ ImAll H' (names.map tD) nvs ∧ names.length ≤ i ∧ (∀ x ∈ names, x ∈ dom34) ∧ Gn s0 H H')
      ⟨[], [], none, none, none, none, none, none, rfl, hp1, im_nil, by simp, fun x h => by simp at h, gg⟩ ?_ ?_
    · clear gg hp1 H1
      rintro i σ H1 hi ⟨names, nvs, b3, b4, b5, b6, b7, b8, rfl, hn, inm, hl, hd, g1⟩
      (try simp only [cxOf, Cx.nox, Cx.wish, tSeq, tAsg, tC, gName, tIfS, tTest, tOp, tUn, rU, rI0, rI, tVar, tNext, tRevT, tDNewK, tBreak, tChain, iStr, tRet, tRetN, tDrop, tLst, tTup, tCons, tNil, tCB, tB, tOr, tAnd, tNot, tIf, tCall, tFor_eq, tLc_eq, iRng1, iRng2, iList, iTup, gTup, gTupH, gUnlH, gCons, gNil, gSub, rSetL, rIxL, rIxT, rIxLH, rIxTH, rSlTS, rCatS, rTupS, rIsiH, rLenS, V.ty.injEq, tyS_non, tyS_bl, tyS_int, tyS_str, tyS_ref, tyO_l, tyO_t, tyO_d, tyO_dt, kit_ll, kit_tt, kit_bb, kit_ii, kit_ib, kit_bi, kit_nt, kit_it, kit_st, kit_bt, kit_lt, kit_dt, kit_ni, kit_si, kit_ti, kit_li, kit_di, kit_nb, kit_ns, kit_is, kit_bs, kit_ss, kit_ts, kit_ls, kit_ds, kit_dd, lenS_ref, lenO_l, lenO_t,  rAppend, tM1, rIxS, tSl, tPart, tNoPart, tBM, tBM0, tDGetS, sDPutS, tTruS, truO_l, truO_t, truS_ref, truS_non, truS_bl, truS_int, tFld, sFld, sFldAug, rAdd, tMeth, tProp, tMake, tMakeK, List.take_succ_cons, List.take_zero, List.drop_succ_cons, List.drop_zero, List.take_nil, tIsN, tNotN, tAndV, tOrV, tNotV, putF, List.lookup, List.any_cons, List.any_nil, Sum.inr.injEq, HO.ins.injEq, HO.dK.injEq, eq_self, beq_self_eq_true, beq_iff_eq, decide_true, decide_false, Bool.or_true, Bool.true_or, Bool.or_false, Bool.false_or, tYes, rEq, rNe, _root_.L2.start, wipe, List.map_cons, List.map_nil, List.length_cons, List.length_nil, List.append_nil, Nat.reduceAdd, Nat.reduceSub, List.replicate_succ, List.replicate_zero, List.cons_append, List.nil_append, List.getElem?_cons_zero, List.getElem?_cons_succ, List.set_cons_zero, List.set_cons_succ, Option.some.injEq, V.int.injEq, V.ref.injEq, V.bl.injEq, V.str.injEq, List.cons.injEq, HO.lst.injEq, HO.tup.injEq, and_assoc, and_true, true_and, exists_eq_left, exists_eq_left', exists_and_left, exists_eq, reduceCtorEq, false_and, and_false, or_false, false_or, exists_false, decide_eq_true_eq, CPow, CDivW, Int.reducePow, Int.reduceLT, Int.reduceLE, Int.reduceNeg, Int.reduceToNat, Int.reduceAbs, Nat.reducePow, Nat.reduceLT, Nat.reduceLeDiff, sizeLine_eq, Int.reduceMul, Int.reduceAdd, Int.reduceSub, Bool.not_eq_true', decide_eq_false_iff_not, scal, Bool.not_true, Bool.not_false, Bool.true_eq_false, Bool.false_eq_true, ite_false, ite_true, if_true, if_false, ite_self, forall_const, atI0, atI1, atI2, atI3, ixN20, ixN21, upd_same, upd_upd, Int.zero_add, CMul, Int.reduceSub, Nat.le_refl, Nat.zero_le, or_true, true_or, exists_const, Int.sub_zero, tDNewN, tDGetN, tDInN, tDNotInN, sDPutN, sDDelN, rLenN, tBMN, rGet1N, rGet2N, rSetdefN, tDcN, iKeysN, tLock, Option.isSome_none, Option.isSome_some, atI4, atI5, sp_law_next])
      refine ⟨g1.st, fun x H2 x0 x1 g2 => ⟨g2.st, fun y H3 y0 y1 g3 z hz => ?_⟩⟩
      have g03 := g1.trans (g2.trans g3)
      have hn3 := g3.at (g2.at hn nps) nps
      have inm3 := g3.ims (g2.ims inm)
      have g04 := g03.new hz (o := .tup [V.int (1 + x), V.int y])
      have hn4 := get_new hz hn3 (o := .tup [V.int (1 + x), V.int y])
      have inm4 := imsNew hz inm3 (o := .tup [V.int (1 + x), V.int y])
      have iz4 : Im (upd H3 z (.tup [V.int (1 + x), V.int y])) (tD (1 + x, y)) (.ref z) := im_tupNew hz (im_cons im_int (im_cons im_int im_nil))
      have nl4 := inm4.len
      rw [List.length_map] at nl4
      generalize upd H3 z (.tup [V.int (1 + x), V.int y]) = H4 at g04 hn4 inm4 iz4
      clear g1 g2 g3 g03 hn inm hn3 inm3 hz
      unfold rNotInD
      refine ⟨_, _, Im.dp _ _ iz4, .lst (SqL.of hn4) (ImAll.dp _ _ inm4), tD_shaped _, ndl_shaped _, ?_⟩
      rw [nds_any]
      by_cases hm : (1 + x, y) ∈ names
      · rw [decide_eq_true hm]
        (try simp only [cxOf, Cx.nox, Cx.wish, tSeq, tAsg, tC, gName, tIfS, tTest, tOp, tUn, rU, rI0, rI, tVar, tNext, tRevT, tDNewK, tBreak, tChain, iStr, tRet, tRetN, tDrop, tLst, tTup, tCons, tNil, tCB, tB, tOr, tAnd, tNot, tIf, tCall, tFor_eq, tLc_eq, iRng1, iRng2, iList, iTup, gTup, gTupH, gUnlH, gCons, gNil, gSub, rSetL, rIxL, rIxT, rIxLH, rIxTH, rSlTS, rCatS, rTupS, rIsiH, rLenS, V.ty.injEq, tyS_non, tyS_bl, tyS_int, tyS_str, tyS_ref, tyO_l, tyO_t, tyO_d, tyO_dt, kit_ll, kit_tt, kit_bb, kit_ii, kit_ib, kit_bi, kit_nt, kit_it, kit_st, kit_bt, kit_lt, kit_dt, kit_ni, kit_si, kit_ti, kit_li, kit_di, kit_nb, kit_ns, kit_is, kit_bs, kit_ss, kit_ts, kit_ls, kit_ds, kit_dd, lenS_ref, lenO_l, lenO_t,  rAppend, tM1, rIxS, tSl, tPart, tNoPart, tBM, tBM0, tDGetS, sDPutS, tTruS, truO_l, truO_t, truS_ref, truS_non, truS_bl, truS_int, tFld, sFld, sFldAug, rAdd, tMeth, tProp, tMake, tMakeK, List.take_succ_cons, List.take_zero, List.drop_succ_cons, List.drop_zero, List.take_nil, tIsN, tNotN, tAndV, tOrV, tNotV, putF, List.lookup, List.any_cons, List.any_nil, Sum.inr.injEq, HO.ins.injEq, HO.dK.injEq, eq_self, beq_self_eq_true, beq_iff_eq, decide_true, decide_false, Bool.or_true, Bool.true_or, Bool.or_false, Bool.false_or, tYes, rEq, rNe, _root_.L2.start, wipe, List.map_cons, List.map_nil, List.length_cons, List.length_nil, List.append_nil, Nat.reduceAdd, Nat.reduceSub, List.replicate_succ, List.replicate_zero, List.cons_append, List.nil_append, List.getElem?_cons_zero, List.getElem?_cons_succ, List.set_cons_zero, List.set_cons_succ, Option.some.injEq, V.int.injEq, V.ref.injEq, V.bl.injEq, V.str.injEq, List.cons.injEq, HO.lst.injEq, HO.tup.injEq, and_assoc, and_true, true_and, exists_eq_left, exists_eq_left', exists_and_left, exists_eq, reduceCtorEq, false_and, and_false, or_false, false_or, exists_false, decide_eq_true_eq, CPow, CDivW, Int.reducePow, Int.reduceLT, Int.reduceLE, Int.reduceNeg, Int.reduceToNat, Int.reduceAbs, Nat.reducePow, Nat.reduceLT, Nat.reduceLeDiff, sizeLine_eq, Int.reduceMul, Int.reduceAdd, Int.reduceSub, Bool.not_eq_true', decide_eq_false_iff_not, scal, Bool.not_true, Bool.not_false, Bool.true_eq_false, Bool.false_eq_true, ite_false, ite_true, if_true, if_false, ite_self, forall_const, atI0, atI1, atI2, atI3, ixN20, ixN21, upd_same, upd_upd, Int.zero_add, CMul, Int.reduceSub, Nat.le_refl, Nat.zero_le, or_true, true_or, exists_const, Int.sub_zero, tDNewN, tDGetN, tDInN, tDNotInN, sDPutN, sDDelN, rLenN, tBMN, rGet1N, rGet2N, rSetdefN, tDcN, iKeysN, tLock, Option.isSome_none, Option.isSome_some, atI4, atI5])
        exact ⟨names, nvs, hn4, inm4, by omega, hd, g04⟩
      · rw [decide_eq_false hm]
        (try simp only [cxOf, Cx.nox, Cx.wish, tSeq, tAsg, tC, gName, tIfS, tTest, tOp, tUn, rU, rI0, rI, tVar, tNext, tRevT, tDNewK, tBreak, tChain, iStr, tRet, tRetN, tDrop, tLst, tTup, tCons, tNil, tCB, tB, tOr, tAnd, tNot, tIf, tCall, tFor_eq, tLc_eq, iRng1, iRng2, iList, iTup, gTup, gTupH, gUnlH, gCons, gNil, gSub, rSetL, rIxL, rIxT, rIxLH, rIxTH, rSlTS, rCatS, rTupS, rIsiH, rLenS, V.ty.injEq, tyS_non, tyS_bl, tyS_int, tyS_str, tyS_ref, tyO_l, tyO_t, tyO_d, tyO_dt, kit_ll, kit_tt, kit_bb, kit_ii, kit_ib, kit_bi, kit_nt, kit_it, kit_st, kit_bt, kit_lt, kit_dt, kit_ni, kit_si, kit_ti, kit_li, kit_di, kit_nb, kit_ns, kit_is, kit_bs, kit_ss, kit_ts, kit_ls, kit_ds, kit_dd, lenS_ref, lenO_l, lenO_t,  rAppend, tM1, rIxS, tSl, tPart, tNoPart, tBM, tBM0, tDGetS, sDPutS, tTruS, truO_l, truO_t, truS_ref, truS_non, truS_bl, truS_int, tFld, sFld, sFldAug, rAdd, tMeth, tProp, tMake, tMakeK, List.take_succ_cons, List.take_zero, List.drop_succ_cons, List.drop_zero, List.take_nil, tIsN, tNotN, tAndV, tOrV, tNotV, putF, List.lookup, List.any_cons, List.any_nil, Sum.inr.injEq, HO.ins.injEq, HO.dK.injEq, eq_self, beq_self_eq_true, beq_iff_eq, decide_true, decide_false, Bool.or_true, Bool.true_or, Bool.or_false, Bool.false_or, tYes, rEq, rNe, _root_.L2.start, wipe, List.map_cons, List.map_nil, List.length_cons, List.length_nil, List.append_nil, Nat.reduceAdd, Nat.reduceSub, List.replicate_succ, List.replicate_zero, List.cons_append, List.nil_append, List.getElem?_cons_zero, List.getElem?_cons_succ, List.set_cons_zero, List.set_cons_succ, Option.some.injEq, V.int.injEq, V.ref.injEq, V.bl.injEq, V.str.injEq, List.cons.injEq, HO.lst.injEq, HO.tup.injEq, and_assoc, and_true, true_and, exists_eq_left, exists_eq_left', exists_and_left, exists_eq, reduceCtorEq, false_and, and_false, or_false, false_or, exists_false, decide_eq_true_eq, CPow, CDivW, Int.reducePow, Int.reduceLT, Int.reduceLE, Int.reduceNeg, Int.reduceToNat, Int.reduceAbs, Nat.reducePow, Nat.reduceLT, Nat.reduceLeDiff, sizeLine_eq, Int.reduceMul, Int.reduceAdd, Int.reduceSub, Bool.not_eq_true', decide_eq_false_iff_not, scal, Bool.not_true, Bool.not_false, Bool.true_eq_false, Bool.false_eq_true, ite_false, ite_true, if_true, if_false, ite_self, forall_const, atI0, atI1, atI2, atI3, ixN20, ixN21, upd_same, upd_upd, Int.zero_add, CMul, Int.reduceSub, Nat.le_refl, Nat.zero_le, or_true, true_or, exists_const, Int.sub_zero, tDNewN, tDGetN, tDInN, tDNotInN, sDPutN, sDDelN, rLenN, tBMN, rGet1N, rGet2N, rSetdefN, tDcN, iKeysN, tLock, Option.isSome_none, Option.isSome_some, atI4, atI5, hn4])
        refine ⟨tyL hn4, by omega, names ++ [(1 + x, y)], ?_, ?_, all_snoc hd (dom_a x0 x1 y0 y1), g04.put hp nps⟩
        · rw [List.map_append]; exact ims_app hn4 inm4 iz4
        · rw [List.length_append]; simp only [List.length_cons, List.length_nil]; omega
    · clear gg hp1 H1
      rintro σ H1 ⟨names, nvs, b3, b4, b5, b6, b7, b8, rfl, hn, inm, hl, hd, g1⟩
      (try simp only [cxOf, Cx.nox, Cx.wish, tSeq, tAsg, tC, gName, tIfS, tTest, tOp, tUn, rU, rI0, rI, tVar, tNext, tRevT, tDNewK, tBreak, tChain, iStr, tRet, tRetN, tDrop, tLst, tTup, tCons, tNil, tCB, tB, tOr, tAnd, tNot, tIf, tCall, tFor_eq, tLc_eq, iRng1, iRng2, iList, iTup, gTup, gTupH, gUnlH, gCons, gNil, gSub, rSetL, rIxL, rIxT, rIxLH, rIxTH, rSlTS, rCatS, rTupS, rIsiH, rLenS, V.ty.injEq, tyS_non, tyS_bl, tyS_int, tyS_str, tyS_ref, tyO_l, tyO_t, tyO_d, tyO_dt, kit_ll, kit_tt, kit_bb, kit_ii, kit_ib, kit_bi, kit_nt, kit_it, kit_st, kit_bt, kit_lt, kit_dt, kit_ni, kit_si, kit_ti, kit_li, kit_di, kit_nb, kit_ns, kit_is, kit_bs, kit_ss, kit_ts, kit_ls, kit_ds, kit_dd, lenS_ref, lenO_l, lenO_t,  rAppend, tM1, rIxS, tSl, tPart, tNoPart, tBM, tBM0, tDGetS, sDPutS, tTruS, truO_l, truO_t, truS_ref, truS_non, truS_bl, truS_int, tFld, sFld, sFldAug, rAdd, tMeth, tProp, tMake, tMakeK, List.take_succ_cons, List.take_zero, List.drop_succ_cons, List.drop_zero, List.take_nil, tIsN, tNotN, tAndV, tOrV, tNotV, putF, List.lookup, List.any_cons, List.any_nil, Sum.inr.injEq, HO.ins.injEq, HO.dK.injEq, eq_self, beq_self_eq_true, beq_iff_eq, decide_true, decide_false, Bool.or_true, Bool.true_or, Bool.or_false, Bool.false_or, tYes, rEq, rNe, _root_.L2.start, wipe, List.map_cons, List.map_nil, List.length_cons, List.length_nil, List.append_nil, Nat.reduceAdd, Nat.reduceSub, List.replicate_succ, List.replicate_zero, List.cons_append, List.nil_append, List.getElem?_cons_zero, List.getElem?_cons_succ, List.set_cons_zero, List.set_cons_succ, Option.some.injEq, V.int.injEq, V.ref.injEq, V.bl.injEq, V.str.injEq, List.cons.injEq, HO.lst.injEq, HO.tup.injEq, and_assoc, and_true, true_and, exists_eq_left, exists_eq_left', exists_and_left, exists_eq, reduceCtorEq, false_and, and_false, or_false, false_or, exists_false, decide_eq_true_eq, CPow, CDivW, Int.reducePow, Int.reduceLT, Int.reduceLE, Int.reduceNeg, Int.reduceToNat, Int.reduceAbs, Nat.reducePow, Nat.reduceLT, Nat.reduceLeDiff, sizeLine_eq, Int.reduceMul, Int.reduceAdd, Int.reduceSub, Bool.not_eq_true', decide_eq_false_iff_not, scal, Bool.not_true, Bool.not_false, Bool.true_eq_false, Bool.false_eq_true, ite_false, ite_true, if_true, if_false, ite_self, forall_const, atI0, atI1, atI2, atI3, ixN20, ixN21, upd_same, upd_upd, Int.zero_add, CMul, Int.reduceSub, Nat.le_refl, Nat.zero_le, or_true, true_or, exists_const, Int.sub_zero, tDNewN, tDGetN, tDInN, tDNotInN, sDPutN, sDDelN, rLenN, tBMN, rGet1N, rGet2N, rSetdefN, tDcN, iKeysN, tLock, Option.isSome_none, Option.isSome_some, atI4, atI5])
      intro d hdn
      have nds : d ≠ s0 := (St2.nn g1.st hdn)
      have npd : p ≠ d := ne_of_none hn hdn
      have hd0 : H d = none := g1.none hdn
      have hn2 := get_new hdn hn (o := dnO P w d [])
      have inm2 := imsNew hdn inm (o := dnO P w d [])
      have g2 := g1.new hdn (o := dnO P w d [])
      have gn2 : GN P w (upd H1 d (dnO P w d [])) d [] (fun _ => .non) (fun _ => none) := GN.new
      generalize upd H1 d (dnO P w d []) = H2 at hn2 inm2 g2 gn2
      clear hn inm g1 hdn H1
      have nl := inm2.len
      rw [List.length_map] at nl
      refine ⟨⟨_, SqL.of hn2⟩, Loop.list nvs (fun i σ H' => ∃ (ks : List Nd) (vv : Nd → V) (g : Nd → Option Nd) (b4 b6 : Option V), σ = [some (.ref s0), some (.int k), some (.ref p), b3, b4, some (.ref d), b6, b7, b8] ∧ H' p = some (.lst nvs) ∧ ImAll H' (names.map tD) nvs ∧ GN P w H' d ks vv g ∧ (∀ x ∈ ks, x ∈ dom34) ∧ ks.length ≤ i ∧ Gn s0 H H')
        ⟨[], _, _, b4, b6, rfl, hn2, inm2, gn2, fun x h => by simp at h, by simp, g2⟩ (fun i σ H' _ ⟨_, _, _, _, _, _, h, _⟩ => SqL.of h) ?_ ?_⟩
      · clear hn2 inm2 g2 gn2 H2
        rintro i x σ H2 hx ⟨ks, vv, g, b4, b6, rfl, hn2, inm2, gn2, hk, hkl, g2⟩
        have hi : i < nvs.length := (List.getElem?_eq_some_iff.mp hx).1
        obtain ⟨t, ht, it⟩ := ims_map inm2 hx
        (try simp only [cxOf, Cx.nox, Cx.wish, tSeq, tAsg, tC, gName, tIfS, tTest, tOp, tUn, rU, rI0, rI, tVar, tNext, tRevT, tDNewK, tBreak, tChain, iStr, tRet, tRetN, tDrop, tLst, tTup, tCons, tNil, tCB, tB, tOr, tAnd, tNot, tIf, tCall, tFor_eq, tLc_eq, iRng1, iRng2, iList, iTup, gTup, gTupH, gUnlH, gCons, gNil, gSub, rSetL, rIxL, rIxT, rIxLH, rIxTH, rSlTS, rCatS, rTupS, rIsiH, rLenS, V.ty.injEq, tyS_non, tyS_bl, tyS_int, tyS_str, tyS_ref, tyO_l, tyO_t, tyO_d, tyO_dt, kit_ll, kit_tt, kit_bb, kit_ii, kit_ib, kit_bi, kit_nt, kit_it, kit_st, kit_bt, kit_lt, kit_dt, kit_ni, kit_si, kit_ti, kit_li, kit_di, kit_nb, kit_ns, kit_is, kit_bs, kit_ss, kit_ts, kit_ls, kit_ds, kit_dd, lenS_ref, lenO_l, lenO_t,  rAppend, tM1, rIxS, tSl, tPart, tNoPart, tBM, tBM0, tDGetS, sDPutS, tTruS, truO_l, truO_t, truS_ref, truS_non, truS_bl, truS_int, tFld, sFld, sFldAug, rAdd, tMeth, tProp, tMake, tMakeK, List.take_succ_cons, List.take_zero, List.drop_succ_cons, List.drop_zero, List.take_nil, tIsN, tNotN, tAndV, tOrV, tNotV, putF, List.lookup, List.any_cons, List.any_nil, Sum.inr.injEq, HO.ins.injEq, HO.dK.injEq, eq_self, beq_self_eq_true, beq_iff_eq, decide_true, decide_false, Bool.or_true, Bool.true_or, Bool.or_false, Bool.false_or, tYes, rEq, rNe, _root_.L2.start, wipe, List.map_cons, List.map_nil, List.length_cons, List.length_nil, List.append_nil, Nat.reduceAdd, Nat.reduceSub, List.replicate_succ, List.replicate_zero, List.cons_append, List.nil_append, List.getElem?_cons_zero, List.getElem?_cons_succ, List.set_cons_zero, List.set_cons_succ, Option.some.injEq, V.int.injEq, V.ref.injEq, V.bl.injEq, V.str.injEq, List.cons.injEq, HO.lst.injEq, HO.tup.injEq, and_assoc, and_true, true_and, exists_eq_left, exists_eq_left', exists_and_left, exists_eq, reduceCtorEq, false_and, and_false, or_false, false_or, exists_false, decide_eq_true_eq, CPow, CDivW, Int.reducePow, Int.reduceLT, Int.reduceLE, Int.reduceNeg, Int.reduceToNat, Int.reduceAbs, Nat.reducePow, Nat.reduceLT, Nat.reduceLeDiff, sizeLine_eq, Int.reduceMul, Int.reduceAdd, Int.reduceSub, Bool.not_eq_true', decide_eq_false_iff_not, scal, Bool.not_true, Bool.not_false, Bool.true_eq_false, Bool.false_eq_true, ite_false, ite_true, if_true, if_false, ite_self, forall_const, atI0, atI1, atI2, atI3, ixN20, ixN21, upd_same, upd_upd, Int.zero_add, CMul, Int.reduceSub, Nat.le_refl, Nat.zero_le, or_true, true_or, exists_const, Int.sub_zero, tDNewN, tDGetN, tDInN, tDNotInN, sDPutN, sDDelN, rLenN, tBMN, rGet1N, rGet2N, rSetdefN, tDcN, iKeysN, tLock, Option.isSome_none, Option.isSome_some, atI4, atI5, hn2, sp_law_next])
        refine ⟨g2.st, by omega, by omega, fun v H3 v0 v1 g3 => ?_⟩
        have hn3 := g3.at hn2 nps
        have inm3 := g3.ims inm2
        obtain ⟨vn, rfl⟩ : ∃ k : Nat, v = k := ⟨v.toNat, by omega⟩
        have hvn : vn < nvs.length := by omega
        have hv := (show nvs[vn]? = some nvs[vn] by simp [hvn])
        obtain ⟨u, hu, iu⟩ := ims_map inm3 hv
        have it3 := g3.im it
        have gn3 := gn2.gn nds g3
        have g03 := g2.trans g3
        refine ⟨_, hn3, _, atI_nat hv, ?_⟩
        generalize nvs[vn] = uv at iu
        clear hn2 inm2 gn2 g2 g3 it hv
        unfold rNeD
        refine ⟨_, _, Im.dp _ _ iu, Im.dp _ _ it3, tD_shaped _, tD_shaped _, ?_⟩
        rw [tD_eqv]
        by_cases hut : u = t
        · rw [decide_eq_true hut]
          (try simp only [cxOf, Cx.nox, Cx.wish, tSeq, tAsg, tC, gName, tIfS, tTest, tOp, tUn, rU, rI0, rI, tVar, tNext, tRevT, tDNewK, tBreak, tChain, iStr, tRet, tRetN, tDrop, tLst, tTup, tCons, tNil, tCB, tB, tOr, tAnd, tNot, tIf, tCall, tFor_eq, tLc_eq, iRng1, iRng2, iList, iTup, gTup, gTupH, gUnlH, gCons, gNil, gSub, rSetL, rIxL, rIxT, rIxLH, rIxTH, rSlTS, rCatS, rTupS, rIsiH, rLenS, V.ty.injEq, tyS_non, tyS_bl, tyS_int, tyS_str, tyS_ref, tyO_l, tyO_t, tyO_d, tyO_dt, kit_ll, kit_tt, kit_bb, kit_ii, kit_ib, kit_bi, kit_nt, kit_it, kit_st, kit_bt, kit_lt, kit_dt, kit_ni, kit_si, kit_ti, kit_li, kit_di, kit_nb, kit_ns, kit_is, kit_bs, kit_ss, kit_ts, kit_ls, kit_ds, kit_dd, lenS_ref, lenO_l, lenO_t,  rAppend, tM1, rIxS, tSl, tPart, tNoPart, tBM, tBM0, tDGetS, sDPutS, tTruS, truO_l, truO_t, truS_ref, truS_non, truS_bl, truS_int, tFld, sFld, sFldAug, rAdd, tMeth, tProp, tMake, tMakeK, List.take_succ_cons, List.take_zero, List.drop_succ_cons, List.drop_zero, List.take_nil, tIsN, tNotN, tAndV, tOrV, tNotV, putF, List.lookup, List.any_cons, List.any_nil, Sum.inr.injEq, HO.ins.injEq, HO.dK.injEq, eq_self, beq_self_eq_true, beq_iff_eq, decide_true, decide_false, Bool.or_true, Bool.true_or, Bool.or_false, Bool.false_or, tYes, rEq, rNe, _root_.L2.start, wipe, List.map_cons, List.map_nil, List.length_cons, List.length_nil, List.append_nil, Nat.reduceAdd, Nat.reduceSub, List.replicate_succ, List.replicate_zero, List.cons_append, List.nil_append, List.getElem?_cons_zero, List.getElem?_cons_succ, List.set_cons_zero, List.set_cons_succ, Option.some.injEq, V.int.injEq, V.ref.injEq, V.bl.injEq, V.str.injEq, List.cons.injEq, HO.lst.injEq, HO.tup.injEq, and_assoc, and_true, true_and, exists_eq_left, exists_eq_left', exists_and_left, exists_eq, reduceCtorEq, false_and, and_false, or_false, false_or, exists_false, decide_eq_true_eq, CPow, CDivW, Int.reducePow, Int.reduceLT, Int.reduceLE, Int.reduceNeg, Int.reduceToNat, Int.reduceAbs, Nat.reducePow, Nat.reduceLT, Nat.reduceLeDiff, sizeLine_eq, Int.reduceMul, Int.reduceAdd, Int.reduceSub, Bool.not_eq_true', decide_eq_false_iff_not, scal, Bool.not_true, Bool.not_false, Bool.true_eq_false, Bool.false_eq_true, ite_false, ite_true, if_true, if_false, ite_self, forall_const, atI0, atI1, atI2, atI3, ixN20, ixN21, upd_same, upd_upd, Int.zero_add, CMul, Int.reduceSub, Nat.le_refl, Nat.zero_le, or_true, true_or, exists_const, Int.sub_zero, tDNewN, tDGetN, tDInN, tDNotInN, sDPutN, sDDelN, rLenN, tBMN, rGet1N, rGet2N, rSetdefN, tDcN, iKeysN, tLock, Option.isSome_none, Option.isSome_some, atI4, atI5])
          exact ⟨hn3, inm3, ks, vv, g, gn3, hk, by omega, g03⟩
        · rw [decide_eq_false hut]
          (try simp only [cxOf, Cx.nox, Cx.wish, tSeq, tAsg, tC, gName, tIfS, tTest, tOp, tUn, rU, rI0, rI, tVar, tNext, tRevT, tDNewK, tBreak, tChain, iStr, tRet, tRetN, tDrop, tLst, tTup, tCons, tNil, tCB, tB, tOr, tAnd, tNot, tIf, tCall, tFor_eq, tLc_eq, iRng1, iRng2, iList, iTup, gTup, gTupH, gUnlH, gCons, gNil, gSub, rSetL, rIxL, rIxT, rIxLH, rIxTH, rSlTS, rCatS, rTupS, rIsiH, rLenS, V.ty.injEq, tyS_non, tyS_bl, tyS_int, tyS_str, tyS_ref, tyO_l, tyO_t, tyO_d, tyO_dt, kit_ll, kit_tt, kit_bb, kit_ii, kit_ib, kit_bi, kit_nt, kit_it, kit_st, kit_bt, kit_lt, kit_dt, kit_ni, kit_si, kit_ti, kit_li, kit_di, kit_nb, kit_ns, kit_is, kit_bs, kit_ss, kit_ts, kit_ls, kit_ds, kit_dd, lenS_ref, lenO_l, lenO_t,  rAppend, tM1, rIxS, tSl, tPart, tNoPart, tBM, tBM0, tDGetS, sDPutS, tTruS, truO_l, truO_t, truS_ref, truS_non, truS_bl, truS_int, tFld, sFld, sFldAug, rAdd, tMeth, tProp, tMake, tMakeK, List.take_succ_cons, List.take_zero, List.drop_succ_cons, List.drop_zero, List.take_nil, tIsN, tNotN, tAndV, tOrV, tNotV, putF, List.lookup, List.any_cons, List.any_nil, Sum.inr.injEq, HO.ins.injEq, HO.dK.injEq, eq_self, beq_self_eq_true, beq_iff_eq, decide_true, decide_false, Bool.or_true, Bool.true_or, Bool.or_false, Bool.false_or, tYes, rEq, rNe, _root_.L2.start, wipe, List.map_cons, List.map_nil, List.length_cons, List.length_nil, List.append_nil, Nat.reduceAdd, Nat.reduceSub, List.replicate_succ, List.replicate_zero, List.cons_append, List.nil_append, List.getElem?_cons_zero, List.getElem?_cons_succ, List.set_cons_zero, List.set_cons_succ, Option.some.injEq, V.int.injEq, V.ref.injEq, V.bl.injEq, V.str.injEq, List.cons.injEq, HO.lst.injEq, HO.tup.injEq, and_assoc, and_true, true_and, exists_eq_left, exists_eq_left', exists_and_left, exists_eq, reduceCtorEq, false_and, and_false, or_false, false_or, exists_false, decide_eq_true_eq, CPow, CDivW, Int.reducePow, Int.reduceLT, Int.reduceLE, Int.reduceNeg, Int.reduceToNat, Int.reduceAbs, Nat.reducePow, Nat.reduceLT, Nat.reduceLeDiff, sizeLine_eq, Int.reduceMul, Int.reduceAdd, Int.reduceSub, Bool.not_eq_true', decide_eq_false_iff_not, scal, Bool.not_true, Bool.not_false, Bool.true_eq_false, Bool.false_eq_true, ite_false, ite_true, if_true, if_false, ite_self, forall_const, atI0, atI1, atI2, atI3, ixN20, ixN21, upd_same, upd_upd, Int.zero_add, CMul, Int.reduceSub, Nat.le_refl, Nat.zero_le, or_true, true_or, exists_const, Int.sub_zero, tDNewN, tDGetN, tDInN, tDNotInN, sDPutN, sDDelN, rLenN, tBMN, rGet1N, rGet2N, rSetdefN, tDcN, iKeysN, tLock, Option.isSome_none, Option.isSome_some, atI4, atI5, sp_law_next])
          refine ⟨g03.st, fun c H4 c0 c1 g4 => ?_⟩
          have hn4 := g4.at hn3 nps
          have inm4 := g4.ims inm3
          have gn4 := gn3.gn nds g4
          have g04 := g03.trans g4
          have iu4 := g4.im iu
          have it4 := g4.im it3
          by_cases hc : 0 < c
          · rw [if_pos hc]
            have hkl' : ((ks.map fun k => (tD k, vv k)).length : Int) = ks.length := by rw [List.length_map]
            refine ⟨tD t, _, gn4.dn, tD_ky t, it4, by omega, fun o dn => ?_⟩
            refine ⟨get_ne npd hn4, ImAll.mono gn4.dn.tk _ _ inm4, addK ks t, _, _, gn4.put t iu4 o dn, fun z hz => (addK_mem.mp hz).elim (hk z) fun e => e ▸ hd t (List.mem_of_getElem? ht), ?_, g04.put hd0 nds⟩
            have := addK_len ks t; omega
          · rw [if_neg hc]
            exact ⟨hn4, inm4, ks, vv, g, gn4, hk, by omega, g04⟩
      · clear hn2 inm2 g2 gn2 H2
        rintro σ H2 ⟨ks, vv, g, b4, b6, rfl, hn2, inm2, gn2, hk, hkl, g2⟩
        refine cutI (fun σ H' => ∃ (ks : List Nd) (vv : Nd → V) (g : Nd → Option Nd) (b7 b8 : Option V), σ = [some (.ref s0), some (.int k), some (.ref p), b3, b4, some (.ref d), b6, b7, b8] ∧ H' p = some (.lst nvs) ∧ ImAll H' (names.map tD) nvs ∧ GN P w H' d ks vv g ∧ (∀ x ∈ ks, x ∈ dom34) ∧ ks.length ≤ 400 ∧ Gn s0 H H') ?_ ?_
        · (try simp only [cxOf, Cx.nox, Cx.wish, tSeq, tAsg, tC, gName, tIfS, tTest, tOp, tUn, rU, rI0, rI, tVar, tNext, tRevT, tDNewK, tBreak, tChain, iStr, tRet, tRetN, tDrop, tLst, tTup, tCons, tNil, tCB, tB, tOr, tAnd, tNot, tIf, tCall, tFor_eq, tLc_eq, iRng1, iRng2, iList, iTup, gTup, gTupH, gUnlH, gCons, gNil, gSub, rSetL, rIxL, rIxT, rIxLH, rIxTH, rSlTS, rCatS, rTupS, rIsiH, rLenS, V.ty.injEq, tyS_non, tyS_bl, tyS_int, tyS_str, tyS_ref, tyO_l, tyO_t, tyO_d, tyO_dt, kit_ll, kit_tt, kit_bb, kit_ii, kit_ib, kit_bi, kit_nt, kit_it, kit_st, kit_bt, kit_lt, kit_dt, kit_ni, kit_si, kit_ti, kit_li, kit_di, kit_nb, kit_ns, kit_is, kit_bs, kit_ss, kit_ts, kit_ls, kit_ds, kit_dd, lenS_ref, lenO_l, lenO_t,  rAppend, tM1, rIxS, tSl, tPart, tNoPart, tBM, tBM0, tDGetS, sDPutS, tTruS, truO_l, truO_t, truS_ref, truS_non, truS_bl, truS_int, tFld, sFld, sFldAug, rAdd, tMeth, tProp, tMake, tMakeK, List.take_succ_cons, List.take_zero, List.drop_succ_cons, List.drop_zero, List.take_nil, tIsN, tNotN, tAndV, tOrV, tNotV, putF, List.lookup, List.any_cons, List.any_nil, Sum.inr.injEq, HO.ins.injEq, HO.dK.injEq, eq_self, beq_self_eq_true, beq_iff_eq, decide_true, decide_false, Bool.or_true, Bool.true_or, Bool.or_false, Bool.false_or, tYes, rEq, rNe, _root_.L2.start, wipe, List.map_cons, List.map_nil, List.length_cons, List.length_nil, List.append_nil, Nat.reduceAdd, Nat.reduceSub, List.replicate_succ, List.replicate_zero, List.cons_append, List.nil_append, List.getElem?_cons_zero, List.getElem?_cons_succ, List.set_cons_zero, List.set_cons_succ, Option.some.injEq, V.int.injEq, V.ref.injEq, V.bl.injEq, V.str.injEq, List.cons.injEq, HO.lst.injEq, HO.tup.injEq, and_assoc, and_true, true_and, exists_eq_left, exists_eq_left', exists_and_left, exists_eq, reduceCtorEq, false_and, and_false, or_false, false_or, exists_false, decide_eq_true_eq, CPow, CDivW, Int.reducePow, Int.reduceLT, Int.reduceLE, Int.reduceNeg, Int.reduceToNat, Int.reduceAbs, Nat.reducePow, Nat.reduceLT, Nat.reduceLeDiff, sizeLine_eq, Int.reduceMul, Int.reduceAdd, Int.reduceSub, Bool.not_eq_true', decide_eq_false_iff_not, scal, Bool.not_true, Bool.not_false, Bool.true_eq_false, Bool.false_eq_true, ite_false, ite_true, if_true, if_false, ite_self, forall_const, atI0, atI1, atI2, atI3, ixN20, ixN21, upd_same, upd_upd, Int.zero_add, CMul, Int.reduceSub, Nat.le_refl, Nat.zero_le, or_true, true_or, exists_const, Int.sub_zero, tDNewN, tDGetN, tDInN, tDNotInN, sDPutN, sDDelN, rLenN, tBMN, rGet1N, rGet2N, rSetdefN, tDcN, iKeysN, tLock, Option.isSome_none, Option.isSome_some, atI4, atI5, sp_law_next])
          have done_ : ∀ (H' : Hp), H' p = some (.lst nvs) → ImAll H' (names.map tD) nvs → GN P w H' d ks vv g → Gn s0 H H' → H' p = some (.lst nvs) ∧ ImAll H' (names.map tD) nvs ∧ ∃ ks vv g, GN P w H' d ks vv g ∧ (∀ x ∈ ks, x ∈ dom34) ∧ ks.length ≤ 400 ∧ Gn s0 H H' := fun H' h1 h2 h3 h4 => ⟨h1, h2, ks, vv, g, h3, hk, by omega, h4⟩
          by_cases hk0 : k = 0
          · rw [if_pos hk0]
            refine ⟨g2.st, fun c H3 c0 c1 g3 => ?_⟩
            have hn3 := g3.at hn2 nps
            have inm3 := g3.ims inm2
            have gn3 := gn2.gn nds g3
            have g03 := g2.trans g3
            clear hn2 inm2 gn2 g2 g3
            by_cases hc : c = 0
            · rw [if_pos hc]
              intro q hq
              refine ⟨g03.st.new hq, fun e H4 e0 e1 g4 => ?_⟩
              have nqs := St2.nn g03.st hq
              have hq4 := g4.at upd_same nqs
              obtain ⟨x, hx, hm⟩ := atI_mem (xs := [V.int 1, V.int 7, V.int 11, V.int 13]) e0 (by simpa using e1)
              obtain ⟨st_, rfl⟩ : ∃ i : Int, x = .int i := by
                simp only [List.mem_cons, List.not_mem_nil, or_false] at hm
                rcases hm with rfl | rfl | rfl | rfl <;> exact ⟨_, rfl⟩
              have hn4 := g4.at (get_new hq hn3 (o := .tup [V.int 1, V.int 7, V.int 11, V.int 13])) nps
              have inm4 := g4.ims (imsNew hq inm3 (o := .tup [V.int 1, V.int 7, V.int 11, V.int 13]))
              have gn4 := (gn3.same (same_new hq (o := .tup [V.int 1, V.int 7, V.int 11, V.int 13]))).gn nds g4
              have g04 := (g03.new hq (o := .tup [V.int 1, V.int 7, V.int 11, V.int 13])).trans g4
              refine ⟨_, hq4, _, hx, ?_⟩
              clear hq4 hx hm hn3 inm3 gn3 g03 g4 nqs
              refine Loop.range (fun i σ H' => ∃ (ks : List Nd) (vv : Nd → V) (g : Nd → Option Nd) (b8 : Option V), σ = [some (.ref s0), some (.int k), some (.ref p), b3, b4, some (.ref d), b6, some (.int st_), b8] ∧ H' p = some (.lst nvs) ∧ ImAll H' (names.map tD) nvs ∧ GN P w H' d ks vv g ∧ (∀ x ∈ ks, x ∈ dom34) ∧ ks.length ≤ 22 + i ∧ Gn s0 H H')
                ⟨ks, vv, g, b8, rfl, hn4, inm4, gn4, hk, by omega, g04⟩ ?_ ?_
              · clear hn4 inm4 gn4 g04 H4 hk hkl done_ ks vv g
                rintro i σ H4 hi ⟨ks, vv, g, b8, rfl, hn4, inm4, gn4, hk, hkl, g04⟩
                (try simp only [cxOf, Cx.nox, Cx.wish, tSeq, tAsg, tC, gName, tIfS, tTest, tOp, tUn, rU, rI0, rI, tVar, tNext, tRevT, tDNewK, tBreak, tChain, iStr, tRet, tRetN, tDrop, tLst, tTup, tCons, tNil, tCB, tB, tOr, tAnd, tNot, tIf, tCall, tFor_eq, tLc_eq, iRng1, iRng2, iList, iTup, gTup, gTupH, gUnlH, gCons, gNil, gSub, rSetL, rIxL, rIxT, rIxLH, rIxTH, rSlTS, rCatS, rTupS, rIsiH, rLenS, V.ty.injEq, tyS_non, tyS_bl, tyS_int, tyS_str, tyS_ref, tyO_l, tyO_t, tyO_d, tyO_dt, kit_ll, kit_tt, kit_bb, kit_ii, kit_ib, kit_bi, kit_nt, kit_it, kit_st, kit_bt, kit_lt, kit_dt, kit_ni, kit_si, kit_ti, kit_li, kit_di, kit_nb, kit_ns, kit_is, kit_bs, kit_ss, kit_ts, kit_ls, kit_ds, kit_dd, lenS_ref, lenO_l, lenO_t,  rAppend, tM1, rIxS, tSl, tPart, tNoPart, tBM, tBM0, tDGetS, sDPutS, tTruS, truO_l, truO_t, truS_ref, truS_non, truS_bl, truS_int, tFld, sFld, sFldAug, rAdd, tMeth, tProp, tMake, tMakeK, List.take_succ_cons, List.take_zero, List.drop_succ_cons, List.drop_zero, List.take_nil, tIsN, tNotN, tAndV, tOrV, tNotV, putF, List.lookup, List.any_cons, List.any_nil, Sum.inr.injEq, HO.ins.injEq, HO.dK.injEq, eq_self, beq_self_eq_true, beq_iff_eq, decide_true, decide_false, Bool.or_true, Bool.true_or, Bool.or_false, Bool.false_or, tYes, rEq, rNe, _root_.L2.start, wipe, List.map_cons, List.map_nil, List.length_cons, List.length_nil, List.append_nil, Nat.reduceAdd, Nat.reduceSub, List.replicate_succ, List.replicate_zero, List.cons_append, List.nil_append, List.getElem?_cons_zero, List.getElem?_cons_succ, List.set_cons_zero, List.set_cons_succ, Option.some.injEq, V.int.injEq, V.ref.injEq, V.bl.injEq, V.str.injEq, List.cons.injEq, HO.lst.injEq, HO.tup.injEq, and_assoc, and_true, true_and, exists_eq_left, exists_eq_left', exists_and_left, exists_eq, reduceCtorEq, false_and, and_false, or_false, false_or, exists_false, decide_eq_true_eq, CPow, CDivW, Int.reducePow, Int.reduceLT, Int.reduceLE, Int.reduceNeg, Int.reduceToNat, Int.reduceAbs, Nat.reducePow, Nat.reduceLT, Nat.reduceLeDiff, sizeLine_eq, Int.reduceMul, Int.reduceAdd, Int.reduceSub, Bool.not_eq_true', decide_eq_false_iff_not, scal, Bool.not_true, Bool.not_false, Bool.true_eq_false, Bool.false_eq_true, ite_false, ite_true, if_true, if_false, ite_self, forall_const, atI0, atI1, atI2, atI3, ixN20, ixN21, upd_same, upd_upd, Int.zero_add, CMul, Int.reduceSub, Nat.le_refl, Nat.zero_le, or_true, true_or, exists_const, Int.sub_zero, tDNewN, tDGetN, tDInN, tDNotInN, sDPutN, sDDelN, rLenN, tBMN, rGet1N, rGet2N, rSetdefN, tDcN, iKeysN, tLock, Option.isSome_none, Option.isSome_some, atI4, atI5])
                refine ⟨.inl ⟨by omega, by omega⟩, fun q hq => ⟨.inl ⟨by omega, by omega⟩, fun r hr => ?_⟩⟩
                have s2 := (same_new hq (o := .tup [V.int (100 + ((i : Int) * st_ + st_) % 300), V.int 9])).trans (same_new hr (o := .tup [V.int (100 + (i : Int) * st_ % 300), V.int 9]))
                have hn5 := s2 _ _ hn4
                have inm5 := Same.ims s2 inm4
                have gn5 := gn4.same s2
                have g05 := (g04.new hq (o := .tup [V.int (100 + ((i : Int) * st_ + st_) % 300), V.int 9])).new hr (o := .tup [V.int (100 + (i : Int) * st_ % 300), V.int 9])
                have iq : Im (upd (upd H4 q (.tup [V.int (100 + ((i : Int) * st_ + st_) % 300), V.int 9])) r (.tup [V.int (100 + (i : Int) * st_ % 300), V.int 9])) (tD (100 + ((i : Int) * st_ + st_) % 300, 9)) (.ref q) := imNew hr (im_tupNew hq (im_cons im_int (im_cons im_int im_nil)))
                have ir : Im (upd (upd H4 q (.tup [V.int (100 + ((i : Int) * st_ + st_) % 300), V.int 9])) r (.tup [V.int (100 + (i : Int) * st_ % 300), V.int 9])) (tD (100 + (i : Int) * st_ % 300, 9)) (.ref r) := im_tupNew hr (im_cons im_int (im_cons im_int im_nil))
                generalize upd (upd H4 q (.tup [V.int (100 + ((i : Int) * st_ + st_) % 300), V.int 9])) r (.tup [V.int (100 + (i : Int) * st_ % 300), V.int 9]) = H5 at hn5 inm5 gn5 g05 iq ir
                have hkl' : ((ks.map fun k => (tD k, vv k)).length) = ks.length := by rw [List.length_map]
                refine ⟨tD (100 + (i : Int) * st_ % 300, 9), _, gn5.dn, tD_ky _, ir, by omega, fun o dn => ?_⟩
                refine ⟨get_ne npd hn5, ImAll.mono gn5.dn.tk _ _ inm5, addK ks _, _, _, gn5.put _ iq o dn, fun z hz => (addK_mem.mp hz).elim (hk z) fun e => e ▸ dom_b (Int.emod_nonneg _ (by decide)) (Int.emod_lt_of_pos _ (by decide)), ?_, g05.put hd0 nds⟩
                have := addK_len ks (100 + (i : Int) * st_ % 300, 9); omega
              · rintro σ H4 ⟨ks, vv, g, b8, rfl, hn4, inm4, gn4, hk, hkl, g04⟩
                exact ⟨ks, vv, g, _, _, rfl, hn4, inm4, gn4, hk, by have := hkl; omega, g04⟩
            · rw [if_neg hc]
              exact done_ _ hn3 inm3 gn3 g03
          · rw [if_neg hk0]
            exact done_ _ hn2 inm2 gn2 g2
        · clear hn2 inm2 gn2 hk hkl g2 H2
          rintro σ H2 ⟨ks, vv, g, b7, b8, rfl, hn2, inm2, gn2, hk, hkl, g2⟩
          (try simp only [cxOf, Cx.nox, Cx.wish, tSeq, tAsg, tC, gName, tIfS, tTest, tOp, tUn, rU, rI0, rI, tVar, tNext, tRevT, tDNewK, tBreak, tChain, iStr, tRet, tRetN, tDrop, tLst, tTup, tCons, tNil, tCB, tB, tOr, tAnd, tNot, tIf, tCall, tFor_eq, tLc_eq, iRng1, iRng2, iList, iTup, gTup, gTupH, gUnlH, gCons, gNil, gSub, rSetL, rIxL, rIxT, rIxLH, rIxTH, rSlTS, rCatS, rTupS, rIsiH, rLenS, V.ty.injEq, tyS_non, tyS_bl, tyS_int, tyS_str, tyS_ref, tyO_l, tyO_t, tyO_d, tyO_dt, kit_ll, kit_tt, kit_bb, kit_ii, kit_ib, kit_bi, kit_nt, kit_it, kit_st, kit_bt, kit_lt, kit_dt, kit_ni, kit_si, kit_ti, kit_li, kit_di, kit_nb, kit_ns, kit_is, kit_bs, kit_ss, kit_ts, kit_ls, kit_ds, kit_dd, lenS_ref, lenO_l, lenO_t,  rAppend, tM1, rIxS, tSl, tPart, tNoPart, tBM, tBM0, tDGetS, sDPutS, tTruS, truO_l, truO_t, truS_ref, truS_non, truS_bl, truS_int, tFld, sFld, sFldAug, rAdd, tMeth, tProp, tMake, tMakeK, List.take_succ_cons, List.take_zero, List.drop_succ_cons, List.drop_zero, List.take_nil, tIsN, tNotN, tAndV, tOrV, tNotV, putF, List.lookup, List.any_cons, List.any_nil, Sum.inr.injEq, HO.ins.injEq, HO.dK.injEq, eq_self, beq_self_eq_true, beq_iff_eq, decide_true, decide_false, Bool.or_true, Bool.true_or, Bool.or_false, Bool.false_or, tYes, rEq, rNe, _root_.L2.start, wipe, List.map_cons, List.map_nil, List.length_cons, List.length_nil, List.append_nil, Nat.reduceAdd, Nat.reduceSub, List.replicate_succ, List.replicate_zero, List.cons_append, List.nil_append, List.getElem?_cons_zero, List.getElem?_cons_succ, List.set_cons_zero, List.set_cons_succ, Option.some.injEq, V.int.injEq, V.ref.injEq, V.bl.injEq, V.str.injEq, List.cons.injEq, HO.lst.injEq, HO.tup.injEq, and_assoc, and_true, true_and, exists_eq_left, exists_eq_left', exists_and_left, exists_eq, reduceCtorEq, false_and, and_false, or_false, false_or, exists_false, decide_eq_true_eq, CPow, CDivW, Int.reducePow, Int.reduceLT, Int.reduceLE, Int.reduceNeg, Int.reduceToNat, Int.reduceAbs, Nat.reducePow, Nat.reduceLT, Nat.reduceLeDiff, sizeLine_eq, Int.reduceMul, Int.reduceAdd, Int.reduceSub, Bool.not_eq_true', decide_eq_false_iff_not, scal, Bool.not_true, Bool.not_false, Bool.true_eq_false, Bool.false_eq_true, ite_false, ite_true, if_true, if_false, ite_self, forall_const, atI0, atI1, atI2, atI3, ixN20, ixN21, upd_same, upd_upd, Int.zero_add, CMul, Int.reduceSub, Nat.le_refl, Nat.zero_le, or_true, true_or, exists_const, Int.sub_zero, tDNewN, tDGetN, tDInN, tDNotInN, sDPutN, sDDelN, rLenN, tBMN, rGet1N, rGet2N, rSetdefN, tDcN, iKeysN, tLock, Option.isSome_none, Option.isSome_some, atI4, atI5])
          intro q hq r hr
          have s2 := (same_new hq (o := .tup [V.int 100, V.int 9])).trans (same_new hr (o := .lst [V.ref q]))
          have hn3 := s2 _ _ hn2
          unfold rCat
          have gn3 := gn2.same s2
          have g3 := (g2.new hq (o := .tup [V.int 100, V.int 9])).new hr (o := .lst [V.ref q])
          have inm3 := Same.ims s2 inm2
          have hr3 : upd (upd H2 q (.tup [V.int 100, V.int 9])) r (.lst [V.ref q]) r = some (.lst [V.ref q]) := upd_same
          have iq3 : Im (upd (upd H2 q (.tup [V.int 100, V.int 9])) r (.lst [V.ref q])) (tD (100, 9)) (V.ref q) := imNew hr (im_tupNew hq (im_cons im_int (im_cons im_int im_nil)))
          generalize upd (upd H2 q (.tup [V.int 100, V.int 9])) r (.lst [V.ref q]) = H3 at hn3 gn3 g3 inm3 hr3 iq3
          refine ⟨p, r, nvs, [V.ref q], rfl, rfl, hn3, hr3, by rw [sizeLine_eq]; simp only [List.length_cons, List.length_nil]; omega, fun u hu l hl' => ?_⟩
          have s5 := (same_new hu (o := .lst (nvs ++ [V.ref q]))).trans (same_new hl' (o := .lst [V.ref u, V.ref d]))
          refine kk l u d (names ++ [(100, 9)]) (nvs ++ [V.ref q]) ks vv g _ upd_same (get_new hl' upd_same) ?_ ?_ (gn3.same s5) hk hkl ((g3.new hu).new hl')
          · rw [List.map_append]
            exact Same.ims s5 (inm3.snoc iq3)
          · rw [List.length_append]; simp only [List.length_cons, List.length_nil]; omega

theorem ok_law (T : Txt K mg) : FnOk P w K mg base CX0 3 T.f_law T.d_law ["_law_script"] (spLaw K) := by
  refine Fun.ok T.F_law sc_law (fun vs H Q E h => ?_) (fun cdv A outer s H vs Q E hr h => ?_)
  · obtain ⟨a, ns, rfl, hS, hlen, kk⟩ := h; rfl
  · obtain ⟨a, ns, rfl, hS, hlen, kk⟩ := h
    have hu := hu_of hr
    refine ⟨_, (pss_cons (ps_for PassesOwn.never rfl (pi_range1 (by rfl) T.z_range (pa_cons (pe_callB (call_min2 rfl) (by rfl) T.z_min (by decide +kernel) (pa_cons (pe_callB call_len (by rfl) T.z_len (by decide +kernel) (pa_cons (pv 0) pa_nil)) (pa_cons pe_int pa_nil))) pa_nil)) (pg_name (i := 1) sc_law.nd rfl (Or.inl rfl))
      (pss_cons (ps_asg (pe_call (ok_law_drawn T) (hr.mono (by decide)) rfl T.g_law_drawn T.F_law_drawn.kp T.b_law_drawn .nil pass0 (pa_cons (pe_call (ok_law_stream T) (hr.mono (by decide)) rfl T.g_law_stream T.F_law_stream.kp T.b_law_stream .nil pass0 (pa_cons (pe_ix ix_list (pv 0) (pv 1) (fun _ _ => rfl)) (pa_cons (pv 1) pa_nil))) (pa_cons (pv 1) pa_nil))) (pg_unlH 2 rfl (pgs_cons (pg_name (i := 2) sc_law.nd rfl (Or.inl rfl)) (pgs_cons (pg_name (i := 3) sc_law.nd rfl (Or.inl rfl)) pgs_nil))))
      (pss_cons (ps_set (i := 4) sc_law.nd rfl (Or.inl rfl) (pe_callTy (call_dictN (P := P) (w := w) (hu65 hr)) (by rfl) T.z_dict (by decide +kernel) (pa_cons (pv 3) pa_nil)))
      (pss_cons (ps_for PassesOwn.never rfl (pi_list (pe_op op_cat (pv 2) (pe_lst (pa_cons (pe_tup (pa_cons pe_int (pa_cons pe_int pa_nil))) pa_nil)))) (pg_name (i := 5) sc_law.nd rfl (Or.inl rfl))
      (pss_cons (ps_set (i := 6) sc_law.nd rfl (Or.inl rfl) (pe_call (ok_ring_of T) (hr.mono (by decide)) rfl T.g_ring_of T.F_ring_of.kp T.b_ring_of .nil pass0 (pa_cons (pv 4) (pa_cons (pv 5) pa_nil))))
      (pss_one (ps_if (PW.pt (pw_or (pt_not (pt_val (pe_callB call_isiH (by rfl) T.z_isinstance (by decide +kernel) (pa_cons (pv 6) (pa_cons (pe_bltn (v := .ty "tuple") (by rfl) T.z_tuple (by decide +kernel) rfl) pa_nil))))) (pw_or1 (pt_cmpR (op_neDK (K := K) rfl hr.units) (pv 6) (pe_callTy call_tupS (by rfl) T.z_tuple (by decide +kernel) (pa_cons (pe_call (ok_law_ring T) (hr.mono (by decide)) rfl T.g_law_ring T.F_law_ring.kp T.b_law_ring .nil pass0 (pa_cons (pv 3) (pa_cons (pv 5) pa_nil))) pa_nil)) (nomark _))))) (pss_one (ps_ret pe_bl)) pss_nil))))
      (pss_cons (ps_set (i := 7) sc_law.nd rfl (Or.inl rfl) (pe_lst pa_nil))
      (pss_cons (ps_for PassesOwn.never rfl (pi_list (pe_callB (call_sortN (P := P) (w := w) rfl (hu65 hr)) (by rfl) T.z_sorted (by decide +kernel) (pa_cons (pv 3) pa_nil))) (pg_name (i := 5) sc_law.nd rfl (Or.inl rfl))
      (pss_cons (ps_set (i := 8) sc_law.nd rfl (Or.inl rfl) (pe_call (ok_law_ring T) (hr.mono (by decide)) rfl T.g_law_ring T.F_law_ring.kp T.b_law_ring .nil pass0 (pa_cons (pv 3) (pa_cons (pv 5) pa_nil))))
      (pss_one (ps_if (PW.pt (pw_and (pt_cmpR (op_neDK (K := K) rfl hr.units) (pv 8) (pe_lst pa_nil) (nomark _)) (pw_and1 (pt_cmpR (op_eqDK (K := K) rfl hr.units) (pe_callB (call_maxD rfl (hu65 hr)) (by rfl) T.z_max (by decide +kernel) (pa_cons (pv 8) pa_nil)) (pv 5) (nomark _))))) (pss_one (ps_expr (pe_bm PySem.F.plainAttrs_list PySem.F.slot_list_append PySem.F.type_list_append mt_append (pv 7) (pa_cons (pe_callTy call_tupS (by rfl) T.z_tuple (by decide +kernel) (pa_cons (pv 8) pa_nil)) pa_nil)))) pss_nil))))
      (pss_one (ps_for PassesOwn.never rfl (pi_range1 (by rfl) T.z_range (pa_cons pe_int pa_nil)) (pg_name (i := 9) sc_law.nd rfl (Or.inl rfl))
      (pss_cons (ps_set (i := 10) sc_law.nd rfl (Or.inl rfl) (pe_call (ok_rings T) (hr.mono (by decide)) rfl T.g_rings T.F_rings.kp T.b_rings .nil pass0 (pa_cons (pv 4) pa_nil)))
      (pss_cons (ps_if (PW.pt (pw_or (pt_not (pt_val (pe_callB call_isiH (by rfl) T.z_isinstance (by decide +kernel) (pa_cons (pv 10) (pa_cons (pe_bltn (v := .ty "list") (by rfl) T.z_list (by decide +kernel) rfl) pa_nil))))) (pw_or (pt_cmpR (op_neDK (K := K) rfl hr.units) (pv 10) (pv 7) (nomark _)) (pw_or1 (pt_cmpR (op_neN (P := P) (w := w) (hu65 hr)) (pv 4) (pv 3) (nomark _)))))) (pss_one (ps_ret pe_bl)) pss_nil)
      (pss_one (ps_expr (pe_bm PySem.F.plainAttrs_list PySem.F.slot_list_append PySem.F.type_list_append mt_append (pv 10) (pa_cons pe_int pa_nil))))))))))))))
      (C8.pss_cut (ps_if (PW.pt (pw_and (pt_cmpR op_gt (pe_callB call_len (by rfl) T.z_len (by decide +kernel) (pa_cons (pv 0) pa_nil)) pe_int (nomark _)) (pw_and1 (pt_cmpR op_eq (pe_call (ok_law_next T) (hr.mono (by decide)) rfl T.g_law_next T.F_law_next.kp T.b_law_next .nil pass0 (pa_cons (pe_call (ok_law_stream T) (hr.mono (by decide)) rfl T.g_law_stream T.F_law_stream.kp T.b_law_stream .nil pass0 (pa_cons (pe_ix ix_list (pv 0) pe_int (fun _ _ => rfl)) (pa_cons pe_int pa_nil))) (pa_cons pe_int pa_nil))) pe_int (nomark _))))) (pss_cons (ps_set (i := 11) sc_law.nd rfl (Or.inl rfl) (pe_dnewN (P := P) (w := w)))
      (pss_cons (ps_for PassesOwn.never rfl (pi_range1 (by rfl) T.z_range (pa_cons pe_int pa_nil)) (pg_name (i := 12) sc_law.nd rfl (Or.inl rfl))
      (pss_one (ps_dputN (P := P) (w := w) (hu65 hr) (pv 11) (pe_tup (pa_cons (pe_op op_add pe_int (pv 12)) (pa_cons pe_int pa_nil))) (pe_tup (pa_cons (pe_op op_add pe_int (pe_op op_mod (pe_callTy call_int1 (by rfl) T.z_int (by decide +kernel) (pa_cons (pe_op op_add (pv 12) pe_int) pa_nil)) pe_int)) (pa_cons pe_int pa_nil))) rfl)))
      (pss_one (ps_if (pt_cmpR (op_neDK (K := K) rfl hr.units) (pe_call (ok_ring_of T) (hr.mono (by decide)) rfl T.g_ring_of T.F_ring_of.kp T.b_ring_of .nil pass0 (pa_cons (pv 11) (pa_cons (pe_tup (pa_cons pe_int (pa_cons pe_int pa_nil))) pa_nil))) (pe_callTy call_tupS (by rfl) T.z_tuple (by decide +kernel) (pa_cons (pe_call (ok_law_ring T) (hr.mono (by decide)) rfl T.g_law_ring T.F_law_ring.kp T.b_law_ring .nil pass0 (pa_cons (pv 11) (pa_cons (pe_tup (pa_cons pe_int (pa_cons pe_int pa_nil))) pa_nil))) pa_nil)) (nomark _)) (pss_one (ps_ret pe_bl)) pss_nil)))) pss_nil)
      (pss_one (ps_ret (pe_cmpR (op_eqDK (K := K) rfl hr.units) (pe_call (ok_rings T) (hr.mono (by decide)) rfl T.g_rings T.F_rings.kp T.b_rings .nil pass0 (pa_cons (pe_dnewN (P := P) (w := w)) pa_nil)) (pe_lst pa_nil) (nomark _)))))), ?_⟩
    (try simp only [cxOf, Cx.nox, Cx.wish, tSeq, tAsg, tC, gName, tIfS, tTest, tOp, tUn, rU, rI0, rI, tVar, tNext, tRevT, tDNewK, tBreak, tChain, iStr, tRet, tRetN, tDrop, tLst, tTup, tCons, tNil, tCB, tB, tOr, tAnd, tNot, tIf, tCall, tFor_eq, tLc_eq, iRng1, iRng2, iList, iTup, gTup, gTupH, gUnlH, gCons, gNil, gSub, rSetL, rIxL, rIxT, rIxLH, rIxTH, rSlTS, rCatS, rTupS, rIsiH, rLenS, V.ty.injEq, tyS_non, tyS_bl, tyS_int, tyS_str, tyS_ref, tyO_l, tyO_t, tyO_d, tyO_dt, kit_ll, kit_tt, kit_bb, kit_ii, kit_ib, kit_bi, kit_nt, kit_it, kit_st, kit_bt, kit_lt, kit_dt, kit_ni, kit_si, kit_ti, kit_li, kit_di, kit_nb, kit_ns, kit_is, kit_bs, kit_ss, kit_ts, kit_ls, kit_ds, kit_dd, lenS_ref, lenO_l, lenO_t,  rAppend, tM1, rIxS, tSl, tPart, tNoPart, tBM, tBM0, tDGetS, sDPutS, tTruS, truO_l, truO_t, truS_ref, truS_non, truS_bl, truS_int, tFld, sFld, sFldAug, rAdd, tMeth, tProp, tMake, tMakeK, List.take_succ_cons, List.take_zero, List.drop_succ_cons, List.drop_zero, List.take_nil, tIsN, tNotN, tAndV, tOrV, tNotV, putF, List.lookup, List.any_cons, List.any_nil, Sum.inr.injEq, HO.ins.injEq, HO.dK.injEq, eq_self, beq_self_eq_true, beq_iff_eq, decide_true, decide_false, Bool.or_true, Bool.true_or, Bool.or_false, Bool.false_or, tYes, rEq, rNe, _root_.L2.start, wipe, List.map_cons, List.map_nil, List.length_cons, List.length_nil, List.append_nil, Nat.reduceAdd, Nat.reduceSub, List.replicate_succ, List.replicate_zero, List.cons_append, List.nil_append, List.getElem?_cons_zero, List.getElem?_cons_succ, List.set_cons_zero, List.set_cons_succ, Option.some.injEq, V.int.injEq, V.ref.injEq, V.bl.injEq, V.str.injEq, List.cons.injEq, HO.lst.injEq, HO.tup.injEq, and_assoc, and_true, true_and, exists_eq_left, exists_eq_left', exists_and_left, exists_eq, reduceCtorEq, false_and, and_false, or_false, false_or, exists_false, decide_eq_true_eq, CPow, CDivW, Int.reducePow, Int.reduceLT, Int.reduceLE, Int.reduceNeg, Int.reduceToNat, Int.reduceAbs, Nat.reducePow, Nat.reduceLT, Nat.reduceLeDiff, sizeLine_eq, Int.reduceMul, Int.reduceAdd, Int.reduceSub, Bool.not_eq_true', decide_eq_false_iff_not, scal, Bool.not_true, Bool.not_false, Bool.true_eq_false, Bool.false_eq_true, ite_false, ite_true, if_true, if_false, ite_self, forall_const, atI0, atI1, atI2, atI3, ixN20, ixN21, upd_same, upd_upd, Int.zero_add, CMul, Int.reduceSub, Nat.le_refl, Nat.zero_le, or_true, true_or, exists_const, Int.sub_zero, tDNewN, tDGetN, tDInN, tDNotInN, sDPutN, sDDelN, rLenN, tBMN, rGet1N, rGet2N, rSetdefN, tDcN, iKeysN, tLock, Option.isSome_none, Option.isSome_some, atI4, atI5])
    refine ⟨ns.length, .inl ⟨_, hS, by simp⟩, ?_⟩
    have hmn : (if (12 : Int) < (ns.length : Int) then (12 : Int) else (ns.length : Int)) = ((min 12 ns.length : Nat) : Int) := by split <;> omega
    rw [hmn]
    refine ⟨by omega, by omega, Loop.range (fun i σ H' => Same H H' ∧ ∃ b1 b2 b3 b4 b5 b6 b7 b8 b9 b10 b11 b12 : Option V, σ = [some (.ref a), b1, b2, b3, b4, b5, b6, b7, b8, b9, b10, b11, b12]) ⟨Same.refl _, none, none, none, none, none, none, none, none, none, none, none, none, rfl⟩ ?_ ?_⟩
    · rintro i σ H1 hi ⟨s1, b1, b2, b3, b4, b5, b6, b7, b8, b9, b10, b11, b12, rfl⟩
      have hi2 : i < ns.length := by omega
      have hx : (ns.map V.int)[i]? = some (.int ns[i]) := by simp [hi2]
      (try simp only [cxOf, Cx.nox, Cx.wish, tSeq, tAsg, tC, gName, tIfS, tTest, tOp, tUn, rU, rI0, rI, tVar, tNext, tRevT, tDNewK, tBreak, tChain, iStr, tRet, tRetN, tDrop, tLst, tTup, tCons, tNil, tCB, tB, tOr, tAnd, tNot, tIf, tCall, tFor_eq, tLc_eq, iRng1, iRng2, iList, iTup, gTup, gTupH, gUnlH, gCons, gNil, gSub, rSetL, rIxL, rIxT, rIxLH, rIxTH, rSlTS, rCatS, rTupS, rIsiH, rLenS, V.ty.injEq, tyS_non, tyS_bl, tyS_int, tyS_str, tyS_ref, tyO_l, tyO_t, tyO_d, tyO_dt, kit_ll, kit_tt, kit_bb, kit_ii, kit_ib, kit_bi, kit_nt, kit_it, kit_st, kit_bt, kit_lt, kit_dt, kit_ni, kit_si, kit_ti, kit_li, kit_di, kit_nb, kit_ns, kit_is, kit_bs, kit_ss, kit_ts, kit_ls, kit_ds, kit_dd, lenS_ref, lenO_l, lenO_t,  rAppend, tM1, rIxS, tSl, tPart, tNoPart, tBM, tBM0, tDGetS, sDPutS, tTruS, truO_l, truO_t, truS_ref, truS_non, truS_bl, truS_int, tFld, sFld, sFldAug, rAdd, tMeth, tProp, tMake, tMakeK, List.take_succ_cons, List.take_zero, List.drop_succ_cons, List.drop_zero, List.take_nil, tIsN, tNotN, tAndV, tOrV, tNotV, putF, List.lookup, List.any_cons, List.any_nil, Sum.inr.injEq, HO.ins.injEq, HO.dK.injEq, eq_self, beq_self_eq_true, beq_iff_eq, decide_true, decide_false, Bool.or_true, Bool.true_or, Bool.or_false, Bool.false_or, tYes, rEq, rNe, _root_.L2.start, wipe, List.map_cons, List.map_nil, List.length_cons, List.length_nil, List.append_nil, Nat.reduceAdd, Nat.reduceSub, List.replicate_succ, List.replicate_zero, List.cons_append, List.nil_append, List.getElem?_cons_zero, List.getElem?_cons_succ, List.set_cons_zero, List.set_cons_succ, Option.some.injEq, V.int.injEq, V.ref.injEq, V.bl.injEq, V.str.injEq, List.cons.injEq, HO.lst.injEq, HO.tup.injEq, and_assoc, and_true, true_and, exists_eq_left, exists_eq_left', exists_and_left, exists_eq, reduceCtorEq, false_and, and_false, or_false, false_or, exists_false, decide_eq_true_eq, CPow, CDivW, Int.reducePow, Int.reduceLT, Int.reduceLE, Int.reduceNeg, Int.reduceToNat, Int.reduceAbs, Nat.reducePow, Nat.reduceLT, Nat.reduceLeDiff, sizeLine_eq, Int.reduceMul, Int.reduceAdd, Int.reduceSub, Bool.not_eq_true', decide_eq_false_iff_not, scal, Bool.not_true, Bool.not_false, Bool.true_eq_false, Bool.false_eq_true, ite_false, ite_true, if_true, if_false, ite_self, forall_const, atI0, atI1, atI2, atI3, ixN20, ixN21, upd_same, upd_upd, Int.zero_add, CMul, Int.reduceSub, Nat.le_refl, Nat.zero_le, or_true, true_or, exists_const, Int.sub_zero, tDNewN, tDGetN, tDInN, tDNotInN, sDPutN, sDDelN, rLenN, tBMN, rGet1N, rGet2N, rSetdefN, tDcN, iKeysN, tLock, Option.isSome_none, Option.isSome_some, atI4, atI5, sp_law_stream])
      refine ⟨_, s1.seq hS, _, atI_nat hx, ns[i], rfl, fun s0 H2 hs0 st2 s2 _ => ?_⟩
      refine ⟨s0, i, rfl, st2, fun l nl d names nvs ks vv g H3 hl3 hn3 in3 hnl gn3 hdom hkl g3 => ?_⟩
      have hs00 : H s0 = none := Same.non s1 hs0
      have s3 : Same H H3 := fun b o e => g3.but b o (s2 _ _ (s1 _ _ e)) (ne_of_none e hs00)
      clear g3 s2 st2 hs0 s1 hs00
      refine ⟨l, rfl, _, hl3, rfl, ?_⟩
      (try simp only [cxOf, Cx.nox, Cx.wish, tSeq, tAsg, tC, gName, tIfS, tTest, tOp, tUn, rU, rI0, rI, tVar, tNext, tRevT, tDNewK, tBreak, tChain, iStr, tRet, tRetN, tDrop, tLst, tTup, tCons, tNil, tCB, tB, tOr, tAnd, tNot, tIf, tCall, tFor_eq, tLc_eq, iRng1, iRng2, iList, iTup, gTup, gTupH, gUnlH, gCons, gNil, gSub, rSetL, rIxL, rIxT, rIxLH, rIxTH, rSlTS, rCatS, rTupS, rIsiH, rLenS, V.ty.injEq, tyS_non, tyS_bl, tyS_int, tyS_str, tyS_ref, tyO_l, tyO_t, tyO_d, tyO_dt, kit_ll, kit_tt, kit_bb, kit_ii, kit_ib, kit_bi, kit_nt, kit_it, kit_st, kit_bt, kit_lt, kit_dt, kit_ni, kit_si, kit_ti, kit_li, kit_di, kit_nb, kit_ns, kit_is, kit_bs, kit_ss, kit_ts, kit_ls, kit_ds, kit_dd, lenS_ref, lenO_l, lenO_t,  rAppend, tM1, rIxS, tSl, tPart, tNoPart, tBM, tBM0, tDGetS, sDPutS, tTruS, truO_l, truO_t, truS_ref, truS_non, truS_bl, truS_int, tFld, sFld, sFldAug, rAdd, tMeth, tProp, tMake, tMakeK, List.take_succ_cons, List.take_zero, List.drop_succ_cons, List.drop_zero, List.take_nil, tIsN, tNotN, tAndV, tOrV, tNotV, putF, List.lookup, List.any_cons, List.any_nil, Sum.inr.injEq, HO.ins.injEq, HO.dK.injEq, eq_self, beq_self_eq_true, beq_iff_eq, decide_true, decide_false, Bool.or_true, Bool.true_or, Bool.or_false, Bool.false_or, tYes, rEq, rNe, _root_.L2.start, wipe, List.map_cons, List.map_nil, List.length_cons, List.length_nil, List.append_nil, Nat.reduceAdd, Nat.reduceSub, List.replicate_succ, List.replicate_zero, List.cons_append, List.nil_append, List.getElem?_cons_zero, List.getElem?_cons_succ, List.set_cons_zero, List.set_cons_succ, Option.some.injEq, V.int.injEq, V.ref.injEq, V.bl.injEq, V.str.injEq, List.cons.injEq, HO.lst.injEq, HO.tup.injEq, and_assoc, and_true, true_and, exists_eq_left, exists_eq_left', exists_and_left, exists_eq, reduceCtorEq, false_and, and_false, or_false, false_or, exists_false, decide_eq_true_eq, CPow, CDivW, Int.reducePow, Int.reduceLT, Int.reduceLE, Int.reduceNeg, Int.reduceToNat, Int.reduceAbs, Nat.reducePow, Nat.reduceLT, Nat.reduceLeDiff, sizeLine_eq, Int.reduceMul, Int.reduceAdd, Int.reduceSub, Bool.not_eq_true', decide_eq_false_iff_not, scal, Bool.not_true, Bool.not_false, Bool.true_eq_false, Bool.false_eq_true, ite_false, ite_true, if_true, if_false, ite_self, forall_const, atI0, atI1, atI2, atI3, ixN20, ixN21, upd_same, upd_upd, Int.zero_add, CMul, Int.reduceSub, Nat.le_refl, Nat.zero_le, or_true, true_or, exists_const, Int.sub_zero, tDNewN, tDGetN, tDInN, tDNotInN, sDPutN, sDDelN, rLenN, tBMN, rGet1N, rGet2N, rSetdefN, tDcN, iKeysN, tLock, Option.isSome_none, Option.isSome_some, atI4, atI5])
      unfold rDictN
      refine ⟨d, _, rfl, gn3.dn.dr, gn3.apart hdom, fun e o he dn => ?_⟩
      have s4 := same_new he (o := o)
      have gn4 := gn3.same s4
      have ge4 : GN P w (upd H3 e o) e ks vv g := ⟨dn, gn4.at_, gn4.no⟩
      have hn4 := s4 _ _ hn3
      have in4 := Same.ims s4 in3
      have s04 := s3.trans s4
      generalize upd H3 e o = H4 at gn4 ge4 hn4 in4 s04
      clear s4 he dn gn3 hl3 hn3 in3 s3
      (try simp only [cxOf, Cx.nox, Cx.wish, tSeq, tAsg, tC, gName, tIfS, tTest, tOp, tUn, rU, rI0, rI, tVar, tNext, tRevT, tDNewK, tBreak, tChain, iStr, tRet, tRetN, tDrop, tLst, tTup, tCons, tNil, tCB, tB, tOr, tAnd, tNot, tIf, tCall, tFor_eq, tLc_eq, iRng1, iRng2, iList, iTup, gTup, gTupH, gUnlH, gCons, gNil, gSub, rSetL, rIxL, rIxT, rIxLH, rIxTH, rSlTS, rCatS, rTupS, rIsiH, rLenS, V.ty.injEq, tyS_non, tyS_bl, tyS_int, tyS_str, tyS_ref, tyO_l, tyO_t, tyO_d, tyO_dt, kit_ll, kit_tt, kit_bb, kit_ii, kit_ib, kit_bi, kit_nt, kit_it, kit_st, kit_bt, kit_lt, kit_dt, kit_ni, kit_si, kit_ti, kit_li, kit_di, kit_nb, kit_ns, kit_is, kit_bs, kit_ss, kit_ts, kit_ls, kit_ds, kit_dd, lenS_ref, lenO_l, lenO_t,  rAppend, tM1, rIxS, tSl, tPart, tNoPart, tBM, tBM0, tDGetS, sDPutS, tTruS, truO_l, truO_t, truS_ref, truS_non, truS_bl, truS_int, tFld, sFld, sFldAug, rAdd, tMeth, tProp, tMake, tMakeK, List.take_succ_cons, List.take_zero, List.drop_succ_cons, List.drop_zero, List.take_nil, tIsN, tNotN, tAndV, tOrV, tNotV, putF, List.lookup, List.any_cons, List.any_nil, Sum.inr.injEq, HO.ins.injEq, HO.dK.injEq, eq_self, beq_self_eq_true, beq_iff_eq, decide_true, decide_false, Bool.or_true, Bool.true_or, Bool.or_false, Bool.false_or, tYes, rEq, rNe, _root_.L2.start, wipe, List.map_cons, List.map_nil, List.length_cons, List.length_nil, List.append_nil, Nat.reduceAdd, Nat.reduceSub, List.replicate_succ, List.replicate_zero, List.cons_append, List.nil_append, List.getElem?_cons_zero, List.getElem?_cons_succ, List.set_cons_zero, List.set_cons_succ, Option.some.injEq, V.int.injEq, V.ref.injEq, V.bl.injEq, V.str.injEq, List.cons.injEq, HO.lst.injEq, HO.tup.injEq, and_assoc, and_true, true_and, exists_eq_left, exists_eq_left', exists_and_left, exists_eq, reduceCtorEq, false_and, and_false, or_false, false_or, exists_false, decide_eq_true_eq, CPow, CDivW, Int.reducePow, Int.reduceLT, Int.reduceLE, Int.reduceNeg, Int.reduceToNat, Int.reduceAbs, Nat.reducePow, Nat.reduceLT, Nat.reduceLeDiff, sizeLine_eq, Int.reduceMul, Int.reduceAdd, Int.reduceSub, Bool.not_eq_true', decide_eq_false_iff_not, scal, Bool.not_true, Bool.not_false, Bool.true_eq_false, Bool.false_eq_true, ite_false, ite_true, if_true, if_false, ite_self, forall_const, atI0, atI1, atI2, atI3, ixN20, ixN21, upd_same, upd_upd, Int.zero_add, CMul, Int.reduceSub, Nat.le_refl, Nat.zero_le, or_true, true_or, exists_const, Int.sub_zero, tDNewN, tDGetN, tDInN, tDNotInN, sDPutN, sDDelN, rLenN, tBMN, rGet1N, rGet2N, rSetdefN, tDcN, iKeysN, tLock, Option.isSome_none, Option.isSome_some, atI4, atI5])
      intro q hq r hr
      have s5 := (same_new hq (o := .tup [V.int 999, V.int 1])).trans (same_new hr (o := .lst [V.ref q]))
      have gn5 := gn4.same s5
      have ge5 := ge4.same s5
      have hn5 := s5 _ _ hn4
      have in5 := Same.ims s5 in4
      have s05 := s04.trans s5
      have hr5 : upd (upd H4 q (.tup [V.int 999, V.int 1])) r (.lst [V.ref q]) r = some (.lst [V.ref q]) := upd_same
      have iq5 : Im (upd (upd H4 q (.tup [V.int 999, V.int 1])) r (.lst [V.ref q])) (tD (999, 1)) (V.ref q) := imNew hr (im_tupNew hq (im_cons im_int (im_cons im_int im_nil)))
      generalize upd (upd H4 q (.tup [V.int 999, V.int 1])) r (.lst [V.ref q]) = H5 at gn5 ge5 hn5 in5 s05 hr5 iq5
      clear gn4 ge4 hn4 in4 s04 s5 hq hr
      have nl5 := in5.len
      rw [List.length_map] at nl5
      unfold rCat
      refine ⟨nl, r, nvs, [V.ref q], rfl, rfl, hn5, hr5, by rw [sizeLine_eq]; simp only [List.length_cons, List.length_nil]; omega, fun u hu => ?_⟩
      have s6 := same_new hu (o := .lst (nvs ++ [V.ref q]))
      have in6 := Same.ims s6 (in5.snoc iq5)
      have hu6 : upd H5 u (.lst (nvs ++ [V.ref q])) u = some (.lst (nvs ++ [V.ref q])) := upd_same
      have gn6 := gn5.same s6
      have ge6 := ge5.same s6
      have s06 := s05.trans s6
      generalize upd H5 u (.lst (nvs ++ [V.ref q])) = H6 at in6 hu6 gn6 ge6 s06
      generalize nvs ++ [V.ref q] = nvs' at in6 hu6
      rw [← show (names ++ [(999, 1)]).map tD = names.map tD ++ [tD (999, 1)] by rw [List.map_append]; rfl] at in6
      clear gn5 ge5 hn5 in5 s05 hr5 iq5 hu s6 nl5
      have hkl2 : ks.length ≤ 1300 := by omega
      refine ⟨_, rfl, ⟨_, SqL.of hu6⟩, ?_⟩
      refine Loop.list nvs' (fun j σ H' => ∃ b5 b6 : Option V, σ = [some (.ref a), some (.int i), some (.ref nl), some (.ref d), some (.ref e), b5, b6, b7, b8, b9, b10, b11, b12] ∧ Same H6 H') ⟨b5, b6, rfl, Same.refl _⟩ (fun j σ H' _ ⟨_, _, _, s⟩ => SqL.of (s _ _ hu6)) ?_ ?_
      · rintro j x σ H7 hx ⟨b5, b6, rfl, s7⟩
        obtain ⟨t, _, it⟩ := ims_map (Same.ims s7 in6) hx
        (try simp only [cxOf, Cx.nox, Cx.wish, tSeq, tAsg, tC, gName, tIfS, tTest, tOp, tUn, rU, rI0, rI, tVar, tNext, tRevT, tDNewK, tBreak, tChain, iStr, tRet, tRetN, tDrop, tLst, tTup, tCons, tNil, tCB, tB, tOr, tAnd, tNot, tIf, tCall, tFor_eq, tLc_eq, iRng1, iRng2, iList, iTup, gTup, gTupH, gUnlH, gCons, gNil, gSub, rSetL, rIxL, rIxT, rIxLH, rIxTH, rSlTS, rCatS, rTupS, rIsiH, rLenS, V.ty.injEq, tyS_non, tyS_bl, tyS_int, tyS_str, tyS_ref, tyO_l, tyO_t, tyO_d, tyO_dt, kit_ll, kit_tt, kit_bb, kit_ii, kit_ib, kit_bi, kit_nt, kit_it, kit_st, kit_bt, kit_lt, kit_dt, kit_ni, kit_si, kit_ti, kit_li, kit_di, kit_nb, kit_ns, kit_is, kit_bs, kit_ss, kit_ts, kit_ls, kit_ds, kit_dd, lenS_ref, lenO_l, lenO_t,  rAppend, tM1, rIxS, tSl, tPart, tNoPart, tBM, tBM0, tDGetS, sDPutS, tTruS, truO_l, truO_t, truS_ref, truS_non, truS_bl, truS_int, tFld, sFld, sFldAug, rAdd, tMeth, tProp, tMake, tMakeK, List.take_succ_cons, List.take_zero, List.drop_succ_cons, List.drop_zero, List.take_nil, tIsN, tNotN, tAndV, tOrV, tNotV, putF, List.lookup, List.any_cons, List.any_nil, Sum.inr.injEq, HO.ins.injEq, HO.dK.injEq, eq_self, beq_self_eq_true, beq_iff_eq, decide_true, decide_false, Bool.or_true, Bool.true_or, Bool.or_false, Bool.false_or, tYes, rEq, rNe, _root_.L2.start, wipe, List.map_cons, List.map_nil, List.length_cons, List.length_nil, List.append_nil, Nat.reduceAdd, Nat.reduceSub, List.replicate_succ, List.replicate_zero, List.cons_append, List.nil_append, List.getElem?_cons_zero, List.getElem?_cons_succ, List.set_cons_zero, List.set_cons_succ, Option.some.injEq, V.int.injEq, V.ref.injEq, V.bl.injEq, V.str.injEq, List.cons.injEq, HO.lst.injEq, HO.tup.injEq, and_assoc, and_true, true_and, exists_eq_left, exists_eq_left', exists_and_left, exists_eq, reduceCtorEq, false_and, and_false, or_false, false_or, exists_false, decide_eq_true_eq, CPow, CDivW, Int.reducePow, Int.reduceLT, Int.reduceLE, Int.reduceNeg, Int.reduceToNat, Int.reduceAbs, Nat.reducePow, Nat.reduceLT, Nat.reduceLeDiff, sizeLine_eq, Int.reduceMul, Int.reduceAdd, Int.reduceSub, Bool.not_eq_true', decide_eq_false_iff_not, scal, Bool.not_true, Bool.not_false, Bool.true_eq_false, Bool.false_eq_true, ite_false, ite_true, if_true, if_false, ite_self, forall_const, atI0, atI1, atI2, atI3, ixN20, ixN21, upd_same, upd_upd, Int.zero_add, CMul, Int.reduceSub, Nat.le_refl, Nat.zero_le, or_true, true_or, exists_const, Int.sub_zero, tDNewN, tDGetN, tDInN, tDNotInN, sDPutN, sDDelN, rLenN, tBMN, rGet1N, rGet2N, rSetdefN, tDcN, iKeysN, tLock, Option.isSome_none, Option.isSome_some, atI4, atI5])
        refine ⟨e, ks, vv, g, t, x, rfl, fun H' s => (ge6.same (s7.trans s)).gr, it, hkl2, fun r rs H8 hr ir s8 => ?_⟩
        (try simp only [cxOf, Cx.nox, Cx.wish, tSeq, tAsg, tC, gName, tIfS, tTest, tOp, tUn, rU, rI0, rI, tVar, tNext, tRevT, tDNewK, tBreak, tChain, iStr, tRet, tRetN, tDrop, tLst, tTup, tCons, tNil, tCB, tB, tOr, tAnd, tNot, tIf, tCall, tFor_eq, tLc_eq, iRng1, iRng2, iList, iTup, gTup, gTupH, gUnlH, gCons, gNil, gSub, rSetL, rIxL, rIxT, rIxLH, rIxTH, rSlTS, rCatS, rTupS, rIsiH, rLenS, V.ty.injEq, tyS_non, tyS_bl, tyS_int, tyS_str, tyS_ref, tyO_l, tyO_t, tyO_d, tyO_dt, kit_ll, kit_tt, kit_bb, kit_ii, kit_ib, kit_bi, kit_nt, kit_it, kit_st, kit_bt, kit_lt, kit_dt, kit_ni, kit_si, kit_ti, kit_li, kit_di, kit_nb, kit_ns, kit_is, kit_bs, kit_ss, kit_ts, kit_ls, kit_ds, kit_dd, lenS_ref, lenO_l, lenO_t,  rAppend, tM1, rIxS, tSl, tPart, tNoPart, tBM, tBM0, tDGetS, sDPutS, tTruS, truO_l, truO_t, truS_ref, truS_non, truS_bl, truS_int, tFld, sFld, sFldAug, rAdd, tMeth, tProp, tMake, tMakeK, List.take_succ_cons, List.take_zero, List.drop_succ_cons, List.drop_zero, List.take_nil, tIsN, tNotN, tAndV, tOrV, tNotV, putF, List.lookup, List.any_cons, List.any_nil, Sum.inr.injEq, HO.ins.injEq, HO.dK.injEq, eq_self, beq_self_eq_true, beq_iff_eq, decide_true, decide_false, Bool.or_true, Bool.true_or, Bool.or_false, Bool.false_or, tYes, rEq, rNe, _root_.L2.start, wipe, List.map_cons, List.map_nil, List.length_cons, List.length_nil, List.append_nil, Nat.reduceAdd, Nat.reduceSub, List.replicate_succ, List.replicate_zero, List.cons_append, List.nil_append, List.getElem?_cons_zero, List.getElem?_cons_succ, List.set_cons_zero, List.set_cons_succ, Option.some.injEq, V.int.injEq, V.ref.injEq, V.bl.injEq, V.str.injEq, List.cons.injEq, HO.lst.injEq, HO.tup.injEq, and_assoc, and_true, true_and, exists_eq_left, exists_eq_left', exists_and_left, exists_eq, reduceCtorEq, false_and, and_false, or_false, false_or, exists_false, decide_eq_true_eq, CPow, CDivW, Int.reducePow, Int.reduceLT, Int.reduceLE, Int.reduceNeg, Int.reduceToNat, Int.reduceAbs, Nat.reducePow, Nat.reduceLT, Nat.reduceLeDiff, sizeLine_eq, Int.reduceMul, Int.reduceAdd, Int.reduceSub, Bool.not_eq_true', decide_eq_false_iff_not, scal, Bool.not_true, Bool.not_false, Bool.true_eq_false, Bool.false_eq_true, ite_false, ite_true, if_true, if_false, ite_self, forall_const, atI0, atI1, atI2, atI3, ixN20, ixN21, upd_same, upd_upd, Int.zero_add, CMul, Int.reduceSub, Nat.le_refl, Nat.zero_le, or_true, true_or, exists_const, Int.sub_zero, tDNewN, tDGetN, tDInN, tDNotInN, sDPutN, sDDelN, rLenN, tBMN, rGet1N, rGet2N, rSetdefN, tDcN, iKeysN, tLock, Option.isSome_none, Option.isSome_some, atI4, atI5, hr])
        refine ⟨d, ks, vv, g, t, x, rfl, fun H' s => (gn6.same ((s7.trans s8).trans s)).gr, Same.im s8 it, hkl2, fun z zs H9 _ hz iz s9 => ?_⟩
        refine ⟨z, rfl, zs, .inl hz, fun l2 Ha sa hl2 => ?_⟩
        unfold rNeD
        refine ⟨_, _, Im.dp _ _ (im_tup (sa _ _ (s9 _ _ hr)) (Same.ims sa (Same.ims s9 ir))), Im.dp _ _ (im_tup hl2 (Same.ims sa iz)), nds_shaped _, nds_shaped _, ?_⟩
        rw [SeqAt.eqv_refl _ (SeqAt.canLay_of_shaped (nds_shaped (ringS g ks.length t)))]
        (try simp only [cxOf, Cx.nox, Cx.wish, tSeq, tAsg, tC, gName, tIfS, tTest, tOp, tUn, rU, rI0, rI, tVar, tNext, tRevT, tDNewK, tBreak, tChain, iStr, tRet, tRetN, tDrop, tLst, tTup, tCons, tNil, tCB, tB, tOr, tAnd, tNot, tIf, tCall, tFor_eq, tLc_eq, iRng1, iRng2, iList, iTup, gTup, gTupH, gUnlH, gCons, gNil, gSub, rSetL, rIxL, rIxT, rIxLH, rIxTH, rSlTS, rCatS, rTupS, rIsiH, rLenS, V.ty.injEq, tyS_non, tyS_bl, tyS_int, tyS_str, tyS_ref, tyO_l, tyO_t, tyO_d, tyO_dt, kit_ll, kit_tt, kit_bb, kit_ii, kit_ib, kit_bi, kit_nt, kit_it, kit_st, kit_bt, kit_lt, kit_dt, kit_ni, kit_si, kit_ti, kit_li, kit_di, kit_nb, kit_ns, kit_is, kit_bs, kit_ss, kit_ts, kit_ls, kit_ds, kit_dd, lenS_ref, lenO_l, lenO_t,  rAppend, tM1, rIxS, tSl, tPart, tNoPart, tBM, tBM0, tDGetS, sDPutS, tTruS, truO_l, truO_t, truS_ref, truS_non, truS_bl, truS_int, tFld, sFld, sFldAug, rAdd, tMeth, tProp, tMake, tMakeK, List.take_succ_cons, List.take_zero, List.drop_succ_cons, List.drop_zero, List.take_nil, tIsN, tNotN, tAndV, tOrV, tNotV, putF, List.lookup, List.any_cons, List.any_nil, Sum.inr.injEq, HO.ins.injEq, HO.dK.injEq, eq_self, beq_self_eq_true, beq_iff_eq, decide_true, decide_false, Bool.or_true, Bool.true_or, Bool.or_false, Bool.false_or, tYes, rEq, rNe, _root_.L2.start, wipe, List.map_cons, List.map_nil, List.length_cons, List.length_nil, List.append_nil, Nat.reduceAdd, Nat.reduceSub, List.replicate_succ, List.replicate_zero, List.cons_append, List.nil_append, List.getElem?_cons_zero, List.getElem?_cons_succ, List.set_cons_zero, List.set_cons_succ, Option.some.injEq, V.int.injEq, V.ref.injEq, V.bl.injEq, V.str.injEq, List.cons.injEq, HO.lst.injEq, HO.tup.injEq, and_assoc, and_true, true_and, exists_eq_left, exists_eq_left', exists_and_left, exists_eq, reduceCtorEq, false_and, and_false, or_false, false_or, exists_false, decide_eq_true_eq, CPow, CDivW, Int.reducePow, Int.reduceLT, Int.reduceLE, Int.reduceNeg, Int.reduceToNat, Int.reduceAbs, Nat.reducePow, Nat.reduceLT, Nat.reduceLeDiff, sizeLine_eq, Int.reduceMul, Int.reduceAdd, Int.reduceSub, Bool.not_eq_true', decide_eq_false_iff_not, scal, Bool.not_true, Bool.not_false, Bool.true_eq_false, Bool.false_eq_true, ite_false, ite_true, if_true, if_false, ite_self, forall_const, atI0, atI1, atI2, atI3, ixN20, ixN21, upd_same, upd_upd, Int.zero_add, CMul, Int.reduceSub, Nat.le_refl, Nat.zero_le, or_true, true_or, exists_const, Int.sub_zero, tDNewN, tDGetN, tDInN, tDNotInN, sDPutN, sDDelN, rLenN, tBMN, rGet1N, rGet2N, rSetdefN, tDcN, iKeysN, tLock, Option.isSome_none, Option.isSome_some, atI4, atI5])
        exact ((s7.trans s8).trans s9).trans sa
      · rintro σ H7 ⟨b5, b6, rfl, s7⟩
        have gn7 := gn6.same s7
        have ge7 := ge6.same s7
        have s07 := s06.trans s7
        clear gn6 ge6 s06 in6 hu6 s7
        (try simp only [cxOf, Cx.nox, Cx.wish, tSeq, tAsg, tC, gName, tIfS, tTest, tOp, tUn, rU, rI0, rI, tVar, tNext, tRevT, tDNewK, tBreak, tChain, iStr, tRet, tRetN, tDrop, tLst, tTup, tCons, tNil, tCB, tB, tOr, tAnd, tNot, tIf, tCall, tFor_eq, tLc_eq, iRng1, iRng2, iList, iTup, gTup, gTupH, gUnlH, gCons, gNil, gSub, rSetL, rIxL, rIxT, rIxLH, rIxTH, rSlTS, rCatS, rTupS, rIsiH, rLenS, V.ty.injEq, tyS_non, tyS_bl, tyS_int, tyS_str, tyS_ref, tyO_l, tyO_t, tyO_d, tyO_dt, kit_ll, kit_tt, kit_bb, kit_ii, kit_ib, kit_bi, kit_nt, kit_it, kit_st, kit_bt, kit_lt, kit_dt, kit_ni, kit_si, kit_ti, kit_li, kit_di, kit_nb, kit_ns, kit_is, kit_bs, kit_ss, kit_ts, kit_ls, kit_ds, kit_dd, lenS_ref, lenO_l, lenO_t,  rAppend, tM1, rIxS, tSl, tPart, tNoPart, tBM, tBM0, tDGetS, sDPutS, tTruS, truO_l, truO_t, truS_ref, truS_non, truS_bl, truS_int, tFld, sFld, sFldAug, rAdd, tMeth, tProp, tMake, tMakeK, List.take_succ_cons, List.take_zero, List.drop_succ_cons, List.drop_zero, List.take_nil, tIsN, tNotN, tAndV, tOrV, tNotV, putF, List.lookup, List.any_cons, List.any_nil, Sum.inr.injEq, HO.ins.injEq, HO.dK.injEq, eq_self, beq_self_eq_true, beq_iff_eq, decide_true, decide_false, Bool.or_true, Bool.true_or, Bool.or_false, Bool.false_or, tYes, rEq, rNe, _root_.L2.start, wipe, List.map_cons, List.map_nil, List.length_cons, List.length_nil, List.append_nil, Nat.reduceAdd, Nat.reduceSub, List.replicate_succ, List.replicate_zero, List.cons_append, List.nil_append, List.getElem?_cons_zero, List.getElem?_cons_succ, List.set_cons_zero, List.set_cons_succ, Option.some.injEq, V.int.injEq, V.ref.injEq, V.bl.injEq, V.str.injEq, List.cons.injEq, HO.lst.injEq, HO.tup.injEq, and_assoc, and_true, true_and, exists_eq_left, exists_eq_left', exists_and_left, exists_eq, reduceCtorEq, false_and, and_false, or_false, false_or, exists_false, decide_eq_true_eq, CPow, CDivW, Int.reducePow, Int.reduceLT, Int.reduceLE, Int.reduceNeg, Int.reduceToNat, Int.reduceAbs, Nat.reducePow, Nat.reduceLT, Nat.reduceLeDiff, sizeLine_eq, Int.reduceMul, Int.reduceAdd, Int.reduceSub, Bool.not_eq_true', decide_eq_false_iff_not, scal, Bool.not_true, Bool.not_false, Bool.true_eq_false, Bool.false_eq_true, ite_false, ite_true, if_true, if_false, ite_self, forall_const, atI0, atI1, atI2, atI3, ixN20, ixN21, upd_same, upd_upd, Int.zero_add, CMul, Int.reduceSub, Nat.le_refl, Nat.zero_le, or_true, true_or, exists_const, Int.sub_zero, tDNewN, tDGetN, tDInN, tDNotInN, sDPutN, sDDelN, rLenN, tBMN, rGet1N, rGet2N, rSetdefN, tDcN, iKeysN, tLock, Option.isSome_none, Option.isSome_some, atI4, atI5])
        intro p hp
        have s0 := same_new hp (o := .lst [])
        have gn8 := gn7.same s0
        have ge8 := ge7.same s0
        have s08 := s07.trans s0
        have hp0 : H p = none := Same.non s07 hp
        have hp8 : upd H7 p (.lst []) p = some (.lst []) := upd_same
        generalize upd H7 p (.lst []) = H8 at gn8 ge8 s08 hp8
        clear gn7 ge7 s07 s0 hp
        unfold rSortN
        refine ⟨d, _, rfl, gn8.gr.dr, ?_⟩
        have ek : (ks.map fun k => (tD k, vv k)).map (·.1) = ks.map tD := by rw [List.map_map]; rfl
        rw [ek]
        refine ⟨nds_alike _, nds_sortable _, nds_depth _, fun q zs H9 hq s9 _ hz iz => ?_⟩
        rw [sortN_map] at iz
        have hzl := iz.len
        rw [List.length_map, (sortN_p ks).length_eq] at hzl
        have nqp : p ≠ q := ne_of_none hp8 hq
        have hq0 : H q = none := Same.non s08 hq
        have gn9 := gn8.same s9
        have ge9 := ge8.same s9
        have s09 := s08.trans s9
        have hp9 := s9 _ _ hp8
        have npd : p ≠ d := gn8.dn.ne_l hp8
        have npe : p ≠ e := ge8.dn.ne_l hp8
        clear gn8 ge8 s08 s9 hp8
        (try simp only [cxOf, Cx.nox, Cx.wish, tSeq, tAsg, tC, gName, tIfS, tTest, tOp, tUn, rU, rI0, rI, tVar, tNext, tRevT, tDNewK, tBreak, tChain, iStr, tRet, tRetN, tDrop, tLst, tTup, tCons, tNil, tCB, tB, tOr, tAnd, tNot, tIf, tCall, tFor_eq, tLc_eq, iRng1, iRng2, iList, iTup, gTup, gTupH, gUnlH, gCons, gNil, gSub, rSetL, rIxL, rIxT, rIxLH, rIxTH, rSlTS, rCatS, rTupS, rIsiH, rLenS, V.ty.injEq, tyS_non, tyS_bl, tyS_int, tyS_str, tyS_ref, tyO_l, tyO_t, tyO_d, tyO_dt, kit_ll, kit_tt, kit_bb, kit_ii, kit_ib, kit_bi, kit_nt, kit_it, kit_st, kit_bt, kit_lt, kit_dt, kit_ni, kit_si, kit_ti, kit_li, kit_di, kit_nb, kit_ns, kit_is, kit_bs, kit_ss, kit_ts, kit_ls, kit_ds, kit_dd, lenS_ref, lenO_l, lenO_t,  rAppend, tM1, rIxS, tSl, tPart, tNoPart, tBM, tBM0, tDGetS, sDPutS, tTruS, truO_l, truO_t, truS_ref, truS_non, truS_bl, truS_int, tFld, sFld, sFldAug, rAdd, tMeth, tProp, tMake, tMakeK, List.take_succ_cons, List.take_zero, List.drop_succ_cons, List.drop_zero, List.take_nil, tIsN, tNotN, tAndV, tOrV, tNotV, putF, List.lookup, List.any_cons, List.any_nil, Sum.inr.injEq, HO.ins.injEq, HO.dK.injEq, eq_self, beq_self_eq_true, beq_iff_eq, decide_true, decide_false, Bool.or_true, Bool.true_or, Bool.or_false, Bool.false_or, tYes, rEq, rNe, _root_.L2.start, wipe, List.map_cons, List.map_nil, List.length_cons, List.length_nil, List.append_nil, Nat.reduceAdd, Nat.reduceSub, List.replicate_succ, List.replicate_zero, List.cons_append, List.nil_append, List.getElem?_cons_zero, List.getElem?_cons_succ, List.set_cons_zero, List.set_cons_succ, Option.some.injEq, V.int.injEq, V.ref.injEq, V.bl.injEq, V.str.injEq, List.cons.injEq, HO.lst.injEq, HO.tup.injEq, and_assoc, and_true, true_and, exists_eq_left, exists_eq_left', exists_and_left, exists_eq, reduceCtorEq, false_and, and_false, or_false, false_or, exists_false, decide_eq_true_eq, CPow, CDivW, Int.reducePow, Int.reduceLT, Int.reduceLE, Int.reduceNeg, Int.reduceToNat, Int.reduceAbs, Nat.reducePow, Nat.reduceLT, Nat.reduceLeDiff, sizeLine_eq, Int.reduceMul, Int.reduceAdd, Int.reduceSub, Bool.not_eq_true', decide_eq_false_iff_not, scal, Bool.not_true, Bool.not_false, Bool.true_eq_false, Bool.false_eq_true, ite_false, ite_true, if_true, if_false, ite_self, forall_const, atI0, atI1, atI2, atI3, ixN20, ixN21, upd_same, upd_upd, Int.zero_add, CMul, Int.reduceSub, Nat.le_refl, Nat.zero_le, or_true, true_or, exists_const, Int.sub_zero, tDNewN, tDGetN, tDInN, tDNotInN, sDPutN, sDDelN, rLenN, tBMN, rGet1N, rGet2N, rSetdefN, tDcN, iKeysN, tLock, Option.isSome_none, Option.isSome_some, atI4, atI5])
        refine ⟨⟨_, SqL.of hz⟩, Loop.list zs (fun j σ H' => ∃ (acc : List V) (b5 b8 : Option V), σ = [some (.ref a), some (.int i), some (.ref nl), some (.ref d), some (.ref e), b5, b6, some (.ref p), b8, b9, b10, b11, b12] ∧ H' p = some (.lst acc) ∧ ImAll H' (rrD (dueS g ks.length ((sortN ks).take j))) acc ∧ (∀ b o, H9 b = some o → b ≠ p → H' b = some o) ∧ Same H H')
          ⟨[], b5, b8, rfl, hp9, im_nil, fun b o e _ => e, s09⟩ (fun i σ H' _ ⟨_, _, _, _, _, _, s, _⟩ => SqL.of (s _ _ hz nqp.symm)) ?_ ?_⟩
        · rintro j x σ H1a hx ⟨acc, b5, b8, rfl, hacc, iacc, sb, sH⟩
          have tkb : Tk H9 H1a := fun b xs eb => sb b _ eb (ne_of eb hp9 (by intro z; cases z))
          obtain ⟨t, ht, it⟩ := ims_map (ImAll.mono tkb _ _ iz) hx
          have gna : GN P w H1a d ks vv g := gn9.keep (fun o e => sb _ _ e npd.symm) tkb
          (try simp only [cxOf, Cx.nox, Cx.wish, tSeq, tAsg, tC, gName, tIfS, tTest, tOp, tUn, rU, rI0, rI, tVar, tNext, tRevT, tDNewK, tBreak, tChain, iStr, tRet, tRetN, tDrop, tLst, tTup, tCons, tNil, tCB, tB, tOr, tAnd, tNot, tIf, tCall, tFor_eq, tLc_eq, iRng1, iRng2, iList, iTup, gTup, gTupH, gUnlH, gCons, gNil, gSub, rSetL, rIxL, rIxT, rIxLH, rIxTH, rSlTS, rCatS, rTupS, rIsiH, rLenS, V.ty.injEq, tyS_non, tyS_bl, tyS_int, tyS_str, tyS_ref, tyO_l, tyO_t, tyO_d, tyO_dt, kit_ll, kit_tt, kit_bb, kit_ii, kit_ib, kit_bi, kit_nt, kit_it, kit_st, kit_bt, kit_lt, kit_dt, kit_ni, kit_si, kit_ti, kit_li, kit_di, kit_nb, kit_ns, kit_is, kit_bs, kit_ss, kit_ts, kit_ls, kit_ds, kit_dd, lenS_ref, lenO_l, lenO_t,  rAppend, tM1, rIxS, tSl, tPart, tNoPart, tBM, tBM0, tDGetS, sDPutS, tTruS, truO_l, truO_t, truS_ref, truS_non, truS_bl, truS_int, tFld, sFld, sFldAug, rAdd, tMeth, tProp, tMake, tMakeK, List.take_succ_cons, List.take_zero, List.drop_succ_cons, List.drop_zero, List.take_nil, tIsN, tNotN, tAndV, tOrV, tNotV, putF, List.lookup, List.any_cons, List.any_nil, Sum.inr.injEq, HO.ins.injEq, HO.dK.injEq, eq_self, beq_self_eq_true, beq_iff_eq, decide_true, decide_false, Bool.or_true, Bool.true_or, Bool.or_false, Bool.false_or, tYes, rEq, rNe, _root_.L2.start, wipe, List.map_cons, List.map_nil, List.length_cons, List.length_nil, List.append_nil, Nat.reduceAdd, Nat.reduceSub, List.replicate_succ, List.replicate_zero, List.cons_append, List.nil_append, List.getElem?_cons_zero, List.getElem?_cons_succ, List.set_cons_zero, List.set_cons_succ, Option.some.injEq, V.int.injEq, V.ref.injEq, V.bl.injEq, V.str.injEq, List.cons.injEq, HO.lst.injEq, HO.tup.injEq, and_assoc, and_true, true_and, exists_eq_left, exists_eq_left', exists_and_left, exists_eq, reduceCtorEq, false_and, and_false, or_false, false_or, exists_false, decide_eq_true_eq, CPow, CDivW, Int.reducePow, Int.reduceLT, Int.reduceLE, Int.reduceNeg, Int.reduceToNat, Int.reduceAbs, Nat.reducePow, Nat.reduceLT, Nat.reduceLeDiff, sizeLine_eq, Int.reduceMul, Int.reduceAdd, Int.reduceSub, Bool.not_eq_true', decide_eq_false_iff_not, scal, Bool.not_true, Bool.not_false, Bool.true_eq_false, Bool.false_eq_true, ite_false, ite_true, if_true, if_false, ite_self, forall_const, atI0, atI1, atI2, atI3, ixN20, ixN21, upd_same, upd_upd, Int.zero_add, CMul, Int.reduceSub, Nat.le_refl, Nat.zero_le, or_true, true_or, exists_const, Int.sub_zero, tDNewN, tDGetN, tDInN, tDNotInN, sDPutN, sDDelN, rLenN, tBMN, rGet1N, rGet2N, rSetdefN, tDcN, iKeysN, tLock, Option.isSome_none, Option.isSome_some, atI4, atI5])
          refine ⟨d, ks, vv, g, t, x, rfl, fun H' s => (gna.same s).gr, it, hkl2, fun r rs Hb hr0 hr ir s3 => ?_⟩
          intro z hz3
          unfold rNeD
          have s34 := same_new hz3 (o := .lst [])
          have hr4 := s34 _ _ hr
          have ir4 := Same.ims s34 ir
          have s24 := s3.trans s34
          have hacc4 := s24 _ _ hacc
          have iacc4 := Same.ims s24 iacc
          have it4 := Same.im s24 it
          have sb4 : ∀ b o, H9 b = some o → b ≠ p → upd Hb z (.lst []) b = some o := fun b o e n => s24 _ _ (sb _ _ e n)
          have sH4 := sH.trans s24
          have hj : j < (sortN ks).length := (List.getElem?_eq_some_iff.mp ht).1
          have hil : j ≤ 1300 := by have := (sortN_p ks).length_eq; omega
          have hal := iacc.len
          have hdl := dueS_len g ks.length ((sortN ks).take j)
          rw [rrD, List.length_map] at hal
          rw [List.length_take] at hdl
          refine ⟨.list ((ringS g ks.length t).map tD), .list [], .lst (SqL.of hr4) (ImAll.dp _ _ ir4), .lst (SqL.of upd_same) .nil, ndl_shaped _, rfl, ?_⟩
          generalize upd Hb z (.lst []) = H4 at hr4 ir4 hacc4 iacc4 it4 sb4 sH4
          clear s24 s34 hz3 hr ir s3 hacc iacc it sb sH
          rw [dueS_snoc g ks.length ht]
          cases hR : ringS g ks.length t with
          | nil =>
            rw [show PyData.eqv (.list (([] : List Nd).map tD)) (.list []) = true from rfl, okS_nil hR]
            (try simp only [cxOf, Cx.nox, Cx.wish, tSeq, tAsg, tC, gName, tIfS, tTest, tOp, tUn, rU, rI0, rI, tVar, tNext, tRevT, tDNewK, tBreak, tChain, iStr, tRet, tRetN, tDrop, tLst, tTup, tCons, tNil, tCB, tB, tOr, tAnd, tNot, tIf, tCall, tFor_eq, tLc_eq, iRng1, iRng2, iList, iTup, gTup, gTupH, gUnlH, gCons, gNil, gSub, rSetL, rIxL, rIxT, rIxLH, rIxTH, rSlTS, rCatS, rTupS, rIsiH, rLenS, V.ty.injEq, tyS_non, tyS_bl, tyS_int, tyS_str, tyS_ref, tyO_l, tyO_t, tyO_d, tyO_dt, kit_ll, kit_tt, kit_bb, kit_ii, kit_ib, kit_bi, kit_nt, kit_it, kit_st, kit_bt, kit_lt, kit_dt, kit_ni, kit_si, kit_ti, kit_li, kit_di, kit_nb, kit_ns, kit_is, kit_bs, kit_ss, kit_ts, kit_ls, kit_ds, kit_dd, lenS_ref, lenO_l, lenO_t,  rAppend, tM1, rIxS, tSl, tPart, tNoPart, tBM, tBM0, tDGetS, sDPutS, tTruS, truO_l, truO_t, truS_ref, truS_non, truS_bl, truS_int, tFld, sFld, sFldAug, rAdd, tMeth, tProp, tMake, tMakeK, List.take_succ_cons, List.take_zero, List.drop_succ_cons, List.drop_zero, List.take_nil, tIsN, tNotN, tAndV, tOrV, tNotV, putF, List.lookup, List.any_cons, List.any_nil, Sum.inr.injEq, HO.ins.injEq, HO.dK.injEq, eq_self, beq_self_eq_true, beq_iff_eq, decide_true, decide_false, Bool.or_true, Bool.true_or, Bool.or_false, Bool.false_or, tYes, rEq, rNe, _root_.L2.start, wipe, List.map_cons, List.map_nil, List.length_cons, List.length_nil, List.append_nil, Nat.reduceAdd, Nat.reduceSub, List.replicate_succ, List.replicate_zero, List.cons_append, List.nil_append, List.getElem?_cons_zero, List.getElem?_cons_succ, List.set_cons_zero, List.set_cons_succ, Option.some.injEq, V.int.injEq, V.ref.injEq, V.bl.injEq, V.str.injEq, List.cons.injEq, HO.lst.injEq, HO.tup.injEq, and_assoc, and_true, true_and, exists_eq_left, exists_eq_left', exists_and_left, exists_eq, reduceCtorEq, false_and, and_false, or_false, false_or, exists_false, decide_eq_true_eq, CPow, CDivW, Int.reducePow, Int.reduceLT, Int.reduceLE, Int.reduceNeg, Int.reduceToNat, Int.reduceAbs, Nat.reducePow, Nat.reduceLT, Nat.reduceLeDiff, sizeLine_eq, Int.reduceMul, Int.reduceAdd, Int.reduceSub, Bool.not_eq_true', decide_eq_false_iff_not, scal, Bool.not_true, Bool.not_false, Bool.true_eq_false, Bool.false_eq_true, ite_false, ite_true, if_true, if_false, ite_self, forall_const, atI0, atI1, atI2, atI3, ixN20, ixN21, upd_same, upd_upd, Int.zero_add, CMul, Int.reduceSub, Nat.le_refl, Nat.zero_le, or_true, true_or, exists_const, Int.sub_zero, tDNewN, tDGetN, tDInN, tDNotInN, sDPutN, sDDelN, rLenN, tBMN, rGet1N, rGet2N, rSetdefN, tDcN, iKeysN, tLock, Option.isSome_none, Option.isSome_some, atI4, atI5])
            exact ⟨acc, hacc4, iacc4, sb4, sH4⟩
          | cons r0 rs' =>
            rw [show PyData.eqv (.list ((r0 :: rs').map tD)) (.list []) = false from by simp [PyData.eqv, PyData.eqvAll], okS_cons hR]
            (try simp only [cxOf, Cx.nox, Cx.wish, tSeq, tAsg, tC, gName, tIfS, tTest, tOp, tUn, rU, rI0, rI, tVar, tNext, tRevT, tDNewK, tBreak, tChain, iStr, tRet, tRetN, tDrop, tLst, tTup, tCons, tNil, tCB, tB, tOr, tAnd, tNot, tIf, tCall, tFor_eq, tLc_eq, iRng1, iRng2, iList, iTup, gTup, gTupH, gUnlH, gCons, gNil, gSub, rSetL, rIxL, rIxT, rIxLH, rIxTH, rSlTS, rCatS, rTupS, rIsiH, rLenS, V.ty.injEq, tyS_non, tyS_bl, tyS_int, tyS_str, tyS_ref, tyO_l, tyO_t, tyO_d, tyO_dt, kit_ll, kit_tt, kit_bb, kit_ii, kit_ib, kit_bi, kit_nt, kit_it, kit_st, kit_bt, kit_lt, kit_dt, kit_ni, kit_si, kit_ti, kit_li, kit_di, kit_nb, kit_ns, kit_is, kit_bs, kit_ss, kit_ts, kit_ls, kit_ds, kit_dd, lenS_ref, lenO_l, lenO_t,  rAppend, tM1, rIxS, tSl, tPart, tNoPart, tBM, tBM0, tDGetS, sDPutS, tTruS, truO_l, truO_t, truS_ref, truS_non, truS_bl, truS_int, tFld, sFld, sFldAug, rAdd, tMeth, tProp, tMake, tMakeK, List.take_succ_cons, List.take_zero, List.drop_succ_cons, List.drop_zero, List.take_nil, tIsN, tNotN, tAndV, tOrV, tNotV, putF, List.lookup, List.any_cons, List.any_nil, Sum.inr.injEq, HO.ins.injEq, HO.dK.injEq, eq_self, beq_self_eq_true, beq_iff_eq, decide_true, decide_false, Bool.or_true, Bool.true_or, Bool.or_false, Bool.false_or, tYes, rEq, rNe, _root_.L2.start, wipe, List.map_cons, List.map_nil, List.length_cons, List.length_nil, List.append_nil, Nat.reduceAdd, Nat.reduceSub, List.replicate_succ, List.replicate_zero, List.cons_append, List.nil_append, List.getElem?_cons_zero, List.getElem?_cons_succ, List.set_cons_zero, List.set_cons_succ, Option.some.injEq, V.int.injEq, V.ref.injEq, V.bl.injEq, V.str.injEq, List.cons.injEq, HO.lst.injEq, HO.tup.injEq, and_assoc, and_true, true_and, exists_eq_left, exists_eq_left', exists_and_left, exists_eq, reduceCtorEq, false_and, and_false, or_false, false_or, exists_false, decide_eq_true_eq, CPow, CDivW, Int.reducePow, Int.reduceLT, Int.reduceLE, Int.reduceNeg, Int.reduceToNat, Int.reduceAbs, Nat.reducePow, Nat.reduceLT, Nat.reduceLeDiff, sizeLine_eq, Int.reduceMul, Int.reduceAdd, Int.reduceSub, Bool.not_eq_true', decide_eq_false_iff_not, scal, Bool.not_true, Bool.not_false, Bool.true_eq_false, Bool.false_eq_true, ite_false, ite_true, if_true, if_false, ite_self, forall_const, atI0, atI1, atI2, atI3, ixN20, ixN21, upd_same, upd_upd, Int.zero_add, CMul, Int.reduceSub, Nat.le_refl, Nat.zero_le, or_true, true_or, exists_const, Int.sub_zero, tDNewN, tDGetN, tDInN, tDNotInN, sDPutN, sDDelN, rLenN, tBMN, rGet1N, rGet2N, rSetdefN, tDcN, iKeysN, tLock, Option.isSome_none, Option.isSome_some, atI4, atI5])
            rw [hR] at ir4
            unfold rMaxD
            refine ⟨r, rs, tD r0, rs'.map tD, rfl, hr4, ir4, nds_alikeAll (r0 :: rs'), nds_depth (r0 :: rs'), fun v _ iv => ?_⟩
            obtain ⟨m, em⟩ := maxD_nd r0 rs'
            rw [em] at iv ⊢
            unfold rEqD
            refine ⟨_, _, Im.dp _ _ iv, Im.dp _ _ it4, tD_shaped m, tD_shaped t, ?_⟩
            by_cases e : PyData.eqv (tD m) (tD t) = true
            · rw [e]
              (try simp only [cxOf, Cx.nox, Cx.wish, tSeq, tAsg, tC, gName, tIfS, tTest, tOp, tUn, rU, rI0, rI, tVar, tNext, tRevT, tDNewK, tBreak, tChain, iStr, tRet, tRetN, tDrop, tLst, tTup, tCons, tNil, tCB, tB, tOr, tAnd, tNot, tIf, tCall, tFor_eq, tLc_eq, iRng1, iRng2, iList, iTup, gTup, gTupH, gUnlH, gCons, gNil, gSub, rSetL, rIxL, rIxT, rIxLH, rIxTH, rSlTS, rCatS, rTupS, rIsiH, rLenS, V.ty.injEq, tyS_non, tyS_bl, tyS_int, tyS_str, tyS_ref, tyO_l, tyO_t, tyO_d, tyO_dt, kit_ll, kit_tt, kit_bb, kit_ii, kit_ib, kit_bi, kit_nt, kit_it, kit_st, kit_bt, kit_lt, kit_dt, kit_ni, kit_si, kit_ti, kit_li, kit_di, kit_nb, kit_ns, kit_is, kit_bs, kit_ss, kit_ts, kit_ls, kit_ds, kit_dd, lenS_ref, lenO_l, lenO_t,  rAppend, tM1, rIxS, tSl, tPart, tNoPart, tBM, tBM0, tDGetS, sDPutS, tTruS, truO_l, truO_t, truS_ref, truS_non, truS_bl, truS_int, tFld, sFld, sFldAug, rAdd, tMeth, tProp, tMake, tMakeK, List.take_succ_cons, List.take_zero, List.drop_succ_cons, List.drop_zero, List.take_nil, tIsN, tNotN, tAndV, tOrV, tNotV, putF, List.lookup, List.any_cons, List.any_nil, Sum.inr.injEq, HO.ins.injEq, HO.dK.injEq, eq_self, beq_self_eq_true, beq_iff_eq, decide_true, decide_false, Bool.or_true, Bool.true_or, Bool.or_false, Bool.false_or, tYes, rEq, rNe, _root_.L2.start, wipe, List.map_cons, List.map_nil, List.length_cons, List.length_nil, List.append_nil, Nat.reduceAdd, Nat.reduceSub, List.replicate_succ, List.replicate_zero, List.cons_append, List.nil_append, List.getElem?_cons_zero, List.getElem?_cons_succ, List.set_cons_zero, List.set_cons_succ, Option.some.injEq, V.int.injEq, V.ref.injEq, V.bl.injEq, V.str.injEq, List.cons.injEq, HO.lst.injEq, HO.tup.injEq, and_assoc, and_true, true_and, exists_eq_left, exists_eq_left', exists_and_left, exists_eq, reduceCtorEq, false_and, and_false, or_false, false_or, exists_false, decide_eq_true_eq, CPow, CDivW, Int.reducePow, Int.reduceLT, Int.reduceLE, Int.reduceNeg, Int.reduceToNat, Int.reduceAbs, Nat.reducePow, Nat.reduceLT, Nat.reduceLeDiff, sizeLine_eq, Int.reduceMul, Int.reduceAdd, Int.reduceSub, Bool.not_eq_true', decide_eq_false_iff_not, scal, Bool.not_true, Bool.not_false, Bool.true_eq_false, Bool.false_eq_true, ite_false, ite_true, if_true, if_false, ite_self, forall_const, atI0, atI1, atI2, atI3, ixN20, ixN21, upd_same, upd_upd, Int.zero_add, CMul, Int.reduceSub, Nat.le_refl, Nat.zero_le, or_true, true_or, exists_const, Int.sub_zero, tDNewN, tDGetN, tDInN, tDNotInN, sDPutN, sDDelN, rLenN, tBMN, rGet1N, rGet2N, rSetdefN, tDcN, iKeysN, tLock, Option.isSome_none, Option.isSome_some, atI4, atI5])
              refine ⟨tyL hacc4, rs, .inl hr4, fun l Hd sd hl => ?_⟩
              have haccd := sd _ _ hacc4
              have nlp : l ≠ p := by
                rintro rfl
                rw [haccd] at hl; cases hl
              refine ⟨acc, haccd, by omega, ?_, fun b o e n => get_ne n (sd _ _ (sb4 b o e n)), same_put_new (sH4.trans sd) hp0⟩
              rw [rrD, List.map_append]
              exact ims_app haccd (Same.ims sd iacc4) (im_tup hl (Same.ims sd ir4))
            · rw [eq_false_of_ne_true e]
              (try simp only [cxOf, Cx.nox, Cx.wish, tSeq, tAsg, tC, gName, tIfS, tTest, tOp, tUn, rU, rI0, rI, tVar, tNext, tRevT, tDNewK, tBreak, tChain, iStr, tRet, tRetN, tDrop, tLst, tTup, tCons, tNil, tCB, tB, tOr, tAnd, tNot, tIf, tCall, tFor_eq, tLc_eq, iRng1, iRng2, iList, iTup, gTup, gTupH, gUnlH, gCons, gNil, gSub, rSetL, rIxL, rIxT, rIxLH, rIxTH, rSlTS, rCatS, rTupS, rIsiH, rLenS, V.ty.injEq, tyS_non, tyS_bl, tyS_int, tyS_str, tyS_ref, tyO_l, tyO_t, tyO_d, tyO_dt, kit_ll, kit_tt, kit_bb, kit_ii, kit_ib, kit_bi, kit_nt, kit_it, kit_st, kit_bt, kit_lt, kit_dt, kit_ni, kit_si, kit_ti, kit_li, kit_di, kit_nb, kit_ns, kit_is, kit_bs, kit_ss, kit_ts, kit_ls, kit_ds, kit_dd, lenS_ref, lenO_l, lenO_t,  rAppend, tM1, rIxS, tSl, tPart, tNoPart, tBM, tBM0, tDGetS, sDPutS, tTruS, truO_l, truO_t, truS_ref, truS_non, truS_bl, truS_int, tFld, sFld, sFldAug, rAdd, tMeth, tProp, tMake, tMakeK, List.take_succ_cons, List.take_zero, List.drop_succ_cons, List.drop_zero, List.take_nil, tIsN, tNotN, tAndV, tOrV, tNotV, putF, List.lookup, List.any_cons, List.any_nil, Sum.inr.injEq, HO.ins.injEq, HO.dK.injEq, eq_self, beq_self_eq_true, beq_iff_eq, decide_true, decide_false, Bool.or_true, Bool.true_or, Bool.or_false, Bool.false_or, tYes, rEq, rNe, _root_.L2.start, wipe, List.map_cons, List.map_nil, List.length_cons, List.length_nil, List.append_nil, Nat.reduceAdd, Nat.reduceSub, List.replicate_succ, List.replicate_zero, List.cons_append, List.nil_append, List.getElem?_cons_zero, List.getElem?_cons_succ, List.set_cons_zero, List.set_cons_succ, Option.some.injEq, V.int.injEq, V.ref.injEq, V.bl.injEq, V.str.injEq, List.cons.injEq, HO.lst.injEq, HO.tup.injEq, and_assoc, and_true, true_and, exists_eq_left, exists_eq_left', exists_and_left, exists_eq, reduceCtorEq, false_and, and_false, or_false, false_or, exists_false, decide_eq_true_eq, CPow, CDivW, Int.reducePow, Int.reduceLT, Int.reduceLE, Int.reduceNeg, Int.reduceToNat, Int.reduceAbs, Nat.reducePow, Nat.reduceLT, Nat.reduceLeDiff, sizeLine_eq, Int.reduceMul, Int.reduceAdd, Int.reduceSub, Bool.not_eq_true', decide_eq_false_iff_not, scal, Bool.not_true, Bool.not_false, Bool.true_eq_false, Bool.false_eq_true, ite_false, ite_true, if_true, if_false, ite_self, forall_const, atI0, atI1, atI2, atI3, ixN20, ixN21, upd_same, upd_upd, Int.zero_add, CMul, Int.reduceSub, Nat.le_refl, Nat.zero_le, or_true, true_or, exists_const, Int.sub_zero, tDNewN, tDGetN, tDInN, tDNotInN, sDPutN, sDDelN, rLenN, tBMN, rGet1N, rGet2N, rSetdefN, tDcN, iKeysN, tLock, Option.isSome_none, Option.isSome_some, atI4, atI5])
              exact ⟨acc, hacc4, iacc4, sb4, sH4⟩
        · rintro σ Ha ⟨acc, b5, b8, rfl, hacc, iacc, sb, sH⟩
          rw [show zs.length = (sortN ks).length by rw [hzl, (sortN_p ks).length_eq], List.take_length] at iacc
          have tkb : Tk H9 Ha := fun b xs eb => sb b _ eb (ne_of eb hp9 (by intro z; cases z))
          have gna : GN P w Ha d ks vv g := gn9.keep (fun o e => sb _ _ e npd.symm) tkb
          have gea : GN P w Ha e ks vv g := ge9.keep (fun o e => sb _ _ e npe.symm) tkb
          clear gn9 ge9 s09 hp9 sb tkb hz iz
          (try simp only [cxOf, Cx.nox, Cx.wish, tSeq, tAsg, tC, gName, tIfS, tTest, tOp, tUn, rU, rI0, rI, tVar, tNext, tRevT, tDNewK, tBreak, tChain, iStr, tRet, tRetN, tDrop, tLst, tTup, tCons, tNil, tCB, tB, tOr, tAnd, tNot, tIf, tCall, tFor_eq, tLc_eq, iRng1, iRng2, iList, iTup, gTup, gTupH, gUnlH, gCons, gNil, gSub, rSetL, rIxL, rIxT, rIxLH, rIxTH, rSlTS, rCatS, rTupS, rIsiH, rLenS, V.ty.injEq, tyS_non, tyS_bl, tyS_int, tyS_str, tyS_ref, tyO_l, tyO_t, tyO_d, tyO_dt, kit_ll, kit_tt, kit_bb, kit_ii, kit_ib, kit_bi, kit_nt, kit_it, kit_st, kit_bt, kit_lt, kit_dt, kit_ni, kit_si, kit_ti, kit_li, kit_di, kit_nb, kit_ns, kit_is, kit_bs, kit_ss, kit_ts, kit_ls, kit_ds, kit_dd, lenS_ref, lenO_l, lenO_t,  rAppend, tM1, rIxS, tSl, tPart, tNoPart, tBM, tBM0, tDGetS, sDPutS, tTruS, truO_l, truO_t, truS_ref, truS_non, truS_bl, truS_int, tFld, sFld, sFldAug, rAdd, tMeth, tProp, tMake, tMakeK, List.take_succ_cons, List.take_zero, List.drop_succ_cons, List.drop_zero, List.take_nil, tIsN, tNotN, tAndV, tOrV, tNotV, putF, List.lookup, List.any_cons, List.any_nil, Sum.inr.injEq, HO.ins.injEq, HO.dK.injEq, eq_self, beq_self_eq_true, beq_iff_eq, decide_true, decide_false, Bool.or_true, Bool.true_or, Bool.or_false, Bool.false_or, tYes, rEq, rNe, _root_.L2.start, wipe, List.map_cons, List.map_nil, List.length_cons, List.length_nil, List.append_nil, Nat.reduceAdd, Nat.reduceSub, List.replicate_succ, List.replicate_zero, List.cons_append, List.nil_append, List.getElem?_cons_zero, List.getElem?_cons_succ, List.set_cons_zero, List.set_cons_succ, Option.some.injEq, V.int.injEq, V.ref.injEq, V.bl.injEq, V.str.injEq, List.cons.injEq, HO.lst.injEq, HO.tup.injEq, and_assoc, and_true, true_and, exists_eq_left, exists_eq_left', exists_and_left, exists_eq, reduceCtorEq, false_and, and_false, or_false, false_or, exists_false, decide_eq_true_eq, CPow, CDivW, Int.reducePow, Int.reduceLT, Int.reduceLE, Int.reduceNeg, Int.reduceToNat, Int.reduceAbs, Nat.reducePow, Nat.reduceLT, Nat.reduceLeDiff, sizeLine_eq, Int.reduceMul, Int.reduceAdd, Int.reduceSub, Bool.not_eq_true', decide_eq_false_iff_not, scal, Bool.not_true, Bool.not_false, Bool.true_eq_false, Bool.false_eq_true, ite_false, ite_true, if_true, if_false, ite_self, forall_const, atI0, atI1, atI2, atI3, ixN20, ixN21, upd_same, upd_upd, Int.zero_add, CMul, Int.reduceSub, Nat.le_refl, Nat.zero_le, or_true, true_or, exists_const, Int.sub_zero, tDNewN, tDGetN, tDInN, tDNotInN, sDPutN, sDDelN, rLenN, tBMN, rGet1N, rGet2N, rSetdefN, tDcN, iKeysN, tLock, Option.isSome_none, Option.isSome_some, atI4, atI5])
          refine Loop.range (fun j σ H' => ∃ b9 b10 : Option V, σ = [some (.ref a), some (.int i), some (.ref nl), some (.ref d), some (.ref e), b5, b6, some (.ref p), b8, b9, b10, b11, b12] ∧ Same Ha H') ⟨b9, b10, rfl, Same.refl _⟩ ?_ ?_
          · rintro j σ Hb hj ⟨b9, b10, rfl, sab⟩
            (try simp only [cxOf, Cx.nox, Cx.wish, tSeq, tAsg, tC, gName, tIfS, tTest, tOp, tUn, rU, rI0, rI, tVar, tNext, tRevT, tDNewK, tBreak, tChain, iStr, tRet, tRetN, tDrop, tLst, tTup, tCons, tNil, tCB, tB, tOr, tAnd, tNot, tIf, tCall, tFor_eq, tLc_eq, iRng1, iRng2, iList, iTup, gTup, gTupH, gUnlH, gCons, gNil, gSub, rSetL, rIxL, rIxT, rIxLH, rIxTH, rSlTS, rCatS, rTupS, rIsiH, rLenS, V.ty.injEq, tyS_non, tyS_bl, tyS_int, tyS_str, tyS_ref, tyO_l, tyO_t, tyO_d, tyO_dt, kit_ll, kit_tt, kit_bb, kit_ii, kit_ib, kit_bi, kit_nt, kit_it, kit_st, kit_bt, kit_lt, kit_dt, kit_ni, kit_si, kit_ti, kit_li, kit_di, kit_nb, kit_ns, kit_is, kit_bs, kit_ss, kit_ts, kit_ls, kit_ds, kit_dd, lenS_ref, lenO_l, lenO_t,  rAppend, tM1, rIxS, tSl, tPart, tNoPart, tBM, tBM0, tDGetS, sDPutS, tTruS, truO_l, truO_t, truS_ref, truS_non, truS_bl, truS_int, tFld, sFld, sFldAug, rAdd, tMeth, tProp, tMake, tMakeK, List.take_succ_cons, List.take_zero, List.drop_succ_cons, List.drop_zero, List.take_nil, tIsN, tNotN, tAndV, tOrV, tNotV, putF, List.lookup, List.any_cons, List.any_nil, Sum.inr.injEq, HO.ins.injEq, HO.dK.injEq, eq_self, beq_self_eq_true, beq_iff_eq, decide_true, decide_false, Bool.or_true, Bool.true_or, Bool.or_false, Bool.false_or, tYes, rEq, rNe, _root_.L2.start, wipe, List.map_cons, List.map_nil, List.length_cons, List.length_nil, List.append_nil, Nat.reduceAdd, Nat.reduceSub, List.replicate_succ, List.replicate_zero, List.cons_append, List.nil_append, List.getElem?_cons_zero, List.getElem?_cons_succ, List.set_cons_zero, List.set_cons_succ, Option.some.injEq, V.int.injEq, V.ref.injEq, V.bl.injEq, V.str.injEq, List.cons.injEq, HO.lst.injEq, HO.tup.injEq, and_assoc, and_true, true_and, exists_eq_left, exists_eq_left', exists_and_left, exists_eq, reduceCtorEq, false_and, and_false, or_false, false_or, exists_false, decide_eq_true_eq, CPow, CDivW, Int.reducePow, Int.reduceLT, Int.reduceLE, Int.reduceNeg, Int.reduceToNat, Int.reduceAbs, Nat.reducePow, Nat.reduceLT, Nat.reduceLeDiff, sizeLine_eq, Int.reduceMul, Int.reduceAdd, Int.reduceSub, Bool.not_eq_true', decide_eq_false_iff_not, scal, Bool.not_true, Bool.not_false, Bool.true_eq_false, Bool.false_eq_true, ite_false, ite_true, if_true, if_false, ite_self, forall_const, atI0, atI1, atI2, atI3, ixN20, ixN21, upd_same, upd_upd, Int.zero_add, CMul, Int.reduceSub, Nat.le_refl, Nat.zero_le, or_true, true_or, exists_const, Int.sub_zero, tDNewN, tDGetN, tDInN, tDNotInN, sDPutN, sDDelN, rLenN, tBMN, rGet1N, rGet2N, rSetdefN, tDcN, iKeysN, tLock, Option.isSome_none, Option.isSome_some, atI4, atI5])
            refine ⟨e, ks, vv, g, rfl, fun H' s => (gea.same (sab.trans s)).gr, hkl2, fun f fs Hc hf0 hf jf sc => ?_⟩
            (try simp only [cxOf, Cx.nox, Cx.wish, tSeq, tAsg, tC, gName, tIfS, tTest, tOp, tUn, rU, rI0, rI, tVar, tNext, tRevT, tDNewK, tBreak, tChain, iStr, tRet, tRetN, tDrop, tLst, tTup, tCons, tNil, tCB, tB, tOr, tAnd, tNot, tIf, tCall, tFor_eq, tLc_eq, iRng1, iRng2, iList, iTup, gTup, gTupH, gUnlH, gCons, gNil, gSub, rSetL, rIxL, rIxT, rIxLH, rIxTH, rSlTS, rCatS, rTupS, rIsiH, rLenS, V.ty.injEq, tyS_non, tyS_bl, tyS_int, tyS_str, tyS_ref, tyO_l, tyO_t, tyO_d, tyO_dt, kit_ll, kit_tt, kit_bb, kit_ii, kit_ib, kit_bi, kit_nt, kit_it, kit_st, kit_bt, kit_lt, kit_dt, kit_ni, kit_si, kit_ti, kit_li, kit_di, kit_nb, kit_ns, kit_is, kit_bs, kit_ss, kit_ts, kit_ls, kit_ds, kit_dd, lenS_ref, lenO_l, lenO_t,  rAppend, tM1, rIxS, tSl, tPart, tNoPart, tBM, tBM0, tDGetS, sDPutS, tTruS, truO_l, truO_t, truS_ref, truS_non, truS_bl, truS_int, tFld, sFld, sFldAug, rAdd, tMeth, tProp, tMake, tMakeK, List.take_succ_cons, List.take_zero, List.drop_succ_cons, List.drop_zero, List.take_nil, tIsN, tNotN, tAndV, tOrV, tNotV, putF, List.lookup, List.any_cons, List.any_nil, Sum.inr.injEq, HO.ins.injEq, HO.dK.injEq, eq_self, beq_self_eq_true, beq_iff_eq, decide_true, decide_false, Bool.or_true, Bool.true_or, Bool.or_false, Bool.false_or, tYes, rEq, rNe, _root_.L2.start, wipe, List.map_cons, List.map_nil, List.length_cons, List.length_nil, List.append_nil, Nat.reduceAdd, Nat.reduceSub, List.replicate_succ, List.replicate_zero, List.cons_append, List.nil_append, List.getElem?_cons_zero, List.getElem?_cons_succ, List.set_cons_zero, List.set_cons_succ, Option.some.injEq, V.int.injEq, V.ref.injEq, V.bl.injEq, V.str.injEq, List.cons.injEq, HO.lst.injEq, HO.tup.injEq, and_assoc, and_true, true_and, exists_eq_left, exists_eq_left', exists_and_left, exists_eq, reduceCtorEq, false_and, and_false, or_false, false_or, exists_false, decide_eq_true_eq, CPow, CDivW, Int.reducePow, Int.reduceLT, Int.reduceLE, Int.reduceNeg, Int.reduceToNat, Int.reduceAbs, Nat.reducePow, Nat.reduceLT, Nat.reduceLeDiff, sizeLine_eq, Int.reduceMul, Int.reduceAdd, Int.reduceSub, Bool.not_eq_true', decide_eq_false_iff_not, scal, Bool.not_true, Bool.not_false, Bool.true_eq_false, Bool.false_eq_true, ite_false, ite_true, if_true, if_false, ite_self, forall_const, atI0, atI1, atI2, atI3, ixN20, ixN21, upd_same, upd_upd, Int.zero_add, CMul, Int.reduceSub, Nat.le_refl, Nat.zero_le, or_true, true_or, exists_const, Int.sub_zero, tDNewN, tDGetN, tDInN, tDNotInN, sDPutN, sDDelN, rLenN, tBMN, rGet1N, rGet2N, rSetdefN, tDcN, iKeysN, tLock, Option.isSome_none, Option.isSome_some, atI4, atI5, hf])
            have hacd := sc _ _ (sab _ _ hacc)
            have iacd := Same.ims sc (Same.ims sab iacc)
            have hfl := jf.len
            have hdl := dueS_len g ks.length (sortN ks)
            rw [rrD, List.length_map] at hfl
            rw [(sortN_p ks).length_eq] at hdl
            unfold rNeD
            refine ⟨_, _, .lst (SqL.of hf) (ImAll.dp _ _ jf), .lst (SqL.of hacd) (ImAll.dp _ _ iacd), rrD_shaped _, rrD_shaped _, ?_⟩
            rw [SeqAt.eqv_refl _ (SeqAt.canLay_of_shaped (rrD_shaped (dueS g ks.length (sortN ks))))]
            (try simp only [cxOf, Cx.nox, Cx.wish, tSeq, tAsg, tC, gName, tIfS, tTest, tOp, tUn, rU, rI0, rI, tVar, tNext, tRevT, tDNewK, tBreak, tChain, iStr, tRet, tRetN, tDrop, tLst, tTup, tCons, tNil, tCB, tB, tOr, tAnd, tNot, tIf, tCall, tFor_eq, tLc_eq, iRng1, iRng2, iList, iTup, gTup, gTupH, gUnlH, gCons, gNil, gSub, rSetL, rIxL, rIxT, rIxLH, rIxTH, rSlTS, rCatS, rTupS, rIsiH, rLenS, V.ty.injEq, tyS_non, tyS_bl, tyS_int, tyS_str, tyS_ref, tyO_l, tyO_t, tyO_d, tyO_dt, kit_ll, kit_tt, kit_bb, kit_ii, kit_ib, kit_bi, kit_nt, kit_it, kit_st, kit_bt, kit_lt, kit_dt, kit_ni, kit_si, kit_ti, kit_li, kit_di, kit_nb, kit_ns, kit_is, kit_bs, kit_ss, kit_ts, kit_ls, kit_ds, kit_dd, lenS_ref, lenO_l, lenO_t,  rAppend, tM1, rIxS, tSl, tPart, tNoPart, tBM, tBM0, tDGetS, sDPutS, tTruS, truO_l, truO_t, truS_ref, truS_non, truS_bl, truS_int, tFld, sFld, sFldAug, rAdd, tMeth, tProp, tMake, tMakeK, List.take_succ_cons, List.take_zero, List.drop_succ_cons, List.drop_zero, List.take_nil, tIsN, tNotN, tAndV, tOrV, tNotV, putF, List.lookup, List.any_cons, List.any_nil, Sum.inr.injEq, HO.ins.injEq, HO.dK.injEq, eq_self, beq_self_eq_true, beq_iff_eq, decide_true, decide_false, Bool.or_true, Bool.true_or, Bool.or_false, Bool.false_or, tYes, rEq, rNe, _root_.L2.start, wipe, List.map_cons, List.map_nil, List.length_cons, List.length_nil, List.append_nil, Nat.reduceAdd, Nat.reduceSub, List.replicate_succ, List.replicate_zero, List.cons_append, List.nil_append, List.getElem?_cons_zero, List.getElem?_cons_succ, List.set_cons_zero, List.set_cons_succ, Option.some.injEq, V.int.injEq, V.ref.injEq, V.bl.injEq, V.str.injEq, List.cons.injEq, HO.lst.injEq, HO.tup.injEq, and_assoc, and_true, true_and, exists_eq_left, exists_eq_left', exists_and_left, exists_eq, reduceCtorEq, false_and, and_false, or_false, false_or, exists_false, decide_eq_true_eq, CPow, CDivW, Int.reducePow, Int.reduceLT, Int.reduceLE, Int.reduceNeg, Int.reduceToNat, Int.reduceAbs, Nat.reducePow, Nat.reduceLT, Nat.reduceLeDiff, sizeLine_eq, Int.reduceMul, Int.reduceAdd, Int.reduceSub, Bool.not_eq_true', decide_eq_false_iff_not, scal, Bool.not_true, Bool.not_false, Bool.true_eq_false, Bool.false_eq_true, ite_false, ite_true, if_true, if_false, ite_self, forall_const, atI0, atI1, atI2, atI3, ixN20, ixN21, upd_same, upd_upd, Int.zero_add, CMul, Int.reduceSub, Nat.le_refl, Nat.zero_le, or_true, true_or, exists_const, Int.sub_zero, tDNewN, tDGetN, tDInN, tDNotInN, sDPutN, sDDelN, rLenN, tBMN, rGet1N, rGet2N, rSetdefN, tDcN, iKeysN, tLock, Option.isSome_none, Option.isSome_some, atI4, atI5])
            unfold rNeN
            refine ⟨e, d, _, rfl, rfl, ((gea.same (sab.trans sc)).gr).dr, ((gna.same (sab.trans sc)).gr).dr, (gna.same (sab.trans sc)).gr.ref, ?_⟩
            (try simp only [cxOf, Cx.nox, Cx.wish, tSeq, tAsg, tC, gName, tIfS, tTest, tOp, tUn, rU, rI0, rI, tVar, tNext, tRevT, tDNewK, tBreak, tChain, iStr, tRet, tRetN, tDrop, tLst, tTup, tCons, tNil, tCB, tB, tOr, tAnd, tNot, tIf, tCall, tFor_eq, tLc_eq, iRng1, iRng2, iList, iTup, gTup, gTupH, gUnlH, gCons, gNil, gSub, rSetL, rIxL, rIxT, rIxLH, rIxTH, rSlTS, rCatS, rTupS, rIsiH, rLenS, V.ty.injEq, tyS_non, tyS_bl, tyS_int, tyS_str, tyS_ref, tyO_l, tyO_t, tyO_d, tyO_dt, kit_ll, kit_tt, kit_bb, kit_ii, kit_ib, kit_bi, kit_nt, kit_it, kit_st, kit_bt, kit_lt, kit_dt, kit_ni, kit_si, kit_ti, kit_li, kit_di, kit_nb, kit_ns, kit_is, kit_bs, kit_ss, kit_ts, kit_ls, kit_ds, kit_dd, lenS_ref, lenO_l, lenO_t,  rAppend, tM1, rIxS, tSl, tPart, tNoPart, tBM, tBM0, tDGetS, sDPutS, tTruS, truO_l, truO_t, truS_ref, truS_non, truS_bl, truS_int, tFld, sFld, sFldAug, rAdd, tMeth, tProp, tMake, tMakeK, List.take_succ_cons, List.take_zero, List.drop_succ_cons, List.drop_zero, List.take_nil, tIsN, tNotN, tAndV, tOrV, tNotV, putF, List.lookup, List.any_cons, List.any_nil, Sum.inr.injEq, HO.ins.injEq, HO.dK.injEq, eq_self, beq_self_eq_true, beq_iff_eq, decide_true, decide_false, Bool.or_true, Bool.true_or, Bool.or_false, Bool.false_or, tYes, rEq, rNe, _root_.L2.start, wipe, List.map_cons, List.map_nil, List.length_cons, List.length_nil, List.append_nil, Nat.reduceAdd, Nat.reduceSub, List.replicate_succ, List.replicate_zero, List.cons_append, List.nil_append, List.getElem?_cons_zero, List.getElem?_cons_succ, List.set_cons_zero, List.set_cons_succ, Option.some.injEq, V.int.injEq, V.ref.injEq, V.bl.injEq, V.str.injEq, List.cons.injEq, HO.lst.injEq, HO.tup.injEq, and_assoc, and_true, true_and, exists_eq_left, exists_eq_left', exists_and_left, exists_eq, reduceCtorEq, false_and, and_false, or_false, false_or, exists_false, decide_eq_true_eq, CPow, CDivW, Int.reducePow, Int.reduceLT, Int.reduceLE, Int.reduceNeg, Int.reduceToNat, Int.reduceAbs, Nat.reducePow, Nat.reduceLT, Nat.reduceLeDiff, sizeLine_eq, Int.reduceMul, Int.reduceAdd, Int.reduceSub, Bool.not_eq_true', decide_eq_false_iff_not, scal, Bool.not_true, Bool.not_false, Bool.true_eq_false, Bool.false_eq_true, ite_false, ite_true, if_true, if_false, ite_self, forall_const, atI0, atI1, atI2, atI3, ixN20, ixN21, upd_same, upd_upd, Int.zero_add, CMul, Int.reduceSub, Nat.le_refl, Nat.zero_le, or_true, true_or, exists_const, Int.sub_zero, tDNewN, tDGetN, tDInN, tDNotInN, sDPutN, sDDelN, rLenN, tBMN, rGet1N, rGet2N, rSetdefN, tDcN, iKeysN, tLock, Option.isSome_none, Option.isSome_some, atI4, atI5, hf])
            exact ⟨tyL hf, by omega, same_put_new (sab.trans sc) (Same.non sab hf0)⟩
          · rintro σ Hb ⟨b9, b10, rfl, sab⟩
            exact ⟨sH.trans sab, _, _, _, _, _, _, _, _, _, _, _, _, rfl⟩
    · rintro σ H1 ⟨s1, b1, b2, b3, b4, b5, b6, b7, b8, b9, b10, b11, b12, rfl⟩
      refine cutI (fun σ H' => Same H H' ∧ ∃ b1 b2 b3 b4 b5 b6 b7 b8 b9 b10 b11 b12 : Option V, σ = [some (.ref a), b1, b2, b3, b4, b5, b6, b7, b8, b9, b10, b11, b12]) ?_ ?_
      · (try simp only [cxOf, Cx.nox, Cx.wish, tSeq, tAsg, tC, gName, tIfS, tTest, tOp, tUn, rU, rI0, rI, tVar, tNext, tRevT, tDNewK, tBreak, tChain, iStr, tRet, tRetN, tDrop, tLst, tTup, tCons, tNil, tCB, tB, tOr, tAnd, tNot, tIf, tCall, tFor_eq, tLc_eq, iRng1, iRng2, iList, iTup, gTup, gTupH, gUnlH, gCons, gNil, gSub, rSetL, rIxL, rIxT, rIxLH, rIxTH, rSlTS, rCatS, rTupS, rIsiH, rLenS, V.ty.injEq, tyS_non, tyS_bl, tyS_int, tyS_str, tyS_ref, tyO_l, tyO_t, tyO_d, tyO_dt, kit_ll, kit_tt, kit_bb, kit_ii, kit_ib, kit_bi, kit_nt, kit_it, kit_st, kit_bt, kit_lt, kit_dt, kit_ni, kit_si, kit_ti, kit_li, kit_di, kit_nb, kit_ns, kit_is, kit_bs, kit_ss, kit_ts, kit_ls, kit_ds, kit_dd, lenS_ref, lenO_l, lenO_t,  rAppend, tM1, rIxS, tSl, tPart, tNoPart, tBM, tBM0, tDGetS, sDPutS, tTruS, truO_l, truO_t, truS_ref, truS_non, truS_bl, truS_int, tFld, sFld, sFldAug, rAdd, tMeth, tProp, tMake, tMakeK, List.take_succ_cons, List.take_zero, List.drop_succ_cons, List.drop_zero, List.take_nil, tIsN, tNotN, tAndV, tOrV, tNotV, putF, List.lookup, List.any_cons, List.any_nil, Sum.inr.injEq, HO.ins.injEq, HO.dK.injEq, eq_self, beq_self_eq_true, beq_iff_eq, decide_true, decide_false, Bool.or_true, Bool.true_or, Bool.or_false, Bool.false_or, tYes, rEq, rNe, _root_.L2.start, wipe, List.map_cons, List.map_nil, List.length_cons, List.length_nil, List.append_nil, Nat.reduceAdd, Nat.reduceSub, List.replicate_succ, List.replicate_zero, List.cons_append, List.nil_append, List.getElem?_cons_zero, List.getElem?_cons_succ, List.set_cons_zero, List.set_cons_succ, Option.some.injEq, V.int.injEq, V.ref.injEq, V.bl.injEq, V.str.injEq, List.cons.injEq, HO.lst.injEq, HO.tup.injEq, and_assoc, and_true, true_and, exists_eq_left, exists_eq_left', exists_and_left, exists_eq, reduceCtorEq, false_and, and_false, or_false, false_or, exists_false, decide_eq_true_eq, CPow, CDivW, Int.reducePow, Int.reduceLT, Int.reduceLE, Int.reduceNeg, Int.reduceToNat, Int.reduceAbs, Nat.reducePow, Nat.reduceLT, Nat.reduceLeDiff, sizeLine_eq, Int.reduceMul, Int.reduceAdd, Int.reduceSub, Bool.not_eq_true', decide_eq_false_iff_not, scal, Bool.not_true, Bool.not_false, Bool.true_eq_false, Bool.false_eq_true, ite_false, ite_true, if_true, if_false, ite_self, forall_const, atI0, atI1, atI2, atI3, ixN20, ixN21, upd_same, upd_upd, Int.zero_add, CMul, Int.reduceSub, Nat.le_refl, Nat.zero_le, or_true, true_or, exists_const, Int.sub_zero, tDNewN, tDGetN, tDInN, tDNotInN, sDPutN, sDDelN, rLenN, tBMN, rGet1N, rGet2N, rSetdefN, tDcN, iKeysN, tLock, Option.isSome_none, Option.isSome_some, atI4, atI5, sp_law_stream])
        refine ⟨ns.length, .inl ⟨_, s1.seq hS, by simp⟩, ?_⟩
        by_cases h0 : (0 : Int) < (ns.length : Int)
        · rw [if_pos h0]
          have hx : (ns.map V.int)[0]? = some (.int ns[0]) := by
            have : 0 < ns.length := by omega
            simp [this]
          refine ⟨_, s1.seq hS, _, atI_nat hx, ns[0], rfl, fun s0 H2 hs0 st2 s2 _ => ?_⟩
          (try simp only [cxOf, Cx.nox, Cx.wish, tSeq, tAsg, tC, gName, tIfS, tTest, tOp, tUn, rU, rI0, rI, tVar, tNext, tRevT, tDNewK, tBreak, tChain, iStr, tRet, tRetN, tDrop, tLst, tTup, tCons, tNil, tCB, tB, tOr, tAnd, tNot, tIf, tCall, tFor_eq, tLc_eq, iRng1, iRng2, iList, iTup, gTup, gTupH, gUnlH, gCons, gNil, gSub, rSetL, rIxL, rIxT, rIxLH, rIxTH, rSlTS, rCatS, rTupS, rIsiH, rLenS, V.ty.injEq, tyS_non, tyS_bl, tyS_int, tyS_str, tyS_ref, tyO_l, tyO_t, tyO_d, tyO_dt, kit_ll, kit_tt, kit_bb, kit_ii, kit_ib, kit_bi, kit_nt, kit_it, kit_st, kit_bt, kit_lt, kit_dt, kit_ni, kit_si, kit_ti, kit_li, kit_di, kit_nb, kit_ns, kit_is, kit_bs, kit_ss, kit_ts, kit_ls, kit_ds, kit_dd, lenS_ref, lenO_l, lenO_t,  rAppend, tM1, rIxS, tSl, tPart, tNoPart, tBM, tBM0, tDGetS, sDPutS, tTruS, truO_l, truO_t, truS_ref, truS_non, truS_bl, truS_int, tFld, sFld, sFldAug, rAdd, tMeth, tProp, tMake, tMakeK, List.take_succ_cons, List.take_zero, List.drop_succ_cons, List.drop_zero, List.take_nil, tIsN, tNotN, tAndV, tOrV, tNotV, putF, List.lookup, List.any_cons, List.any_nil, Sum.inr.injEq, HO.ins.injEq, HO.dK.injEq, eq_self, beq_self_eq_true, beq_iff_eq, decide_true, decide_false, Bool.or_true, Bool.true_or, Bool.or_false, Bool.false_or, tYes, rEq, rNe, _root_.L2.start, wipe, List.map_cons, List.map_nil, List.length_cons, List.length_nil, List.append_nil, Nat.reduceAdd, Nat.reduceSub, List.replicate_succ, List.replicate_zero, List.cons_append, List.nil_append, List.getElem?_cons_zero, List.getElem?_cons_succ, List.set_cons_zero, List.set_cons_succ, Option.some.injEq, V.int.injEq, V.ref.injEq, V.bl.injEq, V.str.injEq, List.cons.injEq, HO.lst.injEq, HO.tup.injEq, and_assoc, and_true, true_and, exists_eq_left, exists_eq_left', exists_and_left, exists_eq, reduceCtorEq, false_and, and_false, or_false, false_or, exists_false, decide_eq_true_eq, CPow, CDivW, Int.reducePow, Int.reduceLT, Int.reduceLE, Int.reduceNeg, Int.reduceToNat, Int.reduceAbs, Nat.reducePow, Nat.reduceLT, Nat.reduceLeDiff, sizeLine_eq, Int.reduceMul, Int.reduceAdd, Int.reduceSub, Bool.not_eq_true', decide_eq_false_iff_not, scal, Bool.not_true, Bool.not_false, Bool.true_eq_false, Bool.false_eq_true, ite_false, ite_true, if_true, if_false, ite_self, forall_const, atI0, atI1, atI2, atI3, ixN20, ixN21, upd_same, upd_upd, Int.zero_add, CMul, Int.reduceSub, Nat.le_refl, Nat.zero_le, or_true, true_or, exists_const, Int.sub_zero, tDNewN, tDGetN, tDInN, tDNotInN, sDPutN, sDDelN, rLenN, tBMN, rGet1N, rGet2N, rSetdefN, tDcN, iKeysN, tLock, Option.isSome_none, Option.isSome_some, atI4, atI5, sp_law_next])
          refine ⟨st2, fun v H3 v0 v1 g3 => ?_⟩
          have hs00 : H s0 = none := Same.non s1 hs0
          have s3 : Same H H3 := fun b o e => g3.but b o (s2 _ _ (s1 _ _ e)) (ne_of_none e hs00)
          clear g3 s2 st2 hs0 hs00
          by_cases hv : v = 0
          · rw [if_pos hv]
            (try simp only [cxOf, Cx.nox, Cx.wish, tSeq, tAsg, tC, gName, tIfS, tTest, tOp, tUn, rU, rI0, rI, tVar, tNext, tRevT, tDNewK, tBreak, tChain, iStr, tRet, tRetN, tDrop, tLst, tTup, tCons, tNil, tCB, tB, tOr, tAnd, tNot, tIf, tCall, tFor_eq, tLc_eq, iRng1, iRng2, iList, iTup, gTup, gTupH, gUnlH, gCons, gNil, gSub, rSetL, rIxL, rIxT, rIxLH, rIxTH, rSlTS, rCatS, rTupS, rIsiH, rLenS, V.ty.injEq, tyS_non, tyS_bl, tyS_int, tyS_str, tyS_ref, tyO_l, tyO_t, tyO_d, tyO_dt, kit_ll, kit_tt, kit_bb, kit_ii, kit_ib, kit_bi, kit_nt, kit_it, kit_st, kit_bt, kit_lt, kit_dt, kit_ni, kit_si, kit_ti, kit_li, kit_di, kit_nb, kit_ns, kit_is, kit_bs, kit_ss, kit_ts, kit_ls, kit_ds, kit_dd, lenS_ref, lenO_l, lenO_t,  rAppend, tM1, rIxS, tSl, tPart, tNoPart, tBM, tBM0, tDGetS, sDPutS, tTruS, truO_l, truO_t, truS_ref, truS_non, truS_bl, truS_int, tFld, sFld, sFldAug, rAdd, tMeth, tProp, tMake, tMakeK, List.take_succ_cons, List.take_zero, List.drop_succ_cons, List.drop_zero, List.take_nil, tIsN, tNotN, tAndV, tOrV, tNotV, putF, List.lookup, List.any_cons, List.any_nil, Sum.inr.injEq, HO.ins.injEq, HO.dK.injEq, eq_self, beq_self_eq_true, beq_iff_eq, decide_true, decide_false, Bool.or_true, Bool.true_or, Bool.or_false, Bool.false_or, tYes, rEq, rNe, _root_.L2.start, wipe, List.map_cons, List.map_nil, List.length_cons, List.length_nil, List.append_nil, Nat.reduceAdd, Nat.reduceSub, List.replicate_succ, List.replicate_zero, List.cons_append, List.nil_append, List.getElem?_cons_zero, List.getElem?_cons_succ, List.set_cons_zero, List.set_cons_succ, Option.some.injEq, V.int.injEq, V.ref.injEq, V.bl.injEq, V.str.injEq, List.cons.injEq, HO.lst.injEq, HO.tup.injEq, and_assoc, and_true, true_and, exists_eq_left, exists_eq_left', exists_and_left, exists_eq, reduceCtorEq, false_and, and_false, or_false, false_or, exists_false, decide_eq_true_eq, CPow, CDivW, Int.reducePow, Int.reduceLT, Int.reduceLE, Int.reduceNeg, Int.reduceToNat, Int.reduceAbs, Nat.reducePow, Nat.reduceLT, Nat.reduceLeDiff, sizeLine_eq, Int.reduceMul, Int.reduceAdd, Int.reduceSub, Bool.not_eq_true', decide_eq_false_iff_not, scal, Bool.not_true, Bool.not_false, Bool.true_eq_false, Bool.false_eq_true, ite_false, ite_true, if_true, if_false, ite_self, forall_const, atI0, atI1, atI2, atI3, ixN20, ixN21, upd_same, upd_upd, Int.zero_add, CMul, Int.reduceSub, Nat.le_refl, Nat.zero_le, or_true, true_or, exists_const, Int.sub_zero, tDNewN, tDGetN, tDInN, tDNotInN, sDPutN, sDDelN, rLenN, tBMN, rGet1N, rGet2N, rSetdefN, tDcN, iKeysN, tLock, Option.isSome_none, Option.isSome_some, atI4, atI5])
            intro e he
            refine Loop.range (fun i σ H' => ∃ (ks : List Nd) (vv : Nd → V) (g : Nd → Option Nd) (b12 : Option V), σ = [some (.ref a), b1, b2, b3, b4, b5, b6, b7, b8, b9, b10, some (.ref e), b12] ∧ GN P w H' e ks vv g ∧ ks.length ≤ i ∧ Same H3 H')
              ⟨[], _, _, b12, rfl, GN.new, by simp, same_new he⟩ ?_ ?_
            · rintro i σ H4 hi ⟨ks, vv, g, b12, rfl, ge, hkl, s4⟩
              (try simp only [cxOf, Cx.nox, Cx.wish, tSeq, tAsg, tC, gName, tIfS, tTest, tOp, tUn, rU, rI0, rI, tVar, tNext, tRevT, tDNewK, tBreak, tChain, iStr, tRet, tRetN, tDrop, tLst, tTup, tCons, tNil, tCB, tB, tOr, tAnd, tNot, tIf, tCall, tFor_eq, tLc_eq, iRng1, iRng2, iList, iTup, gTup, gTupH, gUnlH, gCons, gNil, gSub, rSetL, rIxL, rIxT, rIxLH, rIxTH, rSlTS, rCatS, rTupS, rIsiH, rLenS, V.ty.injEq, tyS_non, tyS_bl, tyS_int, tyS_str, tyS_ref, tyO_l, tyO_t, tyO_d, tyO_dt, kit_ll, kit_tt, kit_bb, kit_ii, kit_ib, kit_bi, kit_nt, kit_it, kit_st, kit_bt, kit_lt, kit_dt, kit_ni, kit_si, kit_ti, kit_li, kit_di, kit_nb, kit_ns, kit_is, kit_bs, kit_ss, kit_ts, kit_ls, kit_ds, kit_dd, lenS_ref, lenO_l, lenO_t,  rAppend, tM1, rIxS, tSl, tPart, tNoPart, tBM, tBM0, tDGetS, sDPutS, tTruS, truO_l, truO_t, truS_ref, truS_non, truS_bl, truS_int, tFld, sFld, sFldAug, rAdd, tMeth, tProp, tMake, tMakeK, List.take_succ_cons, List.take_zero, List.drop_succ_cons, List.drop_zero, List.take_nil, tIsN, tNotN, tAndV, tOrV, tNotV, putF, List.lookup, List.any_cons, List.any_nil, Sum.inr.injEq, HO.ins.injEq, HO.dK.injEq, eq_self, beq_self_eq_true, beq_iff_eq, decide_true, decide_false, Bool.or_true, Bool.true_or, Bool.or_false, Bool.false_or, tYes, rEq, rNe, _root_.L2.start, wipe, List.map_cons, List.map_nil, List.length_cons, List.length_nil, List.append_nil, Nat.reduceAdd, Nat.reduceSub, List.replicate_succ, List.replicate_zero, List.cons_append, List.nil_append, List.getElem?_cons_zero, List.getElem?_cons_succ, List.set_cons_zero, List.set_cons_succ, Option.some.injEq, V.int.injEq, V.ref.injEq, V.bl.injEq, V.str.injEq, List.cons.injEq, HO.lst.injEq, HO.tup.injEq, and_assoc, and_true, true_and, exists_eq_left, exists_eq_left', exists_and_left, exists_eq, reduceCtorEq, false_and, and_false, or_false, false_or, exists_false, decide_eq_true_eq, CPow, CDivW, Int.reducePow, Int.reduceLT, Int.reduceLE, Int.reduceNeg, Int.reduceToNat, Int.reduceAbs, Nat.reducePow, Nat.reduceLT, Nat.reduceLeDiff, sizeLine_eq, Int.reduceMul, Int.reduceAdd, Int.reduceSub, Bool.not_eq_true', decide_eq_false_iff_not, scal, Bool.not_true, Bool.not_false, Bool.true_eq_false, Bool.false_eq_true, ite_false, ite_true, if_true, if_false, ite_self, forall_const, atI0, atI1, atI2, atI3, ixN20, ixN21, upd_same, upd_upd, Int.zero_add, CMul, Int.reduceSub, Nat.le_refl, Nat.zero_le, or_true, true_or, exists_const, Int.sub_zero, tDNewN, tDGetN, tDInN, tDNotInN, sDPutN, sDDelN, rLenN, tBMN, rGet1N, rGet2N, rSetdefN, tDcN, iKeysN, tLock, Option.isSome_none, Option.isSome_some, atI4, atI5])
              intro q hq r hr
              have s5 := (same_new hq (o := .tup [V.int (1 + ((i : Int) + 7) % 1200), V.int 0])).trans (same_new hr (o := .tup [V.int (1 + (i : Int)), V.int 0]))
              have ge5 := ge.same s5
              have iq : Im (upd (upd H4 q (.tup [V.int (1 + ((i : Int) + 7) % 1200), V.int 0])) r (.tup [V.int (1 + (i : Int)), V.int 0])) (tD (1 + ((i : Int) + 7) % 1200, 0)) (.ref q) := imNew hr (im_tupNew hq (im_cons im_int (im_cons im_int im_nil)))
              have ir : Im (upd (upd H4 q (.tup [V.int (1 + ((i : Int) + 7) % 1200), V.int 0])) r (.tup [V.int (1 + (i : Int)), V.int 0])) (tD (1 + (i : Int), 0)) (.ref r) := im_tupNew hr (im_cons im_int (im_cons im_int im_nil))
              have hkl' : ((ks.map fun k => (tD k, vv k)).length) = ks.length := by rw [List.length_map]
              refine ⟨tD (1 + (i : Int), 0), _, ge5.dn, tD_ky _, ir, by omega, fun o dn => ?_⟩
              refine ⟨addK ks _, _, _, ge5.put _ iq o dn, ?_, same_put_new (s4.trans s5) he⟩
              have := addK_len ks (1 + (i : Int), 0); omega
            · rintro σ H4 ⟨ks, vv, g, b12, rfl, ge, hkl, s4⟩
              have hkl2 : ks.length ≤ 1300 := by have := hkl; omega
              (try simp only [cxOf, Cx.nox, Cx.wish, tSeq, tAsg, tC, gName, tIfS, tTest, tOp, tUn, rU, rI0, rI, tVar, tNext, tRevT, tDNewK, tBreak, tChain, iStr, tRet, tRetN, tDrop, tLst, tTup, tCons, tNil, tCB, tB, tOr, tAnd, tNot, tIf, tCall, tFor_eq, tLc_eq, iRng1, iRng2, iList, iTup, gTup, gTupH, gUnlH, gCons, gNil, gSub, rSetL, rIxL, rIxT, rIxLH, rIxTH, rSlTS, rCatS, rTupS, rIsiH, rLenS, V.ty.injEq, tyS_non, tyS_bl, tyS_int, tyS_str, tyS_ref, tyO_l, tyO_t, tyO_d, tyO_dt, kit_ll, kit_tt, kit_bb, kit_ii, kit_ib, kit_bi, kit_nt, kit_it, kit_st, kit_bt, kit_lt, kit_dt, kit_ni, kit_si, kit_ti, kit_li, kit_di, kit_nb, kit_ns, kit_is, kit_bs, kit_ss, kit_ts, kit_ls, kit_ds, kit_dd, lenS_ref, lenO_l, lenO_t,  rAppend, tM1, rIxS, tSl, tPart, tNoPart, tBM, tBM0, tDGetS, sDPutS, tTruS, truO_l, truO_t, truS_ref, truS_non, truS_bl, truS_int, tFld, sFld, sFldAug, rAdd, tMeth, tProp, tMake, tMakeK, List.take_succ_cons, List.take_zero, List.drop_succ_cons, List.drop_zero, List.take_nil, tIsN, tNotN, tAndV, tOrV, tNotV, putF, List.lookup, List.any_cons, List.any_nil, Sum.inr.injEq, HO.ins.injEq, HO.dK.injEq, eq_self, beq_self_eq_true, beq_iff_eq, decide_true, decide_false, Bool.or_true, Bool.true_or, Bool.or_false, Bool.false_or, tYes, rEq, rNe, _root_.L2.start, wipe, List.map_cons, List.map_nil, List.length_cons, List.length_nil, List.append_nil, Nat.reduceAdd, Nat.reduceSub, List.replicate_succ, List.replicate_zero, List.cons_append, List.nil_append, List.getElem?_cons_zero, List.getElem?_cons_succ, List.set_cons_zero, List.set_cons_succ, Option.some.injEq, V.int.injEq, V.ref.injEq, V.bl.injEq, V.str.injEq, List.cons.injEq, HO.lst.injEq, HO.tup.injEq, and_assoc, and_true, true_and, exists_eq_left, exists_eq_left', exists_and_left, exists_eq, reduceCtorEq, false_and, and_false, or_false, false_or, exists_false, decide_eq_true_eq, CPow, CDivW, Int.reducePow, Int.reduceLT, Int.reduceLE, Int.reduceNeg, Int.reduceToNat, Int.reduceAbs, Nat.reducePow, Nat.reduceLT, Nat.reduceLeDiff, sizeLine_eq, Int.reduceMul, Int.reduceAdd, Int.reduceSub, Bool.not_eq_true', decide_eq_false_iff_not, scal, Bool.not_true, Bool.not_false, Bool.true_eq_false, Bool.false_eq_true, ite_false, ite_true, if_true, if_false, ite_self, forall_const, atI0, atI1, atI2, atI3, ixN20, ixN21, upd_same, upd_upd, Int.zero_add, CMul, Int.reduceSub, Nat.le_refl, Nat.zero_le, or_true, true_or, exists_const, Int.sub_zero, tDNewN, tDGetN, tDInN, tDNotInN, sDPutN, sDDelN, rLenN, tBMN, rGet1N, rGet2N, rSetdefN, tDcN, iKeysN, tLock, Option.isSome_none, Option.isSome_some, atI4, atI5])
              intro q hq
              have sq := same_new hq (o := .tup [V.int 5, V.int 0])
              refine ⟨e, ks, vv, g, (5, 0), _, rfl, fun H' s => (ge.same (sq.trans s)).gr, im_tupNew hq (im_cons im_int (im_cons im_int im_nil)), hkl2, fun r rs H5 hr ir s5 => ?_⟩
              intro q2 hq2
              have sq2 := same_new hq2 (o := .tup [V.int 5, V.int 0])
              refine ⟨e, ks, vv, g, (5, 0), _, rfl, fun H' s => (ge.same ((sq.trans s5).trans (sq2.trans s))).gr, im_tupNew hq2 (im_cons im_int (im_cons im_int im_nil)), hkl2, fun z zs H6 _ hz iz s6 => ?_⟩
              refine ⟨z, rfl, zs, .inl hz, fun l Ha sa hl => ?_⟩
              unfold rNeD
              refine ⟨_, _, Im.dp _ _ (im_tup (sa _ _ (s6 _ _ (sq2 _ _ hr))) (Same.ims sa (Same.ims s6 (Same.ims sq2 ir)))), Im.dp _ _ (im_tup hl (Same.ims sa iz)), nds_shaped _, nds_shaped _, ?_⟩
              rw [SeqAt.eqv_refl _ (SeqAt.canLay_of_shaped (nds_shaped (ringS g ks.length (5, 0))))]
              (try simp only [cxOf, Cx.nox, Cx.wish, tSeq, tAsg, tC, gName, tIfS, tTest, tOp, tUn, rU, rI0, rI, tVar, tNext, tRevT, tDNewK, tBreak, tChain, iStr, tRet, tRetN, tDrop, tLst, tTup, tCons, tNil, tCB, tB, tOr, tAnd, tNot, tIf, tCall, tFor_eq, tLc_eq, iRng1, iRng2, iList, iTup, gTup, gTupH, gUnlH, gCons, gNil, gSub, rSetL, rIxL, rIxT, rIxLH, rIxTH, rSlTS, rCatS, rTupS, rIsiH, rLenS, V.ty.injEq, tyS_non, tyS_bl, tyS_int, tyS_str, tyS_ref, tyO_l, tyO_t, tyO_d, tyO_dt, kit_ll, kit_tt, kit_bb, kit_ii, kit_ib, kit_bi, kit_nt, kit_it, kit_st, kit_bt, kit_lt, kit_dt, kit_ni, kit_si, kit_ti, kit_li, kit_di, kit_nb, kit_ns, kit_is, kit_bs, kit_ss, kit_ts, kit_ls, kit_ds, kit_dd, lenS_ref, lenO_l, lenO_t,  rAppend, tM1, rIxS, tSl, tPart, tNoPart, tBM, tBM0, tDGetS, sDPutS, tTruS, truO_l, truO_t, truS_ref, truS_non, truS_bl, truS_int, tFld, sFld, sFldAug, rAdd, tMeth, tProp, tMake, tMakeK, List.take_succ_cons, List.take_zero, List.drop_succ_cons, List.drop_zero, List.take_nil, tIsN, tNotN, tAndV, tOrV, tNotV, putF, List.lookup, List.any_cons, List.any_nil, Sum.inr.injEq, HO.ins.injEq, HO.dK.injEq, eq_self, beq_self_eq_true, beq_iff_eq, decide_true, decide_false, Bool.or_true, Bool.true_or, Bool.or_false, Bool.false_or, tYes, rEq, rNe, _root_.L2.start, wipe, List.map_cons, List.map_nil, List.length_cons, List.length_nil, List.append_nil, Nat.reduceAdd, Nat.reduceSub, List.replicate_succ, List.replicate_zero, List.cons_append, List.nil_append, List.getElem?_cons_zero, List.getElem?_cons_succ, List.set_cons_zero, List.set_cons_succ, Option.some.injEq, V.int.injEq, V.ref.injEq, V.bl.injEq, V.str.injEq, List.cons.injEq, HO.lst.injEq, HO.tup.injEq, and_assoc, and_true, true_and, exists_eq_left, exists_eq_left', exists_and_left, exists_eq, reduceCtorEq, false_and, and_false, or_false, false_or, exists_false, decide_eq_true_eq, CPow, CDivW, Int.reducePow, Int.reduceLT, Int.reduceLE, Int.reduceNeg, Int.reduceToNat, Int.reduceAbs, Nat.reducePow, Nat.reduceLT, Nat.reduceLeDiff, sizeLine_eq, Int.reduceMul, Int.reduceAdd, Int.reduceSub, Bool.not_eq_true', decide_eq_false_iff_not, scal, Bool.not_true, Bool.not_false, Bool.true_eq_false, Bool.false_eq_true, ite_false, ite_true, if_true, if_false, ite_self, forall_const, atI0, atI1, atI2, atI3, ixN20, ixN21, upd_same, upd_upd, Int.zero_add, CMul, Int.reduceSub, Nat.le_refl, Nat.zero_le, or_true, true_or, exists_const, Int.sub_zero, tDNewN, tDGetN, tDInN, tDNotInN, sDPutN, sDDelN, rLenN, tBMN, rGet1N, rGet2N, rSetdefN, tDcN, iKeysN, tLock, Option.isSome_none, Option.isSome_some, atI4, atI5])
              exact ⟨((s3.trans s4).trans (sq.trans s5)).trans ((sq2.trans s6).trans sa), _, rfl⟩
          · rw [if_neg hv]
            exact ⟨s3, _, rfl⟩
        · rw [if_neg h0]
          exact ⟨s1, _, rfl⟩
      · clear s1 b1 b2 b3 b4 b5 b6 b7 b8 b9 b10 b11 b12 H1
        rintro σ H1 ⟨s1, b1, b2, b3, b4, b5, b6, b7, b8, b9, b10, b11, b12, rfl⟩
        (try simp only [cxOf, Cx.nox, Cx.wish, tSeq, tAsg, tC, gName, tIfS, tTest, tOp, tUn, rU, rI0, rI, tVar, tNext, tRevT, tDNewK, tBreak, tChain, iStr, tRet, tRetN, tDrop, tLst, tTup, tCons, tNil, tCB, tB, tOr, tAnd, tNot, tIf, tCall, tFor_eq, tLc_eq, iRng1, iRng2, iList, iTup, gTup, gTupH, gUnlH, gCons, gNil, gSub, rSetL, rIxL, rIxT, rIxLH, rIxTH, rSlTS, rCatS, rTupS, rIsiH, rLenS, V.ty.injEq, tyS_non, tyS_bl, tyS_int, tyS_str, tyS_ref, tyO_l, tyO_t, tyO_d, tyO_dt, kit_ll, kit_tt, kit_bb, kit_ii, kit_ib, kit_bi, kit_nt, kit_it, kit_st, kit_bt, kit_lt, kit_dt, kit_ni, kit_si, kit_ti, kit_li, kit_di, kit_nb, kit_ns, kit_is, kit_bs, kit_ss, kit_ts, kit_ls, kit_ds, kit_dd, lenS_ref, lenO_l, lenO_t,  rAppend, tM1, rIxS, tSl, tPart, tNoPart, tBM, tBM0, tDGetS, sDPutS, tTruS, truO_l, truO_t, truS_ref, truS_non, truS_bl, truS_int, tFld, sFld, sFldAug, rAdd, tMeth, tProp, tMake, tMakeK, List.take_succ_cons, List.take_zero, List.drop_succ_cons, List.drop_zero, List.take_nil, tIsN, tNotN, tAndV, tOrV, tNotV, putF, List.lookup, List.any_cons, List.any_nil, Sum.inr.injEq, HO.ins.injEq, HO.dK.injEq, eq_self, beq_self_eq_true, beq_iff_eq, decide_true, decide_false, Bool.or_true, Bool.true_or, Bool.or_false, Bool.false_or, tYes, rEq, rNe, _root_.L2.start, wipe, List.map_cons, List.map_nil, List.length_cons, List.length_nil, List.append_nil, Nat.reduceAdd, Nat.reduceSub, List.replicate_succ, List.replicate_zero, List.cons_append, List.nil_append, List.getElem?_cons_zero, List.getElem?_cons_succ, List.set_cons_zero, List.set_cons_succ, Option.some.injEq, V.int.injEq, V.ref.injEq, V.bl.injEq, V.str.injEq, List.cons.injEq, HO.lst.injEq, HO.tup.injEq, and_assoc, and_true, true_and, exists_eq_left, exists_eq_left', exists_and_left, exists_eq, reduceCtorEq, false_and, and_false, or_false, false_or, exists_false, decide_eq_true_eq, CPow, CDivW, Int.reducePow, Int.reduceLT, Int.reduceLE, Int.reduceNeg, Int.reduceToNat, Int.reduceAbs, Nat.reducePow, Nat.reduceLT, Nat.reduceLeDiff, sizeLine_eq, Int.reduceMul, Int.reduceAdd, Int.reduceSub, Bool.not_eq_true', decide_eq_false_iff_not, scal, Bool.not_true, Bool.not_false, Bool.true_eq_false, Bool.false_eq_true, ite_false, ite_true, if_true, if_false, ite_self, forall_const, atI0, atI1, atI2, atI3, ixN20, ixN21, upd_same, upd_upd, Int.zero_add, CMul, Int.reduceSub, Nat.le_refl, Nat.zero_le, or_true, true_or, exists_const, Int.sub_zero, tDNewN, tDGetN, tDInN, tDNotInN, sDPutN, sDDelN, rLenN, tBMN, rGet1N, rGet2N, rSetdefN, tDcN, iKeysN, tLock, Option.isSome_none, Option.isSome_some, atI4, atI5])
        intro e he
        have ge := GN.new (P := P) (w := w) (H := H1) (p := e)
        refine ⟨e, [], _, _, rfl, fun H' s => (ge.same s).gr, by simp, fun q zs H2 hq hz iz s2 => ?_⟩
        intro r hr
        unfold rEqD
        refine ⟨_, .list [], .lst (SqL.of (get_new hr hz)) (ImAll.dp _ _ (imsNew hr iz)), .lst (SqL.of upd_same) .nil, rrD_shaped _, rfl, ?_⟩
        have e0 : dueS (fun _ => none) ([] : List Nd).length (sortN []) = [] := by
          have := dueS_len (fun _ => none) ([] : List Nd).length (sortN [])
          rw [(sortN_p []).length_eq] at this
          exact List.length_eq_zero_iff.mp (by simpa using this)
        rw [e0]
        exact kk _
end
theorem all_mk {l : PySem.W.OpenLaw} {w : World} {K : PySem.W.Frag} {h : Heap} {mg : Str → Option Value} {fa f_ring_of f_rings f_law_stream f_law_next f_law_ring f_law_drawn f_law : Addr} (X : K.In h) (G : h.Ns mainGlobals mg) (hfa : mg "law" = some (.ref fa))
    {od1 an1 od2 an2 od3 an3 od4 an4 od5 an5 od6 an6 od7 an7 : Option Addr} {sl1 sl2 sl3 sl4 sl5 sl6 sl7 : Array (Option Value)} {oc1 kV1 dc1 pm1 cd1 ct1 oc2 kV2 dc2 pm2 cd2 ct2 oc3 kV3 dc3 pm3 cd3 ct3 oc4 kV4 dc4 pm4 cd4 ct4 oc5 kV5 dc5 pm5 cd5 ct5 oc6 kV6 dc6 pm6 cd6 ct6 oc7 kV7 dc7 pm7 cd7 ct7 : Value}
    (a1 : PySem.W.nsIn K mainGlobals "ring_of" = some (some (.ref f_ring_of)))
    (l1 : K.lookup f_ring_of = some ⟨oc1, od1, .func (PySem.W.fnOf "ring_of" "ring_of" (defArgs s_ring_of) (defBody s_ring_of) (defScope s_ring_of) .none kV1 dc1 pm1 an1 cd1 ct1), sl1⟩)
    (c1 : PySem.W.codeIn K cd1 "ring_of" = true)
    (k1 : PySem.W.keepIn K (.ref f_ring_of) = true)
    (a2 : PySem.W.nsIn K mainGlobals "rings" = some (some (.ref f_rings)))
    (l2 : K.lookup f_rings = some ⟨oc2, od2, .func (PySem.W.fnOf "rings" "rings" (defArgs s_rings) (defBody s_rings) (defScope s_rings) .none kV2 dc2 pm2 an2 cd2 ct2), sl2⟩)
    (c2 : PySem.W.codeIn K cd2 "rings" = true)
    (k2 : PySem.W.keepIn K (.ref f_rings) = true)
    (a3 : PySem.W.nsIn K mainGlobals "_law_stream" = some (some (.ref f_law_stream)))
    (l3 : K.lookup f_law_stream = some ⟨oc3, od3, .func (PySem.W.fnOf "_law_stream" "_law_stream" (defArgs s_law_stream) (defBody s_law_stream) (defScope s_law_stream) .none kV3 dc3 pm3 an3 cd3 ct3), sl3⟩)
    (c3 : PySem.W.codeIn K cd3 "_law_stream" = true)
    (k3 : PySem.W.keepIn K (.ref f_law_stream) = true)
    (a4 : PySem.W.nsIn K mainGlobals "_law_next" = some (some (.ref f_law_next)))
    (l4 : K.lookup f_law_next = some ⟨oc4, od4, .func (PySem.W.fnOf "_law_next" "_law_next" (defArgs s_law_next) (defBody s_law_next) (defScope s_law_next) .none kV4 dc4 pm4 an4 cd4 ct4), sl4⟩)
    (c4 : PySem.W.codeIn K cd4 "_law_next" = true)
    (k4 : PySem.W.keepIn K (.ref f_law_next) = true)
    (a5 : PySem.W.nsIn K mainGlobals "_law_ring" = some (some (.ref f_law_ring)))
    (l5 : K.lookup f_law_ring = some ⟨oc5, od5, .func (PySem.W.fnOf "_law_ring" "_law_ring" (defArgs s_law_ring) (defBody s_law_ring) (defScope s_law_ring) .none kV5 dc5 pm5 an5 cd5 ct5), sl5⟩)
    (c5 : PySem.W.codeIn K cd5 "_law_ring" = true)
    (k5 : PySem.W.keepIn K (.ref f_law_ring) = true)
    (a6 : PySem.W.nsIn K mainGlobals "_law_drawn" = some (some (.ref f_law_drawn)))
    (l6 : K.lookup f_law_drawn = some ⟨oc6, od6, .func (PySem.W.fnOf "_law_drawn" "_law_drawn" (defArgs s_law_drawn) (defBody s_law_drawn) (defScope s_law_drawn) .none kV6 dc6 pm6 an6 cd6 ct6), sl6⟩)
    (c6 : PySem.W.codeIn K cd6 "_law_drawn" = true)
    (k6 : PySem.W.keepIn K (.ref f_law_drawn) = true)
    (a7 : PySem.W.nsIn K mainGlobals "law" = some (some (.ref f_law)))
    (l7 : K.lookup f_law = some ⟨oc7, od7, .func (PySem.W.fnOf "law" "law" (defArgs s_law) (defBody s_law) (defScope s_law) .none kV7 dc7 pm7 an7 cd7 ct7), sl7⟩)
    (c7 : PySem.W.codeIn K cd7 "law" = true)
    (k7 : PySem.W.keepIn K (.ref f_law) = true)
    (zz_tuple : PySem.W.nsIn K mainGlobals "tuple" = some none)
    (zz_len : PySem.W.nsIn K mainGlobals "len" = some none)
    (zz_sorted : PySem.W.nsIn K mainGlobals "sorted" = some none)
    (zz_max : PySem.W.nsIn K mainGlobals "max" = some none)
    (zz_int : PySem.W.nsIn K mainGlobals "int" = some none)
    (zz_range : PySem.W.nsIn K mainGlobals "range" = some none)
    (zz_min : PySem.W.nsIn K mainGlobals "min" = some none)
    (zz_dict : PySem.W.nsIn K mainGlobals "dict" = some none)
    (zz_isinstance : PySem.W.nsIn K mainGlobals "isinstance" = some none)
    (zz_list : PySem.W.nsIn K mainGlobals "list" = some none)
    : ∃ fd : FuncData, (∀ (s : Shared) (v : Value), BindsTo s fd ⟨[v], []⟩ [("_law_script", v)]) ∧ ∀ base : Heap, K.In base → base.Ns mainGlobals mg → FnOk l.prog w K mg base CX0 3 fa fd ["_law_script"] (spLaw K) := by
  have e := hfa.symm.trans (PySem.W.mg_of X G a7)
  have e2 : fa = f_law := by injection e with e; injection e
  subst e2
  have F1 := fun_mk (st := s_ring_of) l1 c1 k1
  have b1 := F1.binds (ps := ["graph", "transaction"]) fun _ _ _ _ _ _ us hl => match us, hl with | [_, _], _ => rfl
  have F2 := fun_mk (st := s_rings) l2 c2 k2
  have b2 := F2.binds (ps := ["graph"]) fun _ _ _ _ _ _ us hl => match us, hl with | [_], _ => rfl
  have F3 := fun_mk (st := s_law_stream) l3 c3 k3
  have b3 := F3.binds (ps := ["_law_cell", "_law_k"]) fun _ _ _ _ _ _ us hl => match us, hl with | [_, _], _ => rfl
  have F4 := fun_mk (st := s_law_next) l4 c4 k4
  have b4 := F4.binds (ps := ["_law_stream_here", "_law_size"]) fun _ _ _ _ _ _ us hl => match us, hl with | [_, _], _ => rfl
  have F5 := fun_mk (st := s_law_ring) l5 c5 k5
  have b5 := F5.binds (ps := ["_law_graph", "_law_name"]) fun _ _ _ _ _ _ us hl => match us, hl with | [_, _], _ => rfl
  have F6 := fun_mk (st := s_law_drawn) l6 c6 k6
  have b6 := F6.binds (ps := ["_law_stream_here", "_law_k"]) fun _ _ _ _ _ _ us hl => match us, hl with | [_, _], _ => rfl
  have F7 := fun_mk (st := s_law) l7 c7 k7
  have b7 := F7.binds (ps := ["_law_script"]) fun _ _ _ _ _ _ us hl => match us, hl with | [_], _ => rfl
  exact ⟨PySem.W.fnOf "law" "law" (defArgs s_law) (defBody s_law) (defScope s_law) .none kV7 dc7 pm7 an7 cd7 ct7, fun s v => .of_eq rfl, fun base _ _ => ok_law (⟨f_ring_of, _, F1, b1, PySem.W.mg_of X G a1, f_rings, _, F2, b2, PySem.W.mg_of X G a2, f_law_stream, _, F3, b3, PySem.W.mg_of X G a3, f_law_next, _, F4, b4, PySem.W.mg_of X G a4, f_law_ring, _, F5, b5, PySem.W.mg_of X G a5, f_law_drawn, _, F6, b6, PySem.W.mg_of X G a6, fa, _, F7, b7, PySem.W.mg_of X G a7, PySem.W.mg_none_of X G zz_tuple, PySem.W.mg_none_of X G zz_len, PySem.W.mg_none_of X G zz_sorted, PySem.W.mg_none_of X G zz_max, PySem.W.mg_none_of X G zz_int, PySem.W.mg_none_of X G zz_range, PySem.W.mg_none_of X G zz_min, PySem.W.mg_none_of X G zz_dict, PySem.W.mg_none_of X G zz_isinstance, PySem.W.mg_none_of X G zz_list⟩ : Txt K mg)⟩
theorem walk {l : PySem.W.OpenLaw} {q : Program} {loose : List Str} {XP : (Str → Option Value) → Heap → Prop} {YP : World → Heap → Prop} {d : DefRec} {K : Params → PySem.W.Frag} (hn : l.most = some 63) (hdf : d.params.defaults = [])
    (hY : ∀ (w : World) (h : Heap), YP w h → (K w.params).In h)
    (F : ∀ (w : World) (mg : Str → Option Value) (fa : Addr) (h : Heap), (K w.params).In h → h.Ns mainGlobals mg → mg d.name = some (.ref fa) →
      ∃ fd : FuncData, (∀ (s : Shared) (u : Value), BindsTo s fd ⟨[u], []⟩ [("_law_script", u)]) ∧ ∀ base : Heap, (K w.params).In base → base.Ns mainGlobals mg → FnOk l.prog w (K w.params) mg base CX0 3 fa fd ["_law_script"] (spLaw (K w.params))) :
    PySem.W.WalkO q loose XP YP l.row.toRowW d [] (fun f vs => PySem.call f vs) :=
  L2.walk_of (n := 63) (k := 3) (x := "_law_script") (CX := fun _ => CX0) (sp := fun w => spLaw (K w.params)) hn (by decide) hdf ⟨rfl, by decide, by decide⟩ hY F (fun _ _ a ns hl _ hS => ⟨a, ns, rfl, hS, hl, fun _ => rfl⟩) fun _ _ _ _ _ z => z
end G4
open PySem PySem.W PyProof.Rows
set_option maxRecDepth 100000 in
set_option maxHeartbeats 0 in
theorem PySem.Challenge.cw_ringloosed_k34_rings_of_waits_holds : PySem.Challenge.rw_ringloosed_k34_rings_of_waits.Holds := by
  w_on; o_law; k_head; (case hw => w_witness2)
  k_fill
  refine G4.walk (l := PySem.Challenge.rw_ringloosed_k34_rings_of_waits) rfl rfl (fun w h Y => PySem.W.kIn_of Y) ?F
  case F =>
    intro w mg fa h KX G hmg
    refine' G4.all_mk KX G hmg ?a1 ?l1 ?c1 ?k1 ?a2 ?l2 ?c2 ?k2 ?a3 ?l3 ?c3 ?k3 ?a4 ?l4 ?c4 ?k4 ?a5 ?l5 ?c5 ?k5 ?a6 ?l6 ?c6 ?k6 ?a7 ?l7 ?c7 ?k7 ?zz_tuple ?zz_len ?zz_sorted ?zz_max ?zz_int ?zz_range ?zz_min ?zz_dict ?zz_isinstance ?zz_list
    (case a1 => k_is)
    (case l1 => k_is)
    (case c1 => k_is)
    (case k1 => k_is)
    (case a2 => k_is)
    (case l2 => k_is)
    (case c2 => k_is)
    (case k2 => k_is)
    (case a3 => k_is)
    (case l3 => k_is)
    (case c3 => k_is)
    (case k3 => k_is)
    (case a4 => k_is)
    (case l4 => k_is)
    (case c4 => k_is)
    (case k4 => k_is)
    (case a5 => k_is)
    (case l5 => k_is)
    (case c5 => k_is)
    (case k5 => k_is)
    (case a6 => k_is)
    (case l6 => k_is)
    (case c6 => k_is)
    (case k6 => k_is)
    (case a7 => k_is)
    (case l7 => k_is)
    (case c7 => k_is)
    (case k7 => k_is)
    (case zz_tuple => k_is)
    (case zz_len => k_is)
    (case zz_sorted => k_is)
    (case zz_max => k_is)
    (case zz_int => k_is)
    (case zz_range => k_is)
    (case zz_min => k_is)
    (case zz_dict => k_is)
    (case zz_isinstance => k_is)
    (case zz_list => k_is)
