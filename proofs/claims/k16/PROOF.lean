import PyProof.Rows.All
import Wide.All
import OpenK.AllK
import Wide.FinOn
import HandS.ForMost
import HandS.Wide
import HandS.IsInst
import HandS.Deep
import HandS.TupAny
import HandS.TupLe
import HandS.Flow
import HandS.Codes
import HandS.Defaults
import HandS.NoneIn
import HandS.MakeKw
import HandS.MakeKwOnly
import HandS.Property
import KE.SortData
import KE.DataMinMax
import KE.DataCmp
import KE.DataFind
import PySem.Challenge.RW_ringloosed_k16_marks_of_a_transaction
set_option Elab.async false
set_option linter.all false
set_option autoImplicit false
set_option maxRecDepth 100000
set_option maxHeartbeats 8000000
namespace G4
open PySem L2
/-! ### G4 base: row-independent words -/
theorem hu65 {k : Nat} {A : Around} (hr : Room k A) : A.units + 65 < cLine := by have := hr.un; omega
/-- the tuples stay -/
def Tk (H H' : Hp) : Prop := ∀ b xs, H b = some (.tup xs) → H' b = some (.tup xs)
theorem Tk.refl (H : Hp) : Tk H H := fun _ _ h => h
theorem Tk.trans {H H1 H2 : Hp} (a : Tk H H1) (b : Tk H1 H2) : Tk H H2 := fun c o h => b c o (a c o h)
theorem Tk.new {H : Hp} {p : Addr} {o : HO} (h : H p = none) : Tk H (upd H p o) := fun b xs e => by rw [upd_ne (ne_of_none e h)]; exact e
theorem Tk.put {H : Hp} {p : Addr} {xs : List V} {o : HO} (h : H p = some (.lst xs)) : Tk H (upd H p o) := fun b ys e => by
  rw [upd_ne (ne_of e h (by intro z; cases z))]; exact e
theorem Tk.putI {H : Hp} {p C dx : Addr} {fs : List (Str × V)} {o : HO} (h : H p = some (.ins C dx fs)) : Tk H (upd H p o) := fun b ys e => by
  rw [upd_ne (ne_of e h (by intro z; cases z))]; exact e
theorem Tk.putD {H : Hp} {p : Addr} {kvs : List (Key × V)} {o : HO} (h : H p = some (.dK kvs)) : Tk H (upd H p o) := fun b ys e => by
  rw [upd_ne (ne_of e h (by intro z; cases z))]; exact e
theorem Tk.putT {H : Hp} {p : Addr} {kvs : List (List Key × V)} {o : HO} (h : H p = some (.dT kvs)) : Tk H (upd H p o) := fun b ys e => by
  rw [upd_ne (ne_of e h (by intro z; cases z))]; exact e
theorem Same.tk {H H' : Hp} (s : Same H H') : Tk H H' := fun b xs e => s b _ e
theorem same_new {H : Hp} {p : Addr} {o : HO} (h : H p = none) : Same H (upd H p o) := fun b x e => by rw [upd_ne (ne_of_none e h)]; exact e
theorem get_new {H : Hp} {p a : Addr} {o x : HO} (h : H p = none) (e : H a = some x) : upd H p o a = some x := same_new h a x e
theorem get_ne {H : Hp} {p a : Addr} {o x : HO} (h : a ≠ p) (e : H a = some x) : upd H p o a = some x := by rw [upd_ne h]; exact e
/-! ### data that never changes: none, bools, ints, texts, tuples of them -/
mutual
def Im (H : Hp) : PyData → V → Prop
  | .none, v => v = .non
  | .bool b, v => v = .bl b
  | .int i, v => v = .int i
  | .str x, v => v = .str x
  | .tuple ds, v => ∃ a xs, v = .ref a ∧ H a = some (.tup xs) ∧ ImAll H ds xs
  | .list _, _ => False
  | .dict _, _ => False
def ImAll (H : Hp) : List PyData → List V → Prop
  | [], vs => vs = []
  | d :: ds, vs => ∃ v r, vs = v :: r ∧ Im H d v ∧ ImAll H ds r
end
mutual
theorem Im.mono {H H' : Hp} (t : Tk H H') : ∀ (d : PyData) (v : V), Im H d v → Im H' d v
  | .none, _, h => by simpa only [Im] using h
  | .bool _, _, h => by simpa only [Im] using h
  | .int _, _, h => by simpa only [Im] using h
  | .str _, _, h => by simpa only [Im] using h
  | .tuple ds, v, h => by
    simp only [Im] at h ⊢
    obtain ⟨a, xs, e, ha, hx⟩ := h
    exact ⟨a, xs, e, t _ _ ha, ImAll.mono t ds xs hx⟩
  | .list _, _, h => by simp only [Im] at h
  | .dict _, _, h => by simp only [Im] at h
theorem ImAll.mono {H H' : Hp} (t : Tk H H') : ∀ (ds : List PyData) (vs : List V), ImAll H ds vs → ImAll H' ds vs
  | [], _, h => by simpa only [ImAll] using h
  | d :: ds, vs, h => by
    simp only [ImAll] at h ⊢
    obtain ⟨v, r, e, h1, h2⟩ := h
    exact ⟨v, r, e, Im.mono t d v h1, ImAll.mono t ds r h2⟩
end
mutual
theorem Im.dp {K : PySem.W.Frag} {H : Hp} : ∀ (d : PyData) (v : V), Im H d v → Dp K H v d
  | .none, _, h => by simp only [Im] at h; subst h; exact .non
  | .bool _, _, h => by simp only [Im] at h; subst h; exact .bl _
  | .int _, _, h => by simp only [Im] at h; subst h; exact .int _
  | .str _, _, h => by simp only [Im] at h; subst h; exact .str _
  | .tuple ds, v, h => by
    simp only [Im] at h
    obtain ⟨a, xs, rfl, ha, hx⟩ := h
    exact .tup (SqT.of ha) (ImAll.dp ds xs hx)
  | .list _, _, h => by simp only [Im] at h
  | .dict _, _, h => by simp only [Im] at h
theorem ImAll.dp {K : PySem.W.Frag} {H : Hp} : ∀ (ds : List PyData) (vs : List V), ImAll H ds vs → DpAll K H vs ds
  | [], _, h => by simp only [ImAll] at h; subst h; exact .nil
  | d :: ds, vs, h => by
    simp only [ImAll] at h
    obtain ⟨v, r, rfl, h1, h2⟩ := h
    exact .cons (Im.dp d v h1) (ImAll.dp ds r h2)
end
theorem ImAll.len {H : Hp} : ∀ {ds : List PyData} {vs : List V}, ImAll H ds vs → vs.length = ds.length
  | [], _, h => by simp only [ImAll] at h; subst h; rfl
  | d :: ds, vs, h => by
    simp only [ImAll] at h
    obtain ⟨v, r, rfl, h1, h2⟩ := h
    simp [ImAll.len h2]
theorem ImAll.get {H : Hp} : ∀ {ds : List PyData} {vs : List V} {i : Nat} {v : V}, ImAll H ds vs → vs[i]? = some v → ∃ d, ds[i]? = some d ∧ Im H d v
  | [], _, i, v, h, e => by simp only [ImAll] at h; subst h; simp at e
  | d :: ds, vs, i, v, h, e => by
    simp only [ImAll] at h
    obtain ⟨u, r, rfl, h1, h2⟩ := h
    cases i with
    | zero => simp at e; subst e; exact ⟨d, rfl, h1⟩
    | succ i => simp at e; obtain ⟨x, a, b⟩ := ImAll.get h2 e; exact ⟨x, by simpa using a, b⟩
theorem ImAll.get' {H : Hp} : ∀ {ds : List PyData} {vs : List V} {i : Nat} {d : PyData}, ImAll H ds vs → ds[i]? = some d → ∃ v, vs[i]? = some v ∧ Im H d v
  | [], _, i, v, h, e => by simp at e
  | d :: ds, vs, i, x, h, e => by
    simp only [ImAll] at h
    obtain ⟨u, r, rfl, h1, h2⟩ := h
    cases i with
    | zero => simp at e; subst e; exact ⟨u, rfl, h1⟩
    | succ i => simp at e; obtain ⟨x, a, b⟩ := ImAll.get' h2 e; exact ⟨x, by simpa using a, b⟩
theorem ImAll.snoc {H : Hp} : ∀ {ds : List PyData} {vs : List V} {d : PyData} {v : V}, ImAll H ds vs → Im H d v → ImAll H (ds ++ [d]) (vs ++ [v])
  | [], _, d, v, h, e => by simp only [ImAll] at h; subst h; exact ⟨v, [], rfl, e, by simp only [ImAll]⟩
  | x :: ds, vs, d, v, h, e => by
    simp only [ImAll] at h
    obtain ⟨u, r, rfl, h1, h2⟩ := h
    exact ⟨u, r ++ [v], rfl, h1, ImAll.snoc h2 e⟩
theorem ImAll.app {H : Hp} : ∀ {ds es : List PyData} {vs us : List V}, ImAll H ds vs → ImAll H es us → ImAll H (ds ++ es) (vs ++ us)
  | [], _, _, _, h, e => by simp only [ImAll] at h; subst h; exact e
  | x :: ds, es, vs, us, h, e => by
    simp only [ImAll] at h
    obtain ⟨u, r, rfl, h1, h2⟩ := h
    exact ⟨u, r ++ us, rfl, h1, ImAll.app h2 e⟩
theorem ImAll.take {H : Hp} : ∀ {ds : List PyData} {vs : List V} (n : Nat), ImAll H ds vs → ImAll H (ds.take n) (vs.take n)
  | _, _, 0, _ => by simp only [List.take_zero]; simp only [ImAll]
  | [], _, n + 1, h => by simp only [ImAll] at h; subst h; simp only [List.take_nil]; simp only [ImAll]
  | x :: ds, vs, n + 1, h => by
    simp only [ImAll] at h
    obtain ⟨u, r, rfl, h1, h2⟩ := h
    exact ⟨u, r.take n, rfl, h1, ImAll.take n h2⟩
theorem ImAll.drop {H : Hp} : ∀ {ds : List PyData} {vs : List V} (n : Nat), ImAll H ds vs → ImAll H (ds.drop n) (vs.drop n)
  | _, _, 0, h => h
  | [], _, n + 1, h => by simp only [ImAll] at h; subst h; simp only [List.drop_nil]; simp only [ImAll]
  | x :: ds, vs, n + 1, h => by
    simp only [ImAll] at h
    obtain ⟨u, r, rfl, h1, h2⟩ := h
    exact ImAll.drop n h2
theorem im_nil {H : Hp} : ImAll H [] [] := by simp only [ImAll]
theorem im_cons {H : Hp} {d : PyData} {ds : List PyData} {v : V} {vs : List V} (a : Im H d v) (b : ImAll H ds vs) : ImAll H (d :: ds) (v :: vs) := by
  simp only [ImAll]; exact ⟨v, vs, rfl, a, b⟩
theorem im_tup {H : Hp} {ds : List PyData} {xs : List V} {a : Addr} (h : H a = some (.tup xs)) (i : ImAll H ds xs) : Im H (.tuple ds) (.ref a) := by
  simp only [Im]; exact ⟨a, xs, rfl, h, i⟩
theorem im_tupNew {H : Hp} {ds : List PyData} {xs : List V} {a : Addr} (h : H a = none) (i : ImAll H ds xs) : Im (upd H a (.tup xs)) (.tuple ds) (.ref a) :=
  im_tup upd_same (ImAll.mono (Tk.new h) _ _ i)
theorem im_int {H : Hp} {i : Int} : Im H (.int i) (.int i) := by simp only [Im]
theorem im_str {H : Hp} {x : Str} : Im H (.str x) (.str x) := by simp only [Im]
theorem im_bool {H : Hp} {b : Bool} : Im H (.bool b) (.bl b) := by simp only [Im]
theorem im_non {H : Hp} : Im H .none .non := by simp only [Im]
/-! ### data of bounded nesting, of plain kinds (no bools: they equal ints) -/
mutual
def pl : Nat → PyData → Bool
  | _, .none => true
  | _, .int _ => true
  | _, .str x => PyData.strOk x
  | 0, .tuple _ => false
  | n + 1, .tuple ds => plAll n ds
  | 0, .list _ => false
  | n + 1, .list ds => plAll n ds
  | _, .bool _ => false
  | _, .dict _ => false
def plAll : Nat → List PyData → Bool
  | _, [] => true
  | n, d :: ds => pl n d && plAll n ds
end
theorem plAll_iff {n : Nat} : ∀ {ds : List PyData}, plAll n ds = true ↔ ∀ d ∈ ds, pl n d = true
  | [] => by simp [plAll]
  | d :: ds => by simp only [plAll, Bool.and_eq_true, plAll_iff (ds := ds)]; simp
mutual
theorem pl_lay : ∀ (n : Nat) (d : PyData), pl n d = true → d.canLay0 = true ∧ d.depth ≤ n
  | n, .none, _ => by simp [PyData.canLay0, PyData.depth]
  | n, .int _, _ => by simp [PyData.canLay0, PyData.depth]
  | n, .str x, h => by simp only [pl] at h; simp [PyData.canLay0, PyData.depth, h]
  | 0, .tuple _, h => by simp [pl] at h
  | n + 1, .tuple ds, h => by
    simp only [pl] at h
    have := pl_layAll n ds h
    simp only [PyData.canLay0, PyData.depth]; exact ⟨this.1, by omega⟩
  | 0, .list _, h => by simp [pl] at h
  | n + 1, .list ds, h => by
    simp only [pl] at h
    have := pl_layAll n ds h
    simp only [PyData.canLay0, PyData.depth]; exact ⟨this.1, by omega⟩
  | _, .bool _, h => by simp [pl] at h
  | _, .dict _, h => by simp [pl] at h
theorem pl_layAll : ∀ (n : Nat) (ds : List PyData), plAll n ds = true → PyData.canLayAll0 ds = true ∧ PyData.depthAll ds ≤ n
  | n, [], _ => by simp [PyData.canLayAll0, PyData.depthAll]
  | n, d :: ds, h => by
    simp only [plAll, Bool.and_eq_true] at h
    have h1 := pl_lay n d h.1
    have h2 := pl_layAll n ds h.2
    simp only [PyData.canLayAll0, PyData.depthAll, h1.1, h2.1, Bool.and_self, true_and]; omega
end
theorem pl_shaped {n : Nat} {d : PyData} (h : pl n d = true) (hn : n ≤ 64 := by decide) : SeqAt.shaped d = true := by
  have := pl_lay n d h
  show (d.canLay0 && decide (d.depth ≤ 64)) = true
  rw [this.1, Bool.true_and]; exact decide_eq_true (by omega)
mutual
theorem pl_eqv : ∀ (n m : Nat) (d e : PyData), pl n d = true → pl m e = true → (PyData.eqv d e = true ↔ d = e)
  | n, m, .none, e, h, g => by cases e <;> simp_all [PyData.eqv, pl]
  | n, m, .int i, e, h, g => by cases e <;> simp_all [PyData.eqv, pl]
  | n, m, .str x, e, h, g => by cases e <;> simp_all [PyData.eqv, pl]
  | 0, m, .tuple _, e, h, g => by simp [pl] at h
  | n + 1, m, .tuple ds, e, h, g => by
    cases e with
    | tuple es =>
      cases m with
      | zero => simp [pl] at g
      | succ m =>
        simp only [pl] at h g
        simp only [PyData.eqv, PyData.tuple.injEq]
        exact pl_eqvAll n m ds es h g
    | _ => simp_all [PyData.eqv, pl]
  | 0, m, .list _, e, h, g => by simp [pl] at h
  | n + 1, m, .list ds, e, h, g => by
    cases e with
    | list es =>
      cases m with
      | zero => simp [pl] at g
      | succ m =>
        simp only [pl] at h g
        simp only [PyData.eqv, PyData.list.injEq]
        exact pl_eqvAll n m ds es h g
    | _ => simp_all [PyData.eqv, pl]
  | _, m, .bool _, e, h, g => by simp [pl] at h
  | _, m, .dict _, e, h, g => by simp [pl] at h
theorem pl_eqvAll : ∀ (n m : Nat) (ds es : List PyData), plAll n ds = true → plAll m es = true → (PyData.eqvAll ds es = true ↔ ds = es)
  | n, m, [], es, h, g => by cases es <;> simp [PyData.eqvAll]
  | n, m, d :: ds, es, h, g => by
    cases es with
    | nil => simp [PyData.eqvAll]
    | cons e es =>
      simp only [plAll, Bool.and_eq_true] at h g
      simp only [PyData.eqvAll, Bool.and_eq_true, List.cons.injEq]
      rw [pl_eqv n m d e h.1 g.1, pl_eqvAll n m ds es h.2 g.2]
end
noncomputable instance : DecidableEq PyData := fun a b => Classical.propDecidable (a = b)
theorem pl_eqv_dec {n m : Nat} {d e : PyData} (h : pl n d = true) (g : pl m e = true) : PyData.eqv d e = decide (d = e) := by
  rw [Bool.eq_iff_iff, decide_eq_true_eq]; exact pl_eqv n m d e h g
/-! ### x in t, t a tuple of data of any depth -/
section
variable {X : Cx}
def rInDT (K : PySem.W.Frag) : R2 := fun x y H Q => ∃ d ds, Dp K H x d ∧ Dp K H y (.tuple ds) ∧ SeqAt.shaped d = true ∧ SeqAt.shaped (.tuple ds) = true ∧ Q (.bl (ds.any fun z => PyData.eqv z d)) H
theorem op_inT (hu : X.A.units + 65 < cLine) : OpR X (compareOp .In) (rInDT X.K) := by
  intro pins s σ H x y v u Q I rx ry h
  obtain ⟨d, ds, hd, he, sd, se, q⟩ := h
  obtain ⟨as, r1⟩ := Dp.reads I d x v hd rx
  obtain ⟨bs, r2⟩ := Dp.reads I (.tuple ds) y u he ry
  exact SeqAt.in_tuple_reads r2 r1 (SeqAt.canLay_of_shaped se) (SeqAt.canLay_of_shaped sd) (PyProof.Rows.room_in_shaped sd hu) ⟨.bl _, H, I, rfl, q⟩
end
/-! ### rules over what is tracked alone -/
section
variable {X : Cx}
def rIxLH : R2 := fun x y H Q => ∃ p xs i v, x = .ref p ∧ y = .int i ∧ H p = some (.lst xs) ∧ atI xs i = some v ∧ Q v H
def rIxTH : R2 := fun x y H Q => ∃ p xs i v, x = .ref p ∧ y = .int i ∧ H p = some (.tup xs) ∧ atI xs i = some v ∧ Q v H
theorem ix_listH : IxR X rIxLH := fun value slice pins s σ H x y v u Q I rx ry ⟨p, xs, i, w, h1, h2, h3, h4, h5⟩ hs => ix_list value slice pins s σ H x y v u Q I rx ry ⟨p, xs, i, w, h1, h2, SqL.of h3, h4, h5⟩ hs
theorem ix_tupH : IxR X rIxTH := fun value slice pins s σ H x y v u Q I rx ry ⟨p, xs, i, w, h1, h2, h3, h4, h5⟩ hs => ix_tup value slice pins s σ H x y v u Q I rx ry ⟨p, xs, i, w, h1, h2, SqT.of h3, h4, h5⟩ hs
end
theorem atI0 {α : Type} {x : α} {xs : List α} : atI (x :: xs) 0 = some x := atI_nat (j := 0) rfl
theorem atI1 {α : Type} {x y : α} {xs : List α} : atI (x :: y :: xs) 1 = some y := atI_nat (j := 1) rfl
theorem atI2 {α : Type} {x y z : α} {xs : List α} : atI (x :: y :: z :: xs) 2 = some z := atI_nat (j := 2) rfl
theorem atI3 {α : Type} {x y z t : α} {xs : List α} : atI (x :: y :: z :: t :: xs) 3 = some t := atI_nat (j := 3) rfl
theorem ixN20 : ixN 2 0 = some 0 := by decide
theorem ixN21 : ixN 2 1 = some 1 := by decide
theorem atI_mem {α : Type} {xs : List α} {i : Int} (h0 : 0 ≤ i) (h1 : i < xs.length) : ∃ w, atI xs i = some w ∧ w ∈ xs := by
  obtain ⟨n, rfl⟩ := Int.eq_ofNat_of_zero_le h0
  have hn : n < xs.length := by omega
  exact ⟨xs[n], atI_nat (by simp [hn]), List.getElem_mem hn⟩
theorem tyL {K : PySem.W.Frag} {H : Hp} {p : Addr} {xs : List V} (h : H p = some (.lst xs)) : tyV K "list" (.ref p) H := .inl ⟨rfl, xs, SqL.of h⟩
/-! ### texts -/
theorem join_all {P : Nat → Prop} : ∀ (ys : List Str), (∀ y ∈ ys, ∀ c ∈ y.cps.toList, P c) → ∀ c ∈ (Txt.join ⟨#[]⟩ ys).cps.toList, P c := by
  have h : ∀ (ys : List Str), (∀ y ∈ ys, ∀ c ∈ y.cps.toList, P c) → ∀ c ∈ (Str.join ⟨#[]⟩ ys).cps.toList, P c := by
    intro ys
    induction ys with
    | nil => intro _ c hc; exact absurd hc (by simp [Str.join, Str.empty])
    | cons x r ih =>
      intro hy c hc
      cases r with
      | nil => exact hy x (by simp) c hc
      | cons y r =>
        have e : (Str.join ⟨#[]⟩ (x :: y :: r)).cps.toList = x.cps.toList ++ (Str.join ⟨#[]⟩ (y :: r)).cps.toList := by
          show ((x.cps ++ #[]) ++ (Str.join ⟨#[]⟩ (y :: r)).cps).toList = _
          simp
        rw [e] at hc
        rcases List.mem_append.mp hc with hc | hc
        · exact hy x (by simp) c hc
        · exact ih (fun z hz => hy z (List.mem_cons_of_mem _ hz)) c hc
  intro ys hy
  have e : Txt.join ⟨#[]⟩ ys = Str.join ⟨#[]⟩ ys := StrLaws.glued_eq_join _ _
  rw [e]; exact h ys hy
theorem join_len : ∀ (ys : List Str), (Txt.join ⟨#[]⟩ ys).length = (ys.map (·.length)).sum := by
  have h : ∀ (ys : List Str), (Str.join ⟨#[]⟩ ys).length = (ys.map (·.length)).sum := by
    intro ys
    induction ys with
    | nil => rfl
    | cons x r ih =>
      cases r with
      | nil => show x.length = _; simp
      | cons y r =>
        have e : (Str.join ⟨#[]⟩ (x :: y :: r)).length = x.length + (Str.join ⟨#[]⟩ (y :: r)).length := by
          show ((x.cps ++ #[]) ++ (Str.join ⟨#[]⟩ (y :: r)).cps).size = x.cps.size + (Str.join ⟨#[]⟩ (y :: r)).cps.size
          simp
        rw [e, ih]; simp
  intro ys
  have e : Txt.join ⟨#[]⟩ ys = Str.join ⟨#[]⟩ ys := StrLaws.glued_eq_join _ _
  rw [e]; exact h ys
/-- a name: 1 to 12 signs a to z -/
def NameD (x : Str) : Prop := 1 ≤ x.length ∧ x.length ≤ 12 ∧ ∀ c ∈ x.cps.toList, 97 ≤ c ∧ c ≤ 122
theorem NameD.ok {x : Str} (h : NameD x) : PyData.strOk x = true := by
  unfold PyData.strOk
  rw [Array.all_eq_true_iff_forall_mem]
  intro c hc
  have := h.2.2 c (by simpa using hc)
  exact decide_eq_true (by omega)
theorem nameD_by {x : Str} (h : (decide (1 ≤ x.length) && decide (x.length ≤ 12) && x.cps.toList.all fun c => decide (97 ≤ c) && decide (c ≤ 122)) = true) : NameD x := by
  simp only [Bool.and_eq_true, decide_eq_true_eq, List.all_eq_true] at h
  exact ⟨h.1.1, h.1.2, fun c hc => h.2 c hc⟩
/-! ### loops: the reading's own words, folded -/
def Loop (J : It) (g : TG) (tb : TS) (D : Ends) (σ : St) (H : Hp) : Prop := ∃ W : Nat → Nat → St → Hp → Prop, (∃ m, W 0 m σ H) ∧ ∀ i m σ H, W i m σ H →
  (J.stop i H ∧ D.nx σ H) ∨ (J.go i H ∧ ∃ N : St → Hp → Prop, (∀ σ' H', N σ' H' → ∃ m', m' < m ∧ W (i + 1) m' σ' H') ∧ ∀ x H', J.yld i H x H' → g x σ H' fun σ2 H2 => tb { D with nx := N, ct := N, bk := D.nx } σ2 H2)
theorem tFor_eq (wi : TI) (g : TG) (tb : TS) (D : Ends) (σ : St) (H : Hp) : tFor wi g tb D σ H = wi σ H (fun J H1 => Loop J g tb D σ H1) := rfl
theorem Loop.range {lo : Int} {n : Nat} {g : TG} {tb : TS} {D : Ends} {σ : St} {H : Hp} (Pv : Nat → St → Hp → Prop) (h0 : Pv 0 σ H)
    (hs : ∀ i σ H, i < n → Pv i σ H → g (.int (lo + i)) σ H fun σ2 H2 => tb { D with nx := Pv (i + 1), ct := Pv (i + 1), bk := D.nx } σ2 H2) (hd : ∀ σ H, Pv n σ H → D.nx σ H) : Loop (Itr lo n) g tb D σ H := for_range Pv h0 hs hd
theorem Loop.list {K : PySem.W.Frag} {a : Addr} {g : TG} {tb : TS} {D : Ends} {σ : St} {H : Hp} (xs : List V) (Pv : Nat → St → Hp → Prop) (h0 : Pv 0 σ H) (hl : ∀ i σ H, i ≤ xs.length → Pv i σ H → SqL K H a xs)
    (hs : ∀ i x σ H, xs[i]? = some x → Pv i σ H → g x σ H fun σ2 H2 => tb { D with nx := Pv (i + 1), ct := Pv (i + 1), bk := D.nx } σ2 H2) (hd : ∀ σ H, Pv xs.length σ H → D.nx σ H) : Loop (Itl K a) g tb D σ H := for_list Pv h0 hl hs hd
theorem Loop.tup {K : PySem.W.Frag} {a : Addr} {g : TG} {tb : TS} {D : Ends} {σ : St} {H : Hp} (xs : List V) (Pv : Nat → St → Hp → Prop) (h0 : Pv 0 σ H) (hl : ∀ i σ H, i ≤ xs.length → Pv i σ H → SqT K H a xs)
    (hs : ∀ i x σ H, xs[i]? = some x → Pv i σ H → g x σ H fun σ2 H2 => tb { D with nx := Pv (i + 1), ct := Pv (i + 1), bk := D.nx } σ2 H2) (hd : ∀ σ H, Pv xs.length σ H → D.nx σ H) : Loop (Itt K a) g tb D σ H := for_tup Pv h0 hl hs hd
def Lcl (J : It) (g : TG) (tt : TT) (te : TE) (vs : List Nat) (σ : St) (D : Addr) (H : Hp) (Q : Hp → Prop) : Prop := ∃ W : Nat → Nat → Hp → Prop, (∃ m, W 0 m (upd H D (.lst []))) ∧ ∀ i m H, W i m H →
  (J.stop i H ∧ Q H) ∨ (J.go i H ∧ ∃ Nx : Hp → Prop, (∀ H', Nx H' → ∃ m', m' < m ∧ W (i + 1) m' H') ∧ ∀ x H', J.yld i H x H' → g x (wipe σ vs) H' fun σ2 H2 => wipe σ2 vs = wipe σ vs ∧ tt σ2 H2 fun b H3 =>
    if b = true then te σ2 H3 fun y H4 => ∃ acc, H4 D = some (.lst acc) ∧ acc.length < sizeLine ∧ Nx (upd H4 D (.lst (acc ++ [y]))) else Nx H3)
theorem tLc_eq (wi : TI) (g : TG) (tt : TT) (te : TE) (vs : List Nat) (σ : St) (H : Hp) (Q : VK) : tLc wi g tt te vs σ H Q = wi σ H (fun J H1 => ∀ D, H1 D = none → Lcl J g tt te vs σ D H1 (fun H2 => Q (.ref D) H2)) := rfl
theorem Lcl.range {lo : Int} {n : Nat} {g : TG} {tt : TT} {te : TE} {vs : List Nat} {σ : St} {H1 : Hp} {D : Addr} {Qd : Hp → Prop} (Pv : Nat → Hp → Prop) (h0 : Pv 0 (upd H1 D (.lst [])))
    (hs : ∀ i H, i < n → Pv i H → g (.int (lo + i)) (wipe σ vs) H fun σ2 H2 => wipe σ2 vs = wipe σ vs ∧ tt σ2 H2 fun b H3 =>
      if b = true then te σ2 H3 fun y H4 => ∃ acc, H4 D = some (.lst acc) ∧ acc.length < sizeLine ∧ Pv (i + 1) (upd H4 D (.lst (acc ++ [y]))) else Pv (i + 1) H3) (hd : ∀ H, Pv n H → Qd H) : Lcl (Itr lo n) g tt te vs σ D H1 Qd := lc_range Pv h0 hs hd
theorem Lcl.list {K : PySem.W.Frag} {a : Addr} {g : TG} {tt : TT} {te : TE} {vs : List Nat} {σ : St} {H1 : Hp} {D : Addr} {Qd : Hp → Prop} (xs : List V) (Pv : Nat → Hp → Prop) (h0 : Pv 0 (upd H1 D (.lst []))) (hl : ∀ i H, i ≤ xs.length → Pv i H → SqL K H a xs)
    (hs : ∀ i x H, xs[i]? = some x → Pv i H → g x (wipe σ vs) H fun σ2 H2 => wipe σ2 vs = wipe σ vs ∧ tt σ2 H2 fun b H3 =>
      if b = true then te σ2 H3 fun y H4 => ∃ acc, H4 D = some (.lst acc) ∧ acc.length < sizeLine ∧ Pv (i + 1) (upd H4 D (.lst (acc ++ [y]))) else Pv (i + 1) H3) (hd : ∀ H, Pv xs.length H → Qd H) : Lcl (Itl K a) g tt te vs σ D H1 Qd := lc_list Pv h0 hl hs hd
theorem Lcl.tup {K : PySem.W.Frag} {a : Addr} {g : TG} {tt : TT} {te : TE} {vs : List Nat} {σ : St} {H1 : Hp} {D : Addr} {Qd : Hp → Prop} (xs : List V) (Pv : Nat → Hp → Prop) (h0 : Pv 0 (upd H1 D (.lst []))) (hl : ∀ i H, i ≤ xs.length → Pv i H → SqT K H a xs)
    (hs : ∀ i x H, xs[i]? = some x → Pv i H → g x (wipe σ vs) H fun σ2 H2 => wipe σ2 vs = wipe σ vs ∧ tt σ2 H2 fun b H3 =>
      if b = true then te σ2 H3 fun y H4 => ∃ acc, H4 D = some (.lst acc) ∧ acc.length < sizeLine ∧ Pv (i + 1) (upd H4 D (.lst (acc ++ [y]))) else Pv (i + 1) H3) (hd : ∀ H, Pv xs.length H → Qd H) : Lcl (Itt K a) g tt te vs σ D H1 Qd := lc_tup Pv h0 hl hs hd
/-! ### the drawn stream of a law -/
/-- at p a list of two ints -/
def St2 (H : Hp) (p : Addr) : Prop := ∃ d r : Int, H p = some (.lst [.int d, .int r])
/-- a generator ran: the stream at p may have gone on, all else is as it was, new things may stand -/
structure Gn (p : Addr) (H H' : Hp) : Prop where
  st0 : St2 H p
  st : St2 H' p
  but : ∀ b o, H b = some o → b ≠ p → H' b = some o
theorem Gn.tk {p : Addr} {H H' : Hp} (g : Gn p H H') : Tk H H' := fun b xs e => by
  obtain ⟨d, r, h⟩ := g.st0
  exact g.but b _ e (ne_of e h (by intro z; cases z))
theorem Gn.refl {p : Addr} {H : Hp} (h : St2 H p) : Gn p H H := ⟨h, h, fun _ _ e _ => e⟩
theorem Gn.trans {p : Addr} {H H1 H2 : Hp} (a : Gn p H H1) (b : Gn p H1 H2) : Gn p H H2 := ⟨a.st0, b.st, fun c o e n => b.but c o (a.but c o e n) n⟩
theorem St2.new {p q : Addr} {H : Hp} {o : HO} (h : St2 H p) (hq : H q = none) : St2 (upd H q o) p := by
  obtain ⟨d, r, e⟩ := h; exact ⟨d, r, get_new hq e⟩
theorem St2.ne {p q : Addr} {H : Hp} {o : HO} (h : St2 H p) (hq : q ≠ p) : St2 (upd H q o) p := by
  obtain ⟨d, r, e⟩ := h; exact ⟨d, r, get_ne hq.symm e⟩
theorem St2.nn {p q : Addr} {H : Hp} (h : St2 H p) (hq : H q = none) : q ≠ p := by
  obtain ⟨d, r, e⟩ := h; exact (ne_of_none e hq).symm
theorem Gn.new {p q : Addr} {H H1 : Hp} {o : HO} (a : Gn p H H1) (hq : H1 q = none) : Gn p H (upd H1 q o) :=
  ⟨a.st0, a.st.new hq, fun c x e n => get_new hq (a.but c x e n)⟩
/-- a list that the generator made is changed -/
theorem Gn.put {p q : Addr} {H H1 : Hp} {o : HO} (a : Gn p H H1) (hq : H q = none) (hn : q ≠ p) : Gn p H (upd H1 q o) :=
  ⟨a.st0, a.st.ne hn, fun c x e n => get_ne (ne_of_none e hq) (a.but c x e n)⟩
theorem Gn.none {p q : Addr} {H H' : Hp} (g : Gn p H H') (h : H' q = none) : H q = none := by
  cases e : H q with
  | none => rfl
  | some o =>
    by_cases hq : q = p
    · subst hq; obtain ⟨d, r, z⟩ := g.st; rw [h] at z; cases z
    · rw [g.but q o e hq] at h; cases h
theorem Gn.im {p : Addr} {H H' : Hp} (g : Gn p H H') {d : PyData} {v : V} (h : Im H d v) : Im H' d v := Im.mono g.tk d v h
theorem Gn.upd {p : Addr} {H : Hp} {d r : Int} (h : St2 H p) : Gn p H (upd H p (.lst [.int d, .int r])) := ⟨h, ⟨d, r, upd_same⟩, fun b o e n => get_ne n e⟩
theorem imNew {H : Hp} {q : Addr} {o : HO} {d : PyData} {v : V} (hq : H q = none) (h : Im H d v) : Im (upd H q o) d v := Im.mono (Tk.new hq) d v h
theorem cmulR {i j : Int} (h : (decide (-(2 ^ 64) < j) && decide (j < 2 ^ 64)) = true) : CMul i j := by
  simp only [Bool.and_eq_true, decide_eq_true_eq] at h; exact .inr h
theorem cmulL {i j : Int} (h : -(2 ^ 64) < i ∧ i < 2 ^ 64) : CMul i j := .inl h
theorem abc26 : (Str.ofString "abcdefghijklmnopqrstuvwxyz").cps.toList = (List.range 26).map (97 + ·) := by decide +kernel
theorem abc26_len : (Str.ofString "abcdefghijklmnopqrstuvwxyz").length = 26 := by decide +kernel
theorem abc26_at {v : Int} (h0 : 0 ≤ v) (h1 : v < 26) : ∃ c, atI (Str.ofString "abcdefghijklmnopqrstuvwxyz").cps.toList v = some c ∧ 97 ≤ c ∧ c ≤ 122 := by
  rw [abc26]
  obtain ⟨c, hc, hm⟩ := atI_mem (xs := (List.range 26).map (97 + ·)) h0 (by simpa using h1)
  refine ⟨c, hc, ?_⟩
  simp only [List.mem_map, List.mem_range] at hm
  omega
theorem empty_str : Str.ofString "" = ⟨#[]⟩ := by decide +kernel
theorem sum_ones : ∀ {ys : List Str}, (∀ y ∈ ys, y.length = 1) → (ys.map (·.length)).sum = ys.length
  | [], _ => rfl
  | y :: ys, h => by
    have h1 := h y (by simp)
    have h2 := sum_ones (ys := ys) fun z hz => h z (List.mem_cons_of_mem _ hz)
    simp only [List.map_cons, List.sum_cons, List.length_cons, h1, h2]; omega
theorem Gn.at {p q : Addr} {H H' : Hp} {o : HO} (g : Gn p H H') (h : H q = some o) (hn : q ≠ p) : H' q = some o := g.but q o h hn

/-! ### rules whose new thing may be an old one -/
section
variable {X : Cx}
theorem cutV_whole {xs : List V} {lo hi : Option Int} (h : HT.sIx xs.length 0 lo = 0 ∧ HT.sIx xs.length xs.length hi = xs.length) : cutV xs lo hi = xs := by
  unfold cutV; rw [h.1, h.2]; simp
theorem cutV_to (xs : List V) (k : Nat) : cutV xs none (some (k : Int)) = xs.take k := by
  unfold cutV
  rw [HT.sIx_none, HT.sIx_nat, List.drop_zero, Nat.sub_zero]
  by_cases h : k ≤ xs.length
  · rw [Nat.min_eq_left h]
  · rw [Nat.min_eq_right (by omega), List.take_length, List.take_of_length_le (by omega)]
theorem cutV_from (xs : List V) (k : Nat) : cutV xs (some (k : Int)) none = xs.drop k := by
  unfold cutV
  rw [HT.sIx_none, HT.sIx_nat]
  by_cases h : k ≤ xs.length
  · rw [Nat.min_eq_left h, List.take_of_length_le (by rw [List.length_drop]; omega)]
  · rw [Nat.min_eq_right (by omega), List.drop_length, List.drop_of_length_le (by omega)]; simp
def rSlTS : V → Option Int → Option Int → Hp → VK → Prop := fun x lo hi H Q => ∃ a xs, x = .ref a ∧ H a = some (.tup xs) ∧ ∀ p H', Same H H' → H' p = some (.tup (cutV xs lo hi)) → Q (.ref p) H'
theorem sl_tupS : SlR X rSlTS := fun pins s σ H x v vl vu lo hi sl Q I rx hs pl pu ⟨a, xs, h1, h2, h3⟩ =>
  sl_tupA pins s σ H x v vl vu lo hi sl Q I rx hs pl pu ⟨a, xs, h1, SqT.of h2, fun hw => h3 a H (Same.refl H) (by rw [cutV_whole hw]; exact h2), fun _ p hp => h3 p _ (same_new hp) upd_same⟩
def rCatS : R2 := fun x y H Q => ∃ a b xs ys, x = .ref a ∧ y = .ref b ∧ H a = some (.tup xs) ∧ H b = some (.tup ys) ∧ xs.length + ys.length ≤ sizeLine ∧ ∀ p H', Same H H' → H' p = some (.tup (xs ++ ys)) → Q (.ref p) H'
theorem op_catS : OpR X (binaryOp .Add) rCatS := fun pins s σ H x y v u Q I rx ry ⟨a, b, xs, ys, h1, h2, h3, h4, h5, h6⟩ =>
  op_catA pins s σ H x y v u Q I rx ry ⟨a, b, xs, ys, h1, h2, SqT.of h3, SqT.of h4, h5, fun e => h6 b H (Same.refl H) (by rw [e]; exact h4), fun _ e => h6 a H (Same.refl H) (by rw [e, List.append_nil]; exact h3), fun _ _ p hp => h6 p _ (same_new hp) upd_same⟩
def rTupS : List V → Hp → VK → Prop := fun xs H Q => ∃ p ys, xs = [.ref p] ∧ (H p = some (.lst ys) ∨ H p = some (.tup ys)) ∧ ∀ l H', Same H H' → H' l = some (.tup ys) → Q (.ref l) H'
theorem call_tupS : CallR X (.type "tuple") rTupS := fun pins s σ H xs us Q I r ⟨p, ys, h1, h2, h3⟩ =>
  call_tuple_of pins s σ H xs us Q I r ⟨p, ys, h1, h2.elim (fun h => .inl ⟨SqL.of h, fun l hl => h3 l _ (same_new hl) upd_same⟩) fun h => .inr ⟨SqT.of h, h3 p H (Same.refl H) h⟩⟩
def tyO : Option HO → Option String
  | some (.lst _) => some "list"
  | some (.tup _) => some "tuple"
  | some (.dK _) => some "dict"
  | some (.dT _) => some "dict"
  | _ => none
/-- the built-in type's name of a value -/
def tyS (H : Hp) : V → Option String
  | .non => some "NoneType"
  | .bl _ => some "bool"
  | .int _ => some "int"
  | .str _ => some "str"
  | .ref a => tyO (H a)
  | _ => none
theorem tyS_non {H : Hp} : tyS H .non = some "NoneType" := rfl
theorem tyS_bl {H : Hp} {b : Bool} : tyS H (.bl b) = some "bool" := rfl
theorem tyS_int {H : Hp} {b : Int} : tyS H (.int b) = some "int" := rfl
theorem tyS_str {H : Hp} {b : Str} : tyS H (.str b) = some "str" := rfl
theorem tyS_ref {H : Hp} {a : Addr} : tyS H (.ref a) = tyO (H a) := rfl
theorem tyO_l {xs : List V} : tyO (some (.lst xs)) = some "list" := rfl
theorem tyO_t {xs : List V} : tyO (some (.tup xs)) = some "tuple" := rfl
theorem tyO_d {xs : List (Key × V)} : tyO (some (.dK xs)) = some "dict" := rfl
theorem tyO_dt {xs : List (List Key × V)} : tyO (some (.dT xs)) = some "dict" := rfl
theorem tyS_x {K : PySem.W.Frag} {H : Hp} {x : V} {t : String} (h : tyS H x = some t) : TyX K H x (.type t) := by
  cases x with
  | non => cases h; exact .base .non
  | bl b => cases h; exact .base (.bl b)
  | int i => cases h; exact .base (.int i)
  | str x => cases h; exact .base (.str x)
  | ref a =>
    rw [tyS_ref] at h
    cases e : H a with
    | none => rw [e] at h; cases h
    | some o =>
      rw [e] at h
      cases o with
      | lst xs => cases h; exact .base (.lst e)
      | tup xs => cases h; exact .base (.tup e)
      | dK kvs => cases h; exact .base (.dK e)
      | dT kvs => cases h; exact .base (.dT e)
      | _ => cases h
  | _ => cases h
def rIsiH : List V → Hp → VK → Prop := fun xs H Q => ∃ (x : V) (n t : String) (b : Bool), xs = [x, .ty n] ∧ tyS H x = some t ∧ kitB t n = some b ∧ Q (.bl b) H
theorem call_isiH : CallR X (.builtin "isinstance") rIsiH := fun pins s σ H xs us Q I r ⟨x, n, t, b, h1, h2, h3, h4⟩ =>
  call_isi pins s σ H xs us Q I r ⟨x, .ty n, .type t, .type n, b, h1, .ty n, tyS_x h2, kit_ty h3, h4⟩
end
theorem kit_ll : kitB "list" "list" = some true := by decide +kernel
theorem kit_tt : kitB "tuple" "tuple" = some true := by decide +kernel
theorem kit_bb : kitB "bool" "bool" = some true := by decide +kernel
theorem kit_ii : kitB "int" "int" = some true := by decide +kernel
theorem kit_ib : kitB "int" "bool" = some false := by decide +kernel
theorem kit_bi : kitB "bool" "int" = some true := by decide +kernel
theorem kit_nt : kitB "NoneType" "tuple" = some false := by decide +kernel
theorem kit_it : kitB "int" "tuple" = some false := by decide +kernel
theorem kit_st : kitB "str" "tuple" = some false := by decide +kernel
theorem kit_bt : kitB "bool" "tuple" = some false := by decide +kernel
theorem kit_lt : kitB "list" "tuple" = some false := by decide +kernel
theorem kit_dt : kitB "dict" "tuple" = some false := by decide +kernel
theorem kit_ni : kitB "NoneType" "int" = some false := by decide +kernel
theorem kit_si : kitB "str" "int" = some false := by decide +kernel
theorem kit_ti : kitB "tuple" "int" = some false := by decide +kernel
theorem kit_li : kitB "list" "int" = some false := by decide +kernel
theorem kit_di : kitB "dict" "int" = some false := by decide +kernel
theorem kit_nb : kitB "NoneType" "bool" = some false := by decide +kernel
theorem kit_ns : kitB "NoneType" "str" = some false := by decide +kernel
theorem kit_is : kitB "int" "str" = some false := by decide +kernel
theorem kit_bs : kitB "bool" "str" = some false := by decide +kernel
theorem kit_ss : kitB "str" "str" = some true := by decide +kernel
theorem kit_ts : kitB "tuple" "str" = some false := by decide +kernel
theorem kit_ls : kitB "list" "str" = some false := by decide +kernel
theorem kit_ds : kitB "dict" "str" = some false := by decide +kernel
theorem kit_dd : kitB "dict" "dict" = some true := by decide +kernel
theorem Gn.same {p : Addr} {H H1 H2 : Hp} (g : Gn p H H1) (s : Same H1 H2) : Gn p H H2 :=
  ⟨g.st0, by obtain ⟨d, r, h⟩ := g.st; exact ⟨d, r, s _ _ h⟩, fun b o e n => s _ _ (g.but b o e n)⟩
theorem St2.same {p : Addr} {H1 H2 : Hp} (g : St2 H1 p) (s : Same H1 H2) : St2 H2 p := by obtain ⟨d, r, h⟩ := g; exact ⟨d, r, s _ _ h⟩
theorem Same.im {H H' : Hp} (s : Same H H') {d : PyData} {v : V} (h : Im H d v) : Im H' d v := Im.mono (Same.tk s) d v h
theorem Same.ims {H H' : Hp} (s : Same H H') {d : List PyData} {v : List V} (h : ImAll H d v) : ImAll H' d v := ImAll.mono (Same.tk s) d v h
theorem Gn.ims {p : Addr} {H H' : Hp} (g : Gn p H H') {d : List PyData} {v : List V} (h : ImAll H d v) : ImAll H' d v := ImAll.mono g.tk d v h
theorem imsNew {H : Hp} {q : Addr} {o : HO} {d : List PyData} {v : List V} (hq : H q = none) (h : ImAll H d v) : ImAll (upd H q o) d v := ImAll.mono (Tk.new hq) d v h
theorem im_tupE {H : Hp} {ds : List PyData} {v : V} (h : Im H (.tuple ds) v) : ∃ a xs, v = .ref a ∧ H a = some (.tup xs) ∧ ImAll H ds xs := by simpa only [Im] using h
theorem imAll_mem {H : Hp} {P : PyData → Prop} {ds : List PyData} {vs : List V} {i : Nat} {v : V} (h : ImAll H ds vs) (hP : ∀ d ∈ ds, P d) (e : vs[i]? = some v) : ∃ d, ds[i]? = some d ∧ P d ∧ Im H d v := by
  obtain ⟨d, e1, e2⟩ := h.get e
  exact ⟨d, e1, hP d (List.mem_of_getElem? e1), e2⟩
theorem imPut {H : Hp} {q : Addr} {xs : List V} {o : HO} {d : PyData} {v : V} (hq : H q = some (.lst xs)) (h : Im H d v) : Im (upd H q o) d v := Im.mono (Tk.put hq) d v h
theorem imsPut {H : Hp} {q : Addr} {xs : List V} {o : HO} {d : List PyData} {v : List V} (hq : H q = some (.lst xs)) (h : ImAll H d v) : ImAll (upd H q o) d v := ImAll.mono (Tk.put hq) d v h
/-- a list of such data grows by one -/
theorem ims_app {H : Hp} {l : Addr} {vs : List V} {ds : List PyData} {v : V} {d : PyData} (hl : H l = some (.lst vs)) (h : ImAll H ds vs) (hd : Im H d v) : ImAll (upd H l (.lst (vs ++ [v]))) (ds ++ [d]) (vs ++ [v]) := imsPut hl (h.snoc hd)
theorem all_snoc {α : Type} {P : α → Prop} {xs : List α} {x : α} (h : ∀ y ∈ xs, P y) (hx : P x) : ∀ y ∈ xs ++ [x], P y := by
  intro y hy
  rcases List.mem_append.mp hy with hy | hy
  · exact h y hy
  · rw [List.mem_singleton] at hy; subst hy; exact hx
section
variable {X : Cx} {K : PySem.W.Frag}
theorem op_eqDK (hK : X.K = K) (hu : X.A.units + 64 < cLine) : OpR X (compareOp .Eq) (rEqD K) := by subst hK; exact op_eqD hu
theorem op_neDK (hK : X.K = K) (hu : X.A.units + 64 < cLine) : OpR X (compareOp .NotEq) (rNeD K) := by subst hK; exact op_neD hu
theorem op_inDK (hK : X.K = K) (hu : X.A.units + 65 < cLine) : OpR X (compareOp .In) (rInD K) := by subst hK; exact op_inD hu
theorem op_notInDK (hK : X.K = K) (hu : X.A.units + 65 < cLine) : OpR X (compareOp .NotIn) (rNotInD K) := by subst hK; exact op_notInD hu
theorem op_inTK (hK : X.K = K) (hu : X.A.units + 65 < cLine) : OpR X (compareOp .In) (rInDT K) := by subst hK; exact op_inT hu
end
def lenO : Option HO → Option Nat
  | some (.lst xs) => some xs.length
  | some (.tup xs) => some xs.length
  | _ => none
def lenS (H : Hp) : V → Option Nat
  | .str y => if y.length ≤ sizeLine then some y.length else none
  | .ref p => lenO (H p)
  | _ => none
theorem lenO_l {xs : List V} : lenO (some (.lst xs)) = some xs.length := rfl
theorem lenO_t {xs : List V} : lenO (some (.tup xs)) = some xs.length := rfl
theorem lenS_ref {H : Hp} {p : Addr} : lenS H (.ref p) = lenO (H p) := rfl
theorem lenS_str {H : Hp} {y : Str} (h : y.length ≤ 16777216) : lenS H (.str y) = some y.length := by simp only [lenS]; rw [if_pos (by rw [sizeLine_eq]; exact h)]
theorem lenS_v {K : PySem.W.Frag} {H : Hp} {x : V} {n : Nat} (h : lenS H x = some n) : LenV K x H n := by
  cases x with
  | str y =>
    simp only [lenS] at h
    split at h
    · cases h; exact ⟨by assumption, rfl⟩
    · cases h
  | ref a =>
    rw [lenS_ref] at h
    cases e : H a with
    | none => rw [e] at h; cases h
    | some o =>
      rw [e] at h
      cases o with
      | lst xs => cases h; exact .inl ⟨xs, SqL.of e, rfl⟩
      | tup xs => cases h; exact .inr ⟨xs, SqT.of e, rfl⟩
      | _ => cases h
  | _ => cases h
section
variable {X : Cx}
def rLenS : List V → Hp → VK → Prop := fun xs H Q => ∃ (x : V) (n : Nat), xs = [x] ∧ lenS H x = some n ∧ Q (.int n) H
theorem call_lenS : CallR X (.builtin "len") rLenS := fun pins s σ H xs us Q I r ⟨x, n, h1, h2, h3⟩ => call_len pins s σ H xs us Q I r ⟨x, n, h1, lenS_v h2, h3⟩
end
theorem cutI {t u : TS} {D : Ends} {σ : St} {H : Hp} (Mid : St → Hp → Prop) (h1 : t { D with nx := Mid } σ H) (h2 : ∀ σ' H', Mid σ' H' → u D σ' H') : C8.tCut t u D σ H := ⟨Mid, h1, h2⟩
theorem upd_none {H : Hp} {p q : Addr} {o : HO} (h : upd H p o q = none) : q ≠ p ∧ H q = none := by
  by_cases e : q = p
  · subst e; rw [upd_same] at h; cases h
  · rw [upd_ne e] at h; exact ⟨e, h⟩
theorem imIns {H : Hp} {p C dx : Addr} {fs : List (Str × V)} {o : HO} {d : PyData} {v : V} (hp : H p = some (.ins C dx fs)) (h : Im H d v) : Im (upd H p o) d v := Im.mono (Tk.putI hp) d v h
theorem imsIns {H : Hp} {p C dx : Addr} {fs : List (Str × V)} {o : HO} {d : List PyData} {v : List V} (hp : H p = some (.ins C dx fs)) (h : ImAll H d v) : ImAll (upd H p o) d v := ImAll.mono (Tk.putI hp) d v h
theorem imDk {H : Hp} {p : Addr} {fs : List (Key × V)} {o : HO} {d : PyData} {v : V} (hp : H p = some (.dK fs)) (h : Im H d v) : Im (upd H p o) d v := Im.mono (Tk.putD hp) d v h
theorem imsDk {H : Hp} {p : Addr} {fs : List (Key × V)} {o : HO} {d : List PyData} {v : List V} (hp : H p = some (.dK fs)) (h : ImAll H d v) : ImAll (upd H p o) d v := ImAll.mono (Tk.putD hp) d v h
theorem ne_il {H : Hp} {p l C dx : Addr} {fs : List (Str × V)} {ws : List V} (hp : H p = some (.ins C dx fs)) (hl : H l = some (.lst ws)) : p ≠ l := ne_of hp hl (by intro z; cases z)
theorem ne_it {H : Hp} {p l C dx : Addr} {fs : List (Str × V)} {ws : List V} (hp : H p = some (.ins C dx fs)) (hl : H l = some (.tup ws)) : p ≠ l := ne_of hp hl (by intro z; cases z)
theorem ne_dl {H : Hp} {p l : Addr} {fs : List (Key × V)} {ws : List V} (hp : H p = some (.dK fs)) (hl : H l = some (.lst ws)) : p ≠ l := ne_of hp hl (by intro z; cases z)
theorem ne_id {H : Hp} {p l C dx : Addr} {fs : List (Str × V)} {ws : List (Key × V)} (hp : H p = some (.ins C dx fs)) (hl : H l = some (.dK ws)) : p ≠ l := ne_of hp hl (by intro z; cases z)
section
variable {X : Cx} {pos : Pos}
def gTupH (n : Nat) (t : TGs) : TG := fun v σ H Q => ∃ a xs, v = .ref a ∧ H a = some (.tup xs) ∧ xs.length = n ∧ t xs σ H Q
theorem pg_tupH {es : List Expr} {k : Nat} {t : TGs} (n : Nat) (hc : X.calm = true) (h : PGs X es t)
    (hn : (assignEach es X.env).length = n := by rfl) (hst : (assignEach es X.env).findIdx? (·.1) = none := by rfl) : PG X (.Tuple es k pos) (gTupH n t) :=
  ⟨fun pins s σ H v u Q I r ⟨a, xs, h1, h2, h3, h4⟩ => (pg_tup hc h hn hst).run pins s σ H v u Q I r ⟨a, xs, h1, SqT.of h2, h3, h4⟩⟩
def gUnlH (n : Nat) (t : TGs) : TG := fun v σ H Q => ∃ a xs, v = .ref a ∧ H a = some (.lst xs) ∧ xs.length = n ∧ t xs σ H Q
theorem pg_unlH {es : List Expr} {k : Nat} {t : TGs} (n : Nat) (hc : X.calm = true) (h : PGs X es t)
    (hn : (assignEach es X.env).length = n := by rfl) (hst : (assignEach es X.env).findIdx? (·.1) = none := by rfl) : PG X (.Tuple es k pos) (gUnlH n t) :=
  ⟨fun pins s σ H v u Q I r ⟨a, xs, h1, h2, h3, h4⟩ => (pg_unl hc h hn hst).run pins s σ H v u Q I r ⟨a, xs, h1, SqL.of h2, h3, h4⟩⟩
end
/-! ### the drawn data -/
def kD (h : Int) (n : Str) : PyData := .tuple [.int h, .str n]
def KeyD (d : PyData) : Prop := ∃ h n, d = kD h n ∧ 0 ≤ h ∧ h ≤ 1000000000000 ∧ NameD n
theorem KeyD.pl {d : PyData} (h : KeyD d) : pl 1 d = true := by
  obtain ⟨a, b, rfl, _, _, n⟩ := h
  simp [kD, G4.pl, plAll, n.ok]
/-- a step of a program -/
def StepD (d : PyData) : Prop := ∃ k, KeyD k ∧ ((∃ w, d = .tuple [.str w, k] ∧ (w = Str.ofString "read" ∨ w = Str.ofString "store")) ∨
  ∃ w i, d = .tuple [.str w, k, .int i] ∧ (w = Str.ofString "put" ∨ w = Str.ofString "add" ∨ w = Str.ofString "need") ∧ -1000000000000 ≤ i ∧ i ≤ 1000000000000)
theorem ok_words : PyData.strOk (Str.ofString "read") = true ∧ PyData.strOk (Str.ofString "store") = true ∧ PyData.strOk (Str.ofString "put") = true ∧ PyData.strOk (Str.ofString "add") = true ∧ PyData.strOk (Str.ofString "need") = true := by decide +kernel
theorem StepD.pl {d : PyData} (h : StepD d) : G4.pl 2 d = true := by
  obtain ⟨k, hk, h⟩ := h
  obtain ⟨a, b, rfl, _, _, n⟩ := hk
  obtain ⟨o1, o2, o3, o4, o5⟩ := ok_words
  rcases h with ⟨w, rfl, hw⟩ | ⟨w, i, rfl, hw, _⟩
  · rcases hw with rfl | rfl <;> simp [kD, G4.pl, plAll, n.ok, o1, o2]
  · rcases hw with rfl | rfl | rfl <;> simp [kD, G4.pl, plAll, n.ok, o3, o4, o5]
def stepKey : PyData → PyData
  | .tuple (_ :: k :: _) => k
  | _ => .none
theorem StepD.key {d : PyData} (h : StepD d) : KeyD (stepKey d) := by
  obtain ⟨k, hk, h⟩ := h
  rcases h with ⟨w, rfl, _⟩ | ⟨w, i, rfl, _⟩ <;> exact hk
/-- a step as it stands: its second place is its key -/
theorem StepD.at {H : Hp} {d : PyData} {v : V} (h : StepD d) (i : Im H d v) : ∃ a w k r, v = .ref a ∧ H a = some (.tup (w :: k :: r)) ∧ Im H (stepKey d) k := by
  obtain ⟨k, hk, h⟩ := h
  rcases h with ⟨w, rfl, _⟩ | ⟨w, j, rfl, _⟩
  · obtain ⟨a, xs, rfl, ha, hx⟩ := im_tupE i
    simp only [ImAll] at hx
    obtain ⟨v1, r1, rfl, _, v2, r2, rfl, h2, _⟩ := hx
    exact ⟨a, v1, v2, r2, rfl, ha, h2⟩
  · obtain ⟨a, xs, rfl, ha, hx⟩ := im_tupE i
    simp only [ImAll] at hx
    obtain ⟨v1, r1, rfl, _, v2, r2, rfl, h2, _⟩ := hx
    exact ⟨a, v1, v2, r2, rfl, ha, h2⟩
/-- the unlike keys in the order of their first use -/
noncomputable def keysOf (ds : List PyData) : List PyData := ds.foldl (fun acc d => if stepKey d ∈ acc then acc else acc ++ [stepKey d]) []
theorem keysOf_snoc (ds : List PyData) (d : PyData) : keysOf (ds ++ [d]) = if stepKey d ∈ keysOf ds then keysOf ds else keysOf ds ++ [stepKey d] := by
  unfold keysOf; rw [List.foldl_append]; rfl
theorem keysOf_mem : ∀ (n : Nat) (ds : List PyData), ds.length = n → ∀ k, k ∈ keysOf ds ↔ ∃ d ∈ ds, stepKey d = k
  | 0, ds, h, k => by
    have : ds = [] := List.length_eq_zero_iff.mp h
    subst this; simp [keysOf]
  | n + 1, ds, h, k => by
    obtain ⟨es, d, rfl⟩ : ∃ es d, ds = es ++ [d] := by
      rcases List.eq_nil_or_concat ds with e | ⟨es, d, e⟩
      · subst e; simp at h
      · exact ⟨es, d, by simpa using e⟩
    have ih := keysOf_mem n es (by simpa using h)
    rw [keysOf_snoc]
    by_cases hd : stepKey d ∈ keysOf es
    · rw [if_pos hd, ih k]
      have hd' := (ih _).mp hd
      constructor
      · rintro ⟨e, he, q⟩; exact ⟨e, by simp [he], q⟩
      · rintro ⟨e, he, q⟩
        rcases List.mem_append.mp he with he | he
        · exact ⟨e, he, q⟩
        · rw [List.mem_singleton] at he; subst he; rw [← q]; exact hd'
    · rw [if_neg hd, List.mem_append, ih k]
      constructor
      · rintro (⟨e, he, q⟩ | q)
        · exact ⟨e, by simp [he], q⟩
        · rw [List.mem_singleton] at q; exact ⟨d, by simp, q.symm⟩
      · rintro ⟨e, he, q⟩
        rcases List.mem_append.mp he with he | he
        · exact .inl ⟨e, he, q⟩
        · rw [List.mem_singleton] at he; subst he; exact .inr (by simp [q])
theorem keysOf_keys {ds : List PyData} (h : ∀ d ∈ ds, StepD d) : ∀ k ∈ keysOf ds, KeyD k := by
  intro k hk
  obtain ⟨d, hd, rfl⟩ := (keysOf_mem _ ds rfl k).mp hk
  exact (h d hd).key
theorem keysOf_len : ∀ (n : Nat) (ds : List PyData), ds.length = n → (keysOf ds).length ≤ n
  | 0, ds, h => by
    have : ds = [] := List.length_eq_zero_iff.mp h
    subst this; simp [keysOf]
  | n + 1, ds, h => by
    obtain ⟨es, d, rfl⟩ : ∃ es d, ds = es ++ [d] := by
      rcases List.eq_nil_or_concat ds with e | ⟨es, d, e⟩
      · subst e; simp at h
      · exact ⟨es, d, by simpa using e⟩
    have ih := keysOf_len n es (by simpa using h)
    rw [keysOf_snoc]
    split
    · omega
    · rw [List.length_append]; simp; omega
theorem any_mem {n m : Nat} {ds : List PyData} {k : PyData} (h : ∀ d ∈ ds, pl n d = true) (hk : pl m k = true) : (ds.any fun z => PyData.eqv z k) = decide (k ∈ ds) := by
  rw [Bool.eq_iff_iff, List.any_eq_true, decide_eq_true_eq]
  constructor
  · rintro ⟨z, hz, e⟩
    have := (pl_eqv _ _ _ _ (h z hz) hk).mp e
    subst this; exact hz
  · intro hz
    exact ⟨k, hz, (pl_eqv _ _ _ _ hk hk).mpr rfl⟩
theorem pl_list {n : Nat} {ds : List PyData} (h : ∀ d ∈ ds, pl n d = true) : pl (n + 1) (.list ds) = true := by
  simp only [pl]; exact plAll_iff.mpr h
theorem pl_tuple {n : Nat} {ds : List PyData} (h : ∀ d ∈ ds, pl n d = true) : pl (n + 1) (.tuple ds) = true := by
  simp only [pl]; exact plAll_iff.mpr h
/-- a word of three: one key, two kinds -/
theorem take_snoc {α : Type} {xs : List α} {i : Nat} {x : α} (h : xs[i]? = some x) : xs.take (i + 1) = xs.take i ++ [x] := by
  rw [List.take_add_one, h]; rfl
theorem ex_take {ds : List PyData} {k : PyData} {i : Nat} {d : PyData} (h : ds[i]? = some d) : (∃ e ∈ ds.take (i + 1), stepKey e = k) ↔ ((∃ e ∈ ds.take i, stepKey e = k) ∨ stepKey d = k) := by
  rw [take_snoc h]
  constructor
  · rintro ⟨e, he, q⟩
    rcases List.mem_append.mp he with he | he
    · exact .inl ⟨e, he, q⟩
    · rw [List.mem_singleton] at he; subst he; exact .inr q
  · rintro (⟨e, he, q⟩ | q)
    · exact ⟨e, List.mem_append_left _ he, q⟩
    · exact ⟨d, by simp, q⟩
/-! ### order of data: comparisons, sorted, min, remove (over the library's rules for data) -/
open PySem.W in
section
variable {X : Cx}
def rLtA (K : PySem.W.Frag) : R2 := fun x y H Q => ∃ d e, Dp K H x d ∧ Dp K H y e ∧ alike d e = true ∧ d ≠ .none ∧ d.depth ≤ 60 ∧ Q (.bl (dataLt d e)) H
def rGtA (K : PySem.W.Frag) : R2 := fun x y H Q => ∃ d e, Dp K H x d ∧ Dp K H y e ∧ alike d e = true ∧ d ≠ .none ∧ d.depth ≤ 60 ∧ Q (.bl (dataLt e d)) H
def rLeA (K : PySem.W.Frag) : R2 := fun x y H Q => ∃ d e, Dp K H x d ∧ Dp K H y e ∧ alike d e = true ∧ d ≠ .none ∧ d.depth ≤ 60 ∧ Q (.bl (!dataLt e d)) H
theorem op_gtA {K : PySem.W.Frag} (hK : X.K = K) (hu : X.A.units + 65 < cLine) : OpR X (compareOp .Gt) (rGtA K) := by
  subst hK
  intro pins s σ H x y v u Q I rx ry h
  obtain ⟨d, e, hd, he, ha, hn, hp, q⟩ := h
  obtain ⟨as, r1⟩ := Dp.reads I d x v hd rx
  obtain ⟨bs, r2⟩ := Dp.reads I e y u he ry
  refine gt_data r1 r2 ha hn ?_ ⟨.bl _, H, I, rfl, q⟩
  have := Nat.min_le_left d.depth e.depth
  omega
theorem op_ltA {K : PySem.W.Frag} (hK : X.K = K) (hu : X.A.units + 65 < cLine) : OpR X (compareOp .Lt) (rLtA K) := by
  subst hK
  intro pins s σ H x y v u Q I rx ry h
  obtain ⟨d, e, hd, he, ha, hn, hp, q⟩ := h
  obtain ⟨as, r1⟩ := Dp.reads I d x v hd rx
  obtain ⟨bs, r2⟩ := Dp.reads I e y u he ry
  refine lt_data r1 r2 ha hn ?_ ⟨.bl _, H, I, rfl, q⟩
  have := Nat.min_le_left d.depth e.depth
  omega
theorem op_leA {K : PySem.W.Frag} (hK : X.K = K) (hu : X.A.units + 65 < cLine) : OpR X (compareOp .LtE) (rLeA K) := by
  subst hK
  intro pins s σ H x y v u Q I rx ry h
  obtain ⟨d, e, hd, he, ha, hn, hp, q⟩ := h
  obtain ⟨as, r1⟩ := Dp.reads I d x v hd rx
  obtain ⟨bs, r2⟩ := Dp.reads I e y u he ry
  refine le_data r1 r2 ha hn ?_ ⟨.bl _, H, I, rfl, q⟩
  have := Nat.min_le_left d.depth e.depth
  omega
/-- values and data, side by side -/
theorem ims_each {H : Hp} : ∀ {ds : List PyData} {ys : List V} {us : List Value}, ImAll H ds ys → Vals ys us → EachIs (fun u (b : V × PyData) => RelV b.1 u ∧ Im H b.2 b.1) us (ys.zip ds)
  | [], ys, us, h, r => by
    simp only [ImAll] at h; subst h; cases r; exact .nil
  | d :: ds, ys, us, h, r => by
    simp only [ImAll] at h
    obtain ⟨v, t, rfl, h1, h2⟩ := h
    cases r with
    | cons r1 r2 => exact .cons ⟨r1, h1⟩ (ims_each h2 r2)
theorem each_vals {H : Hp} : ∀ {us : List Value} {bs : List (V × PyData)}, EachIs (fun u (b : V × PyData) => RelV b.1 u ∧ Im H b.2 b.1) us bs → Vals (bs.map (·.1)) us ∧ ImAll H (bs.map (·.2)) (bs.map (·.1))
  | _, _, .nil => ⟨.nil, im_nil⟩
  | _, _, .cons h t => by
    obtain ⟨a, b⟩ := each_vals t
    exact ⟨.cons h.1 a, im_cons h.2 b⟩
theorem zip_snd {α β : Type} : ∀ {xs : List α} {ys : List β}, xs.length = ys.length → (xs.zip ys).map (·.2) = ys
  | [], [], _ => rfl
  | x :: xs, y :: ys, h => by simp only [List.zip_cons_cons, List.map_cons]; rw [zip_snd (by simpa using h)]
  | [], _ :: _, h => by simp at h
  | _ :: _, [], h => by simp at h
def rSortD : List V → Hp → VK → Prop := fun vs H Q => ∃ (a : Addr) (ys : List V) (ds : List PyData), vs = [.ref a] ∧ H a = some (.lst ys) ∧ ImAll H ds ys ∧ AllAlike ds ∧ Sortable ds ∧ (∀ d ∈ ds, d.depth ≤ 60) ∧
  ∀ (p : Addr) (zs : List V) (H' : Hp), H p = none → Same H H' → (∀ b, b ≠ p → H' b = H b) → H' p = some (.lst zs) → ImAll H' (ds.mergeSort fun d e => !dataLt e d) zs → Q (.ref p) H'
theorem call_sortD (hu : X.A.units + 65 < cLine) : CallR X (.builtin "sorted") rSortD := by
  intro pins s σ H vs us Q I r h
  obtain ⟨a, ys, ds, rfl, ha, hi, hal, hk, hd, q⟩ := h
  obtain ⟨its, rv, hl, hz⟩ := I.list (SqL.of (K := X.K) ha)
  rw [Vals.ref1 r]
  have hlen := hi.len
  have e := ims_each hi rv
  have hsnd : (ys.zip ds).map (·.2) = ds := zip_snd hlen
  have er : EachIs (fun u (b : V × PyData) => ∃ as, Reads s.heap u b.2 as) its (ys.zip ds) := e.mono fun u b hb => Dp.reads I b.2 b.1 u (Im.dp _ _ hb.2) hb.1
  refine sorted_data (enc := fun b : V × PyData => b.2) hl.isList e er (by rw [hsnd]; exact hal) (by rw [hsnd]; exact hk) (by rw [List.length_zip]; omega) (fun b hb => ?_) fun out ho eo => ?_
  · have hm : b.2 ∈ ds := by rw [← hsnd]; exact List.mem_map_of_mem hb
    have := hd _ hm
    omega
  · obtain ⟨hv, him⟩ := each_vals eo
    obtain ⟨ep, he'⟩ := PyProof.Rows.sortedAll_at s.heap its out.toArray
    have hms : ((ys.zip ds).mergeSort (dataLe false fun b : V × PyData => b.2)).map (·.2) = ds.mergeSort fun d e => !dataLt e d :=
      (sort_maps (r := dataLe false fun b : V × PyData => b.2) (s := fun d e => !dataLt e d) (fun b : V × PyData => b.2) (l := ys.zip ds) (fun _ _ _ _ => rfl)).trans (by rw [hsnd])
    rw [hms] at him
    have hlz : (((ys.zip ds).mergeSort (dataLe false fun b : V × PyData => b.2)).map (·.1)).length ≤ sizeLine := by
      rw [List.length_map, List.length_mergeSort, List.length_zip]; omega
    have hf := I.hok.fresh (Nat.le_succ s.heap.objs.size)
    refine ⟨.ref _, upd H (s.heap.objs.size + 1) (.lst (((ys.zip ds).mergeSort (dataLe false fun b : V × PyData => b.2)).map (·.1))), I.laid (t' := s.toks) (fun _ _ => PyProof.Rows.sortedAll_old) (Nat.le_succ _) ⟨hlz, out, ep, hv, ?_⟩, rfl, q _ _ _ hf (same_new hf) (fun b hb => upd_ne hb) upd_same (imsNew hf him)⟩
    exact he'
def rMinD : List V → Hp → VK → Prop := fun vs H Q => ∃ (a : Addr) (ys : List V) (d : PyData) (ds : List PyData), vs = [.ref a] ∧ H a = some (.lst ys) ∧ ImAll H (d :: ds) ys ∧ AlikeAll (d :: ds) ∧ (∀ e ∈ d :: ds, e.depth ≤ 60) ∧
  ∀ v : V, v ∈ ys → Im H (minD d ds) v → Q v H
theorem depthAll_le {n : Nat} : ∀ {ds : List PyData}, (∀ d ∈ ds, d.depth ≤ n) → PyData.depthAll ds ≤ n
  | [], _ => by simp [PyData.depthAll]
  | d :: ds, h => by
    have h1 := h d (by simp)
    have h2 := depthAll_le (ds := ds) fun e he => h e (List.mem_cons_of_mem _ he)
    simp only [PyData.depthAll]; omega
theorem minD_mem (d : PyData) : ∀ ds : List PyData, minD d ds ∈ d :: ds := by
  intro ds
  unfold minD
  induction ds generalizing d with
  | nil => simp
  | cons e ds ih =>
    simp only [List.foldl_cons]
    have := ih (if dataLt e d = true then e else d)
    rcases List.mem_cons.mp this with h | h
    · rw [h]; split <;> simp
    · simp [h]
theorem call_minD (hc : X.calm = true) (hu : X.A.units + 65 < cLine) : CallR X (.builtin "min") rMinD := by
  intro pins s σ H vs us Q I r h
  obtain ⟨a, ys, d, ds, rfl, ha, hi, hal, hd, q⟩ := h
  obtain ⟨its, rv, hl, hz⟩ := I.list (SqL.of (K := X.K) ha)
  rw [Vals.ref1 r]
  obtain ⟨as, hr⟩ := Dp.readsAll I (d :: ds) ys its (ImAll.dp _ _ hi) rv
  have hda := depthAll_le hd
  refine min_list_data (vs := its.toArray) (I.ok.hd hc) hl.isList (by simpa using hr) hal (by omega) fun i v h' tk bs hv hm hk => ?_
  have hv' : its[i]? = some v := by simpa using hv
  have hl1 := rv.length
  have hi1 : i < ys.length := by rw [hl1]; exact (List.getElem?_eq_some_iff.mp hv').1
  have hy : ys[i]? = some ys[i] := by simp [hi1]
  obtain ⟨u, hu1, hu2⟩ := rv.get hy
  rw [hv'] at hu1
  cases hu1
  obtain ⟨e, he1, he2⟩ := hi.get hy
  obtain ⟨cs, hre⟩ := Dp.reads I e ys[i] v (Im.dp _ _ he2) hu2
  have hem : e ∈ d :: ds := List.mem_of_getElem? he1
  have heq : e = minD d ds := alike_unique _ _ _ _ _ (hal.1 e hem _ (minD_mem d ds)) (PyProof.Rows.Reads.keeps hk hre) hm
  refine ⟨ys[i], H, I.kept (t' := tk) hk, hu2, q _ (List.getElem_mem hi1) ?_⟩
  rw [← heq]; exact he2
theorem vals_erase : ∀ {xs : List V} {us : List Value}, Vals xs us → ∀ j, Vals (xs.eraseIdx j) (us.eraseIdx j)
  | _, _, .nil, _ => .nil
  | _, _, .cons _ t, 0 => t
  | _, _, .cons h t, j + 1 => .cons h (vals_erase t j)
def rRemD : V → List V → Hp → VK → Prop := fun x vs H Q => ∃ (l : Addr) (y : V) (ys : List V) (d : PyData) (ds : List PyData) (j : Nat), x = .ref l ∧ vs = [y] ∧ H l = some (.lst ys) ∧ ImAll H ds ys ∧ Im H d y ∧ PyData.plainAll ds = true ∧ d.plain = true ∧ d.depth ≤ 60 ∧
  SeqAt.dataPlace ds d = some j ∧ Q .non (upd H l (.lst (ys.eraseIdx j)))
theorem mt_remD (hu : X.A.units + 65 < cLine) : MtR X "list.remove" rRemD := by
  intro pins s σ H x vs v us Q I rx rv h
  obtain ⟨l, y, ys, d, ds, j, rfl, rfl, hl, hi, hy, hp1, hp2, hp3, hj, q⟩ := h
  cases rx
  obtain ⟨u, rfl, ru⟩ := vals1 rv
  obtain ⟨z, its, n, r, hL, e⟩ := I.lstM hl
  obtain ⟨as, hr⟩ := Dp.readsAll I ds ys its (ImAll.dp _ _ hi) r
  obtain ⟨bs, hx⟩ := Dp.reads I d y u (Im.dp _ _ hy) ru
  have hlen := r.length
  refine SeqAt.remove_list_data (vs := its.toArray) (j := j) ⟨_, e, rfl, _, rfl⟩ (by simpa using hr) hx hp1 hp2 ?_ hj (by rw [List.size_toArray]; omega) ?_
  · have := Nat.min_le_right (PyData.depthAll ds) d.depth
    omega
  · have hj' : j < its.length := by
      obtain ⟨h1, _⟩ := List.findIdx?_eq_some_iff_getElem.mp hj
      have := hi.len
      omega
    refine ⟨.non, _, I.lset (its' := its.eraseIdx j) (ys := ys.eraseIdx j) (t' := s.toks) hl e ?_ ?_ ?_, rfl, q⟩
    · simp
    · exact vals_erase r j
    · have := List.length_eraseIdx_le ys j
      omega
end
/-! ### dicts with text keys, truth, by what is tracked -/
section
variable {X : Cx} {o i value : Expr} {pos pos' : Pos} {td ty tv ta : TE}
def tDGetS (td ty : TE) : TE := fun σ H Q => td σ H fun x H1 => ty σ H1 fun y H2 => ∃ (a : Addr) (k : Str) (kvs : List (Key × V)) (v : V), x = .ref a ∧ y = .str k ∧ H2 a = some (.dK kvs) ∧ valV kvs (Sum.inr k) = some v ∧ Q v H2
theorem pe_dgetS (hu : X.A.units + 1 < cLine) (ho : PE X o td) (hi : PE X i ty) (hs : NoSl i) : PE X (.Subscript o i pos) (tDGetS td ty) := by
  constructor
  intro pins s σ H Q I h
  apply subD_of PySem.F.slot_dict_getitem.lookup hs
  refine thn (ho.run pins s σ H _ I h) fun u s1 hx => ?_
  obtain ⟨x, H1, I1, rx, q1⟩ := hx
  refine thn (hi.run pins s1 σ H1 _ I1 q1) fun iv s2 hy => ?_
  obtain ⟨y, H2, I2, ry, a, k, kvs, v, rfl, rfl, e, l, q2⟩ := hy
  cases rx
  have g : DGet H2 a (kV (.inr k)) (some v) := by rw [← l]; exact DGet.k e
  exact ⟨dict_typeIs I2 g, d_getItem hu I2 g ry fun w' s3 I3 rw' => ⟨v, H2, I3, rw', q2⟩⟩
def sDPutS (td ty tv : TE) : TS := fun D σ H => tv σ H fun v H1 => td σ H1 fun x H2 => ty σ H2 fun y H3 => ∃ (a : Addr) (k : Str) (kvs : List (Key × V)), x = .ref a ∧ y = .str k ∧ H3 a = some (.dK kvs) ∧ kvs.length < sizeLine ∧ D.nx σ (upd H3 a (.dK (putK kvs (Sum.inr k) v)))
theorem ps_dputS (hu : X.A.units + 1 < cLine) (ho : PE X o td) (hi : PE X i ty) (hv : PE X value tv) (hs : swapsWith value (some (.Subscript o i pos')) pos.line X.env = pure false) :
    PS X (.Assign [.Subscript o i pos'] value pos) (sDPutS td ty tv) := by
  constructor
  intro pins s σ H D I h
  refine wpAny_Assign_Subscript ?_ hs
  refine thn (hv.run pins s σ H _ I h) fun r s1 hx => ?_
  obtain ⟨v, H1, I1, rv, q1⟩ := hx
  refine thn (ho.run pins s1 σ H1 _ I1 q1) fun u s2 hy => ?_
  obtain ⟨x, H2, I2, rx, q2⟩ := hy
  refine thn (hi.run pins s2 σ H2 _ I2 q2) fun iv s3 hz => ?_
  obtain ⟨y, H3, I3, ry, a, k, kvs, rfl, rfl, e, l, q3⟩ := hz
  cases rx
  exact d_setItem hu I3 (DPut.k (k := Sum.inr k) e l) ry rv fun s4 I4 => ⟨σ, _, I4, q3⟩
def truO : Option HO → Option Bool
  | some (.lst xs) => some (!xs.isEmpty)
  | some (.tup xs) => some (!xs.isEmpty)
  | _ => none
def truS (H : Hp) : V → Option Bool
  | .non => some false
  | .bl b => some b
  | .int i => some (i != 0)
  | .ref p => truO (H p)
  | _ => none
theorem truO_l {xs : List V} : truO (some (.lst xs)) = some (!xs.isEmpty) := rfl
theorem truO_t {xs : List V} : truO (some (.tup xs)) = some (!xs.isEmpty) := rfl
theorem truS_ref {H : Hp} {p : Addr} : truS H (.ref p) = truO (H p) := rfl
theorem truS_non {H : Hp} : truS H .non = some false := rfl
theorem truS_bl {H : Hp} {b : Bool} : truS H (.bl b) = some b := rfl
theorem truS_int {H : Hp} {b : Int} : truS H (.int b) = some (b != 0) := rfl
theorem truS_v {K : PySem.W.Frag} {H : Hp} {x : V} {k : Bool} (h : truS H x = some k) : TruV K x H k := by
  cases x with
  | non => cases h; rfl
  | bl b => cases h; rfl
  | int i => cases h; rfl
  | ref a =>
    rw [truS_ref] at h
    cases e : H a with
    | none => rw [e] at h; cases h
    | some o =>
      rw [e] at h
      cases o with
      | lst xs => cases h; exact .inl ⟨xs, SqL.of e, rfl⟩
      | tup xs => cases h; exact .inr (.inl ⟨xs, SqT.of e, rfl⟩)
      | _ => cases h
  | _ => cases h
def tTruS (ta : TE) : TT := fun σ H Q => ta σ H fun x H' => ∃ k, truS H' x = some k ∧ Q k H'
theorem pt_truS {a : Expr} (ha : PE X a ta) (he : ∀ whole, isTrue a X.env whole = (do let v ← whole; standAt a.pos; holding [v] (truthy v))) : PT X a (tTruS ta) := by
  constructor
  intro pins s σ H Q I h
  refine PyProof.Rows.isTrue_plain ?_ (he _)
  refine thn (ha.run pins s σ H _ I h) fun v s1 hx => ?_
  obtain ⟨x, H1, I1, r1, k, e, q⟩ := hx
  exact tru_ok pins s1 σ H1 x v Q I1 r1 ⟨k, truS_v e, q⟩
end
theorem valV_cons {p : Key × V} {r : List (Key × V)} {k : Key} : valV (p :: r) k = if p.1 = k then some p.2 else valV r k := by
  by_cases e : p.1 = k
  · rw [valV_pos e, if_pos e]
  · rw [valV_neg e, if_neg e]
/-! ### pairs of ints; what stays behind a change of an object -/
def tD (t : Int × Int) : PyData := .tuple [.int t.1, .int t.2]
theorem tD_pl (w : Int × Int) : pl 1 (tD w) = true := by simp [tD, pl, plAll]
theorem tD_inj {a b : Int × Int} (h : tD a = tD b) : a = b := by
  obtain ⟨a1, a2⟩ := a; obtain ⟨b1, b2⟩ := b
  simp only [tD, PyData.tuple.injEq, List.cons.injEq, PyData.int.injEq, and_true] at h
  obtain ⟨h1, h2⟩ := h
  subst h1; subst h2; rfl
theorem tD_eqv (a b : Int × Int) : PyData.eqv (tD a) (tD b) = decide (a = b) := by
  rw [pl_eqv_dec (tD_pl a) (tD_pl b)]
  by_cases h : a = b
  · subst h; simp
  · rw [decide_eq_false h, decide_eq_false fun e => h (tD_inj e)]
theorem tD_shaped (a : Int × Int) : SeqAt.shaped (tD a) = true := pl_shaped (tD_pl a)
/-- all but what stands at p and l is as it was; nothing is lost -/
structure Bt (p l : Addr) (H H' : Hp) : Prop where
  keep : ∀ b o, H b = some o → b ≠ p → b ≠ l → H' b = some o
  non : ∀ b, H' b = none → H b = none
theorem Bt.refl (p l : Addr) (H : Hp) : Bt p l H H := ⟨fun _ _ e _ _ => e, fun _ e => e⟩
theorem Bt.of {p l : Addr} {H H' : Hp} (s : Same H H') : Bt p l H H' := ⟨fun b o e _ _ => s b o e, fun b e => by
  cases z : H b with
  | none => rfl
  | some o => rw [s _ _ z] at e; cases e⟩
theorem Bt.trans {p l : Addr} {H H1 H2 : Hp} (a : Bt p l H H1) (b : Bt p l H1 H2) : Bt p l H H2 := ⟨fun c o e n1 n2 => b.keep c o (a.keep c o e n1 n2) n1 n2, fun c e => a.non c (b.non c e)⟩
theorem Bt.same {p l : Addr} {H H1 H2 : Hp} (a : Bt p l H H1) (s : Same H1 H2) : Bt p l H H2 := a.trans (Bt.of s)
theorem Bt.new {p l q : Addr} {H H1 : Hp} {o : HO} (a : Bt p l H H1) (h : H1 q = none) : Bt p l H (upd H1 q o) := a.same (same_new h)
theorem Bt.putP {p l : Addr} {H H1 : Hp} {o : HO} (a : Bt p l H H1) : Bt p l H (upd H1 p o) := ⟨fun c x e n1 n2 => get_ne n1 (a.keep c x e n1 n2), fun c e => a.non c (upd_none e).2⟩
theorem Bt.putL {p l : Addr} {H H1 : Hp} {o : HO} (a : Bt p l H H1) : Bt p l H (upd H1 l o) := ⟨fun c x e n1 n2 => get_ne n2 (a.keep c x e n1 n2), fun c e => a.non c (upd_none e).2⟩
theorem Bt.one {p l : Addr} {H H' : Hp} (a : Bt p p H H') : Bt p l H H' := ⟨fun c x e n1 _ => a.keep c x e n1 n1, a.non⟩
/-- a new list of the def's own is put -/
theorem Bt.putN {p l q : Addr} {H H1 : Hp} {o : HO} (a : Bt p l H H1) (h : H q = none) : Bt p l H (upd H1 q o) := ⟨fun c x e n1 n2 => get_ne (ne_of_none e h) (a.keep c x e n1 n2), fun c e => a.non c (upd_none e).2⟩
theorem filter_take {α : Type} {P : α → Bool} {xs : List α} {i : Nat} {x : α} (h : xs[i]? = some x) : (xs.take (i + 1)).filter P = if P x = true then (xs.take i).filter P ++ [x] else (xs.take i).filter P := by
  rw [take_snoc h, List.filter_append]
  cases e : P x <;> simp [e]
theorem Bt.tk {p l C dx : Addr} {H H' : Hp} {fs : List (Str × V)} {ws : List V} (b : Bt p l H H') (hp : H p = some (.ins C dx fs)) (hl : H l = some (.lst ws)) : Tk H H' := fun c xs e => b.keep c _ e (ne_it hp e).symm (fun z => by subst z; rw [hl] at e; cases e)
theorem Bt.tk1 {p C dx : Addr} {H H' : Hp} {fs : List (Str × V)} (b : Bt p p H H') (hp : H p = some (.ins C dx fs)) : Tk H H' := fun c xs e => b.keep c _ e (ne_it hp e).symm (ne_it hp e).symm
theorem BtD.tk {p l : Addr} {H H' : Hp} {fs : List (Key × V)} {ws : List V} (b : Bt p l H H') (hp : H p = some (.dK fs)) (hl : H l = some (.lst ws)) : Tk H H' := fun c xs e => b.keep c _ e (fun z => by subst z; rw [hp] at e; cases e) (fun z => by subst z; rw [hl] at e; cases e)
theorem ImAll.erase {H : Hp} : ∀ {ds : List PyData} {vs : List V} (j : Nat), ImAll H ds vs → ImAll H (ds.eraseIdx j) (vs.eraseIdx j)
  | [], _, _, h => by simp only [ImAll] at h; subst h; exact im_nil
  | d :: ds, vs, 0, h => by
    simp only [ImAll] at h
    obtain ⟨u, r, rfl, h1, h2⟩ := h
    exact h2
  | d :: ds, vs, j + 1, h => by
    simp only [ImAll] at h
    obtain ⟨u, r, rfl, h1, h2⟩ := h
    exact im_cons h1 (ImAll.erase j h2)
theorem map_erase {α β : Type} (f : α → β) : ∀ (xs : List α) (j : Nat), (xs.map f).eraseIdx j = (xs.eraseIdx j).map f
  | [], _ => rfl
  | _ :: _, 0 => rfl
  | x :: xs, j + 1 => by simp only [List.map_cons, List.eraseIdx_cons_succ]; rw [map_erase f xs j]
/-- the heap with a new instance -/
theorem same_made {H : Hp} {x dx C : Addr} (nx : H x = none) (nd : H dx = none) : Same H (upd (upd H dx (.own x)) x (.ins C dx [])) := fun b o e => by
  rw [upd_ne (ne_of_none e nx), upd_ne (ne_of_none e nd)]; exact e
theorem made_none {H : Hp} {x dx C l : Addr} (h : upd (upd H dx (.own x)) x (.ins C dx []) l = none) : H l = none := (upd_none (upd_none h).2).2
theorem Same.non {H H' : Hp} (s : Same H H') {b : Addr} (h : H' b = none) : H b = none := by
  cases z : H b with
  | none => rfl
  | some o => rw [s _ _ z] at h; cases h
theorem imIns0 {H : Hp} {p dx C : Addr} {d : PyData} {v : V} (hp : H p = none) (hdx : H dx = none) (h : Im H d v) : Im (upd (upd H dx (.own p)) p (.ins C dx [])) d v := Same.im (same_made (C := C) hp hdx) h

theorem ImAll.set {H : Hp} : ∀ {ds : List PyData} {vs : List V} (j : Nat) {d : PyData} {v : V}, ImAll H ds vs → Im H d v → ImAll H (ds.set j d) (vs.set j v)
  | [], _, _, _, _, h, _ => by simp only [ImAll] at h; subst h; exact im_nil
  | d :: ds, vs, 0, _, _, h, i => by
    simp only [ImAll] at h
    obtain ⟨u, r, rfl, h1, h2⟩ := h
    exact im_cons i h2
  | d :: ds, vs, j + 1, _, _, h, i => by
    simp only [ImAll] at h
    obtain ⟨u, r, rfl, h1, h2⟩ := h
    exact im_cons h1 (ImAll.set j h2 i)
/-! ### sorted does not look at the order that was -/
section
open PySem.W
theorem dataLt_tri {n m : Nat} {d e : PyData} (ha : alike d e = true) (hd : pl n d = true) (he : pl m e = true) (h1 : dataLt d e = false) (h2 : dataLt e d = false) : d = e := by
  have ht : keyToks d = keyToks e := PyProof.Rows.lex_total _ _ h1 h2
  by_cases z : PyData.eqv d e = true
  · exact (pl_eqv _ _ _ _ hd he).mp z
  · have z : PyData.eqv d e = false := by simpa using z
    have q := (toks_eqv d e ha).2 z [] [.inl 0]
    have q2 : dataLt d e = true := by
      rw [show dataLt d e = _ from q.symm, ht]
      rw [lex_pre]; rfl
    rw [h1] at q2; cases q2
theorem dataLe_tr (a b c : PyData) (h1 : (!dataLt b a) = true) (h2 : (!dataLt c b) = true) : (!dataLt c a) = true := by
  simp only [Bool.not_eq_true'] at *
  cases h : dataLt c a with
  | false => rfl
  | true => rcases PyProof.Rows.lex_negTrans _ (keyToks b) _ h with x | x
            · exact absurd (show dataLt c b = true from x) (by simp [h2])
            · exact absurd (show dataLt b a = true from x) (by simp [h1])
theorem dataLe_tot (a b : PyData) : ((!dataLt b a) || (!dataLt a b)) = true := by
  cases h : dataLt b a with
  | false => rfl
  | true =>
    cases h2 : dataLt a b with
    | false => rfl
    | true =>
      have := PyProof.Rows.lex_trans _ _ _ h2 h
      rw [PyProof.Rows.lex_irrefl] at this; cases this
theorem sortD_sorted (ds : List PyData) : (ds.mergeSort fun d e => !dataLt e d).Pairwise fun d e => (!dataLt e d) = true := List.pairwise_mergeSort dataLe_tr dataLe_tot ds
theorem sort_perm {n : Nat} {ds es : List PyData} (p : ds.Perm es) (al : AllAlike ds) (h : ∀ d ∈ ds, pl n d = true) : (ds.mergeSort fun d e => !dataLt e d) = es.mergeSort fun d e => !dataLt e d := by
  have p1 := List.mergeSort_perm ds fun d e => !dataLt e d
  have p2 := List.mergeSort_perm es fun d e => !dataLt e d
  refine List.Perm.eq_of_pairwise (le := fun d e => (!dataLt e d) = true) ?_ (sortD_sorted ds) (sortD_sorted es) ((p1.trans p).trans p2.symm)
  intro a b ha hb h1 h2
  have ha' := p1.mem_iff.mp ha
  have hb' := p.mem_iff.mpr (p2.mem_iff.mp hb)
  simp only [Bool.not_eq_true'] at h1 h2
  exact dataLt_tri (al a ha' b hb') (h a ha') (h b hb') h2 h1
end
/-! ### marks: the data, the mirror -/
structure Mrk where
  t : Int × Int
  a : Int
  h : Int
  n : Str
  b : Int
  ok : PyData.strOk n = true
noncomputable instance : DecidableEq Mrk := fun a b => Classical.propDecidable (a = b)
def mD (m : Mrk) : PyData := .tuple [tD m.t, .int m.a, .tuple [.int m.h, .str m.n], .int m.b]
def oD : Option Mrk → PyData
  | none => .none
  | some m => mD m
theorem mD_pl (m : Mrk) : pl 2 (mD m) = true := by simp [mD, tD, pl, plAll, m.ok]
theorem oD_pl (m : Option Mrk) : pl 2 (oD m) = true := by
  cases m with
  | none => simp [oD, pl]
  | some m => exact mD_pl m
theorem mD_inj {a b : Mrk} (h : mD a = mD b) : a = b := by
  obtain ⟨a1, a2, a3, a4, a5, _⟩ := a; obtain ⟨b1, b2, b3, b4, b5, _⟩ := b
  simp only [mD, PyData.tuple.injEq, List.cons.injEq, PyData.int.injEq, PyData.str.injEq, and_true] at h
  obtain ⟨h1, h2, ⟨h3, h4⟩, h5⟩ := h
  have := tD_inj h1
  subst this; subst h2; subst h3; subst h4; subst h5; rfl
theorem mD_eqv (a b : Mrk) : PyData.eqv (mD a) (mD b) = decide (a = b) := by
  rw [pl_eqv_dec (mD_pl a) (mD_pl b)]
  by_cases h : a = b
  · subst h; simp
  · rw [decide_eq_false h, decide_eq_false fun e => h (mD_inj e)]
theorem mD_shaped (a : Mrk) : SeqAt.shaped (mD a) = true := pl_shaped (mD_pl a)
theorem oD_shaped (a : Option Mrk) : SeqAt.shaped (oD a) = true := pl_shaped (oD_pl a)
theorem mDs_pl (ms : List Mrk) : ∀ d ∈ ms.map mD, pl 2 d = true := fun d h => by obtain ⟨m, _, rfl⟩ := List.mem_map.mp h; exact mD_pl m
theorem mDs_shaped (ws : List Mrk) : SeqAt.shaped (.list (ws.map mD)) = true := pl_shaped (pl_list (mDs_pl ws))
theorem mDs_shapedT (ws : List Mrk) : SeqAt.shaped (.tuple (ws.map mD)) = true := pl_shaped (pl_tuple (mDs_pl ws))
theorem mDs_any (ws : List Mrk) (w : Mrk) : ((ws.map mD).any fun z => PyData.eqv z (mD w)) = decide (w ∈ ws) := by
  rw [Bool.eq_iff_iff, List.any_eq_true, decide_eq_true_eq]
  constructor
  · rintro ⟨z, hz, e⟩
    obtain ⟨u, hu, rfl⟩ := List.mem_map.mp hz
    rw [mD_eqv, decide_eq_true_eq] at e
    subst e; exact hu
  · intro h
    exact ⟨mD w, List.mem_map_of_mem h, by rw [mD_eqv]; simp⟩
theorem mD_depth (m : Mrk) : (mD m).depth = 2 := by simp [mD, tD, PyData.depth, PyData.depthAll]
open PySem.W in
theorem mD_alike (a b : Mrk) : alike (mD a) (mD b) = true := by simp [mD, tD, alike, alikeAll]
open PySem.W in
theorem tD_alike (a b : Int × Int) : alike (tD a) (tD b) = true := by simp [tD, alike, alikeAll]
theorem tD_depth (w : Int × Int) : (tD w).depth = 1 := by simp [tD, PyData.depth, PyData.depthAll]
open PySem.W in
theorem mDs_alike (ws : List Mrk) : AllAlike (ws.map mD) := AllAlike.of mD_alike
open PySem.W in
theorem mDs_sortable (ws : List Mrk) : Sortable (ws.map mD) := Sortable.tuples fun w => ⟨_, _, rfl⟩
theorem mDs_depth (ws : List Mrk) : ∀ d ∈ ws.map mD, d.depth ≤ 60 := fun d h => by
  obtain ⟨w, _, rfl⟩ := List.mem_map.mp h
  rw [mD_depth]; decide
theorem mD_at {H : Hp} {m : Mrk} {v : V} (i : Im H (mD m) v) : ∃ a t k, v = .ref a ∧ H a = some (.tup [t, .int m.a, k, .int m.b]) ∧ Im H (tD m.t) t ∧ Im H (.tuple [.int m.h, .str m.n]) k := by
  obtain ⟨a, xs, rfl, ha, hx⟩ := im_tupE i
  simp only [ImAll] at hx
  obtain ⟨v1, r1, rfl, h1, v2, r2, rfl, h2, v3, r3, rfl, h3, v4, r4, rfl, h4, rfl⟩ := hx
  simp only [Im] at h2 h4
  subst h2; subst h4
  exact ⟨a, v1, v3, rfl, ha, h1, h3⟩
theorem ims_mk {H : Hp} {ms : List Mrk} {vs : List V} {i : Nat} {v : V} (h : ImAll H (ms.map mD) vs) (e : vs[i]? = some v) : ∃ m, ms[i]? = some m ∧ Im H (mD m) v := by
  obtain ⟨d, e1, e2⟩ := h.get e
  rw [List.getElem?_map] at e1
  cases q : ms[i]? with
  | none => rw [q] at e1; cases e1
  | some m => rw [q] at e1; cases e1; exact ⟨m, rfl, e2⟩
theorem oD_none {H : Hp} {v : V} (i : Im H (oD none) v) : v = .non := by simpa only [oD, Im] using i
open PySem.W in
/-- younger than -/
def gtM (m : Mrk) (t : Int × Int) : Bool := dataLt (tD t) (tD m.t)
noncomputable def kept1 (t : Int × Int) (k : List Mrk) (m : Mrk) : List Mrk := if gtM m t = true ∧ m ∉ k then k ++ [m] else k
noncomputable def takeS (t : Int × Int) (own : Mrk) (kept ms : List Mrk) : List Mrk := if own ∈ ms then kept else ms.foldl (kept1 t) kept
theorem kept1_len (t : Int × Int) (k : List Mrk) (m : Mrk) : (kept1 t k m).length ≤ k.length + 1 := by
  unfold kept1; split
  · simp
  · omega
theorem keptN_len (t : Int × Int) : ∀ (ms k : List Mrk), (ms.foldl (kept1 t) k).length ≤ k.length + ms.length
  | [], k => by simp
  | m :: ms, k => by
    have := keptN_len t ms (kept1 t k m)
    have := kept1_len t k m
    simp only [List.foldl_cons, List.length_cons]; omega
theorem takeS_len (t : Int × Int) (own : Mrk) (k ms : List Mrk) : (takeS t own k ms).length ≤ k.length + ms.length := by
  unfold takeS; split
  · omega
  · exact keptN_len t ms k
theorem take_foldl {α β : Type} {f : β → α → β} {b : β} {xs : List α} {i : Nat} {x : α} (h : xs[i]? = some x) : (xs.take (i + 1)).foldl f b = f ((xs.take i).foldl f b) x := by
  rw [take_snoc h, List.foldl_append]; rfl
open PySem.W in
def toldD : Option Mrk → List Mrk → List PyData
  | none, _ => []
  | some m, k => ((k ++ [m]).map mD).mergeSort fun d e => !dataLt e d
open PySem.W in
theorem told_swap (m : Mrk) (k : List Mrk) : (((m :: k).map mD).mergeSort fun d e => !dataLt e d) = toldD (some m) k := by
  unfold toldD
  refine sort_perm ?_ (mDs_alike _) (mDs_pl _)
  rw [List.map_cons, List.map_append]
  exact (List.perm_append_singleton _ _).symm
open PySem.W in
theorem toldD_pl (o : Option Mrk) (k : List Mrk) : ∀ d ∈ toldD o k, pl 2 d = true := by
  cases o with
  | none => intro d h; simp [toldD] at h
  | some m => intro d h; exact mDs_pl _ d ((List.mergeSort_perm _ _).mem_iff.mp h)
theorem toldD_shaped (o : Option Mrk) (k : List Mrk) : SeqAt.shaped (.tuple (toldD o k)) = true := pl_shaped (pl_tuple (toldD_pl o k))
def mkF (tv ov : V) (l : Addr) : List (Str × V) := [(Str.ofString "_transaction", tv), (Str.ofString "_own", ov), (Str.ofString "_kept", .ref l)]
def MarksAt (C : Addr) (H : Hp) (p l : Addr) (t : Int × Int) (own : Option Mrk) (kept : List Mrk) : Prop := ∃ dx tv ov ws, H p = some (.ins C dx (mkF tv ov l)) ∧ Im H (tD t) tv ∧ Im H (oD own) ov ∧ H l = some (.lst ws) ∧ ImAll H (kept.map mD) ws
theorem MarksAt.same {C p l : Addr} {H H' : Hp} {t : Int × Int} {own : Option Mrk} {kept : List Mrk} (a : MarksAt C H p l t own kept) (s : Same H H') : MarksAt C H' p l t own kept := by
  obtain ⟨dx, tv, ov, ws, h1, h2, h3, h4, h5⟩ := a
  exact ⟨dx, tv, ov, ws, s _ _ h1, Same.im s h2, Same.im s h3, s _ _ h4, Same.ims s h5⟩
theorem MarksAt.keep {C p l : Addr} {H H' : Hp} {t : Int × Int} {own : Option Mrk} {kept : List Mrk} (a : MarksAt C H p l t own kept) (tk : Tk H H') (k : ∀ b o, H b = some o → (b = p ∨ b = l) → H' b = some o) : MarksAt C H' p l t own kept := by
  obtain ⟨dx, tv, ov, ws, h1, h2, h3, h4, h5⟩ := a
  exact ⟨dx, tv, ov, ws, k _ _ h1 (.inl rfl), Im.mono tk _ _ h2, Im.mono tk _ _ h3, k _ _ h4 (.inr rfl), ImAll.mono tk _ _ h5⟩
/-- when i of the marks are looked at -/
noncomputable def takeS' (t : Int × Int) (own : Mrk) (kept ms : List Mrk) (i : Nat) : List Mrk := if own ∈ ms then kept else (ms.take i).foldl (kept1 t) kept
theorem takeS'_all {t : Int × Int} {own : Mrk} {kept ms : List Mrk} {i : Nat} (h : ms.length ≤ i) : takeS' t own kept ms i = takeS t own kept ms := by
  unfold takeS' takeS; rw [List.take_of_length_le h]
theorem takeS'_step {t : Int × Int} {own : Mrk} {kept ms : List Mrk} {i : Nat} {m : Mrk} (h : ms[i]? = some m) : takeS' t own kept ms (i + 1) = if own ∉ ms ∧ gtM m t = true ∧ m ∉ takeS' t own kept ms i then takeS' t own kept ms i ++ [m] else takeS' t own kept ms i := by
  unfold takeS'
  by_cases ho : own ∈ ms
  · rw [if_pos ho, if_pos ho, if_neg fun z => z.1 ho]
  · rw [if_neg ho, if_neg ho, take_foldl h]
    generalize List.foldl (kept1 t) kept (List.take i ms) = k
    unfold kept1
    by_cases z : gtM m t = true ∧ m ∉ k
    · rw [if_pos z, if_pos ⟨ho, z⟩]
    · rw [if_neg z, if_neg fun y => z y.2]
theorem ixN_ok {n : Nat} {j : Int} (h : 0 ≤ j) (h2 : j < n) : ixN n j = some j.toNat := by
  unfold ixN; rw [if_pos h, if_pos h2]
theorem takeS'_len (t : Int × Int) (own : Mrk) (kept ms : List Mrk) (i : Nat) : (takeS' t own kept ms i).length ≤ kept.length + ms.length := by
  unfold takeS'; split
  · omega
  · have := keptN_len t (ms.take i) kept
    rw [List.length_take] at this
    omega

local macro_rules | `(tactic| walk_at "hp") => `(tactic| first
  | assumption | exact upd_same | (refine get_new (by assumption) ?_; walk_at "hp") | (refine Gn.at (by assumption) ?_ (by assumption); walk_at "hp")
  | (refine (by assumption : Same _ _) _ _ ?_; walk_at "hp") | (refine get_ne (by assumption) ?_; walk_at "hp") | (refine get_ne (Ne.symm (by assumption)) ?_; walk_at "hp"))
local macro_rules | `(tactic| walk_at "im") => `(tactic| first
  | assumption | exact im_int | exact im_str | exact im_non | exact im_bool
  | (refine Gn.im (by assumption) ?_; walk_at "im") | (refine imNew (by assumption) ?_; walk_at "im") | (refine Same.im (by assumption) ?_; walk_at "im")
  | (refine imPut (by assumption) ?_; walk_at "im") | (refine imIns (by assumption) ?_; walk_at "im") | (refine imDk (by assumption) ?_; walk_at "im")
  | (refine im_tupNew (by assumption) ?_; walk_at "ims") | (refine im_tup (by assumption) ?_; walk_at "ims"))
local macro_rules | `(tactic| walk_at "ims") => `(tactic| first
  | assumption | exact im_nil | (refine Gn.ims (by assumption) ?_; walk_at "ims") | (refine imsNew (by assumption) ?_; walk_at "ims") | (refine Same.ims (by assumption) ?_; walk_at "ims")
  | (refine imsPut (by assumption) ?_; walk_at "ims") | (refine imsIns (by assumption) ?_; walk_at "ims") | (refine imsDk (by assumption) ?_; walk_at "ims") | (refine im_cons ?_ ?_; walk_at "im"; walk_at "ims"))

theorem ne_0_1 : (Str.ofString "_kept" = Str.ofString "_own") = False := eq_false (by decide +kernel)
theorem ne_0_1b : (Str.ofString "_kept" == Str.ofString "_own") = false := by decide +kernel
theorem ne_0_2 : (Str.ofString "_kept" = Str.ofString "_transaction") = False := eq_false (by decide +kernel)
theorem ne_0_2b : (Str.ofString "_kept" == Str.ofString "_transaction") = false := by decide +kernel
theorem ne_0_3 : (Str.ofString "_kept" = Str.ofString "begin") = False := eq_false (by decide +kernel)
theorem ne_0_3b : (Str.ofString "_kept" == Str.ofString "begin") = false := by decide +kernel
theorem ne_0_4 : (Str.ofString "_kept" = Str.ofString "end") = False := eq_false (by decide +kernel)
theorem ne_0_4b : (Str.ofString "_kept" == Str.ofString "end") = false := by decide +kernel
theorem ne_0_5 : (Str.ofString "_kept" = Str.ofString "own") = False := eq_false (by decide +kernel)
theorem ne_0_5b : (Str.ofString "_kept" == Str.ofString "own") = false := by decide +kernel
theorem ne_0_6 : (Str.ofString "_kept" = Str.ofString "take") = False := eq_false (by decide +kernel)
theorem ne_0_6b : (Str.ofString "_kept" == Str.ofString "take") = false := by decide +kernel
theorem ne_0_7 : (Str.ofString "_kept" = Str.ofString "told") = False := eq_false (by decide +kernel)
theorem ne_0_7b : (Str.ofString "_kept" == Str.ofString "told") = false := by decide +kernel
theorem ne_1_0 : (Str.ofString "_own" = Str.ofString "_kept") = False := eq_false (by decide +kernel)
theorem ne_1_0b : (Str.ofString "_own" == Str.ofString "_kept") = false := by decide +kernel
theorem ne_1_2 : (Str.ofString "_own" = Str.ofString "_transaction") = False := eq_false (by decide +kernel)
theorem ne_1_2b : (Str.ofString "_own" == Str.ofString "_transaction") = false := by decide +kernel
theorem ne_1_3 : (Str.ofString "_own" = Str.ofString "begin") = False := eq_false (by decide +kernel)
theorem ne_1_3b : (Str.ofString "_own" == Str.ofString "begin") = false := by decide +kernel
theorem ne_1_4 : (Str.ofString "_own" = Str.ofString "end") = False := eq_false (by decide +kernel)
theorem ne_1_4b : (Str.ofString "_own" == Str.ofString "end") = false := by decide +kernel
theorem ne_1_5 : (Str.ofString "_own" = Str.ofString "own") = False := eq_false (by decide +kernel)
theorem ne_1_5b : (Str.ofString "_own" == Str.ofString "own") = false := by decide +kernel
theorem ne_1_6 : (Str.ofString "_own" = Str.ofString "take") = False := eq_false (by decide +kernel)
theorem ne_1_6b : (Str.ofString "_own" == Str.ofString "take") = false := by decide +kernel
theorem ne_1_7 : (Str.ofString "_own" = Str.ofString "told") = False := eq_false (by decide +kernel)
theorem ne_1_7b : (Str.ofString "_own" == Str.ofString "told") = false := by decide +kernel
theorem ne_2_0 : (Str.ofString "_transaction" = Str.ofString "_kept") = False := eq_false (by decide +kernel)
theorem ne_2_0b : (Str.ofString "_transaction" == Str.ofString "_kept") = false := by decide +kernel
theorem ne_2_1 : (Str.ofString "_transaction" = Str.ofString "_own") = False := eq_false (by decide +kernel)
theorem ne_2_1b : (Str.ofString "_transaction" == Str.ofString "_own") = false := by decide +kernel
theorem ne_2_3 : (Str.ofString "_transaction" = Str.ofString "begin") = False := eq_false (by decide +kernel)
theorem ne_2_3b : (Str.ofString "_transaction" == Str.ofString "begin") = false := by decide +kernel
theorem ne_2_4 : (Str.ofString "_transaction" = Str.ofString "end") = False := eq_false (by decide +kernel)
theorem ne_2_4b : (Str.ofString "_transaction" == Str.ofString "end") = false := by decide +kernel
theorem ne_2_5 : (Str.ofString "_transaction" = Str.ofString "own") = False := eq_false (by decide +kernel)
theorem ne_2_5b : (Str.ofString "_transaction" == Str.ofString "own") = false := by decide +kernel
theorem ne_2_6 : (Str.ofString "_transaction" = Str.ofString "take") = False := eq_false (by decide +kernel)
theorem ne_2_6b : (Str.ofString "_transaction" == Str.ofString "take") = false := by decide +kernel
theorem ne_2_7 : (Str.ofString "_transaction" = Str.ofString "told") = False := eq_false (by decide +kernel)
theorem ne_2_7b : (Str.ofString "_transaction" == Str.ofString "told") = false := by decide +kernel
theorem ne_3_0 : (Str.ofString "begin" = Str.ofString "_kept") = False := eq_false (by decide +kernel)
theorem ne_3_0b : (Str.ofString "begin" == Str.ofString "_kept") = false := by decide +kernel
theorem ne_3_1 : (Str.ofString "begin" = Str.ofString "_own") = False := eq_false (by decide +kernel)
theorem ne_3_1b : (Str.ofString "begin" == Str.ofString "_own") = false := by decide +kernel
theorem ne_3_2 : (Str.ofString "begin" = Str.ofString "_transaction") = False := eq_false (by decide +kernel)
theorem ne_3_2b : (Str.ofString "begin" == Str.ofString "_transaction") = false := by decide +kernel
theorem ne_4_0 : (Str.ofString "end" = Str.ofString "_kept") = False := eq_false (by decide +kernel)
theorem ne_4_0b : (Str.ofString "end" == Str.ofString "_kept") = false := by decide +kernel
theorem ne_4_1 : (Str.ofString "end" = Str.ofString "_own") = False := eq_false (by decide +kernel)
theorem ne_4_1b : (Str.ofString "end" == Str.ofString "_own") = false := by decide +kernel
theorem ne_4_2 : (Str.ofString "end" = Str.ofString "_transaction") = False := eq_false (by decide +kernel)
theorem ne_4_2b : (Str.ofString "end" == Str.ofString "_transaction") = false := by decide +kernel
theorem ne_5_0 : (Str.ofString "own" = Str.ofString "_kept") = False := eq_false (by decide +kernel)
theorem ne_5_0b : (Str.ofString "own" == Str.ofString "_kept") = false := by decide +kernel
theorem ne_5_1 : (Str.ofString "own" = Str.ofString "_own") = False := eq_false (by decide +kernel)
theorem ne_5_1b : (Str.ofString "own" == Str.ofString "_own") = false := by decide +kernel
theorem ne_5_2 : (Str.ofString "own" = Str.ofString "_transaction") = False := eq_false (by decide +kernel)
theorem ne_5_2b : (Str.ofString "own" == Str.ofString "_transaction") = false := by decide +kernel
theorem ne_6_0 : (Str.ofString "take" = Str.ofString "_kept") = False := eq_false (by decide +kernel)
theorem ne_6_0b : (Str.ofString "take" == Str.ofString "_kept") = false := by decide +kernel
theorem ne_6_1 : (Str.ofString "take" = Str.ofString "_own") = False := eq_false (by decide +kernel)
theorem ne_6_1b : (Str.ofString "take" == Str.ofString "_own") = false := by decide +kernel
theorem ne_6_2 : (Str.ofString "take" = Str.ofString "_transaction") = False := eq_false (by decide +kernel)
theorem ne_6_2b : (Str.ofString "take" == Str.ofString "_transaction") = false := by decide +kernel
theorem ne_7_0 : (Str.ofString "told" = Str.ofString "_kept") = False := eq_false (by decide +kernel)
theorem ne_7_0b : (Str.ofString "told" == Str.ofString "_kept") = false := by decide +kernel
theorem ne_7_1 : (Str.ofString "told" = Str.ofString "_own") = False := eq_false (by decide +kernel)
theorem ne_7_1b : (Str.ofString "told" == Str.ofString "_own") = false := by decide +kernel
theorem ne_7_2 : (Str.ofString "told" = Str.ofString "_transaction") = False := eq_false (by decide +kernel)
theorem ne_7_2b : (Str.ofString "told" == Str.ofString "_transaction") = false := by decide +kernel
def top (i : Nat) : Stmt := PySem.Challenge.pw_ringloosed_k16_marks_of_a_transaction.main.body.getD i (.Pass ⟨0, 0, 0, 0⟩)
abbrev s_Marks_init : Stmt := inClass (top 1) 0
abbrev N_Marks_init : List Str := ["self", "transaction"]
theorem sc_Marks_init : FnScope N_Marks_init ["self", "transaction"] (defScope s_Marks_init) := ⟨rfl, rfl, rfl, by decide +kernel, rfl, by decide +kernel, by decide +kernel⟩
abbrev s_Marks_own : Stmt := inClass (top 1) 1
abbrev N_Marks_own : List Str := ["self"]
theorem sc_Marks_own : FnScope N_Marks_own ["self"] (defScope s_Marks_own) := ⟨rfl, rfl, rfl, by decide +kernel, rfl, by decide +kernel, by decide +kernel⟩
abbrev s_Marks_begin : Stmt := inClass (top 1) 2
abbrev N_Marks_begin : List Str := ["self", "mark"]
theorem sc_Marks_begin : FnScope N_Marks_begin ["self", "mark"] (defScope s_Marks_begin) := ⟨rfl, rfl, rfl, by decide +kernel, rfl, by decide +kernel, by decide +kernel⟩
abbrev s_Marks_end : Stmt := inClass (top 1) 3
abbrev N_Marks_end : List Str := ["self"]
theorem sc_Marks_end : FnScope N_Marks_end ["self"] (defScope s_Marks_end) := ⟨rfl, rfl, rfl, by decide +kernel, rfl, by decide +kernel, by decide +kernel⟩
abbrev s_Marks_take : Stmt := inClass (top 1) 4
abbrev N_Marks_take : List Str := ["self", "marks", "mark"]
theorem sc_Marks_take : FnScope N_Marks_take ["self", "marks"] (defScope s_Marks_take) := ⟨rfl, rfl, rfl, by decide +kernel, rfl, by decide +kernel, by decide +kernel⟩
abbrev s_Marks_told : Stmt := inClass (top 1) 5
abbrev N_Marks_told : List Str := ["self"]
theorem sc_Marks_told : FnScope N_Marks_told ["self"] (defScope s_Marks_told) := ⟨rfl, rfl, rfl, by decide +kernel, rfl, by decide +kernel, by decide +kernel⟩
abbrev s_law_stream : Stmt := top 3
abbrev N_law_stream : List Str := ["_law_cell", "_law_k", "_law_digits"]
theorem sc_law_stream : FnScope N_law_stream ["_law_cell", "_law_k"] (defScope s_law_stream) := ⟨rfl, rfl, rfl, by decide +kernel, rfl, by decide +kernel, by decide +kernel⟩
abbrev s_law_next : Stmt := top 4
abbrev N_law_next : List Str := ["_law_stream_here", "_law_size", "_law_drawn"]
theorem sc_law_next : FnScope N_law_next ["_law_stream_here", "_law_size"] (defScope s_law_next) := ⟨rfl, rfl, rfl, by decide +kernel, rfl, by decide +kernel, by decide +kernel⟩
abbrev s_law_flag : Stmt := top 5
abbrev N_law_flag : List Str := ["_law_actual", "_law_due_here"]
theorem sc_law_flag : FnScope N_law_flag ["_law_actual", "_law_due_here"] (defScope s_law_flag) := ⟨rfl, rfl, rfl, by decide +kernel, rfl, by decide +kernel, by decide +kernel⟩
abbrev s_law_transaction : Stmt := top 6
abbrev N_law_transaction : List Str := ["_law_stream_here"]
theorem sc_law_transaction : FnScope N_law_transaction ["_law_stream_here"] (defScope s_law_transaction) := ⟨rfl, rfl, rfl, by decide +kernel, rfl, by decide +kernel, by decide +kernel⟩
abbrev s_law_mark : Stmt := top 7
abbrev N_law_mark : List Str := ["_law_stream_here", "_law_key"]
theorem sc_law_mark : FnScope N_law_mark ["_law_stream_here"] (defScope s_law_mark) := ⟨rfl, rfl, rfl, by decide +kernel, rfl, by decide +kernel, by decide +kernel⟩
abbrev s_law_due : Stmt := top 8
abbrev N_law_due : List Str := ["_law_own", "_law_kept"]
theorem sc_law_due : FnScope N_law_due ["_law_own", "_law_kept"] (defScope s_law_due) := ⟨rfl, rfl, rfl, by decide +kernel, rfl, by decide +kernel, by decide +kernel⟩
abbrev s_law_taken : Stmt := top 9
abbrev N_law_taken : List Str := ["_law_marks", "_law_own", "_law_kept", "_law_stream_here", "_law_given", "_law_due_here", "_law_mark_here", "_law_k"]
theorem sc_law_taken : FnScope N_law_taken ["_law_marks", "_law_own", "_law_kept", "_law_stream_here"] (defScope s_law_taken) := ⟨rfl, rfl, rfl, by decide +kernel, rfl, by decide +kernel, by decide +kernel⟩
abbrev s_law : Stmt := top 10
abbrev N_law : List Str := ["_law_script", "_law_cell", "_law_stream_here", "_law_transaction_here", "_law_marks", "_law_own", "_law_kept", "_law_k", "_law_kind", "_law_told"]
theorem sc_law : FnScope N_law ["_law_script"] (defScope s_law) := ⟨rfl, rfl, rfl, by decide +kernel, rfl, by decide +kernel, by decide +kernel⟩
structure Txt (K : PySem.W.Frag) (mg : Str → Option Value) where
  C_Marks : Addr
  cl_Marks : Cls K C_Marks
  gC_Marks : mg "Marks" = some (.ref C_Marks)
  n_Marks_transaction : NoAttr K C_Marks "_transaction"
  n_Marks_own : NoAttr K C_Marks "_own"
  n_Marks_kept : NoAttr K C_Marks "_kept"
  f_Marks_init : Addr
  d_Marks_init : FuncData
  F_Marks_init : Fun K "__init__" "Marks.__init__" s_Marks_init f_Marks_init d_Marks_init
  b_Marks_init : Binds K d_Marks_init ["self", "transaction"] []
  M_Marks : Mk K C_Marks f_Marks_init
  f_Marks_own : Addr
  d_Marks_own : FuncData
  F_Marks_own : Fun K "own" "Marks.own" s_Marks_own f_Marks_own d_Marks_own
  b_Marks_own : Binds K d_Marks_own ["self"] []
  p_Marks_own : Addr
  P_Marks_own : PropOf K C_Marks "own" p_Marks_own f_Marks_own
  f_Marks_begin : Addr
  d_Marks_begin : FuncData
  F_Marks_begin : Fun K "begin" "Marks.begin" s_Marks_begin f_Marks_begin d_Marks_begin
  b_Marks_begin : Binds K d_Marks_begin ["self", "mark"] []
  m_Marks_begin : Meth K C_Marks "begin" f_Marks_begin
  f_Marks_end : Addr
  d_Marks_end : FuncData
  F_Marks_end : Fun K "end" "Marks.end" s_Marks_end f_Marks_end d_Marks_end
  b_Marks_end : Binds K d_Marks_end ["self"] []
  m_Marks_end : Meth K C_Marks "end" f_Marks_end
  f_Marks_take : Addr
  d_Marks_take : FuncData
  F_Marks_take : Fun K "take" "Marks.take" s_Marks_take f_Marks_take d_Marks_take
  b_Marks_take : Binds K d_Marks_take ["self", "marks"] []
  m_Marks_take : Meth K C_Marks "take" f_Marks_take
  f_Marks_told : Addr
  d_Marks_told : FuncData
  F_Marks_told : Fun K "told" "Marks.told" s_Marks_told f_Marks_told d_Marks_told
  b_Marks_told : Binds K d_Marks_told ["self"] []
  m_Marks_told : Meth K C_Marks "told" f_Marks_told
  f_law_stream : Addr
  d_law_stream : FuncData
  F_law_stream : Fun K "_law_stream" "_law_stream" s_law_stream f_law_stream d_law_stream
  b_law_stream : Binds K d_law_stream ["_law_cell", "_law_k"] []
  g_law_stream : mg "_law_stream" = some (.ref f_law_stream)
  f_law_next : Addr
  d_law_next : FuncData
  F_law_next : Fun K "_law_next" "_law_next" s_law_next f_law_next d_law_next
  b_law_next : Binds K d_law_next ["_law_stream_here", "_law_size"] []
  g_law_next : mg "_law_next" = some (.ref f_law_next)
  f_law_flag : Addr
  d_law_flag : FuncData
  F_law_flag : Fun K "_law_flag" "_law_flag" s_law_flag f_law_flag d_law_flag
  b_law_flag : Binds K d_law_flag ["_law_actual", "_law_due_here"] []
  g_law_flag : mg "_law_flag" = some (.ref f_law_flag)
  f_law_transaction : Addr
  d_law_transaction : FuncData
  F_law_transaction : Fun K "_law_transaction" "_law_transaction" s_law_transaction f_law_transaction d_law_transaction
  b_law_transaction : Binds K d_law_transaction ["_law_stream_here"] []
  g_law_transaction : mg "_law_transaction" = some (.ref f_law_transaction)
  f_law_mark : Addr
  d_law_mark : FuncData
  F_law_mark : Fun K "_law_mark" "_law_mark" s_law_mark f_law_mark d_law_mark
  b_law_mark : Binds K d_law_mark ["_law_stream_here"] []
  g_law_mark : mg "_law_mark" = some (.ref f_law_mark)
  f_law_due : Addr
  d_law_due : FuncData
  F_law_due : Fun K "_law_due" "_law_due" s_law_due f_law_due d_law_due
  b_law_due : Binds K d_law_due ["_law_own", "_law_kept"] []
  g_law_due : mg "_law_due" = some (.ref f_law_due)
  f_law_taken : Addr
  d_law_taken : FuncData
  F_law_taken : Fun K "_law_taken" "_law_taken" s_law_taken f_law_taken d_law_taken
  b_law_taken : Binds K d_law_taken ["_law_marks", "_law_own", "_law_kept", "_law_stream_here"] []
  g_law_taken : mg "_law_taken" = some (.ref f_law_taken)
  f_law : Addr
  d_law : FuncData
  F_law : Fun K "law" "law" s_law f_law d_law
  b_law : Binds K d_law ["_law_script"] []
  g_law : mg "law" = some (.ref f_law)
  z_tuple : mg "tuple" = none
  z_sorted : mg "sorted" = none
  z_int : mg "int" = none
  z_isinstance : mg "isinstance" = none
  z_bool : mg "bool" = none
  z_range : mg "range" = none
  z_len : mg "len" = none
  z_min : mg "min" = none
section
variable {P : Program} {w : World} {K : PySem.W.Frag} {mg : Str → Option Value} {base : Heap}
def spLaw (K : PySem.W.Frag) : Sp := fun vs H Q _ => ∃ (a : Addr) (ns : List Int), vs = [.ref a] ∧ SqL K H a (ns.map V.int) ∧ ns.length ≤ 63 ∧ ∀ H', Q (.bl true) H'
def sp_Marks_init (C : Addr) : Sp := fun vs H Q _ => ∃ (p dx : Addr) (t : Int × Int) (tv : V), vs = [.ref p, tv] ∧ H p = some (.ins C dx []) ∧ Im H (tD t) tv ∧
  ∀ (l : Addr) (H' : Hp), H l = none → MarksAt C H' p l t none [] → Bt p p H H' → Q .non H'
theorem ok_Marks_init (T : Txt K mg) : FnOk P w K mg base CX0 1 T.f_Marks_init T.d_Marks_init ["self", "transaction"] (sp_Marks_init T.C_Marks) := by
  refine Fun.ok T.F_Marks_init sc_Marks_init (fun vs H Q E h => ?_) (fun cdv A outer s H vs Q E hr h => ?_)
  · obtain ⟨p, dx, t, tv, rfl, hp, it, kk⟩ := h; rfl
  · obtain ⟨p, dx, t, tv, rfl, hp, it, kk⟩ := h
    have hu := hu_of hr
    refine ⟨_, (pss_cons (ps_fld (pv 0) (pv 1) rfl)
      (pss_cons (ps_fld (pv 0) pe_non rfl)
      (pss_one (ps_fld (pv 0) (pe_lst pa_nil) rfl)))), ?_⟩
    (try simp only [ne_0_1, ne_0_1b, ne_0_2, ne_0_2b, ne_0_3, ne_0_3b, ne_0_4, ne_0_4b, ne_0_5, ne_0_5b, ne_0_6, ne_0_6b, ne_0_7, ne_0_7b, ne_1_0, ne_1_0b, ne_1_2, ne_1_2b, ne_1_3, ne_1_3b, ne_1_4, ne_1_4b, ne_1_5, ne_1_5b, ne_1_6, ne_1_6b, ne_1_7, ne_1_7b, ne_2_0, ne_2_0b, ne_2_1, ne_2_1b, ne_2_3, ne_2_3b, ne_2_4, ne_2_4b, ne_2_5, ne_2_5b, ne_2_6, ne_2_6b, ne_2_7, ne_2_7b, ne_3_0, ne_3_0b, ne_3_1, ne_3_1b, ne_3_2, ne_3_2b, ne_4_0, ne_4_0b, ne_4_1, ne_4_1b, ne_4_2, ne_4_2b, ne_5_0, ne_5_0b, ne_5_1, ne_5_1b, ne_5_2, ne_5_2b, ne_6_0, ne_6_0b, ne_6_1, ne_6_1b, ne_6_2, ne_6_2b, ne_7_0, ne_7_0b, ne_7_1, ne_7_1b, ne_7_2, ne_7_2b, cxOf, Cx.nox, Cx.wish, tSeq, tAsg, tC, gName, tIfS, tTest, tOp, tUn, rU, rI0, rI, tVar, tNext, tBreak, tRet, tRetN, tDrop, tLst, tTup, tCons, tNil, tCB, tB, tOr, tAnd, tNot, tIf, tCall, tFor_eq, tLc_eq, iRng1, iRng2, iList, iTup, gTup, gTupH, gUnlH, gCons, gNil, gSub, rSetL, rIxL, rIxT, rIxLH, rIxTH, rSlTS, rCatS, rTupS, rIsiH, rLenS, V.ty.injEq, tyS_non, tyS_bl, tyS_int, tyS_str, tyS_ref, tyO_l, tyO_t, tyO_d, tyO_dt, kit_ll, kit_tt, kit_bb, kit_ii, kit_ib, kit_bi, kit_nt, kit_it, kit_st, kit_bt, kit_lt, kit_dt, kit_ni, kit_si, kit_ti, kit_li, kit_di, kit_nb, kit_ns, kit_is, kit_bs, kit_ss, kit_ts, kit_ls, kit_ds, kit_dd, lenS_ref, lenO_l, lenO_t,  rAppend, tM1, rIxS, tSl, tPart, tNoPart, tBM, tBM0, tDGetS, sDPutS, tTruS, truO_l, truO_t, truS_ref, truS_non, truS_bl, truS_int, tFld, sFld, sFldAug, rAdd, tMeth, tProp, tMake, tMakeK, List.take_succ_cons, List.take_zero, List.drop_succ_cons, List.drop_zero, List.take_nil, tIsN, tNotN, tAndV, tOrV, tNotV, putF, List.lookup, List.any_cons, List.any_nil, Sum.inr.injEq, HO.ins.injEq, HO.dK.injEq, eq_self, beq_self_eq_true, beq_iff_eq, decide_true, decide_false, Bool.or_true, Bool.true_or, Bool.or_false, Bool.false_or, tYes, rEq, rNe, _root_.L2.start, wipe, List.map_cons, List.map_nil, List.length_cons, List.length_nil, List.append_nil, Nat.reduceAdd, Nat.reduceSub, List.replicate_succ, List.replicate_zero, List.cons_append, List.nil_append, List.getElem?_cons_zero, List.getElem?_cons_succ, List.set_cons_zero, List.set_cons_succ, Option.some.injEq, V.int.injEq, V.ref.injEq, V.bl.injEq, V.str.injEq, List.cons.injEq, HO.lst.injEq, HO.tup.injEq, and_assoc, and_true, true_and, exists_eq_left, exists_eq_left', exists_and_left, exists_eq, reduceCtorEq, false_and, and_false, or_false, false_or, exists_false, decide_eq_true_eq, CPow, CDivW, Int.reducePow, Int.reduceLT, Int.reduceLE, Int.reduceNeg, Int.reduceToNat, Int.reduceAbs, Nat.reducePow, Nat.reduceLT, Nat.reduceLeDiff, sizeLine_eq, Int.reduceMul, Int.reduceAdd, Int.reduceSub, Bool.not_eq_true', decide_eq_false_iff_not, scal, Bool.not_true, Bool.not_false, Bool.true_eq_false, Bool.false_eq_true, ite_false, ite_true, if_true, if_false, ite_self, forall_const, atI0, atI1, atI2, atI3, ixN20, ixN21, upd_same, upd_upd, Int.zero_add, CMul, Int.reduceSub, Nat.le_refl, Nat.zero_le, or_true, true_or, exists_const, Int.sub_zero, hp, T.cl_Marks, T.n_Marks_transaction, T.n_Marks_own, T.n_Marks_kept])
    intro q hq
    obtain ⟨nqp, hq'⟩ := upd_none hq
    (try simp only [ne_0_1, ne_0_1b, ne_0_2, ne_0_2b, ne_0_3, ne_0_3b, ne_0_4, ne_0_4b, ne_0_5, ne_0_5b, ne_0_6, ne_0_6b, ne_0_7, ne_0_7b, ne_1_0, ne_1_0b, ne_1_2, ne_1_2b, ne_1_3, ne_1_3b, ne_1_4, ne_1_4b, ne_1_5, ne_1_5b, ne_1_6, ne_1_6b, ne_1_7, ne_1_7b, ne_2_0, ne_2_0b, ne_2_1, ne_2_1b, ne_2_3, ne_2_3b, ne_2_4, ne_2_4b, ne_2_5, ne_2_5b, ne_2_6, ne_2_6b, ne_2_7, ne_2_7b, ne_3_0, ne_3_0b, ne_3_1, ne_3_1b, ne_3_2, ne_3_2b, ne_4_0, ne_4_0b, ne_4_1, ne_4_1b, ne_4_2, ne_4_2b, ne_5_0, ne_5_0b, ne_5_1, ne_5_1b, ne_5_2, ne_5_2b, ne_6_0, ne_6_0b, ne_6_1, ne_6_1b, ne_6_2, ne_6_2b, ne_7_0, ne_7_0b, ne_7_1, ne_7_1b, ne_7_2, ne_7_2b, cxOf, Cx.nox, Cx.wish, tSeq, tAsg, tC, gName, tIfS, tTest, tOp, tUn, rU, rI0, rI, tVar, tNext, tBreak, tRet, tRetN, tDrop, tLst, tTup, tCons, tNil, tCB, tB, tOr, tAnd, tNot, tIf, tCall, tFor_eq, tLc_eq, iRng1, iRng2, iList, iTup, gTup, gTupH, gUnlH, gCons, gNil, gSub, rSetL, rIxL, rIxT, rIxLH, rIxTH, rSlTS, rCatS, rTupS, rIsiH, rLenS, V.ty.injEq, tyS_non, tyS_bl, tyS_int, tyS_str, tyS_ref, tyO_l, tyO_t, tyO_d, tyO_dt, kit_ll, kit_tt, kit_bb, kit_ii, kit_ib, kit_bi, kit_nt, kit_it, kit_st, kit_bt, kit_lt, kit_dt, kit_ni, kit_si, kit_ti, kit_li, kit_di, kit_nb, kit_ns, kit_is, kit_bs, kit_ss, kit_ts, kit_ls, kit_ds, kit_dd, lenS_ref, lenO_l, lenO_t,  rAppend, tM1, rIxS, tSl, tPart, tNoPart, tBM, tBM0, tDGetS, sDPutS, tTruS, truO_l, truO_t, truS_ref, truS_non, truS_bl, truS_int, tFld, sFld, sFldAug, rAdd, tMeth, tProp, tMake, tMakeK, List.take_succ_cons, List.take_zero, List.drop_succ_cons, List.drop_zero, List.take_nil, tIsN, tNotN, tAndV, tOrV, tNotV, putF, List.lookup, List.any_cons, List.any_nil, Sum.inr.injEq, HO.ins.injEq, HO.dK.injEq, eq_self, beq_self_eq_true, beq_iff_eq, decide_true, decide_false, Bool.or_true, Bool.true_or, Bool.or_false, Bool.false_or, tYes, rEq, rNe, _root_.L2.start, wipe, List.map_cons, List.map_nil, List.length_cons, List.length_nil, List.append_nil, Nat.reduceAdd, Nat.reduceSub, List.replicate_succ, List.replicate_zero, List.cons_append, List.nil_append, List.getElem?_cons_zero, List.getElem?_cons_succ, List.set_cons_zero, List.set_cons_succ, Option.some.injEq, V.int.injEq, V.ref.injEq, V.bl.injEq, V.str.injEq, List.cons.injEq, HO.lst.injEq, HO.tup.injEq, and_assoc, and_true, true_and, exists_eq_left, exists_eq_left', exists_and_left, exists_eq, reduceCtorEq, false_and, and_false, or_false, false_or, exists_false, decide_eq_true_eq, CPow, CDivW, Int.reducePow, Int.reduceLT, Int.reduceLE, Int.reduceNeg, Int.reduceToNat, Int.reduceAbs, Nat.reducePow, Nat.reduceLT, Nat.reduceLeDiff, sizeLine_eq, Int.reduceMul, Int.reduceAdd, Int.reduceSub, Bool.not_eq_true', decide_eq_false_iff_not, scal, Bool.not_true, Bool.not_false, Bool.true_eq_false, Bool.false_eq_true, ite_false, ite_true, if_true, if_false, ite_self, forall_const, atI0, atI1, atI2, atI3, ixN20, ixN21, upd_same, upd_upd, Int.zero_add, CMul, Int.reduceSub, Nat.le_refl, Nat.zero_le, or_true, true_or, exists_const, Int.sub_zero, upd_ne nqp.symm, T.cl_Marks, T.n_Marks_kept])
    refine kk q _ hq' ⟨dx, tv, .non, [], upd_same, imIns (by rw [upd_ne nqp.symm]; exact upd_same) (imNew hq (imIns hp it)), im_non, ?_, im_nil⟩ (Bt.putP (Bt.new (Bt.putP (Bt.refl _ _ _)) hq))
    rw [upd_ne nqp]; exact upd_same
def sp_Marks_own (C : Addr) : Sp := fun vs H Q _ => ∃ (p l : Addr) (t : Int × Int) (own : Option Mrk) (kept : List Mrk), vs = [.ref p] ∧ MarksAt C H p l t own kept ∧ ∀ v, Im H (oD own) v → Q v H
theorem ok_Marks_own (T : Txt K mg) : FnOk P w K mg base CX0 1 T.f_Marks_own T.d_Marks_own ["self"] (sp_Marks_own T.C_Marks) := by
  refine Fun.ok T.F_Marks_own sc_Marks_own (fun vs H Q E h => ?_) (fun cdv A outer s H vs Q E hr h => ?_)
  · obtain ⟨p, l, t, own, kept, rfl, ⟨dx, tv, ov, ws, hp, it, io, hl, iw⟩, kk⟩ := h; rfl
  · obtain ⟨p, l, t, own, kept, rfl, ⟨dx, tv, ov, ws, hp, it, io, hl, iw⟩, kk⟩ := h
    have hu := hu_of hr
    refine ⟨_, (pss_one (ps_ret (pe_fld (pv 0) rfl))), ?_⟩
    (try simp only [ne_0_1, ne_0_1b, ne_0_2, ne_0_2b, ne_0_3, ne_0_3b, ne_0_4, ne_0_4b, ne_0_5, ne_0_5b, ne_0_6, ne_0_6b, ne_0_7, ne_0_7b, ne_1_0, ne_1_0b, ne_1_2, ne_1_2b, ne_1_3, ne_1_3b, ne_1_4, ne_1_4b, ne_1_5, ne_1_5b, ne_1_6, ne_1_6b, ne_1_7, ne_1_7b, ne_2_0, ne_2_0b, ne_2_1, ne_2_1b, ne_2_3, ne_2_3b, ne_2_4, ne_2_4b, ne_2_5, ne_2_5b, ne_2_6, ne_2_6b, ne_2_7, ne_2_7b, ne_3_0, ne_3_0b, ne_3_1, ne_3_1b, ne_3_2, ne_3_2b, ne_4_0, ne_4_0b, ne_4_1, ne_4_1b, ne_4_2, ne_4_2b, ne_5_0, ne_5_0b, ne_5_1, ne_5_1b, ne_5_2, ne_5_2b, ne_6_0, ne_6_0b, ne_6_1, ne_6_1b, ne_6_2, ne_6_2b, ne_7_0, ne_7_0b, ne_7_1, ne_7_1b, ne_7_2, ne_7_2b, cxOf, Cx.nox, Cx.wish, tSeq, tAsg, tC, gName, tIfS, tTest, tOp, tUn, rU, rI0, rI, tVar, tNext, tBreak, tRet, tRetN, tDrop, tLst, tTup, tCons, tNil, tCB, tB, tOr, tAnd, tNot, tIf, tCall, tFor_eq, tLc_eq, iRng1, iRng2, iList, iTup, gTup, gTupH, gUnlH, gCons, gNil, gSub, rSetL, rIxL, rIxT, rIxLH, rIxTH, rSlTS, rCatS, rTupS, rIsiH, rLenS, V.ty.injEq, tyS_non, tyS_bl, tyS_int, tyS_str, tyS_ref, tyO_l, tyO_t, tyO_d, tyO_dt, kit_ll, kit_tt, kit_bb, kit_ii, kit_ib, kit_bi, kit_nt, kit_it, kit_st, kit_bt, kit_lt, kit_dt, kit_ni, kit_si, kit_ti, kit_li, kit_di, kit_nb, kit_ns, kit_is, kit_bs, kit_ss, kit_ts, kit_ls, kit_ds, kit_dd, lenS_ref, lenO_l, lenO_t,  rAppend, tM1, rIxS, tSl, tPart, tNoPart, tBM, tBM0, tDGetS, sDPutS, tTruS, truO_l, truO_t, truS_ref, truS_non, truS_bl, truS_int, tFld, sFld, sFldAug, rAdd, tMeth, tProp, tMake, tMakeK, List.take_succ_cons, List.take_zero, List.drop_succ_cons, List.drop_zero, List.take_nil, tIsN, tNotN, tAndV, tOrV, tNotV, putF, List.lookup, List.any_cons, List.any_nil, Sum.inr.injEq, HO.ins.injEq, HO.dK.injEq, eq_self, beq_self_eq_true, beq_iff_eq, decide_true, decide_false, Bool.or_true, Bool.true_or, Bool.or_false, Bool.false_or, tYes, rEq, rNe, _root_.L2.start, wipe, List.map_cons, List.map_nil, List.length_cons, List.length_nil, List.append_nil, Nat.reduceAdd, Nat.reduceSub, List.replicate_succ, List.replicate_zero, List.cons_append, List.nil_append, List.getElem?_cons_zero, List.getElem?_cons_succ, List.set_cons_zero, List.set_cons_succ, Option.some.injEq, V.int.injEq, V.ref.injEq, V.bl.injEq, V.str.injEq, List.cons.injEq, HO.lst.injEq, HO.tup.injEq, and_assoc, and_true, true_and, exists_eq_left, exists_eq_left', exists_and_left, exists_eq, reduceCtorEq, false_and, and_false, or_false, false_or, exists_false, decide_eq_true_eq, CPow, CDivW, Int.reducePow, Int.reduceLT, Int.reduceLE, Int.reduceNeg, Int.reduceToNat, Int.reduceAbs, Nat.reducePow, Nat.reduceLT, Nat.reduceLeDiff, sizeLine_eq, Int.reduceMul, Int.reduceAdd, Int.reduceSub, Bool.not_eq_true', decide_eq_false_iff_not, scal, Bool.not_true, Bool.not_false, Bool.true_eq_false, Bool.false_eq_true, ite_false, ite_true, if_true, if_false, ite_self, forall_const, atI0, atI1, atI2, atI3, ixN20, ixN21, upd_same, upd_upd, Int.zero_add, CMul, Int.reduceSub, Nat.le_refl, Nat.zero_le, or_true, true_or, exists_const, Int.sub_zero, hp, T.cl_Marks, T.n_Marks_own, mkF])
    exact kk _ io
def sp_Marks_begin (C : Addr) : Sp := fun vs H Q _ => ∃ (p l : Addr) (t : Int × Int) (own : Option Mrk) (kept : List Mrk) (m : Mrk) (mv : V), vs = [.ref p, mv] ∧ MarksAt C H p l t own kept ∧ Im H (mD m) mv ∧
  ∀ (l' : Addr) (H' : Hp), H l' = none → MarksAt C H' p l' t (some m) [] → Bt p p H H' → Q .non H'
theorem ok_Marks_begin (T : Txt K mg) : FnOk P w K mg base CX0 1 T.f_Marks_begin T.d_Marks_begin ["self", "mark"] (sp_Marks_begin T.C_Marks) := by
  refine Fun.ok T.F_Marks_begin sc_Marks_begin (fun vs H Q E h => ?_) (fun cdv A outer s H vs Q E hr h => ?_)
  · obtain ⟨p, l, t, own, kept, m, mv, rfl, ⟨dx, tv, ov, ws, hp, it, io, hl, iw⟩, im, kk⟩ := h; rfl
  · obtain ⟨p, l, t, own, kept, m, mv, rfl, ⟨dx, tv, ov, ws, hp, it, io, hl, iw⟩, im, kk⟩ := h
    have hu := hu_of hr
    refine ⟨_, (pss_cons (ps_fld (pv 0) (pv 1) rfl)
      (pss_one (ps_fld (pv 0) (pe_lst pa_nil) rfl))), ?_⟩
    (try simp only [ne_0_1, ne_0_1b, ne_0_2, ne_0_2b, ne_0_3, ne_0_3b, ne_0_4, ne_0_4b, ne_0_5, ne_0_5b, ne_0_6, ne_0_6b, ne_0_7, ne_0_7b, ne_1_0, ne_1_0b, ne_1_2, ne_1_2b, ne_1_3, ne_1_3b, ne_1_4, ne_1_4b, ne_1_5, ne_1_5b, ne_1_6, ne_1_6b, ne_1_7, ne_1_7b, ne_2_0, ne_2_0b, ne_2_1, ne_2_1b, ne_2_3, ne_2_3b, ne_2_4, ne_2_4b, ne_2_5, ne_2_5b, ne_2_6, ne_2_6b, ne_2_7, ne_2_7b, ne_3_0, ne_3_0b, ne_3_1, ne_3_1b, ne_3_2, ne_3_2b, ne_4_0, ne_4_0b, ne_4_1, ne_4_1b, ne_4_2, ne_4_2b, ne_5_0, ne_5_0b, ne_5_1, ne_5_1b, ne_5_2, ne_5_2b, ne_6_0, ne_6_0b, ne_6_1, ne_6_1b, ne_6_2, ne_6_2b, ne_7_0, ne_7_0b, ne_7_1, ne_7_1b, ne_7_2, ne_7_2b, cxOf, Cx.nox, Cx.wish, tSeq, tAsg, tC, gName, tIfS, tTest, tOp, tUn, rU, rI0, rI, tVar, tNext, tBreak, tRet, tRetN, tDrop, tLst, tTup, tCons, tNil, tCB, tB, tOr, tAnd, tNot, tIf, tCall, tFor_eq, tLc_eq, iRng1, iRng2, iList, iTup, gTup, gTupH, gUnlH, gCons, gNil, gSub, rSetL, rIxL, rIxT, rIxLH, rIxTH, rSlTS, rCatS, rTupS, rIsiH, rLenS, V.ty.injEq, tyS_non, tyS_bl, tyS_int, tyS_str, tyS_ref, tyO_l, tyO_t, tyO_d, tyO_dt, kit_ll, kit_tt, kit_bb, kit_ii, kit_ib, kit_bi, kit_nt, kit_it, kit_st, kit_bt, kit_lt, kit_dt, kit_ni, kit_si, kit_ti, kit_li, kit_di, kit_nb, kit_ns, kit_is, kit_bs, kit_ss, kit_ts, kit_ls, kit_ds, kit_dd, lenS_ref, lenO_l, lenO_t,  rAppend, tM1, rIxS, tSl, tPart, tNoPart, tBM, tBM0, tDGetS, sDPutS, tTruS, truO_l, truO_t, truS_ref, truS_non, truS_bl, truS_int, tFld, sFld, sFldAug, rAdd, tMeth, tProp, tMake, tMakeK, List.take_succ_cons, List.take_zero, List.drop_succ_cons, List.drop_zero, List.take_nil, tIsN, tNotN, tAndV, tOrV, tNotV, putF, List.lookup, List.any_cons, List.any_nil, Sum.inr.injEq, HO.ins.injEq, HO.dK.injEq, eq_self, beq_self_eq_true, beq_iff_eq, decide_true, decide_false, Bool.or_true, Bool.true_or, Bool.or_false, Bool.false_or, tYes, rEq, rNe, _root_.L2.start, wipe, List.map_cons, List.map_nil, List.length_cons, List.length_nil, List.append_nil, Nat.reduceAdd, Nat.reduceSub, List.replicate_succ, List.replicate_zero, List.cons_append, List.nil_append, List.getElem?_cons_zero, List.getElem?_cons_succ, List.set_cons_zero, List.set_cons_succ, Option.some.injEq, V.int.injEq, V.ref.injEq, V.bl.injEq, V.str.injEq, List.cons.injEq, HO.lst.injEq, HO.tup.injEq, and_assoc, and_true, true_and, exists_eq_left, exists_eq_left', exists_and_left, exists_eq, reduceCtorEq, false_and, and_false, or_false, false_or, exists_false, decide_eq_true_eq, CPow, CDivW, Int.reducePow, Int.reduceLT, Int.reduceLE, Int.reduceNeg, Int.reduceToNat, Int.reduceAbs, Nat.reducePow, Nat.reduceLT, Nat.reduceLeDiff, sizeLine_eq, Int.reduceMul, Int.reduceAdd, Int.reduceSub, Bool.not_eq_true', decide_eq_false_iff_not, scal, Bool.not_true, Bool.not_false, Bool.true_eq_false, Bool.false_eq_true, ite_false, ite_true, if_true, if_false, ite_self, forall_const, atI0, atI1, atI2, atI3, ixN20, ixN21, upd_same, upd_upd, Int.zero_add, CMul, Int.reduceSub, Nat.le_refl, Nat.zero_le, or_true, true_or, exists_const, Int.sub_zero, hp, T.cl_Marks, T.n_Marks_own, T.n_Marks_kept, mkF])
    intro q hq
    obtain ⟨nqp, hq'⟩ := upd_none hq
    (try simp only [ne_0_1, ne_0_1b, ne_0_2, ne_0_2b, ne_0_3, ne_0_3b, ne_0_4, ne_0_4b, ne_0_5, ne_0_5b, ne_0_6, ne_0_6b, ne_0_7, ne_0_7b, ne_1_0, ne_1_0b, ne_1_2, ne_1_2b, ne_1_3, ne_1_3b, ne_1_4, ne_1_4b, ne_1_5, ne_1_5b, ne_1_6, ne_1_6b, ne_1_7, ne_1_7b, ne_2_0, ne_2_0b, ne_2_1, ne_2_1b, ne_2_3, ne_2_3b, ne_2_4, ne_2_4b, ne_2_5, ne_2_5b, ne_2_6, ne_2_6b, ne_2_7, ne_2_7b, ne_3_0, ne_3_0b, ne_3_1, ne_3_1b, ne_3_2, ne_3_2b, ne_4_0, ne_4_0b, ne_4_1, ne_4_1b, ne_4_2, ne_4_2b, ne_5_0, ne_5_0b, ne_5_1, ne_5_1b, ne_5_2, ne_5_2b, ne_6_0, ne_6_0b, ne_6_1, ne_6_1b, ne_6_2, ne_6_2b, ne_7_0, ne_7_0b, ne_7_1, ne_7_1b, ne_7_2, ne_7_2b, cxOf, Cx.nox, Cx.wish, tSeq, tAsg, tC, gName, tIfS, tTest, tOp, tUn, rU, rI0, rI, tVar, tNext, tBreak, tRet, tRetN, tDrop, tLst, tTup, tCons, tNil, tCB, tB, tOr, tAnd, tNot, tIf, tCall, tFor_eq, tLc_eq, iRng1, iRng2, iList, iTup, gTup, gTupH, gUnlH, gCons, gNil, gSub, rSetL, rIxL, rIxT, rIxLH, rIxTH, rSlTS, rCatS, rTupS, rIsiH, rLenS, V.ty.injEq, tyS_non, tyS_bl, tyS_int, tyS_str, tyS_ref, tyO_l, tyO_t, tyO_d, tyO_dt, kit_ll, kit_tt, kit_bb, kit_ii, kit_ib, kit_bi, kit_nt, kit_it, kit_st, kit_bt, kit_lt, kit_dt, kit_ni, kit_si, kit_ti, kit_li, kit_di, kit_nb, kit_ns, kit_is, kit_bs, kit_ss, kit_ts, kit_ls, kit_ds, kit_dd, lenS_ref, lenO_l, lenO_t,  rAppend, tM1, rIxS, tSl, tPart, tNoPart, tBM, tBM0, tDGetS, sDPutS, tTruS, truO_l, truO_t, truS_ref, truS_non, truS_bl, truS_int, tFld, sFld, sFldAug, rAdd, tMeth, tProp, tMake, tMakeK, List.take_succ_cons, List.take_zero, List.drop_succ_cons, List.drop_zero, List.take_nil, tIsN, tNotN, tAndV, tOrV, tNotV, putF, List.lookup, List.any_cons, List.any_nil, Sum.inr.injEq, HO.ins.injEq, HO.dK.injEq, eq_self, beq_self_eq_true, beq_iff_eq, decide_true, decide_false, Bool.or_true, Bool.true_or, Bool.or_false, Bool.false_or, tYes, rEq, rNe, _root_.L2.start, wipe, List.map_cons, List.map_nil, List.length_cons, List.length_nil, List.append_nil, Nat.reduceAdd, Nat.reduceSub, List.replicate_succ, List.replicate_zero, List.cons_append, List.nil_append, List.getElem?_cons_zero, List.getElem?_cons_succ, List.set_cons_zero, List.set_cons_succ, Option.some.injEq, V.int.injEq, V.ref.injEq, V.bl.injEq, V.str.injEq, List.cons.injEq, HO.lst.injEq, HO.tup.injEq, and_assoc, and_true, true_and, exists_eq_left, exists_eq_left', exists_and_left, exists_eq, reduceCtorEq, false_and, and_false, or_false, false_or, exists_false, decide_eq_true_eq, CPow, CDivW, Int.reducePow, Int.reduceLT, Int.reduceLE, Int.reduceNeg, Int.reduceToNat, Int.reduceAbs, Nat.reducePow, Nat.reduceLT, Nat.reduceLeDiff, sizeLine_eq, Int.reduceMul, Int.reduceAdd, Int.reduceSub, Bool.not_eq_true', decide_eq_false_iff_not, scal, Bool.not_true, Bool.not_false, Bool.true_eq_false, Bool.false_eq_true, ite_false, ite_true, if_true, if_false, ite_self, forall_const, atI0, atI1, atI2, atI3, ixN20, ixN21, upd_same, upd_upd, Int.zero_add, CMul, Int.reduceSub, Nat.le_refl, Nat.zero_le, or_true, true_or, exists_const, Int.sub_zero, upd_ne nqp.symm, T.cl_Marks, T.n_Marks_kept])
    refine kk q _ hq' ⟨dx, tv, mv, [], upd_same, imIns (by rw [upd_ne nqp.symm]; exact upd_same) (imNew hq (imIns hp it)), imIns (by rw [upd_ne nqp.symm]; exact upd_same) (imNew hq (imIns hp im)), ?_, im_nil⟩ (Bt.putP (Bt.new (Bt.putP (Bt.refl _ _ _)) hq))
    rw [upd_ne nqp]; exact upd_same
def sp_Marks_end (C : Addr) : Sp := fun vs H Q _ => ∃ (p l : Addr) (t : Int × Int) (own : Option Mrk) (kept : List Mrk), vs = [.ref p] ∧ MarksAt C H p l t own kept ∧
  ∀ (l' : Addr) (H' : Hp), H l' = none → MarksAt C H' p l' t none [] → Bt p p H H' → Q .non H'
theorem ok_Marks_end (T : Txt K mg) : FnOk P w K mg base CX0 1 T.f_Marks_end T.d_Marks_end ["self"] (sp_Marks_end T.C_Marks) := by
  refine Fun.ok T.F_Marks_end sc_Marks_end (fun vs H Q E h => ?_) (fun cdv A outer s H vs Q E hr h => ?_)
  · obtain ⟨p, l, t, own, kept, rfl, ⟨dx, tv, ov, ws, hp, it, io, hl, iw⟩, kk⟩ := h; rfl
  · obtain ⟨p, l, t, own, kept, rfl, ⟨dx, tv, ov, ws, hp, it, io, hl, iw⟩, kk⟩ := h
    have hu := hu_of hr
    refine ⟨_, (pss_cons (ps_fld (pv 0) pe_non rfl)
      (pss_one (ps_fld (pv 0) (pe_lst pa_nil) rfl))), ?_⟩
    (try simp only [ne_0_1, ne_0_1b, ne_0_2, ne_0_2b, ne_0_3, ne_0_3b, ne_0_4, ne_0_4b, ne_0_5, ne_0_5b, ne_0_6, ne_0_6b, ne_0_7, ne_0_7b, ne_1_0, ne_1_0b, ne_1_2, ne_1_2b, ne_1_3, ne_1_3b, ne_1_4, ne_1_4b, ne_1_5, ne_1_5b, ne_1_6, ne_1_6b, ne_1_7, ne_1_7b, ne_2_0, ne_2_0b, ne_2_1, ne_2_1b, ne_2_3, ne_2_3b, ne_2_4, ne_2_4b, ne_2_5, ne_2_5b, ne_2_6, ne_2_6b, ne_2_7, ne_2_7b, ne_3_0, ne_3_0b, ne_3_1, ne_3_1b, ne_3_2, ne_3_2b, ne_4_0, ne_4_0b, ne_4_1, ne_4_1b, ne_4_2, ne_4_2b, ne_5_0, ne_5_0b, ne_5_1, ne_5_1b, ne_5_2, ne_5_2b, ne_6_0, ne_6_0b, ne_6_1, ne_6_1b, ne_6_2, ne_6_2b, ne_7_0, ne_7_0b, ne_7_1, ne_7_1b, ne_7_2, ne_7_2b, cxOf, Cx.nox, Cx.wish, tSeq, tAsg, tC, gName, tIfS, tTest, tOp, tUn, rU, rI0, rI, tVar, tNext, tBreak, tRet, tRetN, tDrop, tLst, tTup, tCons, tNil, tCB, tB, tOr, tAnd, tNot, tIf, tCall, tFor_eq, tLc_eq, iRng1, iRng2, iList, iTup, gTup, gTupH, gUnlH, gCons, gNil, gSub, rSetL, rIxL, rIxT, rIxLH, rIxTH, rSlTS, rCatS, rTupS, rIsiH, rLenS, V.ty.injEq, tyS_non, tyS_bl, tyS_int, tyS_str, tyS_ref, tyO_l, tyO_t, tyO_d, tyO_dt, kit_ll, kit_tt, kit_bb, kit_ii, kit_ib, kit_bi, kit_nt, kit_it, kit_st, kit_bt, kit_lt, kit_dt, kit_ni, kit_si, kit_ti, kit_li, kit_di, kit_nb, kit_ns, kit_is, kit_bs, kit_ss, kit_ts, kit_ls, kit_ds, kit_dd, lenS_ref, lenO_l, lenO_t,  rAppend, tM1, rIxS, tSl, tPart, tNoPart, tBM, tBM0, tDGetS, sDPutS, tTruS, truO_l, truO_t, truS_ref, truS_non, truS_bl, truS_int, tFld, sFld, sFldAug, rAdd, tMeth, tProp, tMake, tMakeK, List.take_succ_cons, List.take_zero, List.drop_succ_cons, List.drop_zero, List.take_nil, tIsN, tNotN, tAndV, tOrV, tNotV, putF, List.lookup, List.any_cons, List.any_nil, Sum.inr.injEq, HO.ins.injEq, HO.dK.injEq, eq_self, beq_self_eq_true, beq_iff_eq, decide_true, decide_false, Bool.or_true, Bool.true_or, Bool.or_false, Bool.false_or, tYes, rEq, rNe, _root_.L2.start, wipe, List.map_cons, List.map_nil, List.length_cons, List.length_nil, List.append_nil, Nat.reduceAdd, Nat.reduceSub, List.replicate_succ, List.replicate_zero, List.cons_append, List.nil_append, List.getElem?_cons_zero, List.getElem?_cons_succ, List.set_cons_zero, List.set_cons_succ, Option.some.injEq, V.int.injEq, V.ref.injEq, V.bl.injEq, V.str.injEq, List.cons.injEq, HO.lst.injEq, HO.tup.injEq, and_assoc, and_true, true_and, exists_eq_left, exists_eq_left', exists_and_left, exists_eq, reduceCtorEq, false_and, and_false, or_false, false_or, exists_false, decide_eq_true_eq, CPow, CDivW, Int.reducePow, Int.reduceLT, Int.reduceLE, Int.reduceNeg, Int.reduceToNat, Int.reduceAbs, Nat.reducePow, Nat.reduceLT, Nat.reduceLeDiff, sizeLine_eq, Int.reduceMul, Int.reduceAdd, Int.reduceSub, Bool.not_eq_true', decide_eq_false_iff_not, scal, Bool.not_true, Bool.not_false, Bool.true_eq_false, Bool.false_eq_true, ite_false, ite_true, if_true, if_false, ite_self, forall_const, atI0, atI1, atI2, atI3, ixN20, ixN21, upd_same, upd_upd, Int.zero_add, CMul, Int.reduceSub, Nat.le_refl, Nat.zero_le, or_true, true_or, exists_const, Int.sub_zero, hp, T.cl_Marks, T.n_Marks_own, T.n_Marks_kept, mkF])
    intro q hq
    obtain ⟨nqp, hq'⟩ := upd_none hq
    (try simp only [ne_0_1, ne_0_1b, ne_0_2, ne_0_2b, ne_0_3, ne_0_3b, ne_0_4, ne_0_4b, ne_0_5, ne_0_5b, ne_0_6, ne_0_6b, ne_0_7, ne_0_7b, ne_1_0, ne_1_0b, ne_1_2, ne_1_2b, ne_1_3, ne_1_3b, ne_1_4, ne_1_4b, ne_1_5, ne_1_5b, ne_1_6, ne_1_6b, ne_1_7, ne_1_7b, ne_2_0, ne_2_0b, ne_2_1, ne_2_1b, ne_2_3, ne_2_3b, ne_2_4, ne_2_4b, ne_2_5, ne_2_5b, ne_2_6, ne_2_6b, ne_2_7, ne_2_7b, ne_3_0, ne_3_0b, ne_3_1, ne_3_1b, ne_3_2, ne_3_2b, ne_4_0, ne_4_0b, ne_4_1, ne_4_1b, ne_4_2, ne_4_2b, ne_5_0, ne_5_0b, ne_5_1, ne_5_1b, ne_5_2, ne_5_2b, ne_6_0, ne_6_0b, ne_6_1, ne_6_1b, ne_6_2, ne_6_2b, ne_7_0, ne_7_0b, ne_7_1, ne_7_1b, ne_7_2, ne_7_2b, cxOf, Cx.nox, Cx.wish, tSeq, tAsg, tC, gName, tIfS, tTest, tOp, tUn, rU, rI0, rI, tVar, tNext, tBreak, tRet, tRetN, tDrop, tLst, tTup, tCons, tNil, tCB, tB, tOr, tAnd, tNot, tIf, tCall, tFor_eq, tLc_eq, iRng1, iRng2, iList, iTup, gTup, gTupH, gUnlH, gCons, gNil, gSub, rSetL, rIxL, rIxT, rIxLH, rIxTH, rSlTS, rCatS, rTupS, rIsiH, rLenS, V.ty.injEq, tyS_non, tyS_bl, tyS_int, tyS_str, tyS_ref, tyO_l, tyO_t, tyO_d, tyO_dt, kit_ll, kit_tt, kit_bb, kit_ii, kit_ib, kit_bi, kit_nt, kit_it, kit_st, kit_bt, kit_lt, kit_dt, kit_ni, kit_si, kit_ti, kit_li, kit_di, kit_nb, kit_ns, kit_is, kit_bs, kit_ss, kit_ts, kit_ls, kit_ds, kit_dd, lenS_ref, lenO_l, lenO_t,  rAppend, tM1, rIxS, tSl, tPart, tNoPart, tBM, tBM0, tDGetS, sDPutS, tTruS, truO_l, truO_t, truS_ref, truS_non, truS_bl, truS_int, tFld, sFld, sFldAug, rAdd, tMeth, tProp, tMake, tMakeK, List.take_succ_cons, List.take_zero, List.drop_succ_cons, List.drop_zero, List.take_nil, tIsN, tNotN, tAndV, tOrV, tNotV, putF, List.lookup, List.any_cons, List.any_nil, Sum.inr.injEq, HO.ins.injEq, HO.dK.injEq, eq_self, beq_self_eq_true, beq_iff_eq, decide_true, decide_false, Bool.or_true, Bool.true_or, Bool.or_false, Bool.false_or, tYes, rEq, rNe, _root_.L2.start, wipe, List.map_cons, List.map_nil, List.length_cons, List.length_nil, List.append_nil, Nat.reduceAdd, Nat.reduceSub, List.replicate_succ, List.replicate_zero, List.cons_append, List.nil_append, List.getElem?_cons_zero, List.getElem?_cons_succ, List.set_cons_zero, List.set_cons_succ, Option.some.injEq, V.int.injEq, V.ref.injEq, V.bl.injEq, V.str.injEq, List.cons.injEq, HO.lst.injEq, HO.tup.injEq, and_assoc, and_true, true_and, exists_eq_left, exists_eq_left', exists_and_left, exists_eq, reduceCtorEq, false_and, and_false, or_false, false_or, exists_false, decide_eq_true_eq, CPow, CDivW, Int.reducePow, Int.reduceLT, Int.reduceLE, Int.reduceNeg, Int.reduceToNat, Int.reduceAbs, Nat.reducePow, Nat.reduceLT, Nat.reduceLeDiff, sizeLine_eq, Int.reduceMul, Int.reduceAdd, Int.reduceSub, Bool.not_eq_true', decide_eq_false_iff_not, scal, Bool.not_true, Bool.not_false, Bool.true_eq_false, Bool.false_eq_true, ite_false, ite_true, if_true, if_false, ite_self, forall_const, atI0, atI1, atI2, atI3, ixN20, ixN21, upd_same, upd_upd, Int.zero_add, CMul, Int.reduceSub, Nat.le_refl, Nat.zero_le, or_true, true_or, exists_const, Int.sub_zero, upd_ne nqp.symm, T.cl_Marks, T.n_Marks_kept])
    refine kk q _ hq' ⟨dx, tv, .non, [], upd_same, imIns (by rw [upd_ne nqp.symm]; exact upd_same) (imNew hq (imIns hp it)), im_non, ?_, im_nil⟩ (Bt.putP (Bt.new (Bt.putP (Bt.refl _ _ _)) hq))
    rw [upd_ne nqp]; exact upd_same
def sp_Marks_take (C : Addr) : Sp := fun vs H Q _ => ∃ (p l : Addr) (t : Int × Int) (own : Mrk) (kept ms : List Mrk) (v : V), vs = [.ref p, v] ∧ MarksAt C H p l t (some own) kept ∧ Im H (.tuple (ms.map mD)) v ∧ ms.length ≤ 1000 ∧ kept.length ≤ 100000 ∧
  ∀ (H' : Hp), MarksAt C H' p l t (some own) (takeS t own kept ms) → Bt p l H H' → Q (.bl (decide (own ∈ ms))) H'
theorem ok_Marks_take (T : Txt K mg) : FnOk P w K mg base CX0 1 T.f_Marks_take T.d_Marks_take ["self", "marks"] (sp_Marks_take T.C_Marks) := by
  refine Fun.ok T.F_Marks_take sc_Marks_take (fun vs H Q E h => ?_) (fun cdv A outer s H vs Q E hr h => ?_)
  · obtain ⟨p, l, t, own, kept, ms, v, rfl, ⟨dx, tv, ov, ws, hp, it, io, hl, iw⟩, iv, hms, hkl, kk⟩ := h; rfl
  · obtain ⟨p, l, t, own, kept, ms, v, rfl, ⟨dx, tv, ov, ws, hp, it, io, hl, iw⟩, iv, hms, hkl, kk⟩ := h
    have hu := hu_of hr
    refine ⟨_, (pss_cons (ps_if (pt_cmpR (op_inTK (K := K) rfl (hu65 hr)) (pe_fld (pv 0) rfl) (pv 1) (by rfl)) (pss_one (ps_ret pe_bl)) pss_nil)
      (pss_cons (ps_for PassesOwn.never rfl (pi_tup (pv 1)) (pg_name (i := 2) sc_Marks_take.nd rfl (Or.inl rfl))
      (pss_one (ps_if (PW.pt (pw_and (pt_cmpR (op_gtA (K := K) rfl (hu65 hr)) (pe_ix ix_tupH (pv 2) pe_int (fun _ _ => rfl)) (pe_fld (pv 0) rfl) (nomark _)) (pw_and1 (pt_cmpR (op_notInDK (K := K) rfl (hu65 hr)) (pv 2) (pe_fld (pv 0) rfl) (by rfl))))) (pss_one (ps_expr (pe_bm PySem.F.plainAttrs_list PySem.F.slot_list_append PySem.F.type_list_append mt_append (pe_fld (pv 0) rfl) (pa_cons (pv 2) pa_nil)))) pss_nil)))
      (pss_one (ps_ret pe_bl)))), ?_⟩
    obtain ⟨q, xs, rfl, hq, ix⟩ := im_tupE iv
    (try simp only [ne_0_1, ne_0_1b, ne_0_2, ne_0_2b, ne_0_3, ne_0_3b, ne_0_4, ne_0_4b, ne_0_5, ne_0_5b, ne_0_6, ne_0_6b, ne_0_7, ne_0_7b, ne_1_0, ne_1_0b, ne_1_2, ne_1_2b, ne_1_3, ne_1_3b, ne_1_4, ne_1_4b, ne_1_5, ne_1_5b, ne_1_6, ne_1_6b, ne_1_7, ne_1_7b, ne_2_0, ne_2_0b, ne_2_1, ne_2_1b, ne_2_3, ne_2_3b, ne_2_4, ne_2_4b, ne_2_5, ne_2_5b, ne_2_6, ne_2_6b, ne_2_7, ne_2_7b, ne_3_0, ne_3_0b, ne_3_1, ne_3_1b, ne_3_2, ne_3_2b, ne_4_0, ne_4_0b, ne_4_1, ne_4_1b, ne_4_2, ne_4_2b, ne_5_0, ne_5_0b, ne_5_1, ne_5_1b, ne_5_2, ne_5_2b, ne_6_0, ne_6_0b, ne_6_1, ne_6_1b, ne_6_2, ne_6_2b, ne_7_0, ne_7_0b, ne_7_1, ne_7_1b, ne_7_2, ne_7_2b, cxOf, Cx.nox, Cx.wish, tSeq, tAsg, tC, gName, tIfS, tTest, tOp, tUn, rU, rI0, rI, tVar, tNext, tBreak, tRet, tRetN, tDrop, tLst, tTup, tCons, tNil, tCB, tB, tOr, tAnd, tNot, tIf, tCall, tFor_eq, tLc_eq, iRng1, iRng2, iList, iTup, gTup, gTupH, gUnlH, gCons, gNil, gSub, rSetL, rIxL, rIxT, rIxLH, rIxTH, rSlTS, rCatS, rTupS, rIsiH, rLenS, V.ty.injEq, tyS_non, tyS_bl, tyS_int, tyS_str, tyS_ref, tyO_l, tyO_t, tyO_d, tyO_dt, kit_ll, kit_tt, kit_bb, kit_ii, kit_ib, kit_bi, kit_nt, kit_it, kit_st, kit_bt, kit_lt, kit_dt, kit_ni, kit_si, kit_ti, kit_li, kit_di, kit_nb, kit_ns, kit_is, kit_bs, kit_ss, kit_ts, kit_ls, kit_ds, kit_dd, lenS_ref, lenO_l, lenO_t,  rAppend, tM1, rIxS, tSl, tPart, tNoPart, tBM, tBM0, tDGetS, sDPutS, tTruS, truO_l, truO_t, truS_ref, truS_non, truS_bl, truS_int, tFld, sFld, sFldAug, rAdd, tMeth, tProp, tMake, tMakeK, List.take_succ_cons, List.take_zero, List.drop_succ_cons, List.drop_zero, List.take_nil, tIsN, tNotN, tAndV, tOrV, tNotV, putF, List.lookup, List.any_cons, List.any_nil, Sum.inr.injEq, HO.ins.injEq, HO.dK.injEq, eq_self, beq_self_eq_true, beq_iff_eq, decide_true, decide_false, Bool.or_true, Bool.true_or, Bool.or_false, Bool.false_or, tYes, rEq, rNe, _root_.L2.start, wipe, List.map_cons, List.map_nil, List.length_cons, List.length_nil, List.append_nil, Nat.reduceAdd, Nat.reduceSub, List.replicate_succ, List.replicate_zero, List.cons_append, List.nil_append, List.getElem?_cons_zero, List.getElem?_cons_succ, List.set_cons_zero, List.set_cons_succ, Option.some.injEq, V.int.injEq, V.ref.injEq, V.bl.injEq, V.str.injEq, List.cons.injEq, HO.lst.injEq, HO.tup.injEq, and_assoc, and_true, true_and, exists_eq_left, exists_eq_left', exists_and_left, exists_eq, reduceCtorEq, false_and, and_false, or_false, false_or, exists_false, decide_eq_true_eq, CPow, CDivW, Int.reducePow, Int.reduceLT, Int.reduceLE, Int.reduceNeg, Int.reduceToNat, Int.reduceAbs, Nat.reducePow, Nat.reduceLT, Nat.reduceLeDiff, sizeLine_eq, Int.reduceMul, Int.reduceAdd, Int.reduceSub, Bool.not_eq_true', decide_eq_false_iff_not, scal, Bool.not_true, Bool.not_false, Bool.true_eq_false, Bool.false_eq_true, ite_false, ite_true, if_true, if_false, ite_self, forall_const, atI0, atI1, atI2, atI3, ixN20, ixN21, upd_same, upd_upd, Int.zero_add, CMul, Int.reduceSub, Nat.le_refl, Nat.zero_le, or_true, true_or, exists_const, Int.sub_zero, hp, T.cl_Marks, T.n_Marks_own, T.n_Marks_kept, T.n_Marks_transaction, mkF, rInDT])
    refine ⟨_, Im.dp _ _ io, _, .tup (SqT.of hq) (ImAll.dp _ _ ix), oD_shaped _, mDs_shapedT _, ?_⟩
    rw [show oD (some own) = mD own from rfl, mDs_any]
    have hts : own ∈ ms → takeS t own kept ms = kept := fun h => by unfold takeS; rw [if_pos h]
    have htf : own ∉ ms → takeS t own kept ms = ms.foldl (kept1 t) kept := fun h => by unfold takeS; rw [if_neg h]
    by_cases ho : own ∈ ms
    · rw [if_pos (decide_eq_true ho)]
      rw [hts ho, decide_eq_true ho] at kk
      exact kk H ⟨dx, tv, ov, ws, hp, it, io, hl, iw⟩ (Bt.refl _ _ _)
    rw [if_neg (by simpa using ho)]
    rw [htf ho, decide_eq_false ho] at kk
    have nlp : p ≠ l := ne_il hp hl
    have nlq : q ≠ l := fun z => by subst z; rw [hl] at hq; cases hq
    refine ⟨⟨_, SqT.of hq⟩, Loop.tup xs (fun i σ H' => ∃ b2 ws', σ = [some (.ref p), some (.ref q), b2] ∧ H' l = some (.lst ws') ∧ ImAll H' (((ms.take i).foldl (kept1 t) kept).map mD) ws' ∧ Tk H H' ∧ ∀ b, b ≠ l → H' b = H b) ⟨none, ws, rfl, hl, iw, Tk.refl _, fun _ _ => rfl⟩ ?_ ?_ ?_⟩
    · rintro i σ H1 _ ⟨b2, ws1, rfl, hl1, iw1, tk1, fr⟩
      exact SqT.of (tk1 _ _ hq)
    · rintro i x σ H1 hx ⟨b2, ws1, rfl, hl1, iw1, tk1, fr⟩
      obtain ⟨m, hm, im0⟩ := ims_mk ix hx
      have im1 := Im.mono tk1 _ _ im0
      obtain ⟨a, tm, km, rfl, ha, itm, _⟩ := mD_at im1
      have hp1 : H1 p = some (.ins T.C_Marks dx (mkF tv ov l)) := (fr p nlp).trans hp
      (try simp only [ne_0_1, ne_0_1b, ne_0_2, ne_0_2b, ne_0_3, ne_0_3b, ne_0_4, ne_0_4b, ne_0_5, ne_0_5b, ne_0_6, ne_0_6b, ne_0_7, ne_0_7b, ne_1_0, ne_1_0b, ne_1_2, ne_1_2b, ne_1_3, ne_1_3b, ne_1_4, ne_1_4b, ne_1_5, ne_1_5b, ne_1_6, ne_1_6b, ne_1_7, ne_1_7b, ne_2_0, ne_2_0b, ne_2_1, ne_2_1b, ne_2_3, ne_2_3b, ne_2_4, ne_2_4b, ne_2_5, ne_2_5b, ne_2_6, ne_2_6b, ne_2_7, ne_2_7b, ne_3_0, ne_3_0b, ne_3_1, ne_3_1b, ne_3_2, ne_3_2b, ne_4_0, ne_4_0b, ne_4_1, ne_4_1b, ne_4_2, ne_4_2b, ne_5_0, ne_5_0b, ne_5_1, ne_5_1b, ne_5_2, ne_5_2b, ne_6_0, ne_6_0b, ne_6_1, ne_6_1b, ne_6_2, ne_6_2b, ne_7_0, ne_7_0b, ne_7_1, ne_7_1b, ne_7_2, ne_7_2b, cxOf, Cx.nox, Cx.wish, tSeq, tAsg, tC, gName, tIfS, tTest, tOp, tUn, rU, rI0, rI, tVar, tNext, tBreak, tRet, tRetN, tDrop, tLst, tTup, tCons, tNil, tCB, tB, tOr, tAnd, tNot, tIf, tCall, tFor_eq, tLc_eq, iRng1, iRng2, iList, iTup, gTup, gTupH, gUnlH, gCons, gNil, gSub, rSetL, rIxL, rIxT, rIxLH, rIxTH, rSlTS, rCatS, rTupS, rIsiH, rLenS, V.ty.injEq, tyS_non, tyS_bl, tyS_int, tyS_str, tyS_ref, tyO_l, tyO_t, tyO_d, tyO_dt, kit_ll, kit_tt, kit_bb, kit_ii, kit_ib, kit_bi, kit_nt, kit_it, kit_st, kit_bt, kit_lt, kit_dt, kit_ni, kit_si, kit_ti, kit_li, kit_di, kit_nb, kit_ns, kit_is, kit_bs, kit_ss, kit_ts, kit_ls, kit_ds, kit_dd, lenS_ref, lenO_l, lenO_t,  rAppend, tM1, rIxS, tSl, tPart, tNoPart, tBM, tBM0, tDGetS, sDPutS, tTruS, truO_l, truO_t, truS_ref, truS_non, truS_bl, truS_int, tFld, sFld, sFldAug, rAdd, tMeth, tProp, tMake, tMakeK, List.take_succ_cons, List.take_zero, List.drop_succ_cons, List.drop_zero, List.take_nil, tIsN, tNotN, tAndV, tOrV, tNotV, putF, List.lookup, List.any_cons, List.any_nil, Sum.inr.injEq, HO.ins.injEq, HO.dK.injEq, eq_self, beq_self_eq_true, beq_iff_eq, decide_true, decide_false, Bool.or_true, Bool.true_or, Bool.or_false, Bool.false_or, tYes, rEq, rNe, _root_.L2.start, wipe, List.map_cons, List.map_nil, List.length_cons, List.length_nil, List.append_nil, Nat.reduceAdd, Nat.reduceSub, List.replicate_succ, List.replicate_zero, List.cons_append, List.nil_append, List.getElem?_cons_zero, List.getElem?_cons_succ, List.set_cons_zero, List.set_cons_succ, Option.some.injEq, V.int.injEq, V.ref.injEq, V.bl.injEq, V.str.injEq, List.cons.injEq, HO.lst.injEq, HO.tup.injEq, and_assoc, and_true, true_and, exists_eq_left, exists_eq_left', exists_and_left, exists_eq, reduceCtorEq, false_and, and_false, or_false, false_or, exists_false, decide_eq_true_eq, CPow, CDivW, Int.reducePow, Int.reduceLT, Int.reduceLE, Int.reduceNeg, Int.reduceToNat, Int.reduceAbs, Nat.reducePow, Nat.reduceLT, Nat.reduceLeDiff, sizeLine_eq, Int.reduceMul, Int.reduceAdd, Int.reduceSub, Bool.not_eq_true', decide_eq_false_iff_not, scal, Bool.not_true, Bool.not_false, Bool.true_eq_false, Bool.false_eq_true, ite_false, ite_true, if_true, if_false, ite_self, forall_const, atI0, atI1, atI2, atI3, ixN20, ixN21, upd_same, upd_upd, Int.zero_add, CMul, Int.reduceSub, Nat.le_refl, Nat.zero_le, or_true, true_or, exists_const, Int.sub_zero, ha, hp1, mkF, T.cl_Marks, T.n_Marks_kept, T.n_Marks_transaction, rGtA, rNotInD, hl1])
      refine ⟨_, Im.dp _ _ itm, _, Im.dp _ _ (Im.mono tk1 _ _ it), tD_alike _ _, by simp [tD], by rw [tD_depth]; decide, ?_⟩
      rw [take_foldl hm, show PySem.W.dataLt (tD t) (tD m.t) = gtM m t from rfl]
      have hwl := iw1.len
      rw [List.length_map] at hwl
      have hkn := keptN_len t (ms.take i) kept
      rw [List.length_take] at hkn
      generalize List.foldl (kept1 t) kept (List.take i ms) = kp at iw1 hwl hkn
      by_cases hg : gtM m t = true
      · rw [if_pos hg]
        refine ⟨_, Im.dp _ _ im1, _, .lst (SqL.of hl1) (ImAll.dp _ _ iw1), mD_shaped _, mDs_shaped _, ?_⟩
        rw [mDs_any]
        by_cases hk : m ∈ kp
        · rw [if_neg (by simpa using hk)]
          rw [show kept1 t kp m = kp from by unfold kept1; rw [if_neg fun z => z.2 hk]]
          exact ⟨iw1, tk1, fr⟩
        · rw [if_pos (by simpa using hk)]
          rw [show kept1 t kp m = kp ++ [m] from by unfold kept1; rw [if_pos ⟨hg, hk⟩], List.map_append]
          exact ⟨tyL hl1, by omega, ims_app hl1 iw1 im1, tk1.trans (Tk.put hl1), fun b nb => (upd_ne nb).trans (fr b nb)⟩
      · rw [if_neg hg]
        rw [show kept1 t kp m = kp from by unfold kept1; rw [if_neg fun z => hg z.1]]
        exact ⟨iw1, tk1, fr⟩
    · rintro σ H1 ⟨b2, ws1, rfl, hl1, iw1, tk1, fr⟩
      (try simp only [ne_0_1, ne_0_1b, ne_0_2, ne_0_2b, ne_0_3, ne_0_3b, ne_0_4, ne_0_4b, ne_0_5, ne_0_5b, ne_0_6, ne_0_6b, ne_0_7, ne_0_7b, ne_1_0, ne_1_0b, ne_1_2, ne_1_2b, ne_1_3, ne_1_3b, ne_1_4, ne_1_4b, ne_1_5, ne_1_5b, ne_1_6, ne_1_6b, ne_1_7, ne_1_7b, ne_2_0, ne_2_0b, ne_2_1, ne_2_1b, ne_2_3, ne_2_3b, ne_2_4, ne_2_4b, ne_2_5, ne_2_5b, ne_2_6, ne_2_6b, ne_2_7, ne_2_7b, ne_3_0, ne_3_0b, ne_3_1, ne_3_1b, ne_3_2, ne_3_2b, ne_4_0, ne_4_0b, ne_4_1, ne_4_1b, ne_4_2, ne_4_2b, ne_5_0, ne_5_0b, ne_5_1, ne_5_1b, ne_5_2, ne_5_2b, ne_6_0, ne_6_0b, ne_6_1, ne_6_1b, ne_6_2, ne_6_2b, ne_7_0, ne_7_0b, ne_7_1, ne_7_1b, ne_7_2, ne_7_2b, cxOf, Cx.nox, Cx.wish, tSeq, tAsg, tC, gName, tIfS, tTest, tOp, tUn, rU, rI0, rI, tVar, tNext, tBreak, tRet, tRetN, tDrop, tLst, tTup, tCons, tNil, tCB, tB, tOr, tAnd, tNot, tIf, tCall, tFor_eq, tLc_eq, iRng1, iRng2, iList, iTup, gTup, gTupH, gUnlH, gCons, gNil, gSub, rSetL, rIxL, rIxT, rIxLH, rIxTH, rSlTS, rCatS, rTupS, rIsiH, rLenS, V.ty.injEq, tyS_non, tyS_bl, tyS_int, tyS_str, tyS_ref, tyO_l, tyO_t, tyO_d, tyO_dt, kit_ll, kit_tt, kit_bb, kit_ii, kit_ib, kit_bi, kit_nt, kit_it, kit_st, kit_bt, kit_lt, kit_dt, kit_ni, kit_si, kit_ti, kit_li, kit_di, kit_nb, kit_ns, kit_is, kit_bs, kit_ss, kit_ts, kit_ls, kit_ds, kit_dd, lenS_ref, lenO_l, lenO_t,  rAppend, tM1, rIxS, tSl, tPart, tNoPart, tBM, tBM0, tDGetS, sDPutS, tTruS, truO_l, truO_t, truS_ref, truS_non, truS_bl, truS_int, tFld, sFld, sFldAug, rAdd, tMeth, tProp, tMake, tMakeK, List.take_succ_cons, List.take_zero, List.drop_succ_cons, List.drop_zero, List.take_nil, tIsN, tNotN, tAndV, tOrV, tNotV, putF, List.lookup, List.any_cons, List.any_nil, Sum.inr.injEq, HO.ins.injEq, HO.dK.injEq, eq_self, beq_self_eq_true, beq_iff_eq, decide_true, decide_false, Bool.or_true, Bool.true_or, Bool.or_false, Bool.false_or, tYes, rEq, rNe, _root_.L2.start, wipe, List.map_cons, List.map_nil, List.length_cons, List.length_nil, List.append_nil, Nat.reduceAdd, Nat.reduceSub, List.replicate_succ, List.replicate_zero, List.cons_append, List.nil_append, List.getElem?_cons_zero, List.getElem?_cons_succ, List.set_cons_zero, List.set_cons_succ, Option.some.injEq, V.int.injEq, V.ref.injEq, V.bl.injEq, V.str.injEq, List.cons.injEq, HO.lst.injEq, HO.tup.injEq, and_assoc, and_true, true_and, exists_eq_left, exists_eq_left', exists_and_left, exists_eq, reduceCtorEq, false_and, and_false, or_false, false_or, exists_false, decide_eq_true_eq, CPow, CDivW, Int.reducePow, Int.reduceLT, Int.reduceLE, Int.reduceNeg, Int.reduceToNat, Int.reduceAbs, Nat.reducePow, Nat.reduceLT, Nat.reduceLeDiff, sizeLine_eq, Int.reduceMul, Int.reduceAdd, Int.reduceSub, Bool.not_eq_true', decide_eq_false_iff_not, scal, Bool.not_true, Bool.not_false, Bool.true_eq_false, Bool.false_eq_true, ite_false, ite_true, if_true, if_false, ite_self, forall_const, atI0, atI1, atI2, atI3, ixN20, ixN21, upd_same, upd_upd, Int.zero_add, CMul, Int.reduceSub, Nat.le_refl, Nat.zero_le, or_true, true_or, exists_const, Int.sub_zero])
      rw [List.take_of_length_le (by rw [ix.len, List.length_map]; exact Nat.le_refl _)] at iw1
      exact kk H1 ⟨dx, tv, ov, ws1, (fr p nlp).trans hp, Im.mono tk1 _ _ it, Im.mono tk1 _ _ io, hl1, iw1⟩ ⟨fun b o e n1 n2 => (fr b n2).trans e, fun b e => by
        by_cases z : b = l
        · subst z; rw [hl1] at e; cases e
        · rw [fr b z] at e; exact e⟩
def sp_Marks_told (C : Addr) : Sp := fun vs H Q _ => ∃ (p l : Addr) (t : Int × Int) (own : Option Mrk) (kept : List Mrk), vs = [.ref p] ∧ MarksAt C H p l t own kept ∧ kept.length ≤ 100000 ∧ ∀ (q : Addr) (zs : List V) (H' : Hp), H' q = some (.tup zs) → ImAll H' (toldD own kept) zs → Same H H' → Q (.ref q) H'
theorem ok_Marks_told (T : Txt K mg) : FnOk P w K mg base CX0 1 T.f_Marks_told T.d_Marks_told ["self"] (sp_Marks_told T.C_Marks) := by
  refine Fun.ok T.F_Marks_told sc_Marks_told (fun vs H Q E h => ?_) (fun cdv A outer s H vs Q E hr h => ?_)
  · obtain ⟨p, l, t, own, kept, rfl, ⟨dx, tv, ov, ws, hp, it, io, hl, iw⟩, hkl, kk⟩ := h; rfl
  · obtain ⟨p, l, t, own, kept, rfl, ⟨dx, tv, ov, ws, hp, it, io, hl, iw⟩, hkl, kk⟩ := h
    have hu := hu_of hr
    refine ⟨_, (pss_cons (ps_if (pt_cmp (pc_isN (pe_fld (pv 0) rfl))) (pss_one (ps_ret (pe_tup pa_nil))) pss_nil)
      (pss_one (ps_ret (pe_callTy call_tupS (by rfl) T.z_tuple (by decide +kernel) (pa_cons (pe_callB (call_sortD (hu65 hr)) (by rfl) T.z_sorted (by decide +kernel) (pa_cons (pe_op op_cat (pe_fld (pv 0) rfl) (pe_lst (pa_cons (pe_fld (pv 0) rfl) pa_nil))) pa_nil)) pa_nil))))), ?_⟩
    (try simp only [ne_0_1, ne_0_1b, ne_0_2, ne_0_2b, ne_0_3, ne_0_3b, ne_0_4, ne_0_4b, ne_0_5, ne_0_5b, ne_0_6, ne_0_6b, ne_0_7, ne_0_7b, ne_1_0, ne_1_0b, ne_1_2, ne_1_2b, ne_1_3, ne_1_3b, ne_1_4, ne_1_4b, ne_1_5, ne_1_5b, ne_1_6, ne_1_6b, ne_1_7, ne_1_7b, ne_2_0, ne_2_0b, ne_2_1, ne_2_1b, ne_2_3, ne_2_3b, ne_2_4, ne_2_4b, ne_2_5, ne_2_5b, ne_2_6, ne_2_6b, ne_2_7, ne_2_7b, ne_3_0, ne_3_0b, ne_3_1, ne_3_1b, ne_3_2, ne_3_2b, ne_4_0, ne_4_0b, ne_4_1, ne_4_1b, ne_4_2, ne_4_2b, ne_5_0, ne_5_0b, ne_5_1, ne_5_1b, ne_5_2, ne_5_2b, ne_6_0, ne_6_0b, ne_6_1, ne_6_1b, ne_6_2, ne_6_2b, ne_7_0, ne_7_0b, ne_7_1, ne_7_1b, ne_7_2, ne_7_2b, cxOf, Cx.nox, Cx.wish, tSeq, tAsg, tC, gName, tIfS, tTest, tOp, tUn, rU, rI0, rI, tVar, tNext, tBreak, tRet, tRetN, tDrop, tLst, tTup, tCons, tNil, tCB, tB, tOr, tAnd, tNot, tIf, tCall, tFor_eq, tLc_eq, iRng1, iRng2, iList, iTup, gTup, gTupH, gUnlH, gCons, gNil, gSub, rSetL, rIxL, rIxT, rIxLH, rIxTH, rSlTS, rCatS, rTupS, rIsiH, rLenS, V.ty.injEq, tyS_non, tyS_bl, tyS_int, tyS_str, tyS_ref, tyO_l, tyO_t, tyO_d, tyO_dt, kit_ll, kit_tt, kit_bb, kit_ii, kit_ib, kit_bi, kit_nt, kit_it, kit_st, kit_bt, kit_lt, kit_dt, kit_ni, kit_si, kit_ti, kit_li, kit_di, kit_nb, kit_ns, kit_is, kit_bs, kit_ss, kit_ts, kit_ls, kit_ds, kit_dd, lenS_ref, lenO_l, lenO_t,  rAppend, tM1, rIxS, tSl, tPart, tNoPart, tBM, tBM0, tDGetS, sDPutS, tTruS, truO_l, truO_t, truS_ref, truS_non, truS_bl, truS_int, tFld, sFld, sFldAug, rAdd, tMeth, tProp, tMake, tMakeK, List.take_succ_cons, List.take_zero, List.drop_succ_cons, List.drop_zero, List.take_nil, tIsN, tNotN, tAndV, tOrV, tNotV, putF, List.lookup, List.any_cons, List.any_nil, Sum.inr.injEq, HO.ins.injEq, HO.dK.injEq, eq_self, beq_self_eq_true, beq_iff_eq, decide_true, decide_false, Bool.or_true, Bool.true_or, Bool.or_false, Bool.false_or, tYes, rEq, rNe, _root_.L2.start, wipe, List.map_cons, List.map_nil, List.length_cons, List.length_nil, List.append_nil, Nat.reduceAdd, Nat.reduceSub, List.replicate_succ, List.replicate_zero, List.cons_append, List.nil_append, List.getElem?_cons_zero, List.getElem?_cons_succ, List.set_cons_zero, List.set_cons_succ, Option.some.injEq, V.int.injEq, V.ref.injEq, V.bl.injEq, V.str.injEq, List.cons.injEq, HO.lst.injEq, HO.tup.injEq, and_assoc, and_true, true_and, exists_eq_left, exists_eq_left', exists_and_left, exists_eq, reduceCtorEq, false_and, and_false, or_false, false_or, exists_false, decide_eq_true_eq, CPow, CDivW, Int.reducePow, Int.reduceLT, Int.reduceLE, Int.reduceNeg, Int.reduceToNat, Int.reduceAbs, Nat.reducePow, Nat.reduceLT, Nat.reduceLeDiff, sizeLine_eq, Int.reduceMul, Int.reduceAdd, Int.reduceSub, Bool.not_eq_true', decide_eq_false_iff_not, scal, Bool.not_true, Bool.not_false, Bool.true_eq_false, Bool.false_eq_true, ite_false, ite_true, if_true, if_false, ite_self, forall_const, atI0, atI1, atI2, atI3, ixN20, ixN21, upd_same, upd_upd, Int.zero_add, CMul, Int.reduceSub, Nat.le_refl, Nat.zero_le, or_true, true_or, exists_const, Int.sub_zero, hp, T.cl_Marks, T.n_Marks_own, T.n_Marks_kept, mkF])
    cases own with
    | none =>
      have := oD_none io
      subst this
      rw [if_pos rfl]
      intro q hq
      exact kk q [] _ upd_same im_nil (same_new hq)
    | some m =>
      obtain ⟨a, tv', kv, rfl, ha, _⟩ := mD_at io
      rw [if_neg (by intro z; cases z)]
      intro q hq
      have s1 := same_new hq (o := .lst [V.ref a])
      (try simp only [ne_0_1, ne_0_1b, ne_0_2, ne_0_2b, ne_0_3, ne_0_3b, ne_0_4, ne_0_4b, ne_0_5, ne_0_5b, ne_0_6, ne_0_6b, ne_0_7, ne_0_7b, ne_1_0, ne_1_0b, ne_1_2, ne_1_2b, ne_1_3, ne_1_3b, ne_1_4, ne_1_4b, ne_1_5, ne_1_5b, ne_1_6, ne_1_6b, ne_1_7, ne_1_7b, ne_2_0, ne_2_0b, ne_2_1, ne_2_1b, ne_2_3, ne_2_3b, ne_2_4, ne_2_4b, ne_2_5, ne_2_5b, ne_2_6, ne_2_6b, ne_2_7, ne_2_7b, ne_3_0, ne_3_0b, ne_3_1, ne_3_1b, ne_3_2, ne_3_2b, ne_4_0, ne_4_0b, ne_4_1, ne_4_1b, ne_4_2, ne_4_2b, ne_5_0, ne_5_0b, ne_5_1, ne_5_1b, ne_5_2, ne_5_2b, ne_6_0, ne_6_0b, ne_6_1, ne_6_1b, ne_6_2, ne_6_2b, ne_7_0, ne_7_0b, ne_7_1, ne_7_1b, ne_7_2, ne_7_2b, cxOf, Cx.nox, Cx.wish, tSeq, tAsg, tC, gName, tIfS, tTest, tOp, tUn, rU, rI0, rI, tVar, tNext, tBreak, tRet, tRetN, tDrop, tLst, tTup, tCons, tNil, tCB, tB, tOr, tAnd, tNot, tIf, tCall, tFor_eq, tLc_eq, iRng1, iRng2, iList, iTup, gTup, gTupH, gUnlH, gCons, gNil, gSub, rSetL, rIxL, rIxT, rIxLH, rIxTH, rSlTS, rCatS, rTupS, rIsiH, rLenS, V.ty.injEq, tyS_non, tyS_bl, tyS_int, tyS_str, tyS_ref, tyO_l, tyO_t, tyO_d, tyO_dt, kit_ll, kit_tt, kit_bb, kit_ii, kit_ib, kit_bi, kit_nt, kit_it, kit_st, kit_bt, kit_lt, kit_dt, kit_ni, kit_si, kit_ti, kit_li, kit_di, kit_nb, kit_ns, kit_is, kit_bs, kit_ss, kit_ts, kit_ls, kit_ds, kit_dd, lenS_ref, lenO_l, lenO_t,  rAppend, tM1, rIxS, tSl, tPart, tNoPart, tBM, tBM0, tDGetS, sDPutS, tTruS, truO_l, truO_t, truS_ref, truS_non, truS_bl, truS_int, tFld, sFld, sFldAug, rAdd, tMeth, tProp, tMake, tMakeK, List.take_succ_cons, List.take_zero, List.drop_succ_cons, List.drop_zero, List.take_nil, tIsN, tNotN, tAndV, tOrV, tNotV, putF, List.lookup, List.any_cons, List.any_nil, Sum.inr.injEq, HO.ins.injEq, HO.dK.injEq, eq_self, beq_self_eq_true, beq_iff_eq, decide_true, decide_false, Bool.or_true, Bool.true_or, Bool.or_false, Bool.false_or, tYes, rEq, rNe, _root_.L2.start, wipe, List.map_cons, List.map_nil, List.length_cons, List.length_nil, List.append_nil, Nat.reduceAdd, Nat.reduceSub, List.replicate_succ, List.replicate_zero, List.cons_append, List.nil_append, List.getElem?_cons_zero, List.getElem?_cons_succ, List.set_cons_zero, List.set_cons_succ, Option.some.injEq, V.int.injEq, V.ref.injEq, V.bl.injEq, V.str.injEq, List.cons.injEq, HO.lst.injEq, HO.tup.injEq, and_assoc, and_true, true_and, exists_eq_left, exists_eq_left', exists_and_left, exists_eq, reduceCtorEq, false_and, and_false, or_false, false_or, exists_false, decide_eq_true_eq, CPow, CDivW, Int.reducePow, Int.reduceLT, Int.reduceLE, Int.reduceNeg, Int.reduceToNat, Int.reduceAbs, Nat.reducePow, Nat.reduceLT, Nat.reduceLeDiff, sizeLine_eq, Int.reduceMul, Int.reduceAdd, Int.reduceSub, Bool.not_eq_true', decide_eq_false_iff_not, scal, Bool.not_true, Bool.not_false, Bool.true_eq_false, Bool.false_eq_true, ite_false, ite_true, if_true, if_false, ite_self, forall_const, atI0, atI1, atI2, atI3, ixN20, ixN21, upd_same, upd_upd, Int.zero_add, CMul, Int.reduceSub, Nat.le_refl, Nat.zero_le, or_true, true_or, exists_const, Int.sub_zero, rCat, get_new hq hl])
      have hwl := iw.len
      rw [List.length_map] at hwl
      refine ⟨by omega, ?_⟩
      intro r hr
      have s2 := s1.trans (same_new hr (o := .lst (ws ++ [V.ref a])))
      (try simp only [ne_0_1, ne_0_1b, ne_0_2, ne_0_2b, ne_0_3, ne_0_3b, ne_0_4, ne_0_4b, ne_0_5, ne_0_5b, ne_0_6, ne_0_6b, ne_0_7, ne_0_7b, ne_1_0, ne_1_0b, ne_1_2, ne_1_2b, ne_1_3, ne_1_3b, ne_1_4, ne_1_4b, ne_1_5, ne_1_5b, ne_1_6, ne_1_6b, ne_1_7, ne_1_7b, ne_2_0, ne_2_0b, ne_2_1, ne_2_1b, ne_2_3, ne_2_3b, ne_2_4, ne_2_4b, ne_2_5, ne_2_5b, ne_2_6, ne_2_6b, ne_2_7, ne_2_7b, ne_3_0, ne_3_0b, ne_3_1, ne_3_1b, ne_3_2, ne_3_2b, ne_4_0, ne_4_0b, ne_4_1, ne_4_1b, ne_4_2, ne_4_2b, ne_5_0, ne_5_0b, ne_5_1, ne_5_1b, ne_5_2, ne_5_2b, ne_6_0, ne_6_0b, ne_6_1, ne_6_1b, ne_6_2, ne_6_2b, ne_7_0, ne_7_0b, ne_7_1, ne_7_1b, ne_7_2, ne_7_2b, cxOf, Cx.nox, Cx.wish, tSeq, tAsg, tC, gName, tIfS, tTest, tOp, tUn, rU, rI0, rI, tVar, tNext, tBreak, tRet, tRetN, tDrop, tLst, tTup, tCons, tNil, tCB, tB, tOr, tAnd, tNot, tIf, tCall, tFor_eq, tLc_eq, iRng1, iRng2, iList, iTup, gTup, gTupH, gUnlH, gCons, gNil, gSub, rSetL, rIxL, rIxT, rIxLH, rIxTH, rSlTS, rCatS, rTupS, rIsiH, rLenS, V.ty.injEq, tyS_non, tyS_bl, tyS_int, tyS_str, tyS_ref, tyO_l, tyO_t, tyO_d, tyO_dt, kit_ll, kit_tt, kit_bb, kit_ii, kit_ib, kit_bi, kit_nt, kit_it, kit_st, kit_bt, kit_lt, kit_dt, kit_ni, kit_si, kit_ti, kit_li, kit_di, kit_nb, kit_ns, kit_is, kit_bs, kit_ss, kit_ts, kit_ls, kit_ds, kit_dd, lenS_ref, lenO_l, lenO_t,  rAppend, tM1, rIxS, tSl, tPart, tNoPart, tBM, tBM0, tDGetS, sDPutS, tTruS, truO_l, truO_t, truS_ref, truS_non, truS_bl, truS_int, tFld, sFld, sFldAug, rAdd, tMeth, tProp, tMake, tMakeK, List.take_succ_cons, List.take_zero, List.drop_succ_cons, List.drop_zero, List.take_nil, tIsN, tNotN, tAndV, tOrV, tNotV, putF, List.lookup, List.any_cons, List.any_nil, Sum.inr.injEq, HO.ins.injEq, HO.dK.injEq, eq_self, beq_self_eq_true, beq_iff_eq, decide_true, decide_false, Bool.or_true, Bool.true_or, Bool.or_false, Bool.false_or, tYes, rEq, rNe, _root_.L2.start, wipe, List.map_cons, List.map_nil, List.length_cons, List.length_nil, List.append_nil, Nat.reduceAdd, Nat.reduceSub, List.replicate_succ, List.replicate_zero, List.cons_append, List.nil_append, List.getElem?_cons_zero, List.getElem?_cons_succ, List.set_cons_zero, List.set_cons_succ, Option.some.injEq, V.int.injEq, V.ref.injEq, V.bl.injEq, V.str.injEq, List.cons.injEq, HO.lst.injEq, HO.tup.injEq, and_assoc, and_true, true_and, exists_eq_left, exists_eq_left', exists_and_left, exists_eq, reduceCtorEq, false_and, and_false, or_false, false_or, exists_false, decide_eq_true_eq, CPow, CDivW, Int.reducePow, Int.reduceLT, Int.reduceLE, Int.reduceNeg, Int.reduceToNat, Int.reduceAbs, Nat.reducePow, Nat.reduceLT, Nat.reduceLeDiff, sizeLine_eq, Int.reduceMul, Int.reduceAdd, Int.reduceSub, Bool.not_eq_true', decide_eq_false_iff_not, scal, Bool.not_true, Bool.not_false, Bool.true_eq_false, Bool.false_eq_true, ite_false, ite_true, if_true, if_false, ite_self, forall_const, atI0, atI1, atI2, atI3, ixN20, ixN21, upd_same, upd_upd, Int.zero_add, CMul, Int.reduceSub, Nat.le_refl, Nat.zero_le, or_true, true_or, exists_const, Int.sub_zero, rSortD])
      refine ⟨(kept ++ [m]).map mD, ?_, mDs_alike _, mDs_sortable _, mDs_depth _, fun z zs H3 hz s3 _ hz3 iz3 => ?_⟩
      · rw [List.map_append]
        exact (Same.ims s2 iw).app (im_cons (Same.im s2 io) im_nil)
      · (try simp only [ne_0_1, ne_0_1b, ne_0_2, ne_0_2b, ne_0_3, ne_0_3b, ne_0_4, ne_0_4b, ne_0_5, ne_0_5b, ne_0_6, ne_0_6b, ne_0_7, ne_0_7b, ne_1_0, ne_1_0b, ne_1_2, ne_1_2b, ne_1_3, ne_1_3b, ne_1_4, ne_1_4b, ne_1_5, ne_1_5b, ne_1_6, ne_1_6b, ne_1_7, ne_1_7b, ne_2_0, ne_2_0b, ne_2_1, ne_2_1b, ne_2_3, ne_2_3b, ne_2_4, ne_2_4b, ne_2_5, ne_2_5b, ne_2_6, ne_2_6b, ne_2_7, ne_2_7b, ne_3_0, ne_3_0b, ne_3_1, ne_3_1b, ne_3_2, ne_3_2b, ne_4_0, ne_4_0b, ne_4_1, ne_4_1b, ne_4_2, ne_4_2b, ne_5_0, ne_5_0b, ne_5_1, ne_5_1b, ne_5_2, ne_5_2b, ne_6_0, ne_6_0b, ne_6_1, ne_6_1b, ne_6_2, ne_6_2b, ne_7_0, ne_7_0b, ne_7_1, ne_7_1b, ne_7_2, ne_7_2b, cxOf, Cx.nox, Cx.wish, tSeq, tAsg, tC, gName, tIfS, tTest, tOp, tUn, rU, rI0, rI, tVar, tNext, tBreak, tRet, tRetN, tDrop, tLst, tTup, tCons, tNil, tCB, tB, tOr, tAnd, tNot, tIf, tCall, tFor_eq, tLc_eq, iRng1, iRng2, iList, iTup, gTup, gTupH, gUnlH, gCons, gNil, gSub, rSetL, rIxL, rIxT, rIxLH, rIxTH, rSlTS, rCatS, rTupS, rIsiH, rLenS, V.ty.injEq, tyS_non, tyS_bl, tyS_int, tyS_str, tyS_ref, tyO_l, tyO_t, tyO_d, tyO_dt, kit_ll, kit_tt, kit_bb, kit_ii, kit_ib, kit_bi, kit_nt, kit_it, kit_st, kit_bt, kit_lt, kit_dt, kit_ni, kit_si, kit_ti, kit_li, kit_di, kit_nb, kit_ns, kit_is, kit_bs, kit_ss, kit_ts, kit_ls, kit_ds, kit_dd, lenS_ref, lenO_l, lenO_t,  rAppend, tM1, rIxS, tSl, tPart, tNoPart, tBM, tBM0, tDGetS, sDPutS, tTruS, truO_l, truO_t, truS_ref, truS_non, truS_bl, truS_int, tFld, sFld, sFldAug, rAdd, tMeth, tProp, tMake, tMakeK, List.take_succ_cons, List.take_zero, List.drop_succ_cons, List.drop_zero, List.take_nil, tIsN, tNotN, tAndV, tOrV, tNotV, putF, List.lookup, List.any_cons, List.any_nil, Sum.inr.injEq, HO.ins.injEq, HO.dK.injEq, eq_self, beq_self_eq_true, beq_iff_eq, decide_true, decide_false, Bool.or_true, Bool.true_or, Bool.or_false, Bool.false_or, tYes, rEq, rNe, _root_.L2.start, wipe, List.map_cons, List.map_nil, List.length_cons, List.length_nil, List.append_nil, Nat.reduceAdd, Nat.reduceSub, List.replicate_succ, List.replicate_zero, List.cons_append, List.nil_append, List.getElem?_cons_zero, List.getElem?_cons_succ, List.set_cons_zero, List.set_cons_succ, Option.some.injEq, V.int.injEq, V.ref.injEq, V.bl.injEq, V.str.injEq, List.cons.injEq, HO.lst.injEq, HO.tup.injEq, and_assoc, and_true, true_and, exists_eq_left, exists_eq_left', exists_and_left, exists_eq, reduceCtorEq, false_and, and_false, or_false, false_or, exists_false, decide_eq_true_eq, CPow, CDivW, Int.reducePow, Int.reduceLT, Int.reduceLE, Int.reduceNeg, Int.reduceToNat, Int.reduceAbs, Nat.reducePow, Nat.reduceLT, Nat.reduceLeDiff, sizeLine_eq, Int.reduceMul, Int.reduceAdd, Int.reduceSub, Bool.not_eq_true', decide_eq_false_iff_not, scal, Bool.not_true, Bool.not_false, Bool.true_eq_false, Bool.false_eq_true, ite_false, ite_true, if_true, if_false, ite_self, forall_const, atI0, atI1, atI2, atI3, ixN20, ixN21, upd_same, upd_upd, Int.zero_add, CMul, Int.reduceSub, Nat.le_refl, Nat.zero_le, or_true, true_or, exists_const, Int.sub_zero])
        exact ⟨zs, .inl hz3, fun y H4 s4 hy => kk y zs H4 hy (Same.ims s4 iz3) (s2.trans (s3.trans s4))⟩
def sp_law_stream : Sp := fun vs H Q _ => ∃ c k : Int, vs = [.int c, .int k] ∧ ∀ (p : Addr) (H' : Hp), H p = none → St2 H' p → Same H H' → (∀ b, b ≠ p → H' b = H b) → Q (.ref p) H'
theorem ok_law_stream (T : Txt K mg) : FnOk P w K mg base CX0 1 T.f_law_stream T.d_law_stream ["_law_cell", "_law_k"] (sp_law_stream) := by
  refine Fun.ok T.F_law_stream sc_law_stream (fun vs H Q E h => ?_) (fun cdv A outer s H vs Q E hr h => ?_)
  · obtain ⟨c, k, rfl, kk⟩ := h; rfl
  · obtain ⟨c, k, rfl, kk⟩ := h
    have hu := hu_of hr
    refine ⟨_, (pss_cons (ps_set (i := 2) sc_law_stream.nd rfl (Or.inl rfl) pe_int)
      (pss_cons (ps_if (pt_cmpR op_ge (pv 0) (pe_op op_pow pe_int pe_int) (nomark _)) (pss_one (ps_set (i := 2) sc_law_stream.nd rfl (Or.inl rfl) (pv 0))) pss_nil)
      (pss_one (ps_ret (pe_lst (pa_cons (pv 2) (pa_cons (pe_op op_mod (pe_callTy call_int1 (by rfl) T.z_int (by decide +kernel) (pa_cons (pe_op op_add (pe_op op_add (pe_op op_mul (pv 0) pe_int) (pe_op op_mul (pv 1) pe_int)) pe_int) pa_nil)) pe_int) pa_nil))))))), ?_⟩
    (try simp only [ne_0_1, ne_0_1b, ne_0_2, ne_0_2b, ne_0_3, ne_0_3b, ne_0_4, ne_0_4b, ne_0_5, ne_0_5b, ne_0_6, ne_0_6b, ne_0_7, ne_0_7b, ne_1_0, ne_1_0b, ne_1_2, ne_1_2b, ne_1_3, ne_1_3b, ne_1_4, ne_1_4b, ne_1_5, ne_1_5b, ne_1_6, ne_1_6b, ne_1_7, ne_1_7b, ne_2_0, ne_2_0b, ne_2_1, ne_2_1b, ne_2_3, ne_2_3b, ne_2_4, ne_2_4b, ne_2_5, ne_2_5b, ne_2_6, ne_2_6b, ne_2_7, ne_2_7b, ne_3_0, ne_3_0b, ne_3_1, ne_3_1b, ne_3_2, ne_3_2b, ne_4_0, ne_4_0b, ne_4_1, ne_4_1b, ne_4_2, ne_4_2b, ne_5_0, ne_5_0b, ne_5_1, ne_5_1b, ne_5_2, ne_5_2b, ne_6_0, ne_6_0b, ne_6_1, ne_6_1b, ne_6_2, ne_6_2b, ne_7_0, ne_7_0b, ne_7_1, ne_7_1b, ne_7_2, ne_7_2b, cxOf, Cx.nox, Cx.wish, tSeq, tAsg, tC, gName, tIfS, tTest, tOp, tUn, rU, rI0, rI, tVar, tNext, tBreak, tRet, tRetN, tDrop, tLst, tTup, tCons, tNil, tCB, tB, tOr, tAnd, tNot, tIf, tCall, tFor_eq, tLc_eq, iRng1, iRng2, iList, iTup, gTup, gTupH, gUnlH, gCons, gNil, gSub, rSetL, rIxL, rIxT, rIxLH, rIxTH, rSlTS, rCatS, rTupS, rIsiH, rLenS, V.ty.injEq, tyS_non, tyS_bl, tyS_int, tyS_str, tyS_ref, tyO_l, tyO_t, tyO_d, tyO_dt, kit_ll, kit_tt, kit_bb, kit_ii, kit_ib, kit_bi, kit_nt, kit_it, kit_st, kit_bt, kit_lt, kit_dt, kit_ni, kit_si, kit_ti, kit_li, kit_di, kit_nb, kit_ns, kit_is, kit_bs, kit_ss, kit_ts, kit_ls, kit_ds, kit_dd, lenS_ref, lenO_l, lenO_t,  rAppend, tM1, rIxS, tSl, tPart, tNoPart, tBM, tBM0, tDGetS, sDPutS, tTruS, truO_l, truO_t, truS_ref, truS_non, truS_bl, truS_int, tFld, sFld, sFldAug, rAdd, tMeth, tProp, tMake, tMakeK, List.take_succ_cons, List.take_zero, List.drop_succ_cons, List.drop_zero, List.take_nil, tIsN, tNotN, tAndV, tOrV, tNotV, putF, List.lookup, List.any_cons, List.any_nil, Sum.inr.injEq, HO.ins.injEq, HO.dK.injEq, eq_self, beq_self_eq_true, beq_iff_eq, decide_true, decide_false, Bool.or_true, Bool.true_or, Bool.or_false, Bool.false_or, tYes, rEq, rNe, _root_.L2.start, wipe, List.map_cons, List.map_nil, List.length_cons, List.length_nil, List.append_nil, Nat.reduceAdd, Nat.reduceSub, List.replicate_succ, List.replicate_zero, List.cons_append, List.nil_append, List.getElem?_cons_zero, List.getElem?_cons_succ, List.set_cons_zero, List.set_cons_succ, Option.some.injEq, V.int.injEq, V.ref.injEq, V.bl.injEq, V.str.injEq, List.cons.injEq, HO.lst.injEq, HO.tup.injEq, and_assoc, and_true, true_and, exists_eq_left, exists_eq_left', exists_and_left, exists_eq, reduceCtorEq, false_and, and_false, or_false, false_or, exists_false, decide_eq_true_eq, CPow, CDivW, Int.reducePow, Int.reduceLT, Int.reduceLE, Int.reduceNeg, Int.reduceToNat, Int.reduceAbs, Nat.reducePow, Nat.reduceLT, Nat.reduceLeDiff, sizeLine_eq, Int.reduceMul, Int.reduceAdd, Int.reduceSub, Bool.not_eq_true', decide_eq_false_iff_not, scal, Bool.not_true, Bool.not_false, Bool.true_eq_false, Bool.false_eq_true, ite_false, ite_true, if_true, if_false, ite_self, forall_const, atI0, atI1, atI2, atI3, ixN20, ixN21, upd_same, upd_upd, Int.zero_add, CMul, Int.reduceSub, Nat.le_refl, Nat.zero_le, or_true, true_or, exists_const, Int.sub_zero])
    split
    all_goals exact fun p hp => kk p _ hp ⟨_, _, upd_same⟩ (same_new hp) (fun b hb => upd_ne hb)
def sp_law_next : Sp := fun vs H Q _ => ∃ (p : Addr) (n : Int), vs = [.ref p, .int n] ∧ St2 H p ∧ 0 < n ∧ n ≤ 1000000000000000000 ∧ ∀ (v : Int) (H' : Hp), 0 ≤ v → v < n → Gn p H H' → Q (.int v) H'
theorem ok_law_next (T : Txt K mg) : FnOk P w K mg base CX0 1 T.f_law_next T.d_law_next ["_law_stream_here", "_law_size"] (sp_law_next) := by
  refine Fun.ok T.F_law_next sc_law_next (fun vs H Q E h => ?_) (fun cdv A outer s H vs Q E hr h => ?_)
  · obtain ⟨p, n, rfl, ⟨d, r, hp⟩, n0, n1, kk⟩ := h; rfl
  · obtain ⟨p, n, rfl, ⟨d, r, hp⟩, n0, n1, kk⟩ := h
    have hu := hu_of hr
    refine ⟨_, (pss_cons (ps_if (pt_cmpR op_gt (pe_ix ix_listH (pv 0) pe_int (fun _ _ => rfl)) pe_int (nomark _)) (pss_cons (ps_set (i := 2) sc_law_next.nd rfl (Or.inl rfl) (pe_op op_mod (pe_callTy call_int1 (by rfl) T.z_int (by decide +kernel) (pa_cons (pe_ix ix_listH (pv 0) pe_int (fun _ _ => rfl)) pa_nil)) (pv 1)))
      (pss_cons (ps_asg (pe_op op_fdivW (pe_ix ix_listH (pv 0) pe_int (fun _ _ => rfl)) (pv 1)) (pg_sub (pv 0) pe_int set_list))
      (pss_one (ps_ret (pv 2))))) pss_nil)
      (pss_cons (ps_asg (pe_op op_mod (pe_callTy call_int1 (by rfl) T.z_int (by decide +kernel) (pa_cons (pe_op op_add (pe_op op_mul (pe_ix ix_listH (pv 0) pe_int (fun _ _ => rfl)) pe_int) pe_int) pa_nil)) pe_int) (pg_sub (pv 0) pe_int set_list))
      (pss_one (ps_ret (pe_op op_mod (pe_callTy call_int1 (by rfl) T.z_int (by decide +kernel) (pa_cons (pe_op op_fdivW (pe_op op_mod (pe_callTy call_int1 (by rfl) T.z_int (by decide +kernel) (pa_cons (pe_op op_add (pe_op op_mul (pe_ix ix_listH (pv 0) pe_int (fun _ _ => rfl)) pe_int) pe_int) pa_nil)) pe_int) pe_int) pa_nil)) (pv 1)))))), ?_⟩
    have hl : n.natAbs.log2 < 9000 := Nat.lt_of_lt_of_le (PySem.Flt.log2_lt_of (k := 64) (by decide) (by omega)) (by decide)
    (try simp only [ne_0_1, ne_0_1b, ne_0_2, ne_0_2b, ne_0_3, ne_0_3b, ne_0_4, ne_0_4b, ne_0_5, ne_0_5b, ne_0_6, ne_0_6b, ne_0_7, ne_0_7b, ne_1_0, ne_1_0b, ne_1_2, ne_1_2b, ne_1_3, ne_1_3b, ne_1_4, ne_1_4b, ne_1_5, ne_1_5b, ne_1_6, ne_1_6b, ne_1_7, ne_1_7b, ne_2_0, ne_2_0b, ne_2_1, ne_2_1b, ne_2_3, ne_2_3b, ne_2_4, ne_2_4b, ne_2_5, ne_2_5b, ne_2_6, ne_2_6b, ne_2_7, ne_2_7b, ne_3_0, ne_3_0b, ne_3_1, ne_3_1b, ne_3_2, ne_3_2b, ne_4_0, ne_4_0b, ne_4_1, ne_4_1b, ne_4_2, ne_4_2b, ne_5_0, ne_5_0b, ne_5_1, ne_5_1b, ne_5_2, ne_5_2b, ne_6_0, ne_6_0b, ne_6_1, ne_6_1b, ne_6_2, ne_6_2b, ne_7_0, ne_7_0b, ne_7_1, ne_7_1b, ne_7_2, ne_7_2b, cxOf, Cx.nox, Cx.wish, tSeq, tAsg, tC, gName, tIfS, tTest, tOp, tUn, rU, rI0, rI, tVar, tNext, tBreak, tRet, tRetN, tDrop, tLst, tTup, tCons, tNil, tCB, tB, tOr, tAnd, tNot, tIf, tCall, tFor_eq, tLc_eq, iRng1, iRng2, iList, iTup, gTup, gTupH, gUnlH, gCons, gNil, gSub, rSetL, rIxL, rIxT, rIxLH, rIxTH, rSlTS, rCatS, rTupS, rIsiH, rLenS, V.ty.injEq, tyS_non, tyS_bl, tyS_int, tyS_str, tyS_ref, tyO_l, tyO_t, tyO_d, tyO_dt, kit_ll, kit_tt, kit_bb, kit_ii, kit_ib, kit_bi, kit_nt, kit_it, kit_st, kit_bt, kit_lt, kit_dt, kit_ni, kit_si, kit_ti, kit_li, kit_di, kit_nb, kit_ns, kit_is, kit_bs, kit_ss, kit_ts, kit_ls, kit_ds, kit_dd, lenS_ref, lenO_l, lenO_t,  rAppend, tM1, rIxS, tSl, tPart, tNoPart, tBM, tBM0, tDGetS, sDPutS, tTruS, truO_l, truO_t, truS_ref, truS_non, truS_bl, truS_int, tFld, sFld, sFldAug, rAdd, tMeth, tProp, tMake, tMakeK, List.take_succ_cons, List.take_zero, List.drop_succ_cons, List.drop_zero, List.take_nil, tIsN, tNotN, tAndV, tOrV, tNotV, putF, List.lookup, List.any_cons, List.any_nil, Sum.inr.injEq, HO.ins.injEq, HO.dK.injEq, eq_self, beq_self_eq_true, beq_iff_eq, decide_true, decide_false, Bool.or_true, Bool.true_or, Bool.or_false, Bool.false_or, tYes, rEq, rNe, _root_.L2.start, wipe, List.map_cons, List.map_nil, List.length_cons, List.length_nil, List.append_nil, Nat.reduceAdd, Nat.reduceSub, List.replicate_succ, List.replicate_zero, List.cons_append, List.nil_append, List.getElem?_cons_zero, List.getElem?_cons_succ, List.set_cons_zero, List.set_cons_succ, Option.some.injEq, V.int.injEq, V.ref.injEq, V.bl.injEq, V.str.injEq, List.cons.injEq, HO.lst.injEq, HO.tup.injEq, and_assoc, and_true, true_and, exists_eq_left, exists_eq_left', exists_and_left, exists_eq, reduceCtorEq, false_and, and_false, or_false, false_or, exists_false, decide_eq_true_eq, CPow, CDivW, Int.reducePow, Int.reduceLT, Int.reduceLE, Int.reduceNeg, Int.reduceToNat, Int.reduceAbs, Nat.reducePow, Nat.reduceLT, Nat.reduceLeDiff, sizeLine_eq, Int.reduceMul, Int.reduceAdd, Int.reduceSub, Bool.not_eq_true', decide_eq_false_iff_not, scal, Bool.not_true, Bool.not_false, Bool.true_eq_false, Bool.false_eq_true, ite_false, ite_true, if_true, if_false, ite_self, forall_const, atI0, atI1, atI2, atI3, ixN20, ixN21, upd_same, upd_upd, Int.zero_add, CMul, Int.reduceSub, Nat.le_refl, Nat.zero_le, or_true, true_or, exists_const, Int.sub_zero, hp])
    split
    · exact ⟨n0, n0, hl, kk _ _ (Int.emod_nonneg _ (by omega)) (Int.emod_lt_of_pos _ n0) (Gn.upd ⟨d, r, hp⟩)⟩
    · exact ⟨by decide, n0, kk _ _ (Int.emod_nonneg _ (by omega)) (Int.emod_lt_of_pos _ n0) (Gn.upd ⟨d, r, hp⟩)⟩
def sp_law_flag : Sp := fun vs H Q _ => ∃ (a b : Bool), vs = [.bl a, .bl b] ∧ Q (.bl (decide (a = b))) H
theorem ok_law_flag (T : Txt K mg) : FnOk P w K mg base CX0 1 T.f_law_flag T.d_law_flag ["_law_actual", "_law_due_here"] (sp_law_flag) := by
  refine Fun.ok T.F_law_flag sc_law_flag (fun vs H Q E h => ?_) (fun cdv A outer s H vs Q E hr h => ?_)
  · obtain ⟨a, b, rfl, kk⟩ := h; rfl
  · obtain ⟨a, b, rfl, kk⟩ := h
    have hu := hu_of hr
    refine ⟨_, (pss_one (ps_ret (pe_and (pe_callB call_isiH (by rfl) T.z_isinstance (by decide +kernel) (pa_cons (pv 0) (pa_cons (pe_bltn (v := .ty "bool") (by rfl) T.z_bool (by decide +kernel) rfl) pa_nil))) (pe_one (pe_cmpR op_eq (pv 0) (pv 1) (nomark _)))))), ?_⟩
    (try simp only [ne_0_1, ne_0_1b, ne_0_2, ne_0_2b, ne_0_3, ne_0_3b, ne_0_4, ne_0_4b, ne_0_5, ne_0_5b, ne_0_6, ne_0_6b, ne_0_7, ne_0_7b, ne_1_0, ne_1_0b, ne_1_2, ne_1_2b, ne_1_3, ne_1_3b, ne_1_4, ne_1_4b, ne_1_5, ne_1_5b, ne_1_6, ne_1_6b, ne_1_7, ne_1_7b, ne_2_0, ne_2_0b, ne_2_1, ne_2_1b, ne_2_3, ne_2_3b, ne_2_4, ne_2_4b, ne_2_5, ne_2_5b, ne_2_6, ne_2_6b, ne_2_7, ne_2_7b, ne_3_0, ne_3_0b, ne_3_1, ne_3_1b, ne_3_2, ne_3_2b, ne_4_0, ne_4_0b, ne_4_1, ne_4_1b, ne_4_2, ne_4_2b, ne_5_0, ne_5_0b, ne_5_1, ne_5_1b, ne_5_2, ne_5_2b, ne_6_0, ne_6_0b, ne_6_1, ne_6_1b, ne_6_2, ne_6_2b, ne_7_0, ne_7_0b, ne_7_1, ne_7_1b, ne_7_2, ne_7_2b, cxOf, Cx.nox, Cx.wish, tSeq, tAsg, tC, gName, tIfS, tTest, tOp, tUn, rU, rI0, rI, tVar, tNext, tBreak, tRet, tRetN, tDrop, tLst, tTup, tCons, tNil, tCB, tB, tOr, tAnd, tNot, tIf, tCall, tFor_eq, tLc_eq, iRng1, iRng2, iList, iTup, gTup, gTupH, gUnlH, gCons, gNil, gSub, rSetL, rIxL, rIxT, rIxLH, rIxTH, rSlTS, rCatS, rTupS, rIsiH, rLenS, V.ty.injEq, tyS_non, tyS_bl, tyS_int, tyS_str, tyS_ref, tyO_l, tyO_t, tyO_d, tyO_dt, kit_ll, kit_tt, kit_bb, kit_ii, kit_ib, kit_bi, kit_nt, kit_it, kit_st, kit_bt, kit_lt, kit_dt, kit_ni, kit_si, kit_ti, kit_li, kit_di, kit_nb, kit_ns, kit_is, kit_bs, kit_ss, kit_ts, kit_ls, kit_ds, kit_dd, lenS_ref, lenO_l, lenO_t,  rAppend, tM1, rIxS, tSl, tPart, tNoPart, tBM, tBM0, tDGetS, sDPutS, tTruS, truO_l, truO_t, truS_ref, truS_non, truS_bl, truS_int, tFld, sFld, sFldAug, rAdd, tMeth, tProp, tMake, tMakeK, List.take_succ_cons, List.take_zero, List.drop_succ_cons, List.drop_zero, List.take_nil, tIsN, tNotN, tAndV, tOrV, tNotV, putF, List.lookup, List.any_cons, List.any_nil, Sum.inr.injEq, HO.ins.injEq, HO.dK.injEq, eq_self, beq_self_eq_true, beq_iff_eq, decide_true, decide_false, Bool.or_true, Bool.true_or, Bool.or_false, Bool.false_or, tYes, rEq, rNe, _root_.L2.start, wipe, List.map_cons, List.map_nil, List.length_cons, List.length_nil, List.append_nil, Nat.reduceAdd, Nat.reduceSub, List.replicate_succ, List.replicate_zero, List.cons_append, List.nil_append, List.getElem?_cons_zero, List.getElem?_cons_succ, List.set_cons_zero, List.set_cons_succ, Option.some.injEq, V.int.injEq, V.ref.injEq, V.bl.injEq, V.str.injEq, List.cons.injEq, HO.lst.injEq, HO.tup.injEq, and_assoc, and_true, true_and, exists_eq_left, exists_eq_left', exists_and_left, exists_eq, reduceCtorEq, false_and, and_false, or_false, false_or, exists_false, decide_eq_true_eq, CPow, CDivW, Int.reducePow, Int.reduceLT, Int.reduceLE, Int.reduceNeg, Int.reduceToNat, Int.reduceAbs, Nat.reducePow, Nat.reduceLT, Nat.reduceLeDiff, sizeLine_eq, Int.reduceMul, Int.reduceAdd, Int.reduceSub, Bool.not_eq_true', decide_eq_false_iff_not, scal, Bool.not_true, Bool.not_false, Bool.true_eq_false, Bool.false_eq_true, ite_false, ite_true, if_true, if_false, ite_self, forall_const, atI0, atI1, atI2, atI3, ixN20, ixN21, upd_same, upd_upd, Int.zero_add, CMul, Int.reduceSub, Nat.le_refl, Nat.zero_le, or_true, true_or, exists_const, Int.sub_zero])
    exact kk
def sp_law_due : Sp := fun vs H Q _ => ∃ (l : Addr) (ov : V) (own : Option Mrk) (kept : List Mrk) (ws : List V), vs = [ov, .ref l] ∧ Im H (oD own) ov ∧ H l = some (.lst ws) ∧ ImAll H (kept.map mD) ws ∧ kept.length ≤ 100000 ∧ ∀ (q : Addr) (zs : List V) (H' : Hp), H' q = some (.tup zs) → ImAll H' (toldD own kept) zs → Same H H' → Q (.ref q) H'
theorem ok_law_due (T : Txt K mg) : FnOk P w K mg base CX0 1 T.f_law_due T.d_law_due ["_law_own", "_law_kept"] (sp_law_due) := by
  refine Fun.ok T.F_law_due sc_law_due (fun vs H Q E h => ?_) (fun cdv A outer s H vs Q E hr h => ?_)
  · obtain ⟨l, ov, own, kept, ws, rfl, io, hl, iw, hkl, kk⟩ := h; rfl
  · obtain ⟨l, ov, own, kept, ws, rfl, io, hl, iw, hkl, kk⟩ := h
    have hu := hu_of hr
    refine ⟨_, (pss_cons (ps_if (pt_cmp (pc_isN (pv 0))) (pss_one (ps_ret (pe_tup pa_nil))) pss_nil)
      (pss_one (ps_ret (pe_callTy call_tupS (by rfl) T.z_tuple (by decide +kernel) (pa_cons (pe_callB (call_sortD (hu65 hr)) (by rfl) T.z_sorted (by decide +kernel) (pa_cons (pe_op op_cat (pe_lst (pa_cons (pv 0) pa_nil)) (pv 1)) pa_nil)) pa_nil))))), ?_⟩
    cases own with
    | none =>
      have := oD_none io
      subst this
      (try simp only [ne_0_1, ne_0_1b, ne_0_2, ne_0_2b, ne_0_3, ne_0_3b, ne_0_4, ne_0_4b, ne_0_5, ne_0_5b, ne_0_6, ne_0_6b, ne_0_7, ne_0_7b, ne_1_0, ne_1_0b, ne_1_2, ne_1_2b, ne_1_3, ne_1_3b, ne_1_4, ne_1_4b, ne_1_5, ne_1_5b, ne_1_6, ne_1_6b, ne_1_7, ne_1_7b, ne_2_0, ne_2_0b, ne_2_1, ne_2_1b, ne_2_3, ne_2_3b, ne_2_4, ne_2_4b, ne_2_5, ne_2_5b, ne_2_6, ne_2_6b, ne_2_7, ne_2_7b, ne_3_0, ne_3_0b, ne_3_1, ne_3_1b, ne_3_2, ne_3_2b, ne_4_0, ne_4_0b, ne_4_1, ne_4_1b, ne_4_2, ne_4_2b, ne_5_0, ne_5_0b, ne_5_1, ne_5_1b, ne_5_2, ne_5_2b, ne_6_0, ne_6_0b, ne_6_1, ne_6_1b, ne_6_2, ne_6_2b, ne_7_0, ne_7_0b, ne_7_1, ne_7_1b, ne_7_2, ne_7_2b, cxOf, Cx.nox, Cx.wish, tSeq, tAsg, tC, gName, tIfS, tTest, tOp, tUn, rU, rI0, rI, tVar, tNext, tBreak, tRet, tRetN, tDrop, tLst, tTup, tCons, tNil, tCB, tB, tOr, tAnd, tNot, tIf, tCall, tFor_eq, tLc_eq, iRng1, iRng2, iList, iTup, gTup, gTupH, gUnlH, gCons, gNil, gSub, rSetL, rIxL, rIxT, rIxLH, rIxTH, rSlTS, rCatS, rTupS, rIsiH, rLenS, V.ty.injEq, tyS_non, tyS_bl, tyS_int, tyS_str, tyS_ref, tyO_l, tyO_t, tyO_d, tyO_dt, kit_ll, kit_tt, kit_bb, kit_ii, kit_ib, kit_bi, kit_nt, kit_it, kit_st, kit_bt, kit_lt, kit_dt, kit_ni, kit_si, kit_ti, kit_li, kit_di, kit_nb, kit_ns, kit_is, kit_bs, kit_ss, kit_ts, kit_ls, kit_ds, kit_dd, lenS_ref, lenO_l, lenO_t,  rAppend, tM1, rIxS, tSl, tPart, tNoPart, tBM, tBM0, tDGetS, sDPutS, tTruS, truO_l, truO_t, truS_ref, truS_non, truS_bl, truS_int, tFld, sFld, sFldAug, rAdd, tMeth, tProp, tMake, tMakeK, List.take_succ_cons, List.take_zero, List.drop_succ_cons, List.drop_zero, List.take_nil, tIsN, tNotN, tAndV, tOrV, tNotV, putF, List.lookup, List.any_cons, List.any_nil, Sum.inr.injEq, HO.ins.injEq, HO.dK.injEq, eq_self, beq_self_eq_true, beq_iff_eq, decide_true, decide_false, Bool.or_true, Bool.true_or, Bool.or_false, Bool.false_or, tYes, rEq, rNe, _root_.L2.start, wipe, List.map_cons, List.map_nil, List.length_cons, List.length_nil, List.append_nil, Nat.reduceAdd, Nat.reduceSub, List.replicate_succ, List.replicate_zero, List.cons_append, List.nil_append, List.getElem?_cons_zero, List.getElem?_cons_succ, List.set_cons_zero, List.set_cons_succ, Option.some.injEq, V.int.injEq, V.ref.injEq, V.bl.injEq, V.str.injEq, List.cons.injEq, HO.lst.injEq, HO.tup.injEq, and_assoc, and_true, true_and, exists_eq_left, exists_eq_left', exists_and_left, exists_eq, reduceCtorEq, false_and, and_false, or_false, false_or, exists_false, decide_eq_true_eq, CPow, CDivW, Int.reducePow, Int.reduceLT, Int.reduceLE, Int.reduceNeg, Int.reduceToNat, Int.reduceAbs, Nat.reducePow, Nat.reduceLT, Nat.reduceLeDiff, sizeLine_eq, Int.reduceMul, Int.reduceAdd, Int.reduceSub, Bool.not_eq_true', decide_eq_false_iff_not, scal, Bool.not_true, Bool.not_false, Bool.true_eq_false, Bool.false_eq_true, ite_false, ite_true, if_true, if_false, ite_self, forall_const, atI0, atI1, atI2, atI3, ixN20, ixN21, upd_same, upd_upd, Int.zero_add, CMul, Int.reduceSub, Nat.le_refl, Nat.zero_le, or_true, true_or, exists_const, Int.sub_zero])
      intro q hq
      exact kk q [] _ upd_same im_nil (same_new hq)
    | some m =>
      obtain ⟨a, tv, kv, rfl, ha, it, ik⟩ := mD_at io
      (try simp only [ne_0_1, ne_0_1b, ne_0_2, ne_0_2b, ne_0_3, ne_0_3b, ne_0_4, ne_0_4b, ne_0_5, ne_0_5b, ne_0_6, ne_0_6b, ne_0_7, ne_0_7b, ne_1_0, ne_1_0b, ne_1_2, ne_1_2b, ne_1_3, ne_1_3b, ne_1_4, ne_1_4b, ne_1_5, ne_1_5b, ne_1_6, ne_1_6b, ne_1_7, ne_1_7b, ne_2_0, ne_2_0b, ne_2_1, ne_2_1b, ne_2_3, ne_2_3b, ne_2_4, ne_2_4b, ne_2_5, ne_2_5b, ne_2_6, ne_2_6b, ne_2_7, ne_2_7b, ne_3_0, ne_3_0b, ne_3_1, ne_3_1b, ne_3_2, ne_3_2b, ne_4_0, ne_4_0b, ne_4_1, ne_4_1b, ne_4_2, ne_4_2b, ne_5_0, ne_5_0b, ne_5_1, ne_5_1b, ne_5_2, ne_5_2b, ne_6_0, ne_6_0b, ne_6_1, ne_6_1b, ne_6_2, ne_6_2b, ne_7_0, ne_7_0b, ne_7_1, ne_7_1b, ne_7_2, ne_7_2b, cxOf, Cx.nox, Cx.wish, tSeq, tAsg, tC, gName, tIfS, tTest, tOp, tUn, rU, rI0, rI, tVar, tNext, tBreak, tRet, tRetN, tDrop, tLst, tTup, tCons, tNil, tCB, tB, tOr, tAnd, tNot, tIf, tCall, tFor_eq, tLc_eq, iRng1, iRng2, iList, iTup, gTup, gTupH, gUnlH, gCons, gNil, gSub, rSetL, rIxL, rIxT, rIxLH, rIxTH, rSlTS, rCatS, rTupS, rIsiH, rLenS, V.ty.injEq, tyS_non, tyS_bl, tyS_int, tyS_str, tyS_ref, tyO_l, tyO_t, tyO_d, tyO_dt, kit_ll, kit_tt, kit_bb, kit_ii, kit_ib, kit_bi, kit_nt, kit_it, kit_st, kit_bt, kit_lt, kit_dt, kit_ni, kit_si, kit_ti, kit_li, kit_di, kit_nb, kit_ns, kit_is, kit_bs, kit_ss, kit_ts, kit_ls, kit_ds, kit_dd, lenS_ref, lenO_l, lenO_t,  rAppend, tM1, rIxS, tSl, tPart, tNoPart, tBM, tBM0, tDGetS, sDPutS, tTruS, truO_l, truO_t, truS_ref, truS_non, truS_bl, truS_int, tFld, sFld, sFldAug, rAdd, tMeth, tProp, tMake, tMakeK, List.take_succ_cons, List.take_zero, List.drop_succ_cons, List.drop_zero, List.take_nil, tIsN, tNotN, tAndV, tOrV, tNotV, putF, List.lookup, List.any_cons, List.any_nil, Sum.inr.injEq, HO.ins.injEq, HO.dK.injEq, eq_self, beq_self_eq_true, beq_iff_eq, decide_true, decide_false, Bool.or_true, Bool.true_or, Bool.or_false, Bool.false_or, tYes, rEq, rNe, _root_.L2.start, wipe, List.map_cons, List.map_nil, List.length_cons, List.length_nil, List.append_nil, Nat.reduceAdd, Nat.reduceSub, List.replicate_succ, List.replicate_zero, List.cons_append, List.nil_append, List.getElem?_cons_zero, List.getElem?_cons_succ, List.set_cons_zero, List.set_cons_succ, Option.some.injEq, V.int.injEq, V.ref.injEq, V.bl.injEq, V.str.injEq, List.cons.injEq, HO.lst.injEq, HO.tup.injEq, and_assoc, and_true, true_and, exists_eq_left, exists_eq_left', exists_and_left, exists_eq, reduceCtorEq, false_and, and_false, or_false, false_or, exists_false, decide_eq_true_eq, CPow, CDivW, Int.reducePow, Int.reduceLT, Int.reduceLE, Int.reduceNeg, Int.reduceToNat, Int.reduceAbs, Nat.reducePow, Nat.reduceLT, Nat.reduceLeDiff, sizeLine_eq, Int.reduceMul, Int.reduceAdd, Int.reduceSub, Bool.not_eq_true', decide_eq_false_iff_not, scal, Bool.not_true, Bool.not_false, Bool.true_eq_false, Bool.false_eq_true, ite_false, ite_true, if_true, if_false, ite_self, forall_const, atI0, atI1, atI2, atI3, ixN20, ixN21, upd_same, upd_upd, Int.zero_add, CMul, Int.reduceSub, Nat.le_refl, Nat.zero_le, or_true, true_or, exists_const, Int.sub_zero])
      intro q hq
      have s1 := same_new hq (o := .lst [V.ref a])
      (try simp only [ne_0_1, ne_0_1b, ne_0_2, ne_0_2b, ne_0_3, ne_0_3b, ne_0_4, ne_0_4b, ne_0_5, ne_0_5b, ne_0_6, ne_0_6b, ne_0_7, ne_0_7b, ne_1_0, ne_1_0b, ne_1_2, ne_1_2b, ne_1_3, ne_1_3b, ne_1_4, ne_1_4b, ne_1_5, ne_1_5b, ne_1_6, ne_1_6b, ne_1_7, ne_1_7b, ne_2_0, ne_2_0b, ne_2_1, ne_2_1b, ne_2_3, ne_2_3b, ne_2_4, ne_2_4b, ne_2_5, ne_2_5b, ne_2_6, ne_2_6b, ne_2_7, ne_2_7b, ne_3_0, ne_3_0b, ne_3_1, ne_3_1b, ne_3_2, ne_3_2b, ne_4_0, ne_4_0b, ne_4_1, ne_4_1b, ne_4_2, ne_4_2b, ne_5_0, ne_5_0b, ne_5_1, ne_5_1b, ne_5_2, ne_5_2b, ne_6_0, ne_6_0b, ne_6_1, ne_6_1b, ne_6_2, ne_6_2b, ne_7_0, ne_7_0b, ne_7_1, ne_7_1b, ne_7_2, ne_7_2b, cxOf, Cx.nox, Cx.wish, tSeq, tAsg, tC, gName, tIfS, tTest, tOp, tUn, rU, rI0, rI, tVar, tNext, tBreak, tRet, tRetN, tDrop, tLst, tTup, tCons, tNil, tCB, tB, tOr, tAnd, tNot, tIf, tCall, tFor_eq, tLc_eq, iRng1, iRng2, iList, iTup, gTup, gTupH, gUnlH, gCons, gNil, gSub, rSetL, rIxL, rIxT, rIxLH, rIxTH, rSlTS, rCatS, rTupS, rIsiH, rLenS, V.ty.injEq, tyS_non, tyS_bl, tyS_int, tyS_str, tyS_ref, tyO_l, tyO_t, tyO_d, tyO_dt, kit_ll, kit_tt, kit_bb, kit_ii, kit_ib, kit_bi, kit_nt, kit_it, kit_st, kit_bt, kit_lt, kit_dt, kit_ni, kit_si, kit_ti, kit_li, kit_di, kit_nb, kit_ns, kit_is, kit_bs, kit_ss, kit_ts, kit_ls, kit_ds, kit_dd, lenS_ref, lenO_l, lenO_t,  rAppend, tM1, rIxS, tSl, tPart, tNoPart, tBM, tBM0, tDGetS, sDPutS, tTruS, truO_l, truO_t, truS_ref, truS_non, truS_bl, truS_int, tFld, sFld, sFldAug, rAdd, tMeth, tProp, tMake, tMakeK, List.take_succ_cons, List.take_zero, List.drop_succ_cons, List.drop_zero, List.take_nil, tIsN, tNotN, tAndV, tOrV, tNotV, putF, List.lookup, List.any_cons, List.any_nil, Sum.inr.injEq, HO.ins.injEq, HO.dK.injEq, eq_self, beq_self_eq_true, beq_iff_eq, decide_true, decide_false, Bool.or_true, Bool.true_or, Bool.or_false, Bool.false_or, tYes, rEq, rNe, _root_.L2.start, wipe, List.map_cons, List.map_nil, List.length_cons, List.length_nil, List.append_nil, Nat.reduceAdd, Nat.reduceSub, List.replicate_succ, List.replicate_zero, List.cons_append, List.nil_append, List.getElem?_cons_zero, List.getElem?_cons_succ, List.set_cons_zero, List.set_cons_succ, Option.some.injEq, V.int.injEq, V.ref.injEq, V.bl.injEq, V.str.injEq, List.cons.injEq, HO.lst.injEq, HO.tup.injEq, and_assoc, and_true, true_and, exists_eq_left, exists_eq_left', exists_and_left, exists_eq, reduceCtorEq, false_and, and_false, or_false, false_or, exists_false, decide_eq_true_eq, CPow, CDivW, Int.reducePow, Int.reduceLT, Int.reduceLE, Int.reduceNeg, Int.reduceToNat, Int.reduceAbs, Nat.reducePow, Nat.reduceLT, Nat.reduceLeDiff, sizeLine_eq, Int.reduceMul, Int.reduceAdd, Int.reduceSub, Bool.not_eq_true', decide_eq_false_iff_not, scal, Bool.not_true, Bool.not_false, Bool.true_eq_false, Bool.false_eq_true, ite_false, ite_true, if_true, if_false, ite_self, forall_const, atI0, atI1, atI2, atI3, ixN20, ixN21, upd_same, upd_upd, Int.zero_add, CMul, Int.reduceSub, Nat.le_refl, Nat.zero_le, or_true, true_or, exists_const, Int.sub_zero, rCat, get_new hq hl])
      have hwl := iw.len
      rw [List.length_map] at hwl
      refine ⟨by omega, ?_⟩
      intro r hr
      have s2 := s1.trans (same_new hr (o := .lst (V.ref a :: ws)))
      (try simp only [ne_0_1, ne_0_1b, ne_0_2, ne_0_2b, ne_0_3, ne_0_3b, ne_0_4, ne_0_4b, ne_0_5, ne_0_5b, ne_0_6, ne_0_6b, ne_0_7, ne_0_7b, ne_1_0, ne_1_0b, ne_1_2, ne_1_2b, ne_1_3, ne_1_3b, ne_1_4, ne_1_4b, ne_1_5, ne_1_5b, ne_1_6, ne_1_6b, ne_1_7, ne_1_7b, ne_2_0, ne_2_0b, ne_2_1, ne_2_1b, ne_2_3, ne_2_3b, ne_2_4, ne_2_4b, ne_2_5, ne_2_5b, ne_2_6, ne_2_6b, ne_2_7, ne_2_7b, ne_3_0, ne_3_0b, ne_3_1, ne_3_1b, ne_3_2, ne_3_2b, ne_4_0, ne_4_0b, ne_4_1, ne_4_1b, ne_4_2, ne_4_2b, ne_5_0, ne_5_0b, ne_5_1, ne_5_1b, ne_5_2, ne_5_2b, ne_6_0, ne_6_0b, ne_6_1, ne_6_1b, ne_6_2, ne_6_2b, ne_7_0, ne_7_0b, ne_7_1, ne_7_1b, ne_7_2, ne_7_2b, cxOf, Cx.nox, Cx.wish, tSeq, tAsg, tC, gName, tIfS, tTest, tOp, tUn, rU, rI0, rI, tVar, tNext, tBreak, tRet, tRetN, tDrop, tLst, tTup, tCons, tNil, tCB, tB, tOr, tAnd, tNot, tIf, tCall, tFor_eq, tLc_eq, iRng1, iRng2, iList, iTup, gTup, gTupH, gUnlH, gCons, gNil, gSub, rSetL, rIxL, rIxT, rIxLH, rIxTH, rSlTS, rCatS, rTupS, rIsiH, rLenS, V.ty.injEq, tyS_non, tyS_bl, tyS_int, tyS_str, tyS_ref, tyO_l, tyO_t, tyO_d, tyO_dt, kit_ll, kit_tt, kit_bb, kit_ii, kit_ib, kit_bi, kit_nt, kit_it, kit_st, kit_bt, kit_lt, kit_dt, kit_ni, kit_si, kit_ti, kit_li, kit_di, kit_nb, kit_ns, kit_is, kit_bs, kit_ss, kit_ts, kit_ls, kit_ds, kit_dd, lenS_ref, lenO_l, lenO_t,  rAppend, tM1, rIxS, tSl, tPart, tNoPart, tBM, tBM0, tDGetS, sDPutS, tTruS, truO_l, truO_t, truS_ref, truS_non, truS_bl, truS_int, tFld, sFld, sFldAug, rAdd, tMeth, tProp, tMake, tMakeK, List.take_succ_cons, List.take_zero, List.drop_succ_cons, List.drop_zero, List.take_nil, tIsN, tNotN, tAndV, tOrV, tNotV, putF, List.lookup, List.any_cons, List.any_nil, Sum.inr.injEq, HO.ins.injEq, HO.dK.injEq, eq_self, beq_self_eq_true, beq_iff_eq, decide_true, decide_false, Bool.or_true, Bool.true_or, Bool.or_false, Bool.false_or, tYes, rEq, rNe, _root_.L2.start, wipe, List.map_cons, List.map_nil, List.length_cons, List.length_nil, List.append_nil, Nat.reduceAdd, Nat.reduceSub, List.replicate_succ, List.replicate_zero, List.cons_append, List.nil_append, List.getElem?_cons_zero, List.getElem?_cons_succ, List.set_cons_zero, List.set_cons_succ, Option.some.injEq, V.int.injEq, V.ref.injEq, V.bl.injEq, V.str.injEq, List.cons.injEq, HO.lst.injEq, HO.tup.injEq, and_assoc, and_true, true_and, exists_eq_left, exists_eq_left', exists_and_left, exists_eq, reduceCtorEq, false_and, and_false, or_false, false_or, exists_false, decide_eq_true_eq, CPow, CDivW, Int.reducePow, Int.reduceLT, Int.reduceLE, Int.reduceNeg, Int.reduceToNat, Int.reduceAbs, Nat.reducePow, Nat.reduceLT, Nat.reduceLeDiff, sizeLine_eq, Int.reduceMul, Int.reduceAdd, Int.reduceSub, Bool.not_eq_true', decide_eq_false_iff_not, scal, Bool.not_true, Bool.not_false, Bool.true_eq_false, Bool.false_eq_true, ite_false, ite_true, if_true, if_false, ite_self, forall_const, atI0, atI1, atI2, atI3, ixN20, ixN21, upd_same, upd_upd, Int.zero_add, CMul, Int.reduceSub, Nat.le_refl, Nat.zero_le, or_true, true_or, exists_const, Int.sub_zero, rSortD])
      refine ⟨(m :: kept).map mD, ?_, mDs_alike _, mDs_sortable _, mDs_depth _, fun z zs H3 hz s3 _ hz3 iz3 => ?_⟩
      · exact im_cons (Same.im s2 io) (Same.ims s2 iw)
      · rw [told_swap] at iz3
        (try simp only [ne_0_1, ne_0_1b, ne_0_2, ne_0_2b, ne_0_3, ne_0_3b, ne_0_4, ne_0_4b, ne_0_5, ne_0_5b, ne_0_6, ne_0_6b, ne_0_7, ne_0_7b, ne_1_0, ne_1_0b, ne_1_2, ne_1_2b, ne_1_3, ne_1_3b, ne_1_4, ne_1_4b, ne_1_5, ne_1_5b, ne_1_6, ne_1_6b, ne_1_7, ne_1_7b, ne_2_0, ne_2_0b, ne_2_1, ne_2_1b, ne_2_3, ne_2_3b, ne_2_4, ne_2_4b, ne_2_5, ne_2_5b, ne_2_6, ne_2_6b, ne_2_7, ne_2_7b, ne_3_0, ne_3_0b, ne_3_1, ne_3_1b, ne_3_2, ne_3_2b, ne_4_0, ne_4_0b, ne_4_1, ne_4_1b, ne_4_2, ne_4_2b, ne_5_0, ne_5_0b, ne_5_1, ne_5_1b, ne_5_2, ne_5_2b, ne_6_0, ne_6_0b, ne_6_1, ne_6_1b, ne_6_2, ne_6_2b, ne_7_0, ne_7_0b, ne_7_1, ne_7_1b, ne_7_2, ne_7_2b, cxOf, Cx.nox, Cx.wish, tSeq, tAsg, tC, gName, tIfS, tTest, tOp, tUn, rU, rI0, rI, tVar, tNext, tBreak, tRet, tRetN, tDrop, tLst, tTup, tCons, tNil, tCB, tB, tOr, tAnd, tNot, tIf, tCall, tFor_eq, tLc_eq, iRng1, iRng2, iList, iTup, gTup, gTupH, gUnlH, gCons, gNil, gSub, rSetL, rIxL, rIxT, rIxLH, rIxTH, rSlTS, rCatS, rTupS, rIsiH, rLenS, V.ty.injEq, tyS_non, tyS_bl, tyS_int, tyS_str, tyS_ref, tyO_l, tyO_t, tyO_d, tyO_dt, kit_ll, kit_tt, kit_bb, kit_ii, kit_ib, kit_bi, kit_nt, kit_it, kit_st, kit_bt, kit_lt, kit_dt, kit_ni, kit_si, kit_ti, kit_li, kit_di, kit_nb, kit_ns, kit_is, kit_bs, kit_ss, kit_ts, kit_ls, kit_ds, kit_dd, lenS_ref, lenO_l, lenO_t,  rAppend, tM1, rIxS, tSl, tPart, tNoPart, tBM, tBM0, tDGetS, sDPutS, tTruS, truO_l, truO_t, truS_ref, truS_non, truS_bl, truS_int, tFld, sFld, sFldAug, rAdd, tMeth, tProp, tMake, tMakeK, List.take_succ_cons, List.take_zero, List.drop_succ_cons, List.drop_zero, List.take_nil, tIsN, tNotN, tAndV, tOrV, tNotV, putF, List.lookup, List.any_cons, List.any_nil, Sum.inr.injEq, HO.ins.injEq, HO.dK.injEq, eq_self, beq_self_eq_true, beq_iff_eq, decide_true, decide_false, Bool.or_true, Bool.true_or, Bool.or_false, Bool.false_or, tYes, rEq, rNe, _root_.L2.start, wipe, List.map_cons, List.map_nil, List.length_cons, List.length_nil, List.append_nil, Nat.reduceAdd, Nat.reduceSub, List.replicate_succ, List.replicate_zero, List.cons_append, List.nil_append, List.getElem?_cons_zero, List.getElem?_cons_succ, List.set_cons_zero, List.set_cons_succ, Option.some.injEq, V.int.injEq, V.ref.injEq, V.bl.injEq, V.str.injEq, List.cons.injEq, HO.lst.injEq, HO.tup.injEq, and_assoc, and_true, true_and, exists_eq_left, exists_eq_left', exists_and_left, exists_eq, reduceCtorEq, false_and, and_false, or_false, false_or, exists_false, decide_eq_true_eq, CPow, CDivW, Int.reducePow, Int.reduceLT, Int.reduceLE, Int.reduceNeg, Int.reduceToNat, Int.reduceAbs, Nat.reducePow, Nat.reduceLT, Nat.reduceLeDiff, sizeLine_eq, Int.reduceMul, Int.reduceAdd, Int.reduceSub, Bool.not_eq_true', decide_eq_false_iff_not, scal, Bool.not_true, Bool.not_false, Bool.true_eq_false, Bool.false_eq_true, ite_false, ite_true, if_true, if_false, ite_self, forall_const, atI0, atI1, atI2, atI3, ixN20, ixN21, upd_same, upd_upd, Int.zero_add, CMul, Int.reduceSub, Nat.le_refl, Nat.zero_le, or_true, true_or, exists_const, Int.sub_zero])
        exact ⟨zs, .inl hz3, fun y H4 s4 hy => kk y zs H4 hy (Same.ims s4 iz3) (s2.trans (s3.trans s4))⟩
def sp_law_transaction : Sp := fun vs H Q _ => ∃ (p : Addr), vs = [.ref p] ∧ St2 H p ∧ ∀ (v : V) (t : Int × Int) (H' : Hp), Im H' (tD t) v → Gn p H H' → Q v H'
theorem ok_law_transaction (T : Txt K mg) : FnOk P w K mg base CX0 2 T.f_law_transaction T.d_law_transaction ["_law_stream_here"] (sp_law_transaction) := by
  refine Fun.ok T.F_law_transaction sc_law_transaction (fun vs H Q E h => ?_) (fun cdv A outer s H vs Q E hr h => ?_)
  · obtain ⟨p, rfl, hp, kk⟩ := h; rfl
  · obtain ⟨p, rfl, hp, kk⟩ := h
    have hu := hu_of hr
    refine ⟨_, (pss_cons (ps_if (pt_cmpR op_eq (pe_call (ok_law_next T) (hr.mono (by decide)) rfl T.g_law_next T.F_law_next.kp T.b_law_next .nil pass0 (pa_cons (pv 0) (pa_cons pe_int pa_nil))) pe_int (nomark _)) (pss_one (ps_ret (pe_tup (pa_cons (pe_op op_add pe_int (pe_call (ok_law_next T) (hr.mono (by decide)) rfl T.g_law_next T.F_law_next.kp T.b_law_next .nil pass0 (pa_cons (pv 0) (pa_cons (pe_op op_pow pe_int pe_int) pa_nil)))) (pa_cons (pe_call (ok_law_next T) (hr.mono (by decide)) rfl T.g_law_next T.F_law_next.kp T.b_law_next .nil pass0 (pa_cons (pv 0) (pa_cons (pe_op op_pow pe_int pe_int) pa_nil))) pa_nil))))) pss_nil)
      (pss_one (ps_ret (pe_tup (pa_cons (pe_op op_add pe_int (pe_call (ok_law_next T) (hr.mono (by decide)) rfl T.g_law_next T.F_law_next.kp T.b_law_next .nil pass0 (pa_cons (pv 0) (pa_cons pe_int pa_nil)))) (pa_cons (pe_call (ok_law_next T) (hr.mono (by decide)) rfl T.g_law_next T.F_law_next.kp T.b_law_next .nil pass0 (pa_cons (pv 0) (pa_cons pe_int pa_nil))) pa_nil)))))), ?_⟩
    (try simp only [ne_0_1, ne_0_1b, ne_0_2, ne_0_2b, ne_0_3, ne_0_3b, ne_0_4, ne_0_4b, ne_0_5, ne_0_5b, ne_0_6, ne_0_6b, ne_0_7, ne_0_7b, ne_1_0, ne_1_0b, ne_1_2, ne_1_2b, ne_1_3, ne_1_3b, ne_1_4, ne_1_4b, ne_1_5, ne_1_5b, ne_1_6, ne_1_6b, ne_1_7, ne_1_7b, ne_2_0, ne_2_0b, ne_2_1, ne_2_1b, ne_2_3, ne_2_3b, ne_2_4, ne_2_4b, ne_2_5, ne_2_5b, ne_2_6, ne_2_6b, ne_2_7, ne_2_7b, ne_3_0, ne_3_0b, ne_3_1, ne_3_1b, ne_3_2, ne_3_2b, ne_4_0, ne_4_0b, ne_4_1, ne_4_1b, ne_4_2, ne_4_2b, ne_5_0, ne_5_0b, ne_5_1, ne_5_1b, ne_5_2, ne_5_2b, ne_6_0, ne_6_0b, ne_6_1, ne_6_1b, ne_6_2, ne_6_2b, ne_7_0, ne_7_0b, ne_7_1, ne_7_1b, ne_7_2, ne_7_2b, cxOf, Cx.nox, Cx.wish, tSeq, tAsg, tC, gName, tIfS, tTest, tOp, tUn, rU, rI0, rI, tVar, tNext, tBreak, tRet, tRetN, tDrop, tLst, tTup, tCons, tNil, tCB, tB, tOr, tAnd, tNot, tIf, tCall, tFor_eq, tLc_eq, iRng1, iRng2, iList, iTup, gTup, gTupH, gUnlH, gCons, gNil, gSub, rSetL, rIxL, rIxT, rIxLH, rIxTH, rSlTS, rCatS, rTupS, rIsiH, rLenS, V.ty.injEq, tyS_non, tyS_bl, tyS_int, tyS_str, tyS_ref, tyO_l, tyO_t, tyO_d, tyO_dt, kit_ll, kit_tt, kit_bb, kit_ii, kit_ib, kit_bi, kit_nt, kit_it, kit_st, kit_bt, kit_lt, kit_dt, kit_ni, kit_si, kit_ti, kit_li, kit_di, kit_nb, kit_ns, kit_is, kit_bs, kit_ss, kit_ts, kit_ls, kit_ds, kit_dd, lenS_ref, lenO_l, lenO_t,  rAppend, tM1, rIxS, tSl, tPart, tNoPart, tBM, tBM0, tDGetS, sDPutS, tTruS, truO_l, truO_t, truS_ref, truS_non, truS_bl, truS_int, tFld, sFld, sFldAug, rAdd, tMeth, tProp, tMake, tMakeK, List.take_succ_cons, List.take_zero, List.drop_succ_cons, List.drop_zero, List.take_nil, tIsN, tNotN, tAndV, tOrV, tNotV, putF, List.lookup, List.any_cons, List.any_nil, Sum.inr.injEq, HO.ins.injEq, HO.dK.injEq, eq_self, beq_self_eq_true, beq_iff_eq, decide_true, decide_false, Bool.or_true, Bool.true_or, Bool.or_false, Bool.false_or, tYes, rEq, rNe, _root_.L2.start, wipe, List.map_cons, List.map_nil, List.length_cons, List.length_nil, List.append_nil, Nat.reduceAdd, Nat.reduceSub, List.replicate_succ, List.replicate_zero, List.cons_append, List.nil_append, List.getElem?_cons_zero, List.getElem?_cons_succ, List.set_cons_zero, List.set_cons_succ, Option.some.injEq, V.int.injEq, V.ref.injEq, V.bl.injEq, V.str.injEq, List.cons.injEq, HO.lst.injEq, HO.tup.injEq, and_assoc, and_true, true_and, exists_eq_left, exists_eq_left', exists_and_left, exists_eq, reduceCtorEq, false_and, and_false, or_false, false_or, exists_false, decide_eq_true_eq, CPow, CDivW, Int.reducePow, Int.reduceLT, Int.reduceLE, Int.reduceNeg, Int.reduceToNat, Int.reduceAbs, Nat.reducePow, Nat.reduceLT, Nat.reduceLeDiff, sizeLine_eq, Int.reduceMul, Int.reduceAdd, Int.reduceSub, Bool.not_eq_true', decide_eq_false_iff_not, scal, Bool.not_true, Bool.not_false, Bool.true_eq_false, Bool.false_eq_true, ite_false, ite_true, if_true, if_false, ite_self, forall_const, atI0, atI1, atI2, atI3, ixN20, ixN21, upd_same, upd_upd, Int.zero_add, CMul, Int.reduceSub, Nat.le_refl, Nat.zero_le, or_true, true_or, exists_const, Int.sub_zero, sp_law_next])
    refine ⟨hp, fun v H1 v0 v1 g1 => ?_⟩
    split
    · exact ⟨g1.st, fun i H2 i0 i1 g2 => ⟨g2.st, fun j H3 j0 j1 g3 q hq => kk _ (1 + i, j) _ (im_tup upd_same (im_cons im_int (im_cons im_int im_nil))) (((g1.trans g2).trans g3).new hq)⟩⟩
    · exact ⟨g1.st, fun i H2 i0 i1 g2 => ⟨g2.st, fun j H3 j0 j1 g3 q hq => kk _ (1 + i, j) _ (im_tup upd_same (im_cons im_int (im_cons im_int im_nil))) (((g1.trans g2).trans g3).new hq)⟩⟩
def sp_law_mark : Sp := fun vs H Q _ => ∃ (p : Addr), vs = [.ref p] ∧ St2 H p ∧ ∀ (v : V) (m : Mrk) (H' : Hp), Im H' (mD m) v → Gn p H H' → Q v H'
theorem ok_law_mark (T : Txt K mg) : FnOk P w K mg base CX0 3 T.f_law_mark T.d_law_mark ["_law_stream_here"] (sp_law_mark) := by
  refine Fun.ok T.F_law_mark sc_law_mark (fun vs H Q E h => ?_) (fun cdv A outer s H vs Q E hr h => ?_)
  · obtain ⟨p, rfl, hp, kk⟩ := h; rfl
  · obtain ⟨p, rfl, hp, kk⟩ := h
    have hu := hu_of hr
    refine ⟨_, (pss_cons (ps_set (i := 1) sc_law_mark.nd rfl (Or.inl rfl) (pe_tup (pa_cons (pe_call (ok_law_next T) (hr.mono (by decide)) rfl T.g_law_next T.F_law_next.kp T.b_law_next .nil pass0 (pa_cons (pv 0) (pa_cons pe_int pa_nil))) (pa_cons (pe_ix ix_tupH (pe_tup (pa_cons pe_str (pa_cons pe_str pa_nil))) (pe_call (ok_law_next T) (hr.mono (by decide)) rfl T.g_law_next T.F_law_next.kp T.b_law_next .nil pass0 (pa_cons (pv 0) (pa_cons pe_int pa_nil))) (fun _ _ => rfl)) pa_nil))))
      (pss_one (ps_ret (pe_tup (pa_cons (pe_call (ok_law_transaction T) (hr.mono (by decide)) rfl T.g_law_transaction T.F_law_transaction.kp T.b_law_transaction .nil pass0 (pa_cons (pv 0) pa_nil)) (pa_cons (pe_op op_add pe_int (pe_call (ok_law_next T) (hr.mono (by decide)) rfl T.g_law_next T.F_law_next.kp T.b_law_next .nil pass0 (pa_cons (pv 0) (pa_cons pe_int pa_nil)))) (pa_cons (pv 1) (pa_cons (pe_op op_add pe_int (pe_call (ok_law_next T) (hr.mono (by decide)) rfl T.g_law_next T.F_law_next.kp T.b_law_next .nil pass0 (pa_cons (pv 0) (pa_cons pe_int pa_nil)))) pa_nil)))))))), ?_⟩
    (try simp only [ne_0_1, ne_0_1b, ne_0_2, ne_0_2b, ne_0_3, ne_0_3b, ne_0_4, ne_0_4b, ne_0_5, ne_0_5b, ne_0_6, ne_0_6b, ne_0_7, ne_0_7b, ne_1_0, ne_1_0b, ne_1_2, ne_1_2b, ne_1_3, ne_1_3b, ne_1_4, ne_1_4b, ne_1_5, ne_1_5b, ne_1_6, ne_1_6b, ne_1_7, ne_1_7b, ne_2_0, ne_2_0b, ne_2_1, ne_2_1b, ne_2_3, ne_2_3b, ne_2_4, ne_2_4b, ne_2_5, ne_2_5b, ne_2_6, ne_2_6b, ne_2_7, ne_2_7b, ne_3_0, ne_3_0b, ne_3_1, ne_3_1b, ne_3_2, ne_3_2b, ne_4_0, ne_4_0b, ne_4_1, ne_4_1b, ne_4_2, ne_4_2b, ne_5_0, ne_5_0b, ne_5_1, ne_5_1b, ne_5_2, ne_5_2b, ne_6_0, ne_6_0b, ne_6_1, ne_6_1b, ne_6_2, ne_6_2b, ne_7_0, ne_7_0b, ne_7_1, ne_7_1b, ne_7_2, ne_7_2b, cxOf, Cx.nox, Cx.wish, tSeq, tAsg, tC, gName, tIfS, tTest, tOp, tUn, rU, rI0, rI, tVar, tNext, tBreak, tRet, tRetN, tDrop, tLst, tTup, tCons, tNil, tCB, tB, tOr, tAnd, tNot, tIf, tCall, tFor_eq, tLc_eq, iRng1, iRng2, iList, iTup, gTup, gTupH, gUnlH, gCons, gNil, gSub, rSetL, rIxL, rIxT, rIxLH, rIxTH, rSlTS, rCatS, rTupS, rIsiH, rLenS, V.ty.injEq, tyS_non, tyS_bl, tyS_int, tyS_str, tyS_ref, tyO_l, tyO_t, tyO_d, tyO_dt, kit_ll, kit_tt, kit_bb, kit_ii, kit_ib, kit_bi, kit_nt, kit_it, kit_st, kit_bt, kit_lt, kit_dt, kit_ni, kit_si, kit_ti, kit_li, kit_di, kit_nb, kit_ns, kit_is, kit_bs, kit_ss, kit_ts, kit_ls, kit_ds, kit_dd, lenS_ref, lenO_l, lenO_t,  rAppend, tM1, rIxS, tSl, tPart, tNoPart, tBM, tBM0, tDGetS, sDPutS, tTruS, truO_l, truO_t, truS_ref, truS_non, truS_bl, truS_int, tFld, sFld, sFldAug, rAdd, tMeth, tProp, tMake, tMakeK, List.take_succ_cons, List.take_zero, List.drop_succ_cons, List.drop_zero, List.take_nil, tIsN, tNotN, tAndV, tOrV, tNotV, putF, List.lookup, List.any_cons, List.any_nil, Sum.inr.injEq, HO.ins.injEq, HO.dK.injEq, eq_self, beq_self_eq_true, beq_iff_eq, decide_true, decide_false, Bool.or_true, Bool.true_or, Bool.or_false, Bool.false_or, tYes, rEq, rNe, _root_.L2.start, wipe, List.map_cons, List.map_nil, List.length_cons, List.length_nil, List.append_nil, Nat.reduceAdd, Nat.reduceSub, List.replicate_succ, List.replicate_zero, List.cons_append, List.nil_append, List.getElem?_cons_zero, List.getElem?_cons_succ, List.set_cons_zero, List.set_cons_succ, Option.some.injEq, V.int.injEq, V.ref.injEq, V.bl.injEq, V.str.injEq, List.cons.injEq, HO.lst.injEq, HO.tup.injEq, and_assoc, and_true, true_and, exists_eq_left, exists_eq_left', exists_and_left, exists_eq, reduceCtorEq, false_and, and_false, or_false, false_or, exists_false, decide_eq_true_eq, CPow, CDivW, Int.reducePow, Int.reduceLT, Int.reduceLE, Int.reduceNeg, Int.reduceToNat, Int.reduceAbs, Nat.reducePow, Nat.reduceLT, Nat.reduceLeDiff, sizeLine_eq, Int.reduceMul, Int.reduceAdd, Int.reduceSub, Bool.not_eq_true', decide_eq_false_iff_not, scal, Bool.not_true, Bool.not_false, Bool.true_eq_false, Bool.false_eq_true, ite_false, ite_true, if_true, if_false, ite_self, forall_const, atI0, atI1, atI2, atI3, ixN20, ixN21, upd_same, upd_upd, Int.zero_add, CMul, Int.reduceSub, Nat.le_refl, Nat.zero_le, or_true, true_or, exists_const, Int.sub_zero, sp_law_next, sp_law_transaction])
    refine ⟨hp, fun h H1 h0 h1 g1 c hc => ⟨g1.st.new hc, fun j H2 j0 j1 g2 => ?_⟩⟩
    have hc2 := g2.at upd_same (St2.nn g1.st hc)
    obtain ⟨x, hx, hm⟩ := atI_mem (xs := [V.str (Str.ofString "a"), V.str (Str.ofString "b")]) j0 (by simpa using j1)
    obtain ⟨n, rfl, hn⟩ : ∃ n, x = V.str n ∧ PyData.strOk n = true := by
      simp only [List.mem_cons, List.not_mem_nil, or_false] at hm
      rcases hm with rfl | rfl
      · exact ⟨_, rfl, by decide +kernel⟩
      · exact ⟨_, rfl, by decide +kernel⟩
    refine ⟨_, hc2, _, hx, fun k hk => ⟨g2.st.new hk, fun tv t H3 it g3 => ⟨g3.st, fun a H4 a0 a1 g4 => ⟨g4.st, fun b H5 b0 b1 g5 q hq => ?_⟩⟩⟩⟩
    have gk := ((g3.trans g4).trans g5)
    have ik : Im H5 (.tuple [.int h, .str n]) (.ref k) := gk.im (im_tup upd_same (im_cons im_int (im_cons im_str im_nil)))
    have it5 : Im H5 (tD t) tv := g5.im (g4.im it)
    exact kk _ ⟨t, 1 + a, h, n, 1 + b, hn⟩ _ (im_tup upd_same (im_cons (imNew hq it5) (im_cons im_int (im_cons (imNew hq ik) (im_cons im_int im_nil))))) ((((g1.new hc).trans g2).new hk |>.trans gk).new hq)
def sp_law_taken (C : Addr) : Sp := fun vs H Q _ => ∃ (p l k s : Addr) (t : Int × Int) (own : Mrk) (kept : List Mrk) (ov : V) (ws : List V), vs = [.ref p, ov, .ref k, .ref s] ∧ MarksAt C H p l t (some own) kept ∧ own.t = t ∧ Im H (mD own) ov ∧
  H k = some (.lst ws) ∧ ImAll H (kept.map mD) ws ∧ k ≠ l ∧ k ≠ s ∧ l ≠ s ∧ St2 H s ∧ kept.length ≤ 1000 ∧
  ∀ (k' : Addr) (ws' : List V) (kept' : List Mrk) (H' : Hp), MarksAt C H' p l t (some own) kept' → H' k' = some (.lst ws') → ImAll H' (kept'.map mD) ws' → kept'.length ≤ kept.length + 7 → (k' = k ∨ H k' = none) → k' ≠ l → Im H' (mD own) ov →
    (∀ b o, H b = some o → b ≠ s → b ≠ p → b ≠ l → H' b = some o) → Q (.ref k') H'
theorem ok_law_taken (T : Txt K mg) : FnOk P w K mg base CX0 4 T.f_law_taken T.d_law_taken ["_law_marks", "_law_own", "_law_kept", "_law_stream_here"] (sp_law_taken T.C_Marks) := by
  refine Fun.ok T.F_law_taken sc_law_taken (fun vs H Q E h => ?_) (fun cdv A outer s H vs Q E hr h => ?_)
  · obtain ⟨p, l, k, s0, t, own, kept, ov, ws, rfl, M, ho, io, hk, iw, nkl, nks, nls, hs, hkl, kk⟩ := h; rfl
  · obtain ⟨p, l, k, s0, t, own, kept, ov, ws, rfl, M, ho, io, hk, iw, nkl, nks, nls, hs, hkl, kk⟩ := h
    have hu := hu_of hr
    refine ⟨_, (pss_cons (ps_setLc (i := 4) (own := [("_law_k", 7)]) (g := gName 7) (tt := tYes) rfl sc_law_taken.nd rfl rfl (sw_true rfl rfl rfl (by decide +kernel)) (pi_range1 (by rfl) T.z_range (pa_cons (pe_call (ok_law_next T) (hr.mono (by decide)) rfl T.g_law_next T.F_law_next.kp T.b_law_next .nil pass0 (pa_cons (pv 3) (pa_cons pe_int pa_nil))) pa_nil)) (blkOk_by (N := N_law_taken) (sc := defScope s_law_taken) (by decide +kernel)) (fun _ _ _ _ _ => (pg_name (i := 7) sc_law_taken.nd rfl (Or.inl rfl))) (fun _ _ _ _ _ => pts_nil) (fun _ _ _ _ _ => (pe_call (ok_law_mark T) (hr.mono (by decide)) rfl T.g_law_mark T.F_law_mark.kp T.b_law_mark .nil pass0 (pa_cons (pv 3) pa_nil))))
      (C8.pss_cut (ps_if (PW.pt (pw_and (pt_cmpR (op_neDK (K := K) rfl hr.units) (pv 4) (pe_lst pa_nil) (nomark _)) (pw_and1 (pt_cmpR op_eq (pe_call (ok_law_next T) (hr.mono (by decide)) rfl T.g_law_next T.F_law_next.kp T.b_law_next .nil pass0 (pa_cons (pv 3) (pa_cons pe_int pa_nil))) pe_int (nomark _))))) (pss_one (ps_asg (pv 1) (pg_sub (pv 4) (pe_call (ok_law_next T) (hr.mono (by decide)) rfl T.g_law_next T.F_law_next.kp T.b_law_next .nil pass0 (pa_cons (pv 3) (pa_cons (pe_callB call_lenS (by rfl) T.z_len (by decide +kernel) (pa_cons (pv 4) pa_nil)) pa_nil))) set_list))) pss_nil)
      (pss_cons (ps_set (i := 5) sc_law_taken.nd rfl (Or.inl rfl) (pe_cmpR (op_inDK (K := K) rfl (hu65 hr)) (pv 1) (pv 4) (by rfl)))
      (pss_cons (ps_if (pt_not (pt_val (pe_call (ok_law_flag T) (hr.mono (by decide)) rfl T.g_law_flag T.F_law_flag.kp T.b_law_flag .nil pass0 (pa_cons (pe_meth (pv 0) T.cl_Marks T.m_Marks_take (ok_Marks_take T) (hr.mono (by decide)) T.b_Marks_take .nil pass0 (pa_cons (pe_callTy call_tupS (by rfl) T.z_tuple (by decide +kernel) (pa_cons (pv 4) pa_nil)) pa_nil)) (pa_cons (pv 5) pa_nil))))) (pss_one (ps_ret pe_non)) pss_nil)
      (pss_cons (ps_for PassesOwn.never rfl (pi_list (pv 4)) (pg_name (i := 6) sc_law_taken.nd rfl (Or.inl rfl))
      (pss_one (ps_if (PW.pt (pw_and (pt_not (pt_val (pv 5))) (pw_and (pt_cmpR (op_gtA (K := K) rfl (hu65 hr)) (pe_ix ix_tupH (pv 6) pe_int (fun _ _ => rfl)) (pe_ix ix_tupH (pv 1) pe_int (fun _ _ => rfl)) (nomark _)) (pw_and1 (pt_cmpR (op_notInDK (K := K) rfl (hu65 hr)) (pv 6) (pv 2) (by rfl)))))) (pss_one (ps_set (i := 2) sc_law_taken.nd rfl (Or.inl rfl) (pe_op op_cat (pv 2) (pe_lst (pa_cons (pv 6) pa_nil))))) pss_nil)))
      (pss_one (ps_ret (pv 2)))))))), ?_⟩
    obtain ⟨dx, tv, ov', ws', hp, it, io', hl, iw'⟩ := id M
    have nps : p ≠ s0 := by obtain ⟨x, y, e⟩ := hs; exact ne_il hp e
    (try simp only [ne_0_1, ne_0_1b, ne_0_2, ne_0_2b, ne_0_3, ne_0_3b, ne_0_4, ne_0_4b, ne_0_5, ne_0_5b, ne_0_6, ne_0_6b, ne_0_7, ne_0_7b, ne_1_0, ne_1_0b, ne_1_2, ne_1_2b, ne_1_3, ne_1_3b, ne_1_4, ne_1_4b, ne_1_5, ne_1_5b, ne_1_6, ne_1_6b, ne_1_7, ne_1_7b, ne_2_0, ne_2_0b, ne_2_1, ne_2_1b, ne_2_3, ne_2_3b, ne_2_4, ne_2_4b, ne_2_5, ne_2_5b, ne_2_6, ne_2_6b, ne_2_7, ne_2_7b, ne_3_0, ne_3_0b, ne_3_1, ne_3_1b, ne_3_2, ne_3_2b, ne_4_0, ne_4_0b, ne_4_1, ne_4_1b, ne_4_2, ne_4_2b, ne_5_0, ne_5_0b, ne_5_1, ne_5_1b, ne_5_2, ne_5_2b, ne_6_0, ne_6_0b, ne_6_1, ne_6_1b, ne_6_2, ne_6_2b, ne_7_0, ne_7_0b, ne_7_1, ne_7_1b, ne_7_2, ne_7_2b, cxOf, Cx.nox, Cx.wish, tSeq, tAsg, tC, gName, tIfS, tTest, tOp, tUn, rU, rI0, rI, tVar, tNext, tBreak, tRet, tRetN, tDrop, tLst, tTup, tCons, tNil, tCB, tB, tOr, tAnd, tNot, tIf, tCall, tFor_eq, tLc_eq, iRng1, iRng2, iList, iTup, gTup, gTupH, gUnlH, gCons, gNil, gSub, rSetL, rIxL, rIxT, rIxLH, rIxTH, rSlTS, rCatS, rTupS, rIsiH, rLenS, V.ty.injEq, tyS_non, tyS_bl, tyS_int, tyS_str, tyS_ref, tyO_l, tyO_t, tyO_d, tyO_dt, kit_ll, kit_tt, kit_bb, kit_ii, kit_ib, kit_bi, kit_nt, kit_it, kit_st, kit_bt, kit_lt, kit_dt, kit_ni, kit_si, kit_ti, kit_li, kit_di, kit_nb, kit_ns, kit_is, kit_bs, kit_ss, kit_ts, kit_ls, kit_ds, kit_dd, lenS_ref, lenO_l, lenO_t,  rAppend, tM1, rIxS, tSl, tPart, tNoPart, tBM, tBM0, tDGetS, sDPutS, tTruS, truO_l, truO_t, truS_ref, truS_non, truS_bl, truS_int, tFld, sFld, sFldAug, rAdd, tMeth, tProp, tMake, tMakeK, List.take_succ_cons, List.take_zero, List.drop_succ_cons, List.drop_zero, List.take_nil, tIsN, tNotN, tAndV, tOrV, tNotV, putF, List.lookup, List.any_cons, List.any_nil, Sum.inr.injEq, HO.ins.injEq, HO.dK.injEq, eq_self, beq_self_eq_true, beq_iff_eq, decide_true, decide_false, Bool.or_true, Bool.true_or, Bool.or_false, Bool.false_or, tYes, rEq, rNe, _root_.L2.start, wipe, List.map_cons, List.map_nil, List.length_cons, List.length_nil, List.append_nil, Nat.reduceAdd, Nat.reduceSub, List.replicate_succ, List.replicate_zero, List.cons_append, List.nil_append, List.getElem?_cons_zero, List.getElem?_cons_succ, List.set_cons_zero, List.set_cons_succ, Option.some.injEq, V.int.injEq, V.ref.injEq, V.bl.injEq, V.str.injEq, List.cons.injEq, HO.lst.injEq, HO.tup.injEq, and_assoc, and_true, true_and, exists_eq_left, exists_eq_left', exists_and_left, exists_eq, reduceCtorEq, false_and, and_false, or_false, false_or, exists_false, decide_eq_true_eq, CPow, CDivW, Int.reducePow, Int.reduceLT, Int.reduceLE, Int.reduceNeg, Int.reduceToNat, Int.reduceAbs, Nat.reducePow, Nat.reduceLT, Nat.reduceLeDiff, sizeLine_eq, Int.reduceMul, Int.reduceAdd, Int.reduceSub, Bool.not_eq_true', decide_eq_false_iff_not, scal, Bool.not_true, Bool.not_false, Bool.true_eq_false, Bool.false_eq_true, ite_false, ite_true, if_true, if_false, ite_self, forall_const, atI0, atI1, atI2, atI3, ixN20, ixN21, upd_same, upd_upd, Int.zero_add, CMul, Int.reduceSub, Nat.le_refl, Nat.zero_le, or_true, true_or, exists_const, Int.sub_zero, sp_law_next])
    refine ⟨hs, fun n H1 n0 n1 g1 => ⟨by omega, by omega, fun D hD => ?_⟩⟩
    have hDs : D ≠ s0 := St2.nn g1.st hD
    have hD0 : H D = none := g1.none hD
    refine Lcl.range (fun j H' => ∃ (acc : List V) (ms : List Mrk), H' D = some (.lst acc) ∧ ImAll H' (ms.map mD) acc ∧ ms.length = j ∧ Gn s0 H1 H') ⟨[], [], upd_same, im_nil, rfl, (Gn.refl g1.st).new hD⟩ ?_ ?_
    · rintro j H2 hj ⟨acc, ms, h1, h2, h3, g2⟩
      have hl2 := h2.len
      rw [List.length_map] at hl2
      (try simp only [ne_0_1, ne_0_1b, ne_0_2, ne_0_2b, ne_0_3, ne_0_3b, ne_0_4, ne_0_4b, ne_0_5, ne_0_5b, ne_0_6, ne_0_6b, ne_0_7, ne_0_7b, ne_1_0, ne_1_0b, ne_1_2, ne_1_2b, ne_1_3, ne_1_3b, ne_1_4, ne_1_4b, ne_1_5, ne_1_5b, ne_1_6, ne_1_6b, ne_1_7, ne_1_7b, ne_2_0, ne_2_0b, ne_2_1, ne_2_1b, ne_2_3, ne_2_3b, ne_2_4, ne_2_4b, ne_2_5, ne_2_5b, ne_2_6, ne_2_6b, ne_2_7, ne_2_7b, ne_3_0, ne_3_0b, ne_3_1, ne_3_1b, ne_3_2, ne_3_2b, ne_4_0, ne_4_0b, ne_4_1, ne_4_1b, ne_4_2, ne_4_2b, ne_5_0, ne_5_0b, ne_5_1, ne_5_1b, ne_5_2, ne_5_2b, ne_6_0, ne_6_0b, ne_6_1, ne_6_1b, ne_6_2, ne_6_2b, ne_7_0, ne_7_0b, ne_7_1, ne_7_1b, ne_7_2, ne_7_2b, cxOf, Cx.nox, Cx.wish, tSeq, tAsg, tC, gName, tIfS, tTest, tOp, tUn, rU, rI0, rI, tVar, tNext, tBreak, tRet, tRetN, tDrop, tLst, tTup, tCons, tNil, tCB, tB, tOr, tAnd, tNot, tIf, tCall, tFor_eq, tLc_eq, iRng1, iRng2, iList, iTup, gTup, gTupH, gUnlH, gCons, gNil, gSub, rSetL, rIxL, rIxT, rIxLH, rIxTH, rSlTS, rCatS, rTupS, rIsiH, rLenS, V.ty.injEq, tyS_non, tyS_bl, tyS_int, tyS_str, tyS_ref, tyO_l, tyO_t, tyO_d, tyO_dt, kit_ll, kit_tt, kit_bb, kit_ii, kit_ib, kit_bi, kit_nt, kit_it, kit_st, kit_bt, kit_lt, kit_dt, kit_ni, kit_si, kit_ti, kit_li, kit_di, kit_nb, kit_ns, kit_is, kit_bs, kit_ss, kit_ts, kit_ls, kit_ds, kit_dd, lenS_ref, lenO_l, lenO_t,  rAppend, tM1, rIxS, tSl, tPart, tNoPart, tBM, tBM0, tDGetS, sDPutS, tTruS, truO_l, truO_t, truS_ref, truS_non, truS_bl, truS_int, tFld, sFld, sFldAug, rAdd, tMeth, tProp, tMake, tMakeK, List.take_succ_cons, List.take_zero, List.drop_succ_cons, List.drop_zero, List.take_nil, tIsN, tNotN, tAndV, tOrV, tNotV, putF, List.lookup, List.any_cons, List.any_nil, Sum.inr.injEq, HO.ins.injEq, HO.dK.injEq, eq_self, beq_self_eq_true, beq_iff_eq, decide_true, decide_false, Bool.or_true, Bool.true_or, Bool.or_false, Bool.false_or, tYes, rEq, rNe, _root_.L2.start, wipe, List.map_cons, List.map_nil, List.length_cons, List.length_nil, List.append_nil, Nat.reduceAdd, Nat.reduceSub, List.replicate_succ, List.replicate_zero, List.cons_append, List.nil_append, List.getElem?_cons_zero, List.getElem?_cons_succ, List.set_cons_zero, List.set_cons_succ, Option.some.injEq, V.int.injEq, V.ref.injEq, V.bl.injEq, V.str.injEq, List.cons.injEq, HO.lst.injEq, HO.tup.injEq, and_assoc, and_true, true_and, exists_eq_left, exists_eq_left', exists_and_left, exists_eq, reduceCtorEq, false_and, and_false, or_false, false_or, exists_false, decide_eq_true_eq, CPow, CDivW, Int.reducePow, Int.reduceLT, Int.reduceLE, Int.reduceNeg, Int.reduceToNat, Int.reduceAbs, Nat.reducePow, Nat.reduceLT, Nat.reduceLeDiff, sizeLine_eq, Int.reduceMul, Int.reduceAdd, Int.reduceSub, Bool.not_eq_true', decide_eq_false_iff_not, scal, Bool.not_true, Bool.not_false, Bool.true_eq_false, Bool.false_eq_true, ite_false, ite_true, if_true, if_false, ite_self, forall_const, atI0, atI1, atI2, atI3, ixN20, ixN21, upd_same, upd_upd, Int.zero_add, CMul, Int.reduceSub, Nat.le_refl, Nat.zero_le, or_true, true_or, exists_const, Int.sub_zero, sp_law_mark])
      refine ⟨g2.st, fun v m H3 im g3 => ?_⟩
      have h3' := g3.at h1 hDs
      refine ⟨acc, h3', by omega, ms ++ [m], ?_, by simp [h3], (g2.trans g3).put hD hDs⟩
      rw [List.map_append]
      exact ims_app h3' (g3.ims h2) im
    rintro H2 ⟨acc, ms, h1, h2, h3, g2⟩
    have hl2 := h2.len
    rw [List.length_map] at hl2
    have g := g1.trans g2
    have hmn : ms.length ≤ 6 := by omega
    clear h3
    have iox := g.im io
    refine cutI (fun σ H' => ∃ (acc : List V) (ms : List Mrk), σ = [some (.ref p), some ov, some (.ref k), some (.ref s0), some (.ref D), none, none, none] ∧ H' D = some (.lst acc) ∧ ImAll H' (ms.map mD) acc ∧ ms.length ≤ 6 ∧ Gn s0 H H') ?_ ?_
    · (try simp only [ne_0_1, ne_0_1b, ne_0_2, ne_0_2b, ne_0_3, ne_0_3b, ne_0_4, ne_0_4b, ne_0_5, ne_0_5b, ne_0_6, ne_0_6b, ne_0_7, ne_0_7b, ne_1_0, ne_1_0b, ne_1_2, ne_1_2b, ne_1_3, ne_1_3b, ne_1_4, ne_1_4b, ne_1_5, ne_1_5b, ne_1_6, ne_1_6b, ne_1_7, ne_1_7b, ne_2_0, ne_2_0b, ne_2_1, ne_2_1b, ne_2_3, ne_2_3b, ne_2_4, ne_2_4b, ne_2_5, ne_2_5b, ne_2_6, ne_2_6b, ne_2_7, ne_2_7b, ne_3_0, ne_3_0b, ne_3_1, ne_3_1b, ne_3_2, ne_3_2b, ne_4_0, ne_4_0b, ne_4_1, ne_4_1b, ne_4_2, ne_4_2b, ne_5_0, ne_5_0b, ne_5_1, ne_5_1b, ne_5_2, ne_5_2b, ne_6_0, ne_6_0b, ne_6_1, ne_6_1b, ne_6_2, ne_6_2b, ne_7_0, ne_7_0b, ne_7_1, ne_7_1b, ne_7_2, ne_7_2b, cxOf, Cx.nox, Cx.wish, tSeq, tAsg, tC, gName, tIfS, tTest, tOp, tUn, rU, rI0, rI, tVar, tNext, tBreak, tRet, tRetN, tDrop, tLst, tTup, tCons, tNil, tCB, tB, tOr, tAnd, tNot, tIf, tCall, tFor_eq, tLc_eq, iRng1, iRng2, iList, iTup, gTup, gTupH, gUnlH, gCons, gNil, gSub, rSetL, rIxL, rIxT, rIxLH, rIxTH, rSlTS, rCatS, rTupS, rIsiH, rLenS, V.ty.injEq, tyS_non, tyS_bl, tyS_int, tyS_str, tyS_ref, tyO_l, tyO_t, tyO_d, tyO_dt, kit_ll, kit_tt, kit_bb, kit_ii, kit_ib, kit_bi, kit_nt, kit_it, kit_st, kit_bt, kit_lt, kit_dt, kit_ni, kit_si, kit_ti, kit_li, kit_di, kit_nb, kit_ns, kit_is, kit_bs, kit_ss, kit_ts, kit_ls, kit_ds, kit_dd, lenS_ref, lenO_l, lenO_t,  rAppend, tM1, rIxS, tSl, tPart, tNoPart, tBM, tBM0, tDGetS, sDPutS, tTruS, truO_l, truO_t, truS_ref, truS_non, truS_bl, truS_int, tFld, sFld, sFldAug, rAdd, tMeth, tProp, tMake, tMakeK, List.take_succ_cons, List.take_zero, List.drop_succ_cons, List.drop_zero, List.take_nil, tIsN, tNotN, tAndV, tOrV, tNotV, putF, List.lookup, List.any_cons, List.any_nil, Sum.inr.injEq, HO.ins.injEq, HO.dK.injEq, eq_self, beq_self_eq_true, beq_iff_eq, decide_true, decide_false, Bool.or_true, Bool.true_or, Bool.or_false, Bool.false_or, tYes, rEq, rNe, _root_.L2.start, wipe, List.map_cons, List.map_nil, List.length_cons, List.length_nil, List.append_nil, Nat.reduceAdd, Nat.reduceSub, List.replicate_succ, List.replicate_zero, List.cons_append, List.nil_append, List.getElem?_cons_zero, List.getElem?_cons_succ, List.set_cons_zero, List.set_cons_succ, Option.some.injEq, V.int.injEq, V.ref.injEq, V.bl.injEq, V.str.injEq, List.cons.injEq, HO.lst.injEq, HO.tup.injEq, and_assoc, and_true, true_and, exists_eq_left, exists_eq_left', exists_and_left, exists_eq, reduceCtorEq, false_and, and_false, or_false, false_or, exists_false, decide_eq_true_eq, CPow, CDivW, Int.reducePow, Int.reduceLT, Int.reduceLE, Int.reduceNeg, Int.reduceToNat, Int.reduceAbs, Nat.reducePow, Nat.reduceLT, Nat.reduceLeDiff, sizeLine_eq, Int.reduceMul, Int.reduceAdd, Int.reduceSub, Bool.not_eq_true', decide_eq_false_iff_not, scal, Bool.not_true, Bool.not_false, Bool.true_eq_false, Bool.false_eq_true, ite_false, ite_true, if_true, if_false, ite_self, forall_const, atI0, atI1, atI2, atI3, ixN20, ixN21, upd_same, upd_upd, Int.zero_add, CMul, Int.reduceSub, Nat.le_refl, Nat.zero_le, or_true, true_or, exists_const, Int.sub_zero, h1, rNeD, sp_law_next])
      intro e he
      have nDe : D ≠ e := ne_of_none h1 he
      refine ⟨_, .lst (SqL.of (get_new he h1)) (ImAll.dp _ _ (imsNew he h2)), _, .lst (SqL.of upd_same) .nil, mDs_shaped _, mDs_shaped [], ?_⟩
      cases ms with
      | nil =>
        rw [show PyData.eqv (.list (List.map mD [])) (.list []) = true from rfl]
        (try simp only [ne_0_1, ne_0_1b, ne_0_2, ne_0_2b, ne_0_3, ne_0_3b, ne_0_4, ne_0_4b, ne_0_5, ne_0_5b, ne_0_6, ne_0_6b, ne_0_7, ne_0_7b, ne_1_0, ne_1_0b, ne_1_2, ne_1_2b, ne_1_3, ne_1_3b, ne_1_4, ne_1_4b, ne_1_5, ne_1_5b, ne_1_6, ne_1_6b, ne_1_7, ne_1_7b, ne_2_0, ne_2_0b, ne_2_1, ne_2_1b, ne_2_3, ne_2_3b, ne_2_4, ne_2_4b, ne_2_5, ne_2_5b, ne_2_6, ne_2_6b, ne_2_7, ne_2_7b, ne_3_0, ne_3_0b, ne_3_1, ne_3_1b, ne_3_2, ne_3_2b, ne_4_0, ne_4_0b, ne_4_1, ne_4_1b, ne_4_2, ne_4_2b, ne_5_0, ne_5_0b, ne_5_1, ne_5_1b, ne_5_2, ne_5_2b, ne_6_0, ne_6_0b, ne_6_1, ne_6_1b, ne_6_2, ne_6_2b, ne_7_0, ne_7_0b, ne_7_1, ne_7_1b, ne_7_2, ne_7_2b, cxOf, Cx.nox, Cx.wish, tSeq, tAsg, tC, gName, tIfS, tTest, tOp, tUn, rU, rI0, rI, tVar, tNext, tBreak, tRet, tRetN, tDrop, tLst, tTup, tCons, tNil, tCB, tB, tOr, tAnd, tNot, tIf, tCall, tFor_eq, tLc_eq, iRng1, iRng2, iList, iTup, gTup, gTupH, gUnlH, gCons, gNil, gSub, rSetL, rIxL, rIxT, rIxLH, rIxTH, rSlTS, rCatS, rTupS, rIsiH, rLenS, V.ty.injEq, tyS_non, tyS_bl, tyS_int, tyS_str, tyS_ref, tyO_l, tyO_t, tyO_d, tyO_dt, kit_ll, kit_tt, kit_bb, kit_ii, kit_ib, kit_bi, kit_nt, kit_it, kit_st, kit_bt, kit_lt, kit_dt, kit_ni, kit_si, kit_ti, kit_li, kit_di, kit_nb, kit_ns, kit_is, kit_bs, kit_ss, kit_ts, kit_ls, kit_ds, kit_dd, lenS_ref, lenO_l, lenO_t,  rAppend, tM1, rIxS, tSl, tPart, tNoPart, tBM, tBM0, tDGetS, sDPutS, tTruS, truO_l, truO_t, truS_ref, truS_non, truS_bl, truS_int, tFld, sFld, sFldAug, rAdd, tMeth, tProp, tMake, tMakeK, List.take_succ_cons, List.take_zero, List.drop_succ_cons, List.drop_zero, List.take_nil, tIsN, tNotN, tAndV, tOrV, tNotV, putF, List.lookup, List.any_cons, List.any_nil, Sum.inr.injEq, HO.ins.injEq, HO.dK.injEq, eq_self, beq_self_eq_true, beq_iff_eq, decide_true, decide_false, Bool.or_true, Bool.true_or, Bool.or_false, Bool.false_or, tYes, rEq, rNe, _root_.L2.start, wipe, List.map_cons, List.map_nil, List.length_cons, List.length_nil, List.append_nil, Nat.reduceAdd, Nat.reduceSub, List.replicate_succ, List.replicate_zero, List.cons_append, List.nil_append, List.getElem?_cons_zero, List.getElem?_cons_succ, List.set_cons_zero, List.set_cons_succ, Option.some.injEq, V.int.injEq, V.ref.injEq, V.bl.injEq, V.str.injEq, List.cons.injEq, HO.lst.injEq, HO.tup.injEq, and_assoc, and_true, true_and, exists_eq_left, exists_eq_left', exists_and_left, exists_eq, reduceCtorEq, false_and, and_false, or_false, false_or, exists_false, decide_eq_true_eq, CPow, CDivW, Int.reducePow, Int.reduceLT, Int.reduceLE, Int.reduceNeg, Int.reduceToNat, Int.reduceAbs, Nat.reducePow, Nat.reduceLT, Nat.reduceLeDiff, sizeLine_eq, Int.reduceMul, Int.reduceAdd, Int.reduceSub, Bool.not_eq_true', decide_eq_false_iff_not, scal, Bool.not_true, Bool.not_false, Bool.true_eq_false, Bool.false_eq_true, ite_false, ite_true, if_true, if_false, ite_self, forall_const, atI0, atI1, atI2, atI3, ixN20, ixN21, upd_same, upd_upd, Int.zero_add, CMul, Int.reduceSub, Nat.le_refl, Nat.zero_le, or_true, true_or, exists_const, Int.sub_zero])
        exact ⟨acc, get_new he h1, [], imsNew he h2, by simp, g.new he⟩
      | cons m ms =>
        rw [show PyData.eqv (.list (List.map mD (m :: ms))) (.list []) = false from by simp [PyData.eqv, PyData.eqvAll]]
        (try simp only [ne_0_1, ne_0_1b, ne_0_2, ne_0_2b, ne_0_3, ne_0_3b, ne_0_4, ne_0_4b, ne_0_5, ne_0_5b, ne_0_6, ne_0_6b, ne_0_7, ne_0_7b, ne_1_0, ne_1_0b, ne_1_2, ne_1_2b, ne_1_3, ne_1_3b, ne_1_4, ne_1_4b, ne_1_5, ne_1_5b, ne_1_6, ne_1_6b, ne_1_7, ne_1_7b, ne_2_0, ne_2_0b, ne_2_1, ne_2_1b, ne_2_3, ne_2_3b, ne_2_4, ne_2_4b, ne_2_5, ne_2_5b, ne_2_6, ne_2_6b, ne_2_7, ne_2_7b, ne_3_0, ne_3_0b, ne_3_1, ne_3_1b, ne_3_2, ne_3_2b, ne_4_0, ne_4_0b, ne_4_1, ne_4_1b, ne_4_2, ne_4_2b, ne_5_0, ne_5_0b, ne_5_1, ne_5_1b, ne_5_2, ne_5_2b, ne_6_0, ne_6_0b, ne_6_1, ne_6_1b, ne_6_2, ne_6_2b, ne_7_0, ne_7_0b, ne_7_1, ne_7_1b, ne_7_2, ne_7_2b, cxOf, Cx.nox, Cx.wish, tSeq, tAsg, tC, gName, tIfS, tTest, tOp, tUn, rU, rI0, rI, tVar, tNext, tBreak, tRet, tRetN, tDrop, tLst, tTup, tCons, tNil, tCB, tB, tOr, tAnd, tNot, tIf, tCall, tFor_eq, tLc_eq, iRng1, iRng2, iList, iTup, gTup, gTupH, gUnlH, gCons, gNil, gSub, rSetL, rIxL, rIxT, rIxLH, rIxTH, rSlTS, rCatS, rTupS, rIsiH, rLenS, V.ty.injEq, tyS_non, tyS_bl, tyS_int, tyS_str, tyS_ref, tyO_l, tyO_t, tyO_d, tyO_dt, kit_ll, kit_tt, kit_bb, kit_ii, kit_ib, kit_bi, kit_nt, kit_it, kit_st, kit_bt, kit_lt, kit_dt, kit_ni, kit_si, kit_ti, kit_li, kit_di, kit_nb, kit_ns, kit_is, kit_bs, kit_ss, kit_ts, kit_ls, kit_ds, kit_dd, lenS_ref, lenO_l, lenO_t,  rAppend, tM1, rIxS, tSl, tPart, tNoPart, tBM, tBM0, tDGetS, sDPutS, tTruS, truO_l, truO_t, truS_ref, truS_non, truS_bl, truS_int, tFld, sFld, sFldAug, rAdd, tMeth, tProp, tMake, tMakeK, List.take_succ_cons, List.take_zero, List.drop_succ_cons, List.drop_zero, List.take_nil, tIsN, tNotN, tAndV, tOrV, tNotV, putF, List.lookup, List.any_cons, List.any_nil, Sum.inr.injEq, HO.ins.injEq, HO.dK.injEq, eq_self, beq_self_eq_true, beq_iff_eq, decide_true, decide_false, Bool.or_true, Bool.true_or, Bool.or_false, Bool.false_or, tYes, rEq, rNe, _root_.L2.start, wipe, List.map_cons, List.map_nil, List.length_cons, List.length_nil, List.append_nil, Nat.reduceAdd, Nat.reduceSub, List.replicate_succ, List.replicate_zero, List.cons_append, List.nil_append, List.getElem?_cons_zero, List.getElem?_cons_succ, List.set_cons_zero, List.set_cons_succ, Option.some.injEq, V.int.injEq, V.ref.injEq, V.bl.injEq, V.str.injEq, List.cons.injEq, HO.lst.injEq, HO.tup.injEq, and_assoc, and_true, true_and, exists_eq_left, exists_eq_left', exists_and_left, exists_eq, reduceCtorEq, false_and, and_false, or_false, false_or, exists_false, decide_eq_true_eq, CPow, CDivW, Int.reducePow, Int.reduceLT, Int.reduceLE, Int.reduceNeg, Int.reduceToNat, Int.reduceAbs, Nat.reducePow, Nat.reduceLT, Nat.reduceLeDiff, sizeLine_eq, Int.reduceMul, Int.reduceAdd, Int.reduceSub, Bool.not_eq_true', decide_eq_false_iff_not, scal, Bool.not_true, Bool.not_false, Bool.true_eq_false, Bool.false_eq_true, ite_false, ite_true, if_true, if_false, ite_self, forall_const, atI0, atI1, atI2, atI3, ixN20, ixN21, upd_same, upd_upd, Int.zero_add, CMul, Int.reduceSub, Nat.le_refl, Nat.zero_le, or_true, true_or, exists_const, Int.sub_zero])
        have ge := g.new he (o := .lst [])
        have h1e := get_new he h1 (o := .lst [])
        have h2e := imsNew he h2 (o := .lst [])
        generalize upd H2 e (.lst []) = He at ge h1e h2e
        refine ⟨ge.st, fun w H3 w0 w1 g3 => ?_⟩
        have h13 := g3.at h1e hDs
        have h23 := g3.ims h2e
        have gg := ge.trans g3
        split
        · (try simp only [ne_0_1, ne_0_1b, ne_0_2, ne_0_2b, ne_0_3, ne_0_3b, ne_0_4, ne_0_4b, ne_0_5, ne_0_5b, ne_0_6, ne_0_6b, ne_0_7, ne_0_7b, ne_1_0, ne_1_0b, ne_1_2, ne_1_2b, ne_1_3, ne_1_3b, ne_1_4, ne_1_4b, ne_1_5, ne_1_5b, ne_1_6, ne_1_6b, ne_1_7, ne_1_7b, ne_2_0, ne_2_0b, ne_2_1, ne_2_1b, ne_2_3, ne_2_3b, ne_2_4, ne_2_4b, ne_2_5, ne_2_5b, ne_2_6, ne_2_6b, ne_2_7, ne_2_7b, ne_3_0, ne_3_0b, ne_3_1, ne_3_1b, ne_3_2, ne_3_2b, ne_4_0, ne_4_0b, ne_4_1, ne_4_1b, ne_4_2, ne_4_2b, ne_5_0, ne_5_0b, ne_5_1, ne_5_1b, ne_5_2, ne_5_2b, ne_6_0, ne_6_0b, ne_6_1, ne_6_1b, ne_6_2, ne_6_2b, ne_7_0, ne_7_0b, ne_7_1, ne_7_1b, ne_7_2, ne_7_2b, cxOf, Cx.nox, Cx.wish, tSeq, tAsg, tC, gName, tIfS, tTest, tOp, tUn, rU, rI0, rI, tVar, tNext, tBreak, tRet, tRetN, tDrop, tLst, tTup, tCons, tNil, tCB, tB, tOr, tAnd, tNot, tIf, tCall, tFor_eq, tLc_eq, iRng1, iRng2, iList, iTup, gTup, gTupH, gUnlH, gCons, gNil, gSub, rSetL, rIxL, rIxT, rIxLH, rIxTH, rSlTS, rCatS, rTupS, rIsiH, rLenS, V.ty.injEq, tyS_non, tyS_bl, tyS_int, tyS_str, tyS_ref, tyO_l, tyO_t, tyO_d, tyO_dt, kit_ll, kit_tt, kit_bb, kit_ii, kit_ib, kit_bi, kit_nt, kit_it, kit_st, kit_bt, kit_lt, kit_dt, kit_ni, kit_si, kit_ti, kit_li, kit_di, kit_nb, kit_ns, kit_is, kit_bs, kit_ss, kit_ts, kit_ls, kit_ds, kit_dd, lenS_ref, lenO_l, lenO_t,  rAppend, tM1, rIxS, tSl, tPart, tNoPart, tBM, tBM0, tDGetS, sDPutS, tTruS, truO_l, truO_t, truS_ref, truS_non, truS_bl, truS_int, tFld, sFld, sFldAug, rAdd, tMeth, tProp, tMake, tMakeK, List.take_succ_cons, List.take_zero, List.drop_succ_cons, List.drop_zero, List.take_nil, tIsN, tNotN, tAndV, tOrV, tNotV, putF, List.lookup, List.any_cons, List.any_nil, Sum.inr.injEq, HO.ins.injEq, HO.dK.injEq, eq_self, beq_self_eq_true, beq_iff_eq, decide_true, decide_false, Bool.or_true, Bool.true_or, Bool.or_false, Bool.false_or, tYes, rEq, rNe, _root_.L2.start, wipe, List.map_cons, List.map_nil, List.length_cons, List.length_nil, List.append_nil, Nat.reduceAdd, Nat.reduceSub, List.replicate_succ, List.replicate_zero, List.cons_append, List.nil_append, List.getElem?_cons_zero, List.getElem?_cons_succ, List.set_cons_zero, List.set_cons_succ, Option.some.injEq, V.int.injEq, V.ref.injEq, V.bl.injEq, V.str.injEq, List.cons.injEq, HO.lst.injEq, HO.tup.injEq, and_assoc, and_true, true_and, exists_eq_left, exists_eq_left', exists_and_left, exists_eq, reduceCtorEq, false_and, and_false, or_false, false_or, exists_false, decide_eq_true_eq, CPow, CDivW, Int.reducePow, Int.reduceLT, Int.reduceLE, Int.reduceNeg, Int.reduceToNat, Int.reduceAbs, Nat.reducePow, Nat.reduceLT, Nat.reduceLeDiff, sizeLine_eq, Int.reduceMul, Int.reduceAdd, Int.reduceSub, Bool.not_eq_true', decide_eq_false_iff_not, scal, Bool.not_true, Bool.not_false, Bool.true_eq_false, Bool.false_eq_true, ite_false, ite_true, if_true, if_false, ite_self, forall_const, atI0, atI1, atI2, atI3, ixN20, ixN21, upd_same, upd_upd, Int.zero_add, CMul, Int.reduceSub, Nat.le_refl, Nat.zero_le, or_true, true_or, exists_const, Int.sub_zero, h13])
          simp only [List.length_cons] at hl2 hmn
          refine ⟨g3.st, by omega, by omega, fun j H4 j0 j1 g4 => ?_⟩
          have h14 := g4.at h13 hDs
          (try simp only [ne_0_1, ne_0_1b, ne_0_2, ne_0_2b, ne_0_3, ne_0_3b, ne_0_4, ne_0_4b, ne_0_5, ne_0_5b, ne_0_6, ne_0_6b, ne_0_7, ne_0_7b, ne_1_0, ne_1_0b, ne_1_2, ne_1_2b, ne_1_3, ne_1_3b, ne_1_4, ne_1_4b, ne_1_5, ne_1_5b, ne_1_6, ne_1_6b, ne_1_7, ne_1_7b, ne_2_0, ne_2_0b, ne_2_1, ne_2_1b, ne_2_3, ne_2_3b, ne_2_4, ne_2_4b, ne_2_5, ne_2_5b, ne_2_6, ne_2_6b, ne_2_7, ne_2_7b, ne_3_0, ne_3_0b, ne_3_1, ne_3_1b, ne_3_2, ne_3_2b, ne_4_0, ne_4_0b, ne_4_1, ne_4_1b, ne_4_2, ne_4_2b, ne_5_0, ne_5_0b, ne_5_1, ne_5_1b, ne_5_2, ne_5_2b, ne_6_0, ne_6_0b, ne_6_1, ne_6_1b, ne_6_2, ne_6_2b, ne_7_0, ne_7_0b, ne_7_1, ne_7_1b, ne_7_2, ne_7_2b, cxOf, Cx.nox, Cx.wish, tSeq, tAsg, tC, gName, tIfS, tTest, tOp, tUn, rU, rI0, rI, tVar, tNext, tBreak, tRet, tRetN, tDrop, tLst, tTup, tCons, tNil, tCB, tB, tOr, tAnd, tNot, tIf, tCall, tFor_eq, tLc_eq, iRng1, iRng2, iList, iTup, gTup, gTupH, gUnlH, gCons, gNil, gSub, rSetL, rIxL, rIxT, rIxLH, rIxTH, rSlTS, rCatS, rTupS, rIsiH, rLenS, V.ty.injEq, tyS_non, tyS_bl, tyS_int, tyS_str, tyS_ref, tyO_l, tyO_t, tyO_d, tyO_dt, kit_ll, kit_tt, kit_bb, kit_ii, kit_ib, kit_bi, kit_nt, kit_it, kit_st, kit_bt, kit_lt, kit_dt, kit_ni, kit_si, kit_ti, kit_li, kit_di, kit_nb, kit_ns, kit_is, kit_bs, kit_ss, kit_ts, kit_ls, kit_ds, kit_dd, lenS_ref, lenO_l, lenO_t,  rAppend, tM1, rIxS, tSl, tPart, tNoPart, tBM, tBM0, tDGetS, sDPutS, tTruS, truO_l, truO_t, truS_ref, truS_non, truS_bl, truS_int, tFld, sFld, sFldAug, rAdd, tMeth, tProp, tMake, tMakeK, List.take_succ_cons, List.take_zero, List.drop_succ_cons, List.drop_zero, List.take_nil, tIsN, tNotN, tAndV, tOrV, tNotV, putF, List.lookup, List.any_cons, List.any_nil, Sum.inr.injEq, HO.ins.injEq, HO.dK.injEq, eq_self, beq_self_eq_true, beq_iff_eq, decide_true, decide_false, Bool.or_true, Bool.true_or, Bool.or_false, Bool.false_or, tYes, rEq, rNe, _root_.L2.start, wipe, List.map_cons, List.map_nil, List.length_cons, List.length_nil, List.append_nil, Nat.reduceAdd, Nat.reduceSub, List.replicate_succ, List.replicate_zero, List.cons_append, List.nil_append, List.getElem?_cons_zero, List.getElem?_cons_succ, List.set_cons_zero, List.set_cons_succ, Option.some.injEq, V.int.injEq, V.ref.injEq, V.bl.injEq, V.str.injEq, List.cons.injEq, HO.lst.injEq, HO.tup.injEq, and_assoc, and_true, true_and, exists_eq_left, exists_eq_left', exists_and_left, exists_eq, reduceCtorEq, false_and, and_false, or_false, false_or, exists_false, decide_eq_true_eq, CPow, CDivW, Int.reducePow, Int.reduceLT, Int.reduceLE, Int.reduceNeg, Int.reduceToNat, Int.reduceAbs, Nat.reducePow, Nat.reduceLT, Nat.reduceLeDiff, sizeLine_eq, Int.reduceMul, Int.reduceAdd, Int.reduceSub, Bool.not_eq_true', decide_eq_false_iff_not, scal, Bool.not_true, Bool.not_false, Bool.true_eq_false, Bool.false_eq_true, ite_false, ite_true, if_true, if_false, ite_self, forall_const, atI0, atI1, atI2, atI3, ixN20, ixN21, upd_same, upd_upd, Int.zero_add, CMul, Int.reduceSub, Nat.le_refl, Nat.zero_le, or_true, true_or, exists_const, Int.sub_zero, h14])
          refine ⟨j.toNat, ixN_ok j0 (by omega), (m :: ms).set j.toNat own, ?_, by simp; omega, (gg.trans g4).put hD0 hDs⟩
          rw [List.map_set]
          exact ImAll.set _ (ImAll.mono (Tk.put h14) _ _ (g4.ims h23)) (Im.mono (Tk.put h14) _ _ ((gg.trans g4).im io))
        · exact ⟨acc, h13, _, h23, hmn, gg⟩
    rintro σ H3 ⟨acc, ms, rfl, h1, h2, hmn, g⟩
    (try simp only [ne_0_1, ne_0_1b, ne_0_2, ne_0_2b, ne_0_3, ne_0_3b, ne_0_4, ne_0_4b, ne_0_5, ne_0_5b, ne_0_6, ne_0_6b, ne_0_7, ne_0_7b, ne_1_0, ne_1_0b, ne_1_2, ne_1_2b, ne_1_3, ne_1_3b, ne_1_4, ne_1_4b, ne_1_5, ne_1_5b, ne_1_6, ne_1_6b, ne_1_7, ne_1_7b, ne_2_0, ne_2_0b, ne_2_1, ne_2_1b, ne_2_3, ne_2_3b, ne_2_4, ne_2_4b, ne_2_5, ne_2_5b, ne_2_6, ne_2_6b, ne_2_7, ne_2_7b, ne_3_0, ne_3_0b, ne_3_1, ne_3_1b, ne_3_2, ne_3_2b, ne_4_0, ne_4_0b, ne_4_1, ne_4_1b, ne_4_2, ne_4_2b, ne_5_0, ne_5_0b, ne_5_1, ne_5_1b, ne_5_2, ne_5_2b, ne_6_0, ne_6_0b, ne_6_1, ne_6_1b, ne_6_2, ne_6_2b, ne_7_0, ne_7_0b, ne_7_1, ne_7_1b, ne_7_2, ne_7_2b, cxOf, Cx.nox, Cx.wish, tSeq, tAsg, tC, gName, tIfS, tTest, tOp, tUn, rU, rI0, rI, tVar, tNext, tBreak, tRet, tRetN, tDrop, tLst, tTup, tCons, tNil, tCB, tB, tOr, tAnd, tNot, tIf, tCall, tFor_eq, tLc_eq, iRng1, iRng2, iList, iTup, gTup, gTupH, gUnlH, gCons, gNil, gSub, rSetL, rIxL, rIxT, rIxLH, rIxTH, rSlTS, rCatS, rTupS, rIsiH, rLenS, V.ty.injEq, tyS_non, tyS_bl, tyS_int, tyS_str, tyS_ref, tyO_l, tyO_t, tyO_d, tyO_dt, kit_ll, kit_tt, kit_bb, kit_ii, kit_ib, kit_bi, kit_nt, kit_it, kit_st, kit_bt, kit_lt, kit_dt, kit_ni, kit_si, kit_ti, kit_li, kit_di, kit_nb, kit_ns, kit_is, kit_bs, kit_ss, kit_ts, kit_ls, kit_ds, kit_dd, lenS_ref, lenO_l, lenO_t,  rAppend, tM1, rIxS, tSl, tPart, tNoPart, tBM, tBM0, tDGetS, sDPutS, tTruS, truO_l, truO_t, truS_ref, truS_non, truS_bl, truS_int, tFld, sFld, sFldAug, rAdd, tMeth, tProp, tMake, tMakeK, List.take_succ_cons, List.take_zero, List.drop_succ_cons, List.drop_zero, List.take_nil, tIsN, tNotN, tAndV, tOrV, tNotV, putF, List.lookup, List.any_cons, List.any_nil, Sum.inr.injEq, HO.ins.injEq, HO.dK.injEq, eq_self, beq_self_eq_true, beq_iff_eq, decide_true, decide_false, Bool.or_true, Bool.true_or, Bool.or_false, Bool.false_or, tYes, rEq, rNe, _root_.L2.start, wipe, List.map_cons, List.map_nil, List.length_cons, List.length_nil, List.append_nil, Nat.reduceAdd, Nat.reduceSub, List.replicate_succ, List.replicate_zero, List.cons_append, List.nil_append, List.getElem?_cons_zero, List.getElem?_cons_succ, List.set_cons_zero, List.set_cons_succ, Option.some.injEq, V.int.injEq, V.ref.injEq, V.bl.injEq, V.str.injEq, List.cons.injEq, HO.lst.injEq, HO.tup.injEq, and_assoc, and_true, true_and, exists_eq_left, exists_eq_left', exists_and_left, exists_eq, reduceCtorEq, false_and, and_false, or_false, false_or, exists_false, decide_eq_true_eq, CPow, CDivW, Int.reducePow, Int.reduceLT, Int.reduceLE, Int.reduceNeg, Int.reduceToNat, Int.reduceAbs, Nat.reducePow, Nat.reduceLT, Nat.reduceLeDiff, sizeLine_eq, Int.reduceMul, Int.reduceAdd, Int.reduceSub, Bool.not_eq_true', decide_eq_false_iff_not, scal, Bool.not_true, Bool.not_false, Bool.true_eq_false, Bool.false_eq_true, ite_false, ite_true, if_true, if_false, ite_self, forall_const, atI0, atI1, atI2, atI3, ixN20, ixN21, upd_same, upd_upd, Int.zero_add, CMul, Int.reduceSub, Nat.le_refl, Nat.zero_le, or_true, true_or, exists_const, Int.sub_zero, h1, rInD, sp_Marks_take, sp_law_flag])
    have hl2 := h2.len
    rw [List.length_map] at hl2
    have io3 := g.im io
    have M3 : MarksAt T.C_Marks H3 p l t (some own) kept := M.keep g.tk fun b o e z => g.but b o e (z.elim (fun z => z ▸ nps) fun z => z ▸ nls)
    have hk3 : H3 k = some (.lst ws) := g.at hk nks
    have iw3 := g.ims iw
    refine ⟨_, Im.dp _ _ io3, _, .lst (SqL.of h1) (ImAll.dp _ _ h2), mD_shaped _, mDs_shaped _, ?_⟩
    obtain ⟨dx3, tv3, ov3, ws3, hp3, it3, io3', hl3, iw3'⟩ := id M3
    refine ⟨_, _, hp3, rfl, fun q H4 s4 hq4 => ?_⟩
    refine ⟨l, t, own, kept, M3.same s4, ms, im_tup hq4 (Same.ims s4 h2), by omega, by omega, fun H5 M5 b5 => ?_⟩
    rw [mDs_any, if_neg (by simp)]
    have hD5 : H5 D = some (.lst acc) := b5.keep _ _ (s4 _ _ h1) (fun z => by subst z; rw [hp] at hD0; cases hD0) (fun z => by subst z; rw [hl] at hD0; cases hD0)
    have hk5 : H5 k = some (.lst ws) := b5.keep _ _ (s4 _ _ hk3) (ne_il hp hk).symm nkl
    have tk5 : Tk H3 H5 := (Same.tk s4).trans (b5.tk (s4 _ _ hp3) (s4 _ _ hl3))
    have io5 := Im.mono tk5 _ _ io3
    have iw5 := ImAll.mono tk5 _ _ iw3
    have h25 := ImAll.mono tk5 _ _ h2
    have fr5 : ∀ b o, H b = some o → b ≠ s0 → b ≠ p → b ≠ l → H5 b = some o := fun b o e n1 n2 n3 => b5.keep b o (s4 _ _ (g.but b o e n1)) n2 n3
    have nn5 : ∀ b, H5 b = none → H b = none := fun b e => g.none (Same.non s4 (b5.non _ e))
    have hkl' := takeS_len t own kept ms
    refine ⟨⟨_, SqL.of hD5⟩, Loop.list acc (fun i σ H' => ∃ (k' : Addr) (ws' : List V) (b6 : Option V), σ = [some (.ref p), some ov, some (.ref k'), some (.ref s0), some (.ref D), some (.bl (decide (own ∈ ms))), b6, none] ∧ H' k' = some (.lst ws') ∧ ImAll H' ((takeS' t own kept ms i).map mD) ws' ∧ Same H5 H' ∧ (k' = k ∨ H k' = none) ∧ k' ≠ l)
      ⟨k, ws, none, rfl, hk5, by unfold takeS'; split <;> exact iw5, Same.refl _, .inl rfl, nkl⟩ (fun i σ H' _ => by rintro ⟨_, _, _, _, _, _, s, _⟩; exact SqL.of (s _ _ hD5)) ?_ ?_⟩
    · rintro i x σ H6 hx ⟨k', ws', b6, rfl, hk6, iw6, s6, ok, nk⟩
      obtain ⟨m, hm, im5⟩ := ims_mk h25 hx
      have im6 := Same.im s6 im5
      have io6 := Same.im s6 io5
      obtain ⟨a, tm, km, rfl, ha, itm, _⟩ := mD_at im6
      obtain ⟨a2, tm2, km2, rfl, ha2, itm2, _⟩ := mD_at io6
      (try simp only [ne_0_1, ne_0_1b, ne_0_2, ne_0_2b, ne_0_3, ne_0_3b, ne_0_4, ne_0_4b, ne_0_5, ne_0_5b, ne_0_6, ne_0_6b, ne_0_7, ne_0_7b, ne_1_0, ne_1_0b, ne_1_2, ne_1_2b, ne_1_3, ne_1_3b, ne_1_4, ne_1_4b, ne_1_5, ne_1_5b, ne_1_6, ne_1_6b, ne_1_7, ne_1_7b, ne_2_0, ne_2_0b, ne_2_1, ne_2_1b, ne_2_3, ne_2_3b, ne_2_4, ne_2_4b, ne_2_5, ne_2_5b, ne_2_6, ne_2_6b, ne_2_7, ne_2_7b, ne_3_0, ne_3_0b, ne_3_1, ne_3_1b, ne_3_2, ne_3_2b, ne_4_0, ne_4_0b, ne_4_1, ne_4_1b, ne_4_2, ne_4_2b, ne_5_0, ne_5_0b, ne_5_1, ne_5_1b, ne_5_2, ne_5_2b, ne_6_0, ne_6_0b, ne_6_1, ne_6_1b, ne_6_2, ne_6_2b, ne_7_0, ne_7_0b, ne_7_1, ne_7_1b, ne_7_2, ne_7_2b, cxOf, Cx.nox, Cx.wish, tSeq, tAsg, tC, gName, tIfS, tTest, tOp, tUn, rU, rI0, rI, tVar, tNext, tBreak, tRet, tRetN, tDrop, tLst, tTup, tCons, tNil, tCB, tB, tOr, tAnd, tNot, tIf, tCall, tFor_eq, tLc_eq, iRng1, iRng2, iList, iTup, gTup, gTupH, gUnlH, gCons, gNil, gSub, rSetL, rIxL, rIxT, rIxLH, rIxTH, rSlTS, rCatS, rTupS, rIsiH, rLenS, V.ty.injEq, tyS_non, tyS_bl, tyS_int, tyS_str, tyS_ref, tyO_l, tyO_t, tyO_d, tyO_dt, kit_ll, kit_tt, kit_bb, kit_ii, kit_ib, kit_bi, kit_nt, kit_it, kit_st, kit_bt, kit_lt, kit_dt, kit_ni, kit_si, kit_ti, kit_li, kit_di, kit_nb, kit_ns, kit_is, kit_bs, kit_ss, kit_ts, kit_ls, kit_ds, kit_dd, lenS_ref, lenO_l, lenO_t,  rAppend, tM1, rIxS, tSl, tPart, tNoPart, tBM, tBM0, tDGetS, sDPutS, tTruS, truO_l, truO_t, truS_ref, truS_non, truS_bl, truS_int, tFld, sFld, sFldAug, rAdd, tMeth, tProp, tMake, tMakeK, List.take_succ_cons, List.take_zero, List.drop_succ_cons, List.drop_zero, List.take_nil, tIsN, tNotN, tAndV, tOrV, tNotV, putF, List.lookup, List.any_cons, List.any_nil, Sum.inr.injEq, HO.ins.injEq, HO.dK.injEq, eq_self, beq_self_eq_true, beq_iff_eq, decide_true, decide_false, Bool.or_true, Bool.true_or, Bool.or_false, Bool.false_or, tYes, rEq, rNe, _root_.L2.start, wipe, List.map_cons, List.map_nil, List.length_cons, List.length_nil, List.append_nil, Nat.reduceAdd, Nat.reduceSub, List.replicate_succ, List.replicate_zero, List.cons_append, List.nil_append, List.getElem?_cons_zero, List.getElem?_cons_succ, List.set_cons_zero, List.set_cons_succ, Option.some.injEq, V.int.injEq, V.ref.injEq, V.bl.injEq, V.str.injEq, List.cons.injEq, HO.lst.injEq, HO.tup.injEq, and_assoc, and_true, true_and, exists_eq_left, exists_eq_left', exists_and_left, exists_eq, reduceCtorEq, false_and, and_false, or_false, false_or, exists_false, decide_eq_true_eq, CPow, CDivW, Int.reducePow, Int.reduceLT, Int.reduceLE, Int.reduceNeg, Int.reduceToNat, Int.reduceAbs, Nat.reducePow, Nat.reduceLT, Nat.reduceLeDiff, sizeLine_eq, Int.reduceMul, Int.reduceAdd, Int.reduceSub, Bool.not_eq_true', decide_eq_false_iff_not, scal, Bool.not_true, Bool.not_false, Bool.true_eq_false, Bool.false_eq_true, ite_false, ite_true, if_true, if_false, ite_self, forall_const, atI0, atI1, atI2, atI3, ixN20, ixN21, upd_same, upd_upd, Int.zero_add, CMul, Int.reduceSub, Nat.le_refl, Nat.zero_le, or_true, true_or, exists_const, Int.sub_zero, ha, ha2, rGtA, rNotInD, hk6])
      rw [takeS'_step hm]
      have hwl := iw6.len
      have hkn := takeS'_len t own kept ms i
      rw [List.length_map] at hwl
      generalize takeS' t own kept ms i = kp at iw6 hwl hkn
      by_cases ho' : own ∈ ms
      · rw [if_neg (by simpa using ho'), if_neg (fun z => z.1 ho')]
        exact ⟨iw6, s6, ok, nk⟩
      rw [if_pos ho']
      refine ⟨_, Im.dp _ _ itm, _, Im.dp _ _ itm2, tD_alike _ _, by simp [tD], by rw [tD_depth]; decide, ?_⟩
      rw [ho, show PySem.W.dataLt (tD t) (tD m.t) = gtM m t from rfl]
      by_cases hg : gtM m t = true
      · rw [if_pos hg]
        refine ⟨_, Im.dp _ _ im6, _, .lst (SqL.of hk6) (ImAll.dp _ _ iw6), mD_shaped _, mDs_shaped _, ?_⟩
        rw [mDs_any]
        by_cases hk : m ∈ kp
        · rw [if_neg (by simpa using hk), if_neg (fun z => z.2.2 hk)]
          exact ⟨iw6, s6, ok, nk⟩
        · rw [if_pos (by simpa using hk), if_pos ⟨ho', hg, hk⟩]
          intro e he
          (try simp only [ne_0_1, ne_0_1b, ne_0_2, ne_0_2b, ne_0_3, ne_0_3b, ne_0_4, ne_0_4b, ne_0_5, ne_0_5b, ne_0_6, ne_0_6b, ne_0_7, ne_0_7b, ne_1_0, ne_1_0b, ne_1_2, ne_1_2b, ne_1_3, ne_1_3b, ne_1_4, ne_1_4b, ne_1_5, ne_1_5b, ne_1_6, ne_1_6b, ne_1_7, ne_1_7b, ne_2_0, ne_2_0b, ne_2_1, ne_2_1b, ne_2_3, ne_2_3b, ne_2_4, ne_2_4b, ne_2_5, ne_2_5b, ne_2_6, ne_2_6b, ne_2_7, ne_2_7b, ne_3_0, ne_3_0b, ne_3_1, ne_3_1b, ne_3_2, ne_3_2b, ne_4_0, ne_4_0b, ne_4_1, ne_4_1b, ne_4_2, ne_4_2b, ne_5_0, ne_5_0b, ne_5_1, ne_5_1b, ne_5_2, ne_5_2b, ne_6_0, ne_6_0b, ne_6_1, ne_6_1b, ne_6_2, ne_6_2b, ne_7_0, ne_7_0b, ne_7_1, ne_7_1b, ne_7_2, ne_7_2b, cxOf, Cx.nox, Cx.wish, tSeq, tAsg, tC, gName, tIfS, tTest, tOp, tUn, rU, rI0, rI, tVar, tNext, tBreak, tRet, tRetN, tDrop, tLst, tTup, tCons, tNil, tCB, tB, tOr, tAnd, tNot, tIf, tCall, tFor_eq, tLc_eq, iRng1, iRng2, iList, iTup, gTup, gTupH, gUnlH, gCons, gNil, gSub, rSetL, rIxL, rIxT, rIxLH, rIxTH, rSlTS, rCatS, rTupS, rIsiH, rLenS, V.ty.injEq, tyS_non, tyS_bl, tyS_int, tyS_str, tyS_ref, tyO_l, tyO_t, tyO_d, tyO_dt, kit_ll, kit_tt, kit_bb, kit_ii, kit_ib, kit_bi, kit_nt, kit_it, kit_st, kit_bt, kit_lt, kit_dt, kit_ni, kit_si, kit_ti, kit_li, kit_di, kit_nb, kit_ns, kit_is, kit_bs, kit_ss, kit_ts, kit_ls, kit_ds, kit_dd, lenS_ref, lenO_l, lenO_t,  rAppend, tM1, rIxS, tSl, tPart, tNoPart, tBM, tBM0, tDGetS, sDPutS, tTruS, truO_l, truO_t, truS_ref, truS_non, truS_bl, truS_int, tFld, sFld, sFldAug, rAdd, tMeth, tProp, tMake, tMakeK, List.take_succ_cons, List.take_zero, List.drop_succ_cons, List.drop_zero, List.take_nil, tIsN, tNotN, tAndV, tOrV, tNotV, putF, List.lookup, List.any_cons, List.any_nil, Sum.inr.injEq, HO.ins.injEq, HO.dK.injEq, eq_self, beq_self_eq_true, beq_iff_eq, decide_true, decide_false, Bool.or_true, Bool.true_or, Bool.or_false, Bool.false_or, tYes, rEq, rNe, _root_.L2.start, wipe, List.map_cons, List.map_nil, List.length_cons, List.length_nil, List.append_nil, Nat.reduceAdd, Nat.reduceSub, List.replicate_succ, List.replicate_zero, List.cons_append, List.nil_append, List.getElem?_cons_zero, List.getElem?_cons_succ, List.set_cons_zero, List.set_cons_succ, Option.some.injEq, V.int.injEq, V.ref.injEq, V.bl.injEq, V.str.injEq, List.cons.injEq, HO.lst.injEq, HO.tup.injEq, and_assoc, and_true, true_and, exists_eq_left, exists_eq_left', exists_and_left, exists_eq, reduceCtorEq, false_and, and_false, or_false, false_or, exists_false, decide_eq_true_eq, CPow, CDivW, Int.reducePow, Int.reduceLT, Int.reduceLE, Int.reduceNeg, Int.reduceToNat, Int.reduceAbs, Nat.reducePow, Nat.reduceLT, Nat.reduceLeDiff, sizeLine_eq, Int.reduceMul, Int.reduceAdd, Int.reduceSub, Bool.not_eq_true', decide_eq_false_iff_not, scal, Bool.not_true, Bool.not_false, Bool.true_eq_false, Bool.false_eq_true, ite_false, ite_true, if_true, if_false, ite_self, forall_const, atI0, atI1, atI2, atI3, ixN20, ixN21, upd_same, upd_upd, Int.zero_add, CMul, Int.reduceSub, Nat.le_refl, Nat.zero_le, or_true, true_or, exists_const, Int.sub_zero, rCat, get_new he hk6])
          refine ⟨by omega, fun r hr => ?_⟩
          have s8 := (same_new he (o := .lst [V.ref a])).trans (same_new hr (o := .lst (ws' ++ [V.ref a])))
          have hr0 := (upd_none hr).2
          refine ⟨?_, s6.trans s8, .inr (nn5 _ (Same.non s6 hr0)), ?_⟩
          · rw [List.map_append]
            exact (Same.ims s8 iw6).app (im_cons (Same.im s8 im6) im_nil)
          · intro z; subst z
            obtain ⟨_, _, _, _, _, _, _, e5, _⟩ := M5
            rw [s6 _ _ e5] at hr0; cases hr0
      · rw [if_neg hg, if_neg (fun z => hg z.2.1)]
        exact ⟨iw6, s6, ok, nk⟩
    · rintro σ H6 ⟨k', ws', b6, rfl, hk6, iw6, s6, ok, nk⟩
      (try simp only [ne_0_1, ne_0_1b, ne_0_2, ne_0_2b, ne_0_3, ne_0_3b, ne_0_4, ne_0_4b, ne_0_5, ne_0_5b, ne_0_6, ne_0_6b, ne_0_7, ne_0_7b, ne_1_0, ne_1_0b, ne_1_2, ne_1_2b, ne_1_3, ne_1_3b, ne_1_4, ne_1_4b, ne_1_5, ne_1_5b, ne_1_6, ne_1_6b, ne_1_7, ne_1_7b, ne_2_0, ne_2_0b, ne_2_1, ne_2_1b, ne_2_3, ne_2_3b, ne_2_4, ne_2_4b, ne_2_5, ne_2_5b, ne_2_6, ne_2_6b, ne_2_7, ne_2_7b, ne_3_0, ne_3_0b, ne_3_1, ne_3_1b, ne_3_2, ne_3_2b, ne_4_0, ne_4_0b, ne_4_1, ne_4_1b, ne_4_2, ne_4_2b, ne_5_0, ne_5_0b, ne_5_1, ne_5_1b, ne_5_2, ne_5_2b, ne_6_0, ne_6_0b, ne_6_1, ne_6_1b, ne_6_2, ne_6_2b, ne_7_0, ne_7_0b, ne_7_1, ne_7_1b, ne_7_2, ne_7_2b, cxOf, Cx.nox, Cx.wish, tSeq, tAsg, tC, gName, tIfS, tTest, tOp, tUn, rU, rI0, rI, tVar, tNext, tBreak, tRet, tRetN, tDrop, tLst, tTup, tCons, tNil, tCB, tB, tOr, tAnd, tNot, tIf, tCall, tFor_eq, tLc_eq, iRng1, iRng2, iList, iTup, gTup, gTupH, gUnlH, gCons, gNil, gSub, rSetL, rIxL, rIxT, rIxLH, rIxTH, rSlTS, rCatS, rTupS, rIsiH, rLenS, V.ty.injEq, tyS_non, tyS_bl, tyS_int, tyS_str, tyS_ref, tyO_l, tyO_t, tyO_d, tyO_dt, kit_ll, kit_tt, kit_bb, kit_ii, kit_ib, kit_bi, kit_nt, kit_it, kit_st, kit_bt, kit_lt, kit_dt, kit_ni, kit_si, kit_ti, kit_li, kit_di, kit_nb, kit_ns, kit_is, kit_bs, kit_ss, kit_ts, kit_ls, kit_ds, kit_dd, lenS_ref, lenO_l, lenO_t,  rAppend, tM1, rIxS, tSl, tPart, tNoPart, tBM, tBM0, tDGetS, sDPutS, tTruS, truO_l, truO_t, truS_ref, truS_non, truS_bl, truS_int, tFld, sFld, sFldAug, rAdd, tMeth, tProp, tMake, tMakeK, List.take_succ_cons, List.take_zero, List.drop_succ_cons, List.drop_zero, List.take_nil, tIsN, tNotN, tAndV, tOrV, tNotV, putF, List.lookup, List.any_cons, List.any_nil, Sum.inr.injEq, HO.ins.injEq, HO.dK.injEq, eq_self, beq_self_eq_true, beq_iff_eq, decide_true, decide_false, Bool.or_true, Bool.true_or, Bool.or_false, Bool.false_or, tYes, rEq, rNe, _root_.L2.start, wipe, List.map_cons, List.map_nil, List.length_cons, List.length_nil, List.append_nil, Nat.reduceAdd, Nat.reduceSub, List.replicate_succ, List.replicate_zero, List.cons_append, List.nil_append, List.getElem?_cons_zero, List.getElem?_cons_succ, List.set_cons_zero, List.set_cons_succ, Option.some.injEq, V.int.injEq, V.ref.injEq, V.bl.injEq, V.str.injEq, List.cons.injEq, HO.lst.injEq, HO.tup.injEq, and_assoc, and_true, true_and, exists_eq_left, exists_eq_left', exists_and_left, exists_eq, reduceCtorEq, false_and, and_false, or_false, false_or, exists_false, decide_eq_true_eq, CPow, CDivW, Int.reducePow, Int.reduceLT, Int.reduceLE, Int.reduceNeg, Int.reduceToNat, Int.reduceAbs, Nat.reducePow, Nat.reduceLT, Nat.reduceLeDiff, sizeLine_eq, Int.reduceMul, Int.reduceAdd, Int.reduceSub, Bool.not_eq_true', decide_eq_false_iff_not, scal, Bool.not_true, Bool.not_false, Bool.true_eq_false, Bool.false_eq_true, ite_false, ite_true, if_true, if_false, ite_self, forall_const, atI0, atI1, atI2, atI3, ixN20, ixN21, upd_same, upd_upd, Int.zero_add, CMul, Int.reduceSub, Nat.le_refl, Nat.zero_le, or_true, true_or, exists_const, Int.sub_zero])
      rw [takeS'_all (by omega)] at iw6
      exact kk k' ws' _ H6 (M5.same s6) hk6 iw6 (by omega) ok nk (Same.im s6 io5) fun b o e n1 n2 n3 => s6 _ _ (fr5 b o e n1 n2 n3)
structure M16 (C : Addr) (H H' : Hp) (p l k : Addr) (t : Int × Int) (own : Option Mrk) (kept : List Mrk) (tv ov : V) (ws : List V) (i : Nat) : Prop where
  m : MarksAt C H' p l t own kept
  io : Im H' (oD own) ov
  it : Im H' (tD t) tv
  hk : H' k = some (.lst ws)
  iw : ImAll H' (kept.map mD) ws
  nkl : k ≠ l
  len : kept.length ≤ 7 * i
  ho : ∀ m, own = some m → m.t = t
  sm : Same H H'
  np : H p = none
  nl : H l = none
  nk : H k = none
section
variable {C : Addr} {H H' H2 : Hp} {p l k : Addr} {t : Int × Int} {own : Option Mrk} {kept : List Mrk} {tv ov : V} {ws : List V} {i : Nat}
theorem M16.same (a : M16 C H H' p l k t own kept tv ov ws i) (s : Same H' H2) : M16 C H H2 p l k t own kept tv ov ws i :=
  { a with m := a.m.same s, io := Same.im s a.io, it := Same.im s a.it, hk := s _ _ a.hk, iw := Same.ims s a.iw, sm := a.sm.trans s }
theorem M16.up (a : M16 C H H' p l k t own kept tv ov ws i) : M16 C H H' p l k t own kept tv ov ws (i + 1) :=
  { a with len := by have := a.len; omega }
theorem M16.gn {s : Addr} (a : M16 C H H' p l k t own kept tv ov ws i) (g : Gn s H' H2) (n1 : p ≠ s) (n2 : l ≠ s) (n3 : k ≠ s) (n4 : H s = none) : M16 C H H2 p l k t own kept tv ov ws i :=
  { a with m := a.m.keep g.tk fun b o e z => g.but b o e (z.elim (fun z => z ▸ n1) fun z => z ▸ n2), io := g.im a.io, it := g.im a.it, hk := g.but _ _ a.hk n3, iw := g.ims a.iw, sm := fun b o e => g.but b o (a.sm b o e) (ne_of_none e n4) }
/-- what was kept is forgotten -/
theorem M16.anew {l' k' : Addr} {o' : Option Mrk} {ov' : V} (a : M16 C H H' p l k t own kept tv ov ws i) (n : H' l' = none) (m : MarksAt C H2 p l' t o' []) (b : Bt p p H' H2) (hk : H' k' = some (.lst [])) (n' : H k' = none) (hi : Im H' (oD o') ov') (ho : ∀ m, o' = some m → m.t = t) :
    M16 C H H2 p l' k' t o' [] tv ov' [] i := by
  obtain ⟨dx, _, _, _, hp, _⟩ := a.m
  have tk := b.tk1 hp
  exact ⟨m, Im.mono tk _ _ hi, Im.mono tk _ _ a.it, b.keep _ _ hk (ne_il hp hk).symm (ne_il hp hk).symm, im_nil, ne_of_none hk n, by simp, ho, fun c o e => b.keep c o (a.sm c o e) (ne_of_none e a.np) (ne_of_none e a.np), a.np, Same.non a.sm n, n'⟩
end

theorem ok_law (T : Txt K mg) : FnOk P w K mg base CX0 5 T.f_law T.d_law ["_law_script"] (spLaw K) := by
  refine Fun.ok T.F_law sc_law (fun vs H Q E h => ?_) (fun cdv A outer s H vs Q E hr h => ?_)
  · obtain ⟨a, ns, rfl, hS, hlen, kk⟩ := h; rfl
  · obtain ⟨a, ns, rfl, hS, hlen, kk⟩ := h
    have hu := hu_of hr
    refine ⟨_, (pss_cons (ps_set (i := 1) sc_law.nd rfl (Or.inl rfl) pe_int)
      (C8.pss_cut (ps_if (pt_cmpR op_gt (pe_callB call_len (by rfl) T.z_len (by decide +kernel) (pa_cons (pv 0) pa_nil)) pe_int (nomark _)) (pss_one (ps_set (i := 1) sc_law.nd rfl (Or.inl rfl) (pe_ix ix_list (pv 0) pe_int (fun _ _ => rfl)))) pss_nil)
      (pss_cons (ps_set (i := 2) sc_law.nd rfl (Or.inl rfl) (pe_call (ok_law_stream T) (hr.mono (by decide)) rfl T.g_law_stream T.F_law_stream.kp T.b_law_stream .nil pass0 (pa_cons (pv 1) (pa_cons pe_int pa_nil))))
      (pss_cons (ps_set (i := 3) sc_law.nd rfl (Or.inl rfl) (pe_call (ok_law_transaction T) (hr.mono (by decide)) rfl T.g_law_transaction T.F_law_transaction.kp T.b_law_transaction .nil pass0 (pa_cons (pv 2) pa_nil)))
      (pss_cons (ps_set (i := 4) sc_law.nd rfl (Or.inl rfl) (pe_make T.M_Marks (ok_Marks_init T) (hr.mono (by decide)) rfl T.gC_Marks T.b_Marks_init .nil pass0 (pa_cons (pv 3) pa_nil)))
      (pss_cons (ps_set (i := 5) sc_law.nd rfl (Or.inl rfl) pe_non)
      (pss_cons (ps_set (i := 6) sc_law.nd rfl (Or.inl rfl) (pe_lst pa_nil))
      (pss_cons (ps_for PassesOwn.never rfl (pi_range2 (by rfl) T.z_range (pa_cons pe_int (pa_cons (pe_callB (call_min2 rfl) (by rfl) T.z_min (by decide +kernel) (pa_cons (pe_callB call_len (by rfl) T.z_len (by decide +kernel) (pa_cons (pv 0) pa_nil)) (pa_cons pe_int pa_nil))) pa_nil))) (pg_name (i := 7) sc_law.nd rfl (Or.inl rfl))
      (pss_cons (ps_set (i := 2) sc_law.nd rfl (Or.inl rfl) (pe_call (ok_law_stream T) (hr.mono (by decide)) rfl T.g_law_stream T.F_law_stream.kp T.b_law_stream .nil pass0 (pa_cons (pe_ix ix_list (pv 0) (pv 7) (fun _ _ => rfl)) (pa_cons (pv 7) pa_nil))))
      (pss_cons (ps_set (i := 8) sc_law.nd rfl (Or.inl rfl) (pe_call (ok_law_next T) (hr.mono (by decide)) rfl T.g_law_next T.F_law_next.kp T.b_law_next .nil pass0 (pa_cons (pv 2) (pa_cons pe_int pa_nil))))
      (C8.pss_cut (ps_if (pt_cmpR op_eq (pv 8) pe_int (nomark _)) (pss_cons (ps_set (i := 5) sc_law.nd rfl (Or.inl rfl) (pe_op op_catS (pe_tup (pa_cons (pv 3) pa_nil)) (pe_slice sl_tupS (pe_call (ok_law_mark T) (hr.mono (by decide)) rfl T.g_law_mark T.F_law_mark.kp T.b_law_mark .nil pass0 (pa_cons (pv 2) pa_nil)) (po_some pe_int) po_none)))
      (pss_cons (ps_set (i := 6) sc_law.nd rfl (Or.inl rfl) (pe_lst pa_nil))
      (pss_one (ps_if (pt_cmp (pc_notN (pe_meth (pv 4) T.cl_Marks T.m_Marks_begin (ok_Marks_begin T) (hr.mono (by decide)) T.b_Marks_begin .nil pass0 (pa_cons (pv 5) pa_nil)))) (pss_one (ps_ret pe_bl)) pss_nil)))) (pss_one (ps_if (PW.pt (pw_and (pt_cmpR op_eq (pv 8) pe_int (nomark _)) (pw_and1 (pt_cmpR op_eq (pe_call (ok_law_next T) (hr.mono (by decide)) rfl T.g_law_next T.F_law_next.kp T.b_law_next .nil pass0 (pa_cons (pv 2) (pa_cons pe_int pa_nil))) pe_int (nomark _))))) (pss_cons (ps_set (i := 5) sc_law.nd rfl (Or.inl rfl) pe_non)
      (pss_cons (ps_set (i := 6) sc_law.nd rfl (Or.inl rfl) (pe_lst pa_nil))
      (pss_one (ps_if (pt_cmp (pc_notN (pe_meth0 (pv 4) T.cl_Marks T.m_Marks_end (ok_Marks_end T) (hr.mono (by decide)) T.b_Marks_end .nil pass0))) (pss_one (ps_ret pe_bl)) pss_nil)))) (pss_one (ps_if (pt_cmp (pc_notN (pv 5))) (pss_cons (ps_set (i := 6) sc_law.nd rfl (Or.inl rfl) (pe_call (ok_law_taken T) (hr.mono (by decide)) rfl T.g_law_taken T.F_law_taken.kp T.b_law_taken .nil pass0 (pa_cons (pv 4) (pa_cons (pv 5) (pa_cons (pv 6) (pa_cons (pv 2) pa_nil))))))
      (pss_one (ps_if (pt_cmp (pc_isN (pv 6))) (pss_one (ps_ret pe_bl)) pss_nil))) pss_nil)))))
      (pss_cons (ps_set (i := 9) sc_law.nd rfl (Or.inl rfl) (pe_meth0 (pv 4) T.cl_Marks T.m_Marks_told (ok_Marks_told T) (hr.mono (by decide)) T.b_Marks_told .nil pass0))
      (pss_one (ps_if (PW.pt (pw_or (pt_cmpR (op_neDK (K := K) rfl hr.units) (pe_prop (pv 4) T.cl_Marks T.P_Marks_own (ok_Marks_own T) (hr.mono (by decide)) T.b_Marks_own .nil pass0 rfl) (pv 5) (nomark _)) (pw_or (pt_not (pt_val (pe_callB call_isiH (by rfl) T.z_isinstance (by decide +kernel) (pa_cons (pv 9) (pa_cons (pe_bltn (v := .ty "tuple") (by rfl) T.z_tuple (by decide +kernel) rfl) pa_nil))))) (pw_or1 (pt_cmpR (op_neDK (K := K) rfl hr.units) (pv 9) (pe_call (ok_law_due T) (hr.mono (by decide)) rfl T.g_law_due T.F_law_due.kp T.b_law_due .nil pass0 (pa_cons (pv 5) (pa_cons (pv 6) pa_nil))) (nomark _)))))) (pss_one (ps_ret pe_bl)) pss_nil)))))))
      (pss_one (ps_ret pe_bl)))))))))), ?_⟩
    (try simp only [ne_0_1, ne_0_1b, ne_0_2, ne_0_2b, ne_0_3, ne_0_3b, ne_0_4, ne_0_4b, ne_0_5, ne_0_5b, ne_0_6, ne_0_6b, ne_0_7, ne_0_7b, ne_1_0, ne_1_0b, ne_1_2, ne_1_2b, ne_1_3, ne_1_3b, ne_1_4, ne_1_4b, ne_1_5, ne_1_5b, ne_1_6, ne_1_6b, ne_1_7, ne_1_7b, ne_2_0, ne_2_0b, ne_2_1, ne_2_1b, ne_2_3, ne_2_3b, ne_2_4, ne_2_4b, ne_2_5, ne_2_5b, ne_2_6, ne_2_6b, ne_2_7, ne_2_7b, ne_3_0, ne_3_0b, ne_3_1, ne_3_1b, ne_3_2, ne_3_2b, ne_4_0, ne_4_0b, ne_4_1, ne_4_1b, ne_4_2, ne_4_2b, ne_5_0, ne_5_0b, ne_5_1, ne_5_1b, ne_5_2, ne_5_2b, ne_6_0, ne_6_0b, ne_6_1, ne_6_1b, ne_6_2, ne_6_2b, ne_7_0, ne_7_0b, ne_7_1, ne_7_1b, ne_7_2, ne_7_2b, cxOf, Cx.nox, Cx.wish, tSeq, tAsg, tC, gName, tIfS, tTest, tOp, tUn, rU, rI0, rI, tVar, tNext, tBreak, tRet, tRetN, tDrop, tLst, tTup, tCons, tNil, tCB, tB, tOr, tAnd, tNot, tIf, tCall, tFor_eq, tLc_eq, iRng1, iRng2, iList, iTup, gTup, gTupH, gUnlH, gCons, gNil, gSub, rSetL, rIxL, rIxT, rIxLH, rIxTH, rSlTS, rCatS, rTupS, rIsiH, rLenS, V.ty.injEq, tyS_non, tyS_bl, tyS_int, tyS_str, tyS_ref, tyO_l, tyO_t, tyO_d, tyO_dt, kit_ll, kit_tt, kit_bb, kit_ii, kit_ib, kit_bi, kit_nt, kit_it, kit_st, kit_bt, kit_lt, kit_dt, kit_ni, kit_si, kit_ti, kit_li, kit_di, kit_nb, kit_ns, kit_is, kit_bs, kit_ss, kit_ts, kit_ls, kit_ds, kit_dd, lenS_ref, lenO_l, lenO_t,  rAppend, tM1, rIxS, tSl, tPart, tNoPart, tBM, tBM0, tDGetS, sDPutS, tTruS, truO_l, truO_t, truS_ref, truS_non, truS_bl, truS_int, tFld, sFld, sFldAug, rAdd, tMeth, tProp, tMake, tMakeK, List.take_succ_cons, List.take_zero, List.drop_succ_cons, List.drop_zero, List.take_nil, tIsN, tNotN, tAndV, tOrV, tNotV, putF, List.lookup, List.any_cons, List.any_nil, Sum.inr.injEq, HO.ins.injEq, HO.dK.injEq, eq_self, beq_self_eq_true, beq_iff_eq, decide_true, decide_false, Bool.or_true, Bool.true_or, Bool.or_false, Bool.false_or, tYes, rEq, rNe, _root_.L2.start, wipe, List.map_cons, List.map_nil, List.length_cons, List.length_nil, List.append_nil, Nat.reduceAdd, Nat.reduceSub, List.replicate_succ, List.replicate_zero, List.cons_append, List.nil_append, List.getElem?_cons_zero, List.getElem?_cons_succ, List.set_cons_zero, List.set_cons_succ, Option.some.injEq, V.int.injEq, V.ref.injEq, V.bl.injEq, V.str.injEq, List.cons.injEq, HO.lst.injEq, HO.tup.injEq, and_assoc, and_true, true_and, exists_eq_left, exists_eq_left', exists_and_left, exists_eq, reduceCtorEq, false_and, and_false, or_false, false_or, exists_false, decide_eq_true_eq, CPow, CDivW, Int.reducePow, Int.reduceLT, Int.reduceLE, Int.reduceNeg, Int.reduceToNat, Int.reduceAbs, Nat.reducePow, Nat.reduceLT, Nat.reduceLeDiff, sizeLine_eq, Int.reduceMul, Int.reduceAdd, Int.reduceSub, Bool.not_eq_true', decide_eq_false_iff_not, scal, Bool.not_true, Bool.not_false, Bool.true_eq_false, Bool.false_eq_true, ite_false, ite_true, if_true, if_false, ite_self, forall_const, atI0, atI1, atI2, atI3, ixN20, ixN21, upd_same, upd_upd, Int.zero_add, CMul, Int.reduceSub, Nat.le_refl, Nat.zero_le, or_true, true_or, exists_const, Int.sub_zero])
    refine cutI (fun σ H' => ∃ c : Int, σ = [some (.ref a), some (.int c), none, none, none, none, none, none, none, none] ∧ H' = H) ?_ ?_
    · (try simp only [ne_0_1, ne_0_1b, ne_0_2, ne_0_2b, ne_0_3, ne_0_3b, ne_0_4, ne_0_4b, ne_0_5, ne_0_5b, ne_0_6, ne_0_6b, ne_0_7, ne_0_7b, ne_1_0, ne_1_0b, ne_1_2, ne_1_2b, ne_1_3, ne_1_3b, ne_1_4, ne_1_4b, ne_1_5, ne_1_5b, ne_1_6, ne_1_6b, ne_1_7, ne_1_7b, ne_2_0, ne_2_0b, ne_2_1, ne_2_1b, ne_2_3, ne_2_3b, ne_2_4, ne_2_4b, ne_2_5, ne_2_5b, ne_2_6, ne_2_6b, ne_2_7, ne_2_7b, ne_3_0, ne_3_0b, ne_3_1, ne_3_1b, ne_3_2, ne_3_2b, ne_4_0, ne_4_0b, ne_4_1, ne_4_1b, ne_4_2, ne_4_2b, ne_5_0, ne_5_0b, ne_5_1, ne_5_1b, ne_5_2, ne_5_2b, ne_6_0, ne_6_0b, ne_6_1, ne_6_1b, ne_6_2, ne_6_2b, ne_7_0, ne_7_0b, ne_7_1, ne_7_1b, ne_7_2, ne_7_2b, cxOf, Cx.nox, Cx.wish, tSeq, tAsg, tC, gName, tIfS, tTest, tOp, tUn, rU, rI0, rI, tVar, tNext, tBreak, tRet, tRetN, tDrop, tLst, tTup, tCons, tNil, tCB, tB, tOr, tAnd, tNot, tIf, tCall, tFor_eq, tLc_eq, iRng1, iRng2, iList, iTup, gTup, gTupH, gUnlH, gCons, gNil, gSub, rSetL, rIxL, rIxT, rIxLH, rIxTH, rSlTS, rCatS, rTupS, rIsiH, rLenS, V.ty.injEq, tyS_non, tyS_bl, tyS_int, tyS_str, tyS_ref, tyO_l, tyO_t, tyO_d, tyO_dt, kit_ll, kit_tt, kit_bb, kit_ii, kit_ib, kit_bi, kit_nt, kit_it, kit_st, kit_bt, kit_lt, kit_dt, kit_ni, kit_si, kit_ti, kit_li, kit_di, kit_nb, kit_ns, kit_is, kit_bs, kit_ss, kit_ts, kit_ls, kit_ds, kit_dd, lenS_ref, lenO_l, lenO_t,  rAppend, tM1, rIxS, tSl, tPart, tNoPart, tBM, tBM0, tDGetS, sDPutS, tTruS, truO_l, truO_t, truS_ref, truS_non, truS_bl, truS_int, tFld, sFld, sFldAug, rAdd, tMeth, tProp, tMake, tMakeK, List.take_succ_cons, List.take_zero, List.drop_succ_cons, List.drop_zero, List.take_nil, tIsN, tNotN, tAndV, tOrV, tNotV, putF, List.lookup, List.any_cons, List.any_nil, Sum.inr.injEq, HO.ins.injEq, HO.dK.injEq, eq_self, beq_self_eq_true, beq_iff_eq, decide_true, decide_false, Bool.or_true, Bool.true_or, Bool.or_false, Bool.false_or, tYes, rEq, rNe, _root_.L2.start, wipe, List.map_cons, List.map_nil, List.length_cons, List.length_nil, List.append_nil, Nat.reduceAdd, Nat.reduceSub, List.replicate_succ, List.replicate_zero, List.cons_append, List.nil_append, List.getElem?_cons_zero, List.getElem?_cons_succ, List.set_cons_zero, List.set_cons_succ, Option.some.injEq, V.int.injEq, V.ref.injEq, V.bl.injEq, V.str.injEq, List.cons.injEq, HO.lst.injEq, HO.tup.injEq, and_assoc, and_true, true_and, exists_eq_left, exists_eq_left', exists_and_left, exists_eq, reduceCtorEq, false_and, and_false, or_false, false_or, exists_false, decide_eq_true_eq, CPow, CDivW, Int.reducePow, Int.reduceLT, Int.reduceLE, Int.reduceNeg, Int.reduceToNat, Int.reduceAbs, Nat.reducePow, Nat.reduceLT, Nat.reduceLeDiff, sizeLine_eq, Int.reduceMul, Int.reduceAdd, Int.reduceSub, Bool.not_eq_true', decide_eq_false_iff_not, scal, Bool.not_true, Bool.not_false, Bool.true_eq_false, Bool.false_eq_true, ite_false, ite_true, if_true, if_false, ite_self, forall_const, atI0, atI1, atI2, atI3, ixN20, ixN21, upd_same, upd_upd, Int.zero_add, CMul, Int.reduceSub, Nat.le_refl, Nat.zero_le, or_true, true_or, exists_const, Int.sub_zero])
      refine ⟨ns.length, .inl ⟨_, hS, by simp⟩, ?_⟩
      split
      · cases ns with
        | nil => rename_i h; exact absurd h (by simp)
        | cons n r => exact ⟨_, hS, _, atI0, n, rfl⟩
      · exact ⟨_, rfl⟩
    rintro σ H' ⟨c, rfl, e⟩
    rw [e]
    clear e H'
    (try simp only [ne_0_1, ne_0_1b, ne_0_2, ne_0_2b, ne_0_3, ne_0_3b, ne_0_4, ne_0_4b, ne_0_5, ne_0_5b, ne_0_6, ne_0_6b, ne_0_7, ne_0_7b, ne_1_0, ne_1_0b, ne_1_2, ne_1_2b, ne_1_3, ne_1_3b, ne_1_4, ne_1_4b, ne_1_5, ne_1_5b, ne_1_6, ne_1_6b, ne_1_7, ne_1_7b, ne_2_0, ne_2_0b, ne_2_1, ne_2_1b, ne_2_3, ne_2_3b, ne_2_4, ne_2_4b, ne_2_5, ne_2_5b, ne_2_6, ne_2_6b, ne_2_7, ne_2_7b, ne_3_0, ne_3_0b, ne_3_1, ne_3_1b, ne_3_2, ne_3_2b, ne_4_0, ne_4_0b, ne_4_1, ne_4_1b, ne_4_2, ne_4_2b, ne_5_0, ne_5_0b, ne_5_1, ne_5_1b, ne_5_2, ne_5_2b, ne_6_0, ne_6_0b, ne_6_1, ne_6_1b, ne_6_2, ne_6_2b, ne_7_0, ne_7_0b, ne_7_1, ne_7_1b, ne_7_2, ne_7_2b, cxOf, Cx.nox, Cx.wish, tSeq, tAsg, tC, gName, tIfS, tTest, tOp, tUn, rU, rI0, rI, tVar, tNext, tBreak, tRet, tRetN, tDrop, tLst, tTup, tCons, tNil, tCB, tB, tOr, tAnd, tNot, tIf, tCall, tFor_eq, tLc_eq, iRng1, iRng2, iList, iTup, gTup, gTupH, gUnlH, gCons, gNil, gSub, rSetL, rIxL, rIxT, rIxLH, rIxTH, rSlTS, rCatS, rTupS, rIsiH, rLenS, V.ty.injEq, tyS_non, tyS_bl, tyS_int, tyS_str, tyS_ref, tyO_l, tyO_t, tyO_d, tyO_dt, kit_ll, kit_tt, kit_bb, kit_ii, kit_ib, kit_bi, kit_nt, kit_it, kit_st, kit_bt, kit_lt, kit_dt, kit_ni, kit_si, kit_ti, kit_li, kit_di, kit_nb, kit_ns, kit_is, kit_bs, kit_ss, kit_ts, kit_ls, kit_ds, kit_dd, lenS_ref, lenO_l, lenO_t,  rAppend, tM1, rIxS, tSl, tPart, tNoPart, tBM, tBM0, tDGetS, sDPutS, tTruS, truO_l, truO_t, truS_ref, truS_non, truS_bl, truS_int, tFld, sFld, sFldAug, rAdd, tMeth, tProp, tMake, tMakeK, List.take_succ_cons, List.take_zero, List.drop_succ_cons, List.drop_zero, List.take_nil, tIsN, tNotN, tAndV, tOrV, tNotV, putF, List.lookup, List.any_cons, List.any_nil, Sum.inr.injEq, HO.ins.injEq, HO.dK.injEq, eq_self, beq_self_eq_true, beq_iff_eq, decide_true, decide_false, Bool.or_true, Bool.true_or, Bool.or_false, Bool.false_or, tYes, rEq, rNe, _root_.L2.start, wipe, List.map_cons, List.map_nil, List.length_cons, List.length_nil, List.append_nil, Nat.reduceAdd, Nat.reduceSub, List.replicate_succ, List.replicate_zero, List.cons_append, List.nil_append, List.getElem?_cons_zero, List.getElem?_cons_succ, List.set_cons_zero, List.set_cons_succ, Option.some.injEq, V.int.injEq, V.ref.injEq, V.bl.injEq, V.str.injEq, List.cons.injEq, HO.lst.injEq, HO.tup.injEq, and_assoc, and_true, true_and, exists_eq_left, exists_eq_left', exists_and_left, exists_eq, reduceCtorEq, false_and, and_false, or_false, false_or, exists_false, decide_eq_true_eq, CPow, CDivW, Int.reducePow, Int.reduceLT, Int.reduceLE, Int.reduceNeg, Int.reduceToNat, Int.reduceAbs, Nat.reducePow, Nat.reduceLT, Nat.reduceLeDiff, sizeLine_eq, Int.reduceMul, Int.reduceAdd, Int.reduceSub, Bool.not_eq_true', decide_eq_false_iff_not, scal, Bool.not_true, Bool.not_false, Bool.true_eq_false, Bool.false_eq_true, ite_false, ite_true, if_true, if_false, ite_self, forall_const, atI0, atI1, atI2, atI3, ixN20, ixN21, upd_same, upd_upd, Int.zero_add, CMul, Int.reduceSub, Nat.le_refl, Nat.zero_le, or_true, true_or, exists_const, Int.sub_zero, sp_law_stream, sp_law_transaction])
    intro s0 H1 hs0 st1 s1 _
    refine ⟨st1, fun tv t H2 it g2 => ?_⟩
    (try simp only [ne_0_1, ne_0_1b, ne_0_2, ne_0_2b, ne_0_3, ne_0_3b, ne_0_4, ne_0_4b, ne_0_5, ne_0_5b, ne_0_6, ne_0_6b, ne_0_7, ne_0_7b, ne_1_0, ne_1_0b, ne_1_2, ne_1_2b, ne_1_3, ne_1_3b, ne_1_4, ne_1_4b, ne_1_5, ne_1_5b, ne_1_6, ne_1_6b, ne_1_7, ne_1_7b, ne_2_0, ne_2_0b, ne_2_1, ne_2_1b, ne_2_3, ne_2_3b, ne_2_4, ne_2_4b, ne_2_5, ne_2_5b, ne_2_6, ne_2_6b, ne_2_7, ne_2_7b, ne_3_0, ne_3_0b, ne_3_1, ne_3_1b, ne_3_2, ne_3_2b, ne_4_0, ne_4_0b, ne_4_1, ne_4_1b, ne_4_2, ne_4_2b, ne_5_0, ne_5_0b, ne_5_1, ne_5_1b, ne_5_2, ne_5_2b, ne_6_0, ne_6_0b, ne_6_1, ne_6_1b, ne_6_2, ne_6_2b, ne_7_0, ne_7_0b, ne_7_1, ne_7_1b, ne_7_2, ne_7_2b, cxOf, Cx.nox, Cx.wish, tSeq, tAsg, tC, gName, tIfS, tTest, tOp, tUn, rU, rI0, rI, tVar, tNext, tBreak, tRet, tRetN, tDrop, tLst, tTup, tCons, tNil, tCB, tB, tOr, tAnd, tNot, tIf, tCall, tFor_eq, tLc_eq, iRng1, iRng2, iList, iTup, gTup, gTupH, gUnlH, gCons, gNil, gSub, rSetL, rIxL, rIxT, rIxLH, rIxTH, rSlTS, rCatS, rTupS, rIsiH, rLenS, V.ty.injEq, tyS_non, tyS_bl, tyS_int, tyS_str, tyS_ref, tyO_l, tyO_t, tyO_d, tyO_dt, kit_ll, kit_tt, kit_bb, kit_ii, kit_ib, kit_bi, kit_nt, kit_it, kit_st, kit_bt, kit_lt, kit_dt, kit_ni, kit_si, kit_ti, kit_li, kit_di, kit_nb, kit_ns, kit_is, kit_bs, kit_ss, kit_ts, kit_ls, kit_ds, kit_dd, lenS_ref, lenO_l, lenO_t,  rAppend, tM1, rIxS, tSl, tPart, tNoPart, tBM, tBM0, tDGetS, sDPutS, tTruS, truO_l, truO_t, truS_ref, truS_non, truS_bl, truS_int, tFld, sFld, sFldAug, rAdd, tMeth, tProp, tMake, tMakeK, List.take_succ_cons, List.take_zero, List.drop_succ_cons, List.drop_zero, List.take_nil, tIsN, tNotN, tAndV, tOrV, tNotV, putF, List.lookup, List.any_cons, List.any_nil, Sum.inr.injEq, HO.ins.injEq, HO.dK.injEq, eq_self, beq_self_eq_true, beq_iff_eq, decide_true, decide_false, Bool.or_true, Bool.true_or, Bool.or_false, Bool.false_or, tYes, rEq, rNe, _root_.L2.start, wipe, List.map_cons, List.map_nil, List.length_cons, List.length_nil, List.append_nil, Nat.reduceAdd, Nat.reduceSub, List.replicate_succ, List.replicate_zero, List.cons_append, List.nil_append, List.getElem?_cons_zero, List.getElem?_cons_succ, List.set_cons_zero, List.set_cons_succ, Option.some.injEq, V.int.injEq, V.ref.injEq, V.bl.injEq, V.str.injEq, List.cons.injEq, HO.lst.injEq, HO.tup.injEq, and_assoc, and_true, true_and, exists_eq_left, exists_eq_left', exists_and_left, exists_eq, reduceCtorEq, false_and, and_false, or_false, false_or, exists_false, decide_eq_true_eq, CPow, CDivW, Int.reducePow, Int.reduceLT, Int.reduceLE, Int.reduceNeg, Int.reduceToNat, Int.reduceAbs, Nat.reducePow, Nat.reduceLT, Nat.reduceLeDiff, sizeLine_eq, Int.reduceMul, Int.reduceAdd, Int.reduceSub, Bool.not_eq_true', decide_eq_false_iff_not, scal, Bool.not_true, Bool.not_false, Bool.true_eq_false, Bool.false_eq_true, ite_false, ite_true, if_true, if_false, ite_self, forall_const, atI0, atI1, atI2, atI3, ixN20, ixN21, upd_same, upd_upd, Int.zero_add, CMul, Int.reduceSub, Nat.le_refl, Nat.zero_le, or_true, true_or, exists_const, Int.sub_zero, sp_Marks_init])
    intro p dx hp hdx npdx
    refine ⟨t, imIns0 hp hdx it, fun l H3 hl M3 b3 k hk => ?_⟩
    have nH2 : ∀ b, H2 b = none → H b = none := fun b e => Same.non s1 (g2.none e)
    have s0' := same_made (C := T.C_Marks) hp hdx
    have sH3 : Same H H3 := fun b o e => b3.keep b o (s0' b o (g2.but b o (s1 b o e) (ne_of_none e hs0))) (ne_of_none e (nH2 _ hp)) (ne_of_none e (nH2 _ hp))
    have it3 : Im H3 (tD t) tv := Im.mono (b3.tk1 upd_same) _ _ (imIns0 (C := T.C_Marks) hp hdx it)
    have init : M16 T.C_Marks H (upd H3 k (.lst [])) p l k t none [] tv .non [] 0 := by
      obtain ⟨_, _, _, _, _, _, _, e3, _⟩ := id M3
      exact ⟨M3.same (same_new hk), im_non, imNew hk it3, upd_same, im_nil, (ne_of_none e3 hk).symm, by simp, fun m (z : none = some m) => (by cases z), sH3.trans (same_new hk), nH2 _ hp, nH2 _ (made_none hl), Same.non sH3 hk⟩
    generalize upd H3 k (.lst []) = H4 at init
    clear M3 b3 it3 sH3 s0' nH2 hk hl hp hdx npdx it g2 st1 hs0 s1
    refine ⟨ns.length, .inl ⟨_, init.sm.seq hS, by simp⟩, ?_⟩
    have hmn : (if (51 : Int) < (ns.length : Int) then (51 : Int) else (ns.length : Int)) = ((min 51 ns.length : Nat) : Int) := by split <;> omega
    rw [hmn]
    refine ⟨by omega, by omega, ?_⟩
    rw [show (((min 51 ns.length : Nat) : Int) - 1).toNat = min 51 ns.length - 1 by omega]
    refine Loop.range (fun i σ H' => ∃ (l k : Addr) (own : Option Mrk) (kept : List Mrk) (ov : V) (ws : List V) (b2 b7 b8 b9 : Option V), σ = [some (.ref a), some (.int c), b2, some tv, some (.ref p), some ov, some (.ref k), b7, b8, b9] ∧ M16 T.C_Marks H H' p l k t own kept tv ov ws i)
      ⟨l, k, none, [], .non, [], some (.ref s0), none, none, none, rfl, init⟩ ?_ ?_
    · clear init hmn
      rintro i σ H5 hi ⟨l, k, own, kept, ov, ws, b2, b7, b8, b9, rfl, M5⟩
      have hi2 : i + 1 < ns.length := by omega
      have hx : (ns.map V.int)[i + 1]? = some (.int ns[i + 1]) := by simp [hi2]
      have hx2 := atI_nat hx
      rw [show ((i + 1 : Nat) : Int) = 1 + (i : Int) by omega] at hx2
      (try simp only [ne_0_1, ne_0_1b, ne_0_2, ne_0_2b, ne_0_3, ne_0_3b, ne_0_4, ne_0_4b, ne_0_5, ne_0_5b, ne_0_6, ne_0_6b, ne_0_7, ne_0_7b, ne_1_0, ne_1_0b, ne_1_2, ne_1_2b, ne_1_3, ne_1_3b, ne_1_4, ne_1_4b, ne_1_5, ne_1_5b, ne_1_6, ne_1_6b, ne_1_7, ne_1_7b, ne_2_0, ne_2_0b, ne_2_1, ne_2_1b, ne_2_3, ne_2_3b, ne_2_4, ne_2_4b, ne_2_5, ne_2_5b, ne_2_6, ne_2_6b, ne_2_7, ne_2_7b, ne_3_0, ne_3_0b, ne_3_1, ne_3_1b, ne_3_2, ne_3_2b, ne_4_0, ne_4_0b, ne_4_1, ne_4_1b, ne_4_2, ne_4_2b, ne_5_0, ne_5_0b, ne_5_1, ne_5_1b, ne_5_2, ne_5_2b, ne_6_0, ne_6_0b, ne_6_1, ne_6_1b, ne_6_2, ne_6_2b, ne_7_0, ne_7_0b, ne_7_1, ne_7_1b, ne_7_2, ne_7_2b, cxOf, Cx.nox, Cx.wish, tSeq, tAsg, tC, gName, tIfS, tTest, tOp, tUn, rU, rI0, rI, tVar, tNext, tBreak, tRet, tRetN, tDrop, tLst, tTup, tCons, tNil, tCB, tB, tOr, tAnd, tNot, tIf, tCall, tFor_eq, tLc_eq, iRng1, iRng2, iList, iTup, gTup, gTupH, gUnlH, gCons, gNil, gSub, rSetL, rIxL, rIxT, rIxLH, rIxTH, rSlTS, rCatS, rTupS, rIsiH, rLenS, V.ty.injEq, tyS_non, tyS_bl, tyS_int, tyS_str, tyS_ref, tyO_l, tyO_t, tyO_d, tyO_dt, kit_ll, kit_tt, kit_bb, kit_ii, kit_ib, kit_bi, kit_nt, kit_it, kit_st, kit_bt, kit_lt, kit_dt, kit_ni, kit_si, kit_ti, kit_li, kit_di, kit_nb, kit_ns, kit_is, kit_bs, kit_ss, kit_ts, kit_ls, kit_ds, kit_dd, lenS_ref, lenO_l, lenO_t,  rAppend, tM1, rIxS, tSl, tPart, tNoPart, tBM, tBM0, tDGetS, sDPutS, tTruS, truO_l, truO_t, truS_ref, truS_non, truS_bl, truS_int, tFld, sFld, sFldAug, rAdd, tMeth, tProp, tMake, tMakeK, List.take_succ_cons, List.take_zero, List.drop_succ_cons, List.drop_zero, List.take_nil, tIsN, tNotN, tAndV, tOrV, tNotV, putF, List.lookup, List.any_cons, List.any_nil, Sum.inr.injEq, HO.ins.injEq, HO.dK.injEq, eq_self, beq_self_eq_true, beq_iff_eq, decide_true, decide_false, Bool.or_true, Bool.true_or, Bool.or_false, Bool.false_or, tYes, rEq, rNe, _root_.L2.start, wipe, List.map_cons, List.map_nil, List.length_cons, List.length_nil, List.append_nil, Nat.reduceAdd, Nat.reduceSub, List.replicate_succ, List.replicate_zero, List.cons_append, List.nil_append, List.getElem?_cons_zero, List.getElem?_cons_succ, List.set_cons_zero, List.set_cons_succ, Option.some.injEq, V.int.injEq, V.ref.injEq, V.bl.injEq, V.str.injEq, List.cons.injEq, HO.lst.injEq, HO.tup.injEq, and_assoc, and_true, true_and, exists_eq_left, exists_eq_left', exists_and_left, exists_eq, reduceCtorEq, false_and, and_false, or_false, false_or, exists_false, decide_eq_true_eq, CPow, CDivW, Int.reducePow, Int.reduceLT, Int.reduceLE, Int.reduceNeg, Int.reduceToNat, Int.reduceAbs, Nat.reducePow, Nat.reduceLT, Nat.reduceLeDiff, sizeLine_eq, Int.reduceMul, Int.reduceAdd, Int.reduceSub, Bool.not_eq_true', decide_eq_false_iff_not, scal, Bool.not_true, Bool.not_false, Bool.true_eq_false, Bool.false_eq_true, ite_false, ite_true, if_true, if_false, ite_self, forall_const, atI0, atI1, atI2, atI3, ixN20, ixN21, upd_same, upd_upd, Int.zero_add, CMul, Int.reduceSub, Nat.le_refl, Nat.zero_le, or_true, true_or, exists_const, Int.sub_zero, sp_law_stream, sp_law_next])
      refine ⟨_, M5.sm.seq hS, _, hx2, ns[i + 1], rfl, fun s0 H6 hs0 st6 s6 _ => ⟨st6, fun w H7 w0 w1 g7 => ?_⟩⟩
      have hs0n := Same.non M5.sm hs0
      obtain ⟨dx5, tv5, ov5, ws5, hp5, _, _, hl5, _⟩ := id M5.m
      have nps := ne_of_none hp5 hs0
      have nls := ne_of_none hl5 hs0
      have nks := ne_of_none M5.hk hs0
      have M7 := (M5.same s6).gn g7 nps nls nks hs0n
      have nn7 : ∀ b, H7 b = none → H b = none := fun b e => Same.non M7.sm e
      have st7 := g7.st
      clear M5 hp5 hl5 s6 g7
      refine cutI (fun σ H' => ∃ (l k : Addr) (own : Option Mrk) (kept : List Mrk) (ov : V) (ws : List V), σ = [some (.ref a), some (.int c), some (.ref s0), some tv, some (.ref p), some ov, some (.ref k), some (.int (1 + i)), some (.int w), b9] ∧ M16 T.C_Marks H H' p l k t own kept tv ov ws (i + 1)) ?_ ?_
      · (try simp only [ne_0_1, ne_0_1b, ne_0_2, ne_0_2b, ne_0_3, ne_0_3b, ne_0_4, ne_0_4b, ne_0_5, ne_0_5b, ne_0_6, ne_0_6b, ne_0_7, ne_0_7b, ne_1_0, ne_1_0b, ne_1_2, ne_1_2b, ne_1_3, ne_1_3b, ne_1_4, ne_1_4b, ne_1_5, ne_1_5b, ne_1_6, ne_1_6b, ne_1_7, ne_1_7b, ne_2_0, ne_2_0b, ne_2_1, ne_2_1b, ne_2_3, ne_2_3b, ne_2_4, ne_2_4b, ne_2_5, ne_2_5b, ne_2_6, ne_2_6b, ne_2_7, ne_2_7b, ne_3_0, ne_3_0b, ne_3_1, ne_3_1b, ne_3_2, ne_3_2b, ne_4_0, ne_4_0b, ne_4_1, ne_4_1b, ne_4_2, ne_4_2b, ne_5_0, ne_5_0b, ne_5_1, ne_5_1b, ne_5_2, ne_5_2b, ne_6_0, ne_6_0b, ne_6_1, ne_6_1b, ne_6_2, ne_6_2b, ne_7_0, ne_7_0b, ne_7_1, ne_7_1b, ne_7_2, ne_7_2b, cxOf, Cx.nox, Cx.wish, tSeq, tAsg, tC, gName, tIfS, tTest, tOp, tUn, rU, rI0, rI, tVar, tNext, tBreak, tRet, tRetN, tDrop, tLst, tTup, tCons, tNil, tCB, tB, tOr, tAnd, tNot, tIf, tCall, tFor_eq, tLc_eq, iRng1, iRng2, iList, iTup, gTup, gTupH, gUnlH, gCons, gNil, gSub, rSetL, rIxL, rIxT, rIxLH, rIxTH, rSlTS, rCatS, rTupS, rIsiH, rLenS, V.ty.injEq, tyS_non, tyS_bl, tyS_int, tyS_str, tyS_ref, tyO_l, tyO_t, tyO_d, tyO_dt, kit_ll, kit_tt, kit_bb, kit_ii, kit_ib, kit_bi, kit_nt, kit_it, kit_st, kit_bt, kit_lt, kit_dt, kit_ni, kit_si, kit_ti, kit_li, kit_di, kit_nb, kit_ns, kit_is, kit_bs, kit_ss, kit_ts, kit_ls, kit_ds, kit_dd, lenS_ref, lenO_l, lenO_t,  rAppend, tM1, rIxS, tSl, tPart, tNoPart, tBM, tBM0, tDGetS, sDPutS, tTruS, truO_l, truO_t, truS_ref, truS_non, truS_bl, truS_int, tFld, sFld, sFldAug, rAdd, tMeth, tProp, tMake, tMakeK, List.take_succ_cons, List.take_zero, List.drop_succ_cons, List.drop_zero, List.take_nil, tIsN, tNotN, tAndV, tOrV, tNotV, putF, List.lookup, List.any_cons, List.any_nil, Sum.inr.injEq, HO.ins.injEq, HO.dK.injEq, eq_self, beq_self_eq_true, beq_iff_eq, decide_true, decide_false, Bool.or_true, Bool.true_or, Bool.or_false, Bool.false_or, tYes, rEq, rNe, _root_.L2.start, wipe, List.map_cons, List.map_nil, List.length_cons, List.length_nil, List.append_nil, Nat.reduceAdd, Nat.reduceSub, List.replicate_succ, List.replicate_zero, List.cons_append, List.nil_append, List.getElem?_cons_zero, List.getElem?_cons_succ, List.set_cons_zero, List.set_cons_succ, Option.some.injEq, V.int.injEq, V.ref.injEq, V.bl.injEq, V.str.injEq, List.cons.injEq, HO.lst.injEq, HO.tup.injEq, and_assoc, and_true, true_and, exists_eq_left, exists_eq_left', exists_and_left, exists_eq, reduceCtorEq, false_and, and_false, or_false, false_or, exists_false, decide_eq_true_eq, CPow, CDivW, Int.reducePow, Int.reduceLT, Int.reduceLE, Int.reduceNeg, Int.reduceToNat, Int.reduceAbs, Nat.reducePow, Nat.reduceLT, Nat.reduceLeDiff, sizeLine_eq, Int.reduceMul, Int.reduceAdd, Int.reduceSub, Bool.not_eq_true', decide_eq_false_iff_not, scal, Bool.not_true, Bool.not_false, Bool.true_eq_false, Bool.false_eq_true, ite_false, ite_true, if_true, if_false, ite_self, forall_const, atI0, atI1, atI2, atI3, ixN20, ixN21, upd_same, upd_upd, Int.zero_add, CMul, Int.reduceSub, Nat.le_refl, Nat.zero_le, or_true, true_or, exists_const, Int.sub_zero, sp_law_mark, sp_Marks_begin, sp_law_next, sp_Marks_end])
        by_cases e0 : w = 0
        · rw [if_pos e0]
          intro q1 hq1
          have M8 := M7.same (same_new hq1 (o := .tup [tv]))
          refine ⟨st7.new hq1, fun v m H8 im g8 => ?_⟩
          have M9 := M8.gn g8 nps nls nks hs0n
          have hq18 : H8 q1 = some (.tup [tv]) := g8.at upd_same (St2.nn st7 hq1)
          obtain ⟨a1, tm, km, rfl, ha1, itm, ikm⟩ := mD_at im
          refine ⟨_, rfl, _, ha1, fun q2 H9 s9 hq2 => ?_⟩
          rw [show (1 : Int) = ((1 : Nat) : Int) from rfl, cutV_from] at hq2
          refine ⟨_, s9 _ _ hq18, _, hq2, by simp, fun q3 H10 s10 hq3 q4 hq4 => ?_⟩
          have M10 := (M9.same s9).same s10
          have M11 := M10.same (same_new hq4 (o := .lst []))
          have im11 : Im (upd H10 q4 (.lst [])) (mD { m with t := t }) (.ref q3) :=
            im_tup (get_new hq4 hq3) (im_cons M11.it (im_cons im_int (im_cons (imNew hq4 (Same.im s10 (Same.im s9 ikm))) (im_cons im_int im_nil))))
          obtain ⟨dx11, tv11, ov11, ws11, hp11, _⟩ := id M11.m
          (try simp only [ne_0_1, ne_0_1b, ne_0_2, ne_0_2b, ne_0_3, ne_0_3b, ne_0_4, ne_0_4b, ne_0_5, ne_0_5b, ne_0_6, ne_0_6b, ne_0_7, ne_0_7b, ne_1_0, ne_1_0b, ne_1_2, ne_1_2b, ne_1_3, ne_1_3b, ne_1_4, ne_1_4b, ne_1_5, ne_1_5b, ne_1_6, ne_1_6b, ne_1_7, ne_1_7b, ne_2_0, ne_2_0b, ne_2_1, ne_2_1b, ne_2_3, ne_2_3b, ne_2_4, ne_2_4b, ne_2_5, ne_2_5b, ne_2_6, ne_2_6b, ne_2_7, ne_2_7b, ne_3_0, ne_3_0b, ne_3_1, ne_3_1b, ne_3_2, ne_3_2b, ne_4_0, ne_4_0b, ne_4_1, ne_4_1b, ne_4_2, ne_4_2b, ne_5_0, ne_5_0b, ne_5_1, ne_5_1b, ne_5_2, ne_5_2b, ne_6_0, ne_6_0b, ne_6_1, ne_6_1b, ne_6_2, ne_6_2b, ne_7_0, ne_7_0b, ne_7_1, ne_7_1b, ne_7_2, ne_7_2b, cxOf, Cx.nox, Cx.wish, tSeq, tAsg, tC, gName, tIfS, tTest, tOp, tUn, rU, rI0, rI, tVar, tNext, tBreak, tRet, tRetN, tDrop, tLst, tTup, tCons, tNil, tCB, tB, tOr, tAnd, tNot, tIf, tCall, tFor_eq, tLc_eq, iRng1, iRng2, iList, iTup, gTup, gTupH, gUnlH, gCons, gNil, gSub, rSetL, rIxL, rIxT, rIxLH, rIxTH, rSlTS, rCatS, rTupS, rIsiH, rLenS, V.ty.injEq, tyS_non, tyS_bl, tyS_int, tyS_str, tyS_ref, tyO_l, tyO_t, tyO_d, tyO_dt, kit_ll, kit_tt, kit_bb, kit_ii, kit_ib, kit_bi, kit_nt, kit_it, kit_st, kit_bt, kit_lt, kit_dt, kit_ni, kit_si, kit_ti, kit_li, kit_di, kit_nb, kit_ns, kit_is, kit_bs, kit_ss, kit_ts, kit_ls, kit_ds, kit_dd, lenS_ref, lenO_l, lenO_t,  rAppend, tM1, rIxS, tSl, tPart, tNoPart, tBM, tBM0, tDGetS, sDPutS, tTruS, truO_l, truO_t, truS_ref, truS_non, truS_bl, truS_int, tFld, sFld, sFldAug, rAdd, tMeth, tProp, tMake, tMakeK, List.take_succ_cons, List.take_zero, List.drop_succ_cons, List.drop_zero, List.take_nil, tIsN, tNotN, tAndV, tOrV, tNotV, putF, List.lookup, List.any_cons, List.any_nil, Sum.inr.injEq, HO.ins.injEq, HO.dK.injEq, eq_self, beq_self_eq_true, beq_iff_eq, decide_true, decide_false, Bool.or_true, Bool.true_or, Bool.or_false, Bool.false_or, tYes, rEq, rNe, _root_.L2.start, wipe, List.map_cons, List.map_nil, List.length_cons, List.length_nil, List.append_nil, Nat.reduceAdd, Nat.reduceSub, List.replicate_succ, List.replicate_zero, List.cons_append, List.nil_append, List.getElem?_cons_zero, List.getElem?_cons_succ, List.set_cons_zero, List.set_cons_succ, Option.some.injEq, V.int.injEq, V.ref.injEq, V.bl.injEq, V.str.injEq, List.cons.injEq, HO.lst.injEq, HO.tup.injEq, and_assoc, and_true, true_and, exists_eq_left, exists_eq_left', exists_and_left, exists_eq, reduceCtorEq, false_and, and_false, or_false, false_or, exists_false, decide_eq_true_eq, CPow, CDivW, Int.reducePow, Int.reduceLT, Int.reduceLE, Int.reduceNeg, Int.reduceToNat, Int.reduceAbs, Nat.reducePow, Nat.reduceLT, Nat.reduceLeDiff, sizeLine_eq, Int.reduceMul, Int.reduceAdd, Int.reduceSub, Bool.not_eq_true', decide_eq_false_iff_not, scal, Bool.not_true, Bool.not_false, Bool.true_eq_false, Bool.false_eq_true, ite_false, ite_true, if_true, if_false, ite_self, forall_const, atI0, atI1, atI2, atI3, ixN20, ixN21, upd_same, upd_upd, Int.zero_add, CMul, Int.reduceSub, Nat.le_refl, Nat.zero_le, or_true, true_or, exists_const, Int.sub_zero, hp11, mkF])
          refine ⟨l, t, own, kept, M11.m, _, im11, fun l' H12 hl' M12 b12 => ?_⟩
          (try simp only [ne_0_1, ne_0_1b, ne_0_2, ne_0_2b, ne_0_3, ne_0_3b, ne_0_4, ne_0_4b, ne_0_5, ne_0_5b, ne_0_6, ne_0_6b, ne_0_7, ne_0_7b, ne_1_0, ne_1_0b, ne_1_2, ne_1_2b, ne_1_3, ne_1_3b, ne_1_4, ne_1_4b, ne_1_5, ne_1_5b, ne_1_6, ne_1_6b, ne_1_7, ne_1_7b, ne_2_0, ne_2_0b, ne_2_1, ne_2_1b, ne_2_3, ne_2_3b, ne_2_4, ne_2_4b, ne_2_5, ne_2_5b, ne_2_6, ne_2_6b, ne_2_7, ne_2_7b, ne_3_0, ne_3_0b, ne_3_1, ne_3_1b, ne_3_2, ne_3_2b, ne_4_0, ne_4_0b, ne_4_1, ne_4_1b, ne_4_2, ne_4_2b, ne_5_0, ne_5_0b, ne_5_1, ne_5_1b, ne_5_2, ne_5_2b, ne_6_0, ne_6_0b, ne_6_1, ne_6_1b, ne_6_2, ne_6_2b, ne_7_0, ne_7_0b, ne_7_1, ne_7_1b, ne_7_2, ne_7_2b, cxOf, Cx.nox, Cx.wish, tSeq, tAsg, tC, gName, tIfS, tTest, tOp, tUn, rU, rI0, rI, tVar, tNext, tBreak, tRet, tRetN, tDrop, tLst, tTup, tCons, tNil, tCB, tB, tOr, tAnd, tNot, tIf, tCall, tFor_eq, tLc_eq, iRng1, iRng2, iList, iTup, gTup, gTupH, gUnlH, gCons, gNil, gSub, rSetL, rIxL, rIxT, rIxLH, rIxTH, rSlTS, rCatS, rTupS, rIsiH, rLenS, V.ty.injEq, tyS_non, tyS_bl, tyS_int, tyS_str, tyS_ref, tyO_l, tyO_t, tyO_d, tyO_dt, kit_ll, kit_tt, kit_bb, kit_ii, kit_ib, kit_bi, kit_nt, kit_it, kit_st, kit_bt, kit_lt, kit_dt, kit_ni, kit_si, kit_ti, kit_li, kit_di, kit_nb, kit_ns, kit_is, kit_bs, kit_ss, kit_ts, kit_ls, kit_ds, kit_dd, lenS_ref, lenO_l, lenO_t,  rAppend, tM1, rIxS, tSl, tPart, tNoPart, tBM, tBM0, tDGetS, sDPutS, tTruS, truO_l, truO_t, truS_ref, truS_non, truS_bl, truS_int, tFld, sFld, sFldAug, rAdd, tMeth, tProp, tMake, tMakeK, List.take_succ_cons, List.take_zero, List.drop_succ_cons, List.drop_zero, List.take_nil, tIsN, tNotN, tAndV, tOrV, tNotV, putF, List.lookup, List.any_cons, List.any_nil, Sum.inr.injEq, HO.ins.injEq, HO.dK.injEq, eq_self, beq_self_eq_true, beq_iff_eq, decide_true, decide_false, Bool.or_true, Bool.true_or, Bool.or_false, Bool.false_or, tYes, rEq, rNe, _root_.L2.start, wipe, List.map_cons, List.map_nil, List.length_cons, List.length_nil, List.append_nil, Nat.reduceAdd, Nat.reduceSub, List.replicate_succ, List.replicate_zero, List.cons_append, List.nil_append, List.getElem?_cons_zero, List.getElem?_cons_succ, List.set_cons_zero, List.set_cons_succ, Option.some.injEq, V.int.injEq, V.ref.injEq, V.bl.injEq, V.str.injEq, List.cons.injEq, HO.lst.injEq, HO.tup.injEq, and_assoc, and_true, true_and, exists_eq_left, exists_eq_left', exists_and_left, exists_eq, reduceCtorEq, false_and, and_false, or_false, false_or, exists_false, decide_eq_true_eq, CPow, CDivW, Int.reducePow, Int.reduceLT, Int.reduceLE, Int.reduceNeg, Int.reduceToNat, Int.reduceAbs, Nat.reducePow, Nat.reduceLT, Nat.reduceLeDiff, sizeLine_eq, Int.reduceMul, Int.reduceAdd, Int.reduceSub, Bool.not_eq_true', decide_eq_false_iff_not, scal, Bool.not_true, Bool.not_false, Bool.true_eq_false, Bool.false_eq_true, ite_false, ite_true, if_true, if_false, ite_self, forall_const, atI0, atI1, atI2, atI3, ixN20, ixN21, upd_same, upd_upd, Int.zero_add, CMul, Int.reduceSub, Nat.le_refl, Nat.zero_le, or_true, true_or, exists_const, Int.sub_zero])
          exact ⟨l', some { m with t := t }, [], [], (M11.anew hl' M12 b12 upd_same (Same.non M10.sm hq4) im11 (fun m' (e : some _ = some m') => (by cases e; rfl))).up⟩
        · rw [if_neg e0]
          have TK : ∀ H8, M16 T.C_Marks H H8 p l k t own kept tv ov ws i → St2 H8 s0 → if ¬ov = V.non then
              sp_law_taken T.C_Marks [V.ref p, ov, V.ref k, V.ref s0] H8 (fun x H1 => if x = V.non then Q (V.bl false) H1
                else ∃ l k, x = V.ref k ∧ ∃ x x_1 x_2, M16 T.C_Marks H H1 p l k t x x_1 tv ov x_2 (i + 1)) E0
            else ∃ l x x_1 x_2, M16 T.C_Marks H H8 p l k t x x_1 tv ov x_2 (i + 1) := by
            intro H8 M8 st8
            cases own with
            | none =>
              have := oD_none M8.io
              subst this
              (try simp only [ne_0_1, ne_0_1b, ne_0_2, ne_0_2b, ne_0_3, ne_0_3b, ne_0_4, ne_0_4b, ne_0_5, ne_0_5b, ne_0_6, ne_0_6b, ne_0_7, ne_0_7b, ne_1_0, ne_1_0b, ne_1_2, ne_1_2b, ne_1_3, ne_1_3b, ne_1_4, ne_1_4b, ne_1_5, ne_1_5b, ne_1_6, ne_1_6b, ne_1_7, ne_1_7b, ne_2_0, ne_2_0b, ne_2_1, ne_2_1b, ne_2_3, ne_2_3b, ne_2_4, ne_2_4b, ne_2_5, ne_2_5b, ne_2_6, ne_2_6b, ne_2_7, ne_2_7b, ne_3_0, ne_3_0b, ne_3_1, ne_3_1b, ne_3_2, ne_3_2b, ne_4_0, ne_4_0b, ne_4_1, ne_4_1b, ne_4_2, ne_4_2b, ne_5_0, ne_5_0b, ne_5_1, ne_5_1b, ne_5_2, ne_5_2b, ne_6_0, ne_6_0b, ne_6_1, ne_6_1b, ne_6_2, ne_6_2b, ne_7_0, ne_7_0b, ne_7_1, ne_7_1b, ne_7_2, ne_7_2b, cxOf, Cx.nox, Cx.wish, tSeq, tAsg, tC, gName, tIfS, tTest, tOp, tUn, rU, rI0, rI, tVar, tNext, tBreak, tRet, tRetN, tDrop, tLst, tTup, tCons, tNil, tCB, tB, tOr, tAnd, tNot, tIf, tCall, tFor_eq, tLc_eq, iRng1, iRng2, iList, iTup, gTup, gTupH, gUnlH, gCons, gNil, gSub, rSetL, rIxL, rIxT, rIxLH, rIxTH, rSlTS, rCatS, rTupS, rIsiH, rLenS, V.ty.injEq, tyS_non, tyS_bl, tyS_int, tyS_str, tyS_ref, tyO_l, tyO_t, tyO_d, tyO_dt, kit_ll, kit_tt, kit_bb, kit_ii, kit_ib, kit_bi, kit_nt, kit_it, kit_st, kit_bt, kit_lt, kit_dt, kit_ni, kit_si, kit_ti, kit_li, kit_di, kit_nb, kit_ns, kit_is, kit_bs, kit_ss, kit_ts, kit_ls, kit_ds, kit_dd, lenS_ref, lenO_l, lenO_t,  rAppend, tM1, rIxS, tSl, tPart, tNoPart, tBM, tBM0, tDGetS, sDPutS, tTruS, truO_l, truO_t, truS_ref, truS_non, truS_bl, truS_int, tFld, sFld, sFldAug, rAdd, tMeth, tProp, tMake, tMakeK, List.take_succ_cons, List.take_zero, List.drop_succ_cons, List.drop_zero, List.take_nil, tIsN, tNotN, tAndV, tOrV, tNotV, putF, List.lookup, List.any_cons, List.any_nil, Sum.inr.injEq, HO.ins.injEq, HO.dK.injEq, eq_self, beq_self_eq_true, beq_iff_eq, decide_true, decide_false, Bool.or_true, Bool.true_or, Bool.or_false, Bool.false_or, tYes, rEq, rNe, _root_.L2.start, wipe, List.map_cons, List.map_nil, List.length_cons, List.length_nil, List.append_nil, Nat.reduceAdd, Nat.reduceSub, List.replicate_succ, List.replicate_zero, List.cons_append, List.nil_append, List.getElem?_cons_zero, List.getElem?_cons_succ, List.set_cons_zero, List.set_cons_succ, Option.some.injEq, V.int.injEq, V.ref.injEq, V.bl.injEq, V.str.injEq, List.cons.injEq, HO.lst.injEq, HO.tup.injEq, and_assoc, and_true, true_and, exists_eq_left, exists_eq_left', exists_and_left, exists_eq, reduceCtorEq, false_and, and_false, or_false, false_or, exists_false, decide_eq_true_eq, CPow, CDivW, Int.reducePow, Int.reduceLT, Int.reduceLE, Int.reduceNeg, Int.reduceToNat, Int.reduceAbs, Nat.reducePow, Nat.reduceLT, Nat.reduceLeDiff, sizeLine_eq, Int.reduceMul, Int.reduceAdd, Int.reduceSub, Bool.not_eq_true', decide_eq_false_iff_not, scal, Bool.not_true, Bool.not_false, Bool.true_eq_false, Bool.false_eq_true, ite_false, ite_true, if_true, if_false, ite_self, forall_const, atI0, atI1, atI2, atI3, ixN20, ixN21, upd_same, upd_upd, Int.zero_add, CMul, Int.reduceSub, Nat.le_refl, Nat.zero_le, or_true, true_or, exists_const, Int.sub_zero])
              exact ⟨l, none, kept, ws, M8.up⟩
            | some m =>
              obtain ⟨a1, tm, km, rfl, ha1, itm, ikm⟩ := mD_at M8.io
              have hln := M8.len
              (try simp only [ne_0_1, ne_0_1b, ne_0_2, ne_0_2b, ne_0_3, ne_0_3b, ne_0_4, ne_0_4b, ne_0_5, ne_0_5b, ne_0_6, ne_0_6b, ne_0_7, ne_0_7b, ne_1_0, ne_1_0b, ne_1_2, ne_1_2b, ne_1_3, ne_1_3b, ne_1_4, ne_1_4b, ne_1_5, ne_1_5b, ne_1_6, ne_1_6b, ne_1_7, ne_1_7b, ne_2_0, ne_2_0b, ne_2_1, ne_2_1b, ne_2_3, ne_2_3b, ne_2_4, ne_2_4b, ne_2_5, ne_2_5b, ne_2_6, ne_2_6b, ne_2_7, ne_2_7b, ne_3_0, ne_3_0b, ne_3_1, ne_3_1b, ne_3_2, ne_3_2b, ne_4_0, ne_4_0b, ne_4_1, ne_4_1b, ne_4_2, ne_4_2b, ne_5_0, ne_5_0b, ne_5_1, ne_5_1b, ne_5_2, ne_5_2b, ne_6_0, ne_6_0b, ne_6_1, ne_6_1b, ne_6_2, ne_6_2b, ne_7_0, ne_7_0b, ne_7_1, ne_7_1b, ne_7_2, ne_7_2b, cxOf, Cx.nox, Cx.wish, tSeq, tAsg, tC, gName, tIfS, tTest, tOp, tUn, rU, rI0, rI, tVar, tNext, tBreak, tRet, tRetN, tDrop, tLst, tTup, tCons, tNil, tCB, tB, tOr, tAnd, tNot, tIf, tCall, tFor_eq, tLc_eq, iRng1, iRng2, iList, iTup, gTup, gTupH, gUnlH, gCons, gNil, gSub, rSetL, rIxL, rIxT, rIxLH, rIxTH, rSlTS, rCatS, rTupS, rIsiH, rLenS, V.ty.injEq, tyS_non, tyS_bl, tyS_int, tyS_str, tyS_ref, tyO_l, tyO_t, tyO_d, tyO_dt, kit_ll, kit_tt, kit_bb, kit_ii, kit_ib, kit_bi, kit_nt, kit_it, kit_st, kit_bt, kit_lt, kit_dt, kit_ni, kit_si, kit_ti, kit_li, kit_di, kit_nb, kit_ns, kit_is, kit_bs, kit_ss, kit_ts, kit_ls, kit_ds, kit_dd, lenS_ref, lenO_l, lenO_t,  rAppend, tM1, rIxS, tSl, tPart, tNoPart, tBM, tBM0, tDGetS, sDPutS, tTruS, truO_l, truO_t, truS_ref, truS_non, truS_bl, truS_int, tFld, sFld, sFldAug, rAdd, tMeth, tProp, tMake, tMakeK, List.take_succ_cons, List.take_zero, List.drop_succ_cons, List.drop_zero, List.take_nil, tIsN, tNotN, tAndV, tOrV, tNotV, putF, List.lookup, List.any_cons, List.any_nil, Sum.inr.injEq, HO.ins.injEq, HO.dK.injEq, eq_self, beq_self_eq_true, beq_iff_eq, decide_true, decide_false, Bool.or_true, Bool.true_or, Bool.or_false, Bool.false_or, tYes, rEq, rNe, _root_.L2.start, wipe, List.map_cons, List.map_nil, List.length_cons, List.length_nil, List.append_nil, Nat.reduceAdd, Nat.reduceSub, List.replicate_succ, List.replicate_zero, List.cons_append, List.nil_append, List.getElem?_cons_zero, List.getElem?_cons_succ, List.set_cons_zero, List.set_cons_succ, Option.some.injEq, V.int.injEq, V.ref.injEq, V.bl.injEq, V.str.injEq, List.cons.injEq, HO.lst.injEq, HO.tup.injEq, and_assoc, and_true, true_and, exists_eq_left, exists_eq_left', exists_and_left, exists_eq, reduceCtorEq, false_and, and_false, or_false, false_or, exists_false, decide_eq_true_eq, CPow, CDivW, Int.reducePow, Int.reduceLT, Int.reduceLE, Int.reduceNeg, Int.reduceToNat, Int.reduceAbs, Nat.reducePow, Nat.reduceLT, Nat.reduceLeDiff, sizeLine_eq, Int.reduceMul, Int.reduceAdd, Int.reduceSub, Bool.not_eq_true', decide_eq_false_iff_not, scal, Bool.not_true, Bool.not_false, Bool.true_eq_false, Bool.false_eq_true, ite_false, ite_true, if_true, if_false, ite_self, forall_const, atI0, atI1, atI2, atI3, ixN20, ixN21, upd_same, upd_upd, Int.zero_add, CMul, Int.reduceSub, Nat.le_refl, Nat.zero_le, or_true, true_or, exists_const, Int.sub_zero, sp_law_taken])
              refine ⟨l, t, m, kept, M8.m, M8.ho m rfl, M8.io, ws, M8.hk, M8.iw, M8.nkl, nks, nls, st8, by omega, fun k' ws' kept' H9 M9 hk' iw' hkl' ok nkl' io' fr => ?_⟩
              (try simp only [ne_0_1, ne_0_1b, ne_0_2, ne_0_2b, ne_0_3, ne_0_3b, ne_0_4, ne_0_4b, ne_0_5, ne_0_5b, ne_0_6, ne_0_6b, ne_0_7, ne_0_7b, ne_1_0, ne_1_0b, ne_1_2, ne_1_2b, ne_1_3, ne_1_3b, ne_1_4, ne_1_4b, ne_1_5, ne_1_5b, ne_1_6, ne_1_6b, ne_1_7, ne_1_7b, ne_2_0, ne_2_0b, ne_2_1, ne_2_1b, ne_2_3, ne_2_3b, ne_2_4, ne_2_4b, ne_2_5, ne_2_5b, ne_2_6, ne_2_6b, ne_2_7, ne_2_7b, ne_3_0, ne_3_0b, ne_3_1, ne_3_1b, ne_3_2, ne_3_2b, ne_4_0, ne_4_0b, ne_4_1, ne_4_1b, ne_4_2, ne_4_2b, ne_5_0, ne_5_0b, ne_5_1, ne_5_1b, ne_5_2, ne_5_2b, ne_6_0, ne_6_0b, ne_6_1, ne_6_1b, ne_6_2, ne_6_2b, ne_7_0, ne_7_0b, ne_7_1, ne_7_1b, ne_7_2, ne_7_2b, cxOf, Cx.nox, Cx.wish, tSeq, tAsg, tC, gName, tIfS, tTest, tOp, tUn, rU, rI0, rI, tVar, tNext, tBreak, tRet, tRetN, tDrop, tLst, tTup, tCons, tNil, tCB, tB, tOr, tAnd, tNot, tIf, tCall, tFor_eq, tLc_eq, iRng1, iRng2, iList, iTup, gTup, gTupH, gUnlH, gCons, gNil, gSub, rSetL, rIxL, rIxT, rIxLH, rIxTH, rSlTS, rCatS, rTupS, rIsiH, rLenS, V.ty.injEq, tyS_non, tyS_bl, tyS_int, tyS_str, tyS_ref, tyO_l, tyO_t, tyO_d, tyO_dt, kit_ll, kit_tt, kit_bb, kit_ii, kit_ib, kit_bi, kit_nt, kit_it, kit_st, kit_bt, kit_lt, kit_dt, kit_ni, kit_si, kit_ti, kit_li, kit_di, kit_nb, kit_ns, kit_is, kit_bs, kit_ss, kit_ts, kit_ls, kit_ds, kit_dd, lenS_ref, lenO_l, lenO_t,  rAppend, tM1, rIxS, tSl, tPart, tNoPart, tBM, tBM0, tDGetS, sDPutS, tTruS, truO_l, truO_t, truS_ref, truS_non, truS_bl, truS_int, tFld, sFld, sFldAug, rAdd, tMeth, tProp, tMake, tMakeK, List.take_succ_cons, List.take_zero, List.drop_succ_cons, List.drop_zero, List.take_nil, tIsN, tNotN, tAndV, tOrV, tNotV, putF, List.lookup, List.any_cons, List.any_nil, Sum.inr.injEq, HO.ins.injEq, HO.dK.injEq, eq_self, beq_self_eq_true, beq_iff_eq, decide_true, decide_false, Bool.or_true, Bool.true_or, Bool.or_false, Bool.false_or, tYes, rEq, rNe, _root_.L2.start, wipe, List.map_cons, List.map_nil, List.length_cons, List.length_nil, List.append_nil, Nat.reduceAdd, Nat.reduceSub, List.replicate_succ, List.replicate_zero, List.cons_append, List.nil_append, List.getElem?_cons_zero, List.getElem?_cons_succ, List.set_cons_zero, List.set_cons_succ, Option.some.injEq, V.int.injEq, V.ref.injEq, V.bl.injEq, V.str.injEq, List.cons.injEq, HO.lst.injEq, HO.tup.injEq, and_assoc, and_true, true_and, exists_eq_left, exists_eq_left', exists_and_left, exists_eq, reduceCtorEq, false_and, and_false, or_false, false_or, exists_false, decide_eq_true_eq, CPow, CDivW, Int.reducePow, Int.reduceLT, Int.reduceLE, Int.reduceNeg, Int.reduceToNat, Int.reduceAbs, Nat.reducePow, Nat.reduceLT, Nat.reduceLeDiff, sizeLine_eq, Int.reduceMul, Int.reduceAdd, Int.reduceSub, Bool.not_eq_true', decide_eq_false_iff_not, scal, Bool.not_true, Bool.not_false, Bool.true_eq_false, Bool.false_eq_true, ite_false, ite_true, if_true, if_false, ite_self, forall_const, atI0, atI1, atI2, atI3, ixN20, ixN21, upd_same, upd_upd, Int.zero_add, CMul, Int.reduceSub, Nat.le_refl, Nat.zero_le, or_true, true_or, exists_const, Int.sub_zero])
              obtain ⟨dx8, tv8, ov8, ws8, hp8, it8, io8, hl8, iw8⟩ := id M8.m
              obtain ⟨sx, sy, hs8⟩ := id st8
              have tk : Tk H8 H9 := fun b xs e => fr b _ e (fun z => by subst z; rw [hs8] at e; cases e) (fun z => by subst z; rw [hp8] at e; cases e) (fun z => by subst z; rw [hl8] at e; cases e)
              refine ⟨l, some m, kept', ws', M9, io', Im.mono tk _ _ M8.it, hk', iw', nkl', by omega, M8.ho, fun b o e => fr b o (M8.sm b o e) (ne_of_none e hs0n) (ne_of_none e M8.np) (ne_of_none e M8.nl), M8.np, M8.nl, ?_⟩
              rcases ok with z | z
              · rw [z]; exact M8.nk
              · exact Same.non M8.sm z
          by_cases e1 : w = 1
          · rw [if_pos e1]
            refine ⟨st7, fun u H8 u0 u1 g8 => ?_⟩
            have M8 := M7.gn g8 nps nls nks hs0n
            by_cases eu : u = 0
            · rw [if_pos eu]
              intro q4 hq4
              have M11 := M8.same (same_new hq4 (o := .lst []))
              obtain ⟨dx11, tv11, ov11, ws11, hp11, _⟩ := id M11.m
              (try simp only [ne_0_1, ne_0_1b, ne_0_2, ne_0_2b, ne_0_3, ne_0_3b, ne_0_4, ne_0_4b, ne_0_5, ne_0_5b, ne_0_6, ne_0_6b, ne_0_7, ne_0_7b, ne_1_0, ne_1_0b, ne_1_2, ne_1_2b, ne_1_3, ne_1_3b, ne_1_4, ne_1_4b, ne_1_5, ne_1_5b, ne_1_6, ne_1_6b, ne_1_7, ne_1_7b, ne_2_0, ne_2_0b, ne_2_1, ne_2_1b, ne_2_3, ne_2_3b, ne_2_4, ne_2_4b, ne_2_5, ne_2_5b, ne_2_6, ne_2_6b, ne_2_7, ne_2_7b, ne_3_0, ne_3_0b, ne_3_1, ne_3_1b, ne_3_2, ne_3_2b, ne_4_0, ne_4_0b, ne_4_1, ne_4_1b, ne_4_2, ne_4_2b, ne_5_0, ne_5_0b, ne_5_1, ne_5_1b, ne_5_2, ne_5_2b, ne_6_0, ne_6_0b, ne_6_1, ne_6_1b, ne_6_2, ne_6_2b, ne_7_0, ne_7_0b, ne_7_1, ne_7_1b, ne_7_2, ne_7_2b, cxOf, Cx.nox, Cx.wish, tSeq, tAsg, tC, gName, tIfS, tTest, tOp, tUn, rU, rI0, rI, tVar, tNext, tBreak, tRet, tRetN, tDrop, tLst, tTup, tCons, tNil, tCB, tB, tOr, tAnd, tNot, tIf, tCall, tFor_eq, tLc_eq, iRng1, iRng2, iList, iTup, gTup, gTupH, gUnlH, gCons, gNil, gSub, rSetL, rIxL, rIxT, rIxLH, rIxTH, rSlTS, rCatS, rTupS, rIsiH, rLenS, V.ty.injEq, tyS_non, tyS_bl, tyS_int, tyS_str, tyS_ref, tyO_l, tyO_t, tyO_d, tyO_dt, kit_ll, kit_tt, kit_bb, kit_ii, kit_ib, kit_bi, kit_nt, kit_it, kit_st, kit_bt, kit_lt, kit_dt, kit_ni, kit_si, kit_ti, kit_li, kit_di, kit_nb, kit_ns, kit_is, kit_bs, kit_ss, kit_ts, kit_ls, kit_ds, kit_dd, lenS_ref, lenO_l, lenO_t,  rAppend, tM1, rIxS, tSl, tPart, tNoPart, tBM, tBM0, tDGetS, sDPutS, tTruS, truO_l, truO_t, truS_ref, truS_non, truS_bl, truS_int, tFld, sFld, sFldAug, rAdd, tMeth, tProp, tMake, tMakeK, List.take_succ_cons, List.take_zero, List.drop_succ_cons, List.drop_zero, List.take_nil, tIsN, tNotN, tAndV, tOrV, tNotV, putF, List.lookup, List.any_cons, List.any_nil, Sum.inr.injEq, HO.ins.injEq, HO.dK.injEq, eq_self, beq_self_eq_true, beq_iff_eq, decide_true, decide_false, Bool.or_true, Bool.true_or, Bool.or_false, Bool.false_or, tYes, rEq, rNe, _root_.L2.start, wipe, List.map_cons, List.map_nil, List.length_cons, List.length_nil, List.append_nil, Nat.reduceAdd, Nat.reduceSub, List.replicate_succ, List.replicate_zero, List.cons_append, List.nil_append, List.getElem?_cons_zero, List.getElem?_cons_succ, List.set_cons_zero, List.set_cons_succ, Option.some.injEq, V.int.injEq, V.ref.injEq, V.bl.injEq, V.str.injEq, List.cons.injEq, HO.lst.injEq, HO.tup.injEq, and_assoc, and_true, true_and, exists_eq_left, exists_eq_left', exists_and_left, exists_eq, reduceCtorEq, false_and, and_false, or_false, false_or, exists_false, decide_eq_true_eq, CPow, CDivW, Int.reducePow, Int.reduceLT, Int.reduceLE, Int.reduceNeg, Int.reduceToNat, Int.reduceAbs, Nat.reducePow, Nat.reduceLT, Nat.reduceLeDiff, sizeLine_eq, Int.reduceMul, Int.reduceAdd, Int.reduceSub, Bool.not_eq_true', decide_eq_false_iff_not, scal, Bool.not_true, Bool.not_false, Bool.true_eq_false, Bool.false_eq_true, ite_false, ite_true, if_true, if_false, ite_self, forall_const, atI0, atI1, atI2, atI3, ixN20, ixN21, upd_same, upd_upd, Int.zero_add, CMul, Int.reduceSub, Nat.le_refl, Nat.zero_le, or_true, true_or, exists_const, Int.sub_zero, hp11, mkF])
              refine ⟨l, t, own, kept, M11.m, fun l' H12 hl' M12 b12 => ?_⟩
              (try simp only [ne_0_1, ne_0_1b, ne_0_2, ne_0_2b, ne_0_3, ne_0_3b, ne_0_4, ne_0_4b, ne_0_5, ne_0_5b, ne_0_6, ne_0_6b, ne_0_7, ne_0_7b, ne_1_0, ne_1_0b, ne_1_2, ne_1_2b, ne_1_3, ne_1_3b, ne_1_4, ne_1_4b, ne_1_5, ne_1_5b, ne_1_6, ne_1_6b, ne_1_7, ne_1_7b, ne_2_0, ne_2_0b, ne_2_1, ne_2_1b, ne_2_3, ne_2_3b, ne_2_4, ne_2_4b, ne_2_5, ne_2_5b, ne_2_6, ne_2_6b, ne_2_7, ne_2_7b, ne_3_0, ne_3_0b, ne_3_1, ne_3_1b, ne_3_2, ne_3_2b, ne_4_0, ne_4_0b, ne_4_1, ne_4_1b, ne_4_2, ne_4_2b, ne_5_0, ne_5_0b, ne_5_1, ne_5_1b, ne_5_2, ne_5_2b, ne_6_0, ne_6_0b, ne_6_1, ne_6_1b, ne_6_2, ne_6_2b, ne_7_0, ne_7_0b, ne_7_1, ne_7_1b, ne_7_2, ne_7_2b, cxOf, Cx.nox, Cx.wish, tSeq, tAsg, tC, gName, tIfS, tTest, tOp, tUn, rU, rI0, rI, tVar, tNext, tBreak, tRet, tRetN, tDrop, tLst, tTup, tCons, tNil, tCB, tB, tOr, tAnd, tNot, tIf, tCall, tFor_eq, tLc_eq, iRng1, iRng2, iList, iTup, gTup, gTupH, gUnlH, gCons, gNil, gSub, rSetL, rIxL, rIxT, rIxLH, rIxTH, rSlTS, rCatS, rTupS, rIsiH, rLenS, V.ty.injEq, tyS_non, tyS_bl, tyS_int, tyS_str, tyS_ref, tyO_l, tyO_t, tyO_d, tyO_dt, kit_ll, kit_tt, kit_bb, kit_ii, kit_ib, kit_bi, kit_nt, kit_it, kit_st, kit_bt, kit_lt, kit_dt, kit_ni, kit_si, kit_ti, kit_li, kit_di, kit_nb, kit_ns, kit_is, kit_bs, kit_ss, kit_ts, kit_ls, kit_ds, kit_dd, lenS_ref, lenO_l, lenO_t,  rAppend, tM1, rIxS, tSl, tPart, tNoPart, tBM, tBM0, tDGetS, sDPutS, tTruS, truO_l, truO_t, truS_ref, truS_non, truS_bl, truS_int, tFld, sFld, sFldAug, rAdd, tMeth, tProp, tMake, tMakeK, List.take_succ_cons, List.take_zero, List.drop_succ_cons, List.drop_zero, List.take_nil, tIsN, tNotN, tAndV, tOrV, tNotV, putF, List.lookup, List.any_cons, List.any_nil, Sum.inr.injEq, HO.ins.injEq, HO.dK.injEq, eq_self, beq_self_eq_true, beq_iff_eq, decide_true, decide_false, Bool.or_true, Bool.true_or, Bool.or_false, Bool.false_or, tYes, rEq, rNe, _root_.L2.start, wipe, List.map_cons, List.map_nil, List.length_cons, List.length_nil, List.append_nil, Nat.reduceAdd, Nat.reduceSub, List.replicate_succ, List.replicate_zero, List.cons_append, List.nil_append, List.getElem?_cons_zero, List.getElem?_cons_succ, List.set_cons_zero, List.set_cons_succ, Option.some.injEq, V.int.injEq, V.ref.injEq, V.bl.injEq, V.str.injEq, List.cons.injEq, HO.lst.injEq, HO.tup.injEq, and_assoc, and_true, true_and, exists_eq_left, exists_eq_left', exists_and_left, exists_eq, reduceCtorEq, false_and, and_false, or_false, false_or, exists_false, decide_eq_true_eq, CPow, CDivW, Int.reducePow, Int.reduceLT, Int.reduceLE, Int.reduceNeg, Int.reduceToNat, Int.reduceAbs, Nat.reducePow, Nat.reduceLT, Nat.reduceLeDiff, sizeLine_eq, Int.reduceMul, Int.reduceAdd, Int.reduceSub, Bool.not_eq_true', decide_eq_false_iff_not, scal, Bool.not_true, Bool.not_false, Bool.true_eq_false, Bool.false_eq_true, ite_false, ite_true, if_true, if_false, ite_self, forall_const, atI0, atI1, atI2, atI3, ixN20, ixN21, upd_same, upd_upd, Int.zero_add, CMul, Int.reduceSub, Nat.le_refl, Nat.zero_le, or_true, true_or, exists_const, Int.sub_zero])
              exact ⟨l', none, [], [], (M11.anew hl' M12 b12 upd_same (Same.non M8.sm hq4) im_non (fun m' (e : none = some m') => (by cases e))).up⟩
            · rw [if_neg eu]
              exact TK H8 M8 g8.st
          · rw [if_neg e1]
            exact TK H7 M7 st7
      · clear M7 nn7
        rintro σ H8 ⟨l, k, own, kept, ov, ws, rfl, M8⟩
        obtain ⟨dx8, tv8, ov8, ws8, hp8, it8, io8, hl8, iw8⟩ := id M8.m
        have hln := M8.len
        (try simp only [ne_0_1, ne_0_1b, ne_0_2, ne_0_2b, ne_0_3, ne_0_3b, ne_0_4, ne_0_4b, ne_0_5, ne_0_5b, ne_0_6, ne_0_6b, ne_0_7, ne_0_7b, ne_1_0, ne_1_0b, ne_1_2, ne_1_2b, ne_1_3, ne_1_3b, ne_1_4, ne_1_4b, ne_1_5, ne_1_5b, ne_1_6, ne_1_6b, ne_1_7, ne_1_7b, ne_2_0, ne_2_0b, ne_2_1, ne_2_1b, ne_2_3, ne_2_3b, ne_2_4, ne_2_4b, ne_2_5, ne_2_5b, ne_2_6, ne_2_6b, ne_2_7, ne_2_7b, ne_3_0, ne_3_0b, ne_3_1, ne_3_1b, ne_3_2, ne_3_2b, ne_4_0, ne_4_0b, ne_4_1, ne_4_1b, ne_4_2, ne_4_2b, ne_5_0, ne_5_0b, ne_5_1, ne_5_1b, ne_5_2, ne_5_2b, ne_6_0, ne_6_0b, ne_6_1, ne_6_1b, ne_6_2, ne_6_2b, ne_7_0, ne_7_0b, ne_7_1, ne_7_1b, ne_7_2, ne_7_2b, cxOf, Cx.nox, Cx.wish, tSeq, tAsg, tC, gName, tIfS, tTest, tOp, tUn, rU, rI0, rI, tVar, tNext, tBreak, tRet, tRetN, tDrop, tLst, tTup, tCons, tNil, tCB, tB, tOr, tAnd, tNot, tIf, tCall, tFor_eq, tLc_eq, iRng1, iRng2, iList, iTup, gTup, gTupH, gUnlH, gCons, gNil, gSub, rSetL, rIxL, rIxT, rIxLH, rIxTH, rSlTS, rCatS, rTupS, rIsiH, rLenS, V.ty.injEq, tyS_non, tyS_bl, tyS_int, tyS_str, tyS_ref, tyO_l, tyO_t, tyO_d, tyO_dt, kit_ll, kit_tt, kit_bb, kit_ii, kit_ib, kit_bi, kit_nt, kit_it, kit_st, kit_bt, kit_lt, kit_dt, kit_ni, kit_si, kit_ti, kit_li, kit_di, kit_nb, kit_ns, kit_is, kit_bs, kit_ss, kit_ts, kit_ls, kit_ds, kit_dd, lenS_ref, lenO_l, lenO_t,  rAppend, tM1, rIxS, tSl, tPart, tNoPart, tBM, tBM0, tDGetS, sDPutS, tTruS, truO_l, truO_t, truS_ref, truS_non, truS_bl, truS_int, tFld, sFld, sFldAug, rAdd, tMeth, tProp, tMake, tMakeK, List.take_succ_cons, List.take_zero, List.drop_succ_cons, List.drop_zero, List.take_nil, tIsN, tNotN, tAndV, tOrV, tNotV, putF, List.lookup, List.any_cons, List.any_nil, Sum.inr.injEq, HO.ins.injEq, HO.dK.injEq, eq_self, beq_self_eq_true, beq_iff_eq, decide_true, decide_false, Bool.or_true, Bool.true_or, Bool.or_false, Bool.false_or, tYes, rEq, rNe, _root_.L2.start, wipe, List.map_cons, List.map_nil, List.length_cons, List.length_nil, List.append_nil, Nat.reduceAdd, Nat.reduceSub, List.replicate_succ, List.replicate_zero, List.cons_append, List.nil_append, List.getElem?_cons_zero, List.getElem?_cons_succ, List.set_cons_zero, List.set_cons_succ, Option.some.injEq, V.int.injEq, V.ref.injEq, V.bl.injEq, V.str.injEq, List.cons.injEq, HO.lst.injEq, HO.tup.injEq, and_assoc, and_true, true_and, exists_eq_left, exists_eq_left', exists_and_left, exists_eq, reduceCtorEq, false_and, and_false, or_false, false_or, exists_false, decide_eq_true_eq, CPow, CDivW, Int.reducePow, Int.reduceLT, Int.reduceLE, Int.reduceNeg, Int.reduceToNat, Int.reduceAbs, Nat.reducePow, Nat.reduceLT, Nat.reduceLeDiff, sizeLine_eq, Int.reduceMul, Int.reduceAdd, Int.reduceSub, Bool.not_eq_true', decide_eq_false_iff_not, scal, Bool.not_true, Bool.not_false, Bool.true_eq_false, Bool.false_eq_true, ite_false, ite_true, if_true, if_false, ite_self, forall_const, atI0, atI1, atI2, atI3, ixN20, ixN21, upd_same, upd_upd, Int.zero_add, CMul, Int.reduceSub, Nat.le_refl, Nat.zero_le, or_true, true_or, exists_const, Int.sub_zero, sp_Marks_told, hp8, mkF])
        refine ⟨l, t, own, kept, M8.m, by omega, fun q zs H9 hq9 iz9 s9 => ?_⟩
        have M9 := M8.same s9
        have io9 := Same.im s9 M8.io
        (try simp only [ne_0_1, ne_0_1b, ne_0_2, ne_0_2b, ne_0_3, ne_0_3b, ne_0_4, ne_0_4b, ne_0_5, ne_0_5b, ne_0_6, ne_0_6b, ne_0_7, ne_0_7b, ne_1_0, ne_1_0b, ne_1_2, ne_1_2b, ne_1_3, ne_1_3b, ne_1_4, ne_1_4b, ne_1_5, ne_1_5b, ne_1_6, ne_1_6b, ne_1_7, ne_1_7b, ne_2_0, ne_2_0b, ne_2_1, ne_2_1b, ne_2_3, ne_2_3b, ne_2_4, ne_2_4b, ne_2_5, ne_2_5b, ne_2_6, ne_2_6b, ne_2_7, ne_2_7b, ne_3_0, ne_3_0b, ne_3_1, ne_3_1b, ne_3_2, ne_3_2b, ne_4_0, ne_4_0b, ne_4_1, ne_4_1b, ne_4_2, ne_4_2b, ne_5_0, ne_5_0b, ne_5_1, ne_5_1b, ne_5_2, ne_5_2b, ne_6_0, ne_6_0b, ne_6_1, ne_6_1b, ne_6_2, ne_6_2b, ne_7_0, ne_7_0b, ne_7_1, ne_7_1b, ne_7_2, ne_7_2b, cxOf, Cx.nox, Cx.wish, tSeq, tAsg, tC, gName, tIfS, tTest, tOp, tUn, rU, rI0, rI, tVar, tNext, tBreak, tRet, tRetN, tDrop, tLst, tTup, tCons, tNil, tCB, tB, tOr, tAnd, tNot, tIf, tCall, tFor_eq, tLc_eq, iRng1, iRng2, iList, iTup, gTup, gTupH, gUnlH, gCons, gNil, gSub, rSetL, rIxL, rIxT, rIxLH, rIxTH, rSlTS, rCatS, rTupS, rIsiH, rLenS, V.ty.injEq, tyS_non, tyS_bl, tyS_int, tyS_str, tyS_ref, tyO_l, tyO_t, tyO_d, tyO_dt, kit_ll, kit_tt, kit_bb, kit_ii, kit_ib, kit_bi, kit_nt, kit_it, kit_st, kit_bt, kit_lt, kit_dt, kit_ni, kit_si, kit_ti, kit_li, kit_di, kit_nb, kit_ns, kit_is, kit_bs, kit_ss, kit_ts, kit_ls, kit_ds, kit_dd, lenS_ref, lenO_l, lenO_t,  rAppend, tM1, rIxS, tSl, tPart, tNoPart, tBM, tBM0, tDGetS, sDPutS, tTruS, truO_l, truO_t, truS_ref, truS_non, truS_bl, truS_int, tFld, sFld, sFldAug, rAdd, tMeth, tProp, tMake, tMakeK, List.take_succ_cons, List.take_zero, List.drop_succ_cons, List.drop_zero, List.take_nil, tIsN, tNotN, tAndV, tOrV, tNotV, putF, List.lookup, List.any_cons, List.any_nil, Sum.inr.injEq, HO.ins.injEq, HO.dK.injEq, eq_self, beq_self_eq_true, beq_iff_eq, decide_true, decide_false, Bool.or_true, Bool.true_or, Bool.or_false, Bool.false_or, tYes, rEq, rNe, _root_.L2.start, wipe, List.map_cons, List.map_nil, List.length_cons, List.length_nil, List.append_nil, Nat.reduceAdd, Nat.reduceSub, List.replicate_succ, List.replicate_zero, List.cons_append, List.nil_append, List.getElem?_cons_zero, List.getElem?_cons_succ, List.set_cons_zero, List.set_cons_succ, Option.some.injEq, V.int.injEq, V.ref.injEq, V.bl.injEq, V.str.injEq, List.cons.injEq, HO.lst.injEq, HO.tup.injEq, and_assoc, and_true, true_and, exists_eq_left, exists_eq_left', exists_and_left, exists_eq, reduceCtorEq, false_and, and_false, or_false, false_or, exists_false, decide_eq_true_eq, CPow, CDivW, Int.reducePow, Int.reduceLT, Int.reduceLE, Int.reduceNeg, Int.reduceToNat, Int.reduceAbs, Nat.reducePow, Nat.reduceLT, Nat.reduceLeDiff, sizeLine_eq, Int.reduceMul, Int.reduceAdd, Int.reduceSub, Bool.not_eq_true', decide_eq_false_iff_not, scal, Bool.not_true, Bool.not_false, Bool.true_eq_false, Bool.false_eq_true, ite_false, ite_true, if_true, if_false, ite_self, forall_const, atI0, atI1, atI2, atI3, ixN20, ixN21, upd_same, upd_upd, Int.zero_add, CMul, Int.reduceSub, Nat.le_refl, Nat.zero_le, or_true, true_or, exists_const, Int.sub_zero, sp_Marks_own, s9 _ _ hp8, hq9, sp_law_due])
        refine ⟨l, t, own, kept, M9.m, fun v9 iv9 => ?_⟩
        (try simp only [ne_0_1, ne_0_1b, ne_0_2, ne_0_2b, ne_0_3, ne_0_3b, ne_0_4, ne_0_4b, ne_0_5, ne_0_5b, ne_0_6, ne_0_6b, ne_0_7, ne_0_7b, ne_1_0, ne_1_0b, ne_1_2, ne_1_2b, ne_1_3, ne_1_3b, ne_1_4, ne_1_4b, ne_1_5, ne_1_5b, ne_1_6, ne_1_6b, ne_1_7, ne_1_7b, ne_2_0, ne_2_0b, ne_2_1, ne_2_1b, ne_2_3, ne_2_3b, ne_2_4, ne_2_4b, ne_2_5, ne_2_5b, ne_2_6, ne_2_6b, ne_2_7, ne_2_7b, ne_3_0, ne_3_0b, ne_3_1, ne_3_1b, ne_3_2, ne_3_2b, ne_4_0, ne_4_0b, ne_4_1, ne_4_1b, ne_4_2, ne_4_2b, ne_5_0, ne_5_0b, ne_5_1, ne_5_1b, ne_5_2, ne_5_2b, ne_6_0, ne_6_0b, ne_6_1, ne_6_1b, ne_6_2, ne_6_2b, ne_7_0, ne_7_0b, ne_7_1, ne_7_1b, ne_7_2, ne_7_2b, cxOf, Cx.nox, Cx.wish, tSeq, tAsg, tC, gName, tIfS, tTest, tOp, tUn, rU, rI0, rI, tVar, tNext, tBreak, tRet, tRetN, tDrop, tLst, tTup, tCons, tNil, tCB, tB, tOr, tAnd, tNot, tIf, tCall, tFor_eq, tLc_eq, iRng1, iRng2, iList, iTup, gTup, gTupH, gUnlH, gCons, gNil, gSub, rSetL, rIxL, rIxT, rIxLH, rIxTH, rSlTS, rCatS, rTupS, rIsiH, rLenS, V.ty.injEq, tyS_non, tyS_bl, tyS_int, tyS_str, tyS_ref, tyO_l, tyO_t, tyO_d, tyO_dt, kit_ll, kit_tt, kit_bb, kit_ii, kit_ib, kit_bi, kit_nt, kit_it, kit_st, kit_bt, kit_lt, kit_dt, kit_ni, kit_si, kit_ti, kit_li, kit_di, kit_nb, kit_ns, kit_is, kit_bs, kit_ss, kit_ts, kit_ls, kit_ds, kit_dd, lenS_ref, lenO_l, lenO_t,  rAppend, tM1, rIxS, tSl, tPart, tNoPart, tBM, tBM0, tDGetS, sDPutS, tTruS, truO_l, truO_t, truS_ref, truS_non, truS_bl, truS_int, tFld, sFld, sFldAug, rAdd, tMeth, tProp, tMake, tMakeK, List.take_succ_cons, List.take_zero, List.drop_succ_cons, List.drop_zero, List.take_nil, tIsN, tNotN, tAndV, tOrV, tNotV, putF, List.lookup, List.any_cons, List.any_nil, Sum.inr.injEq, HO.ins.injEq, HO.dK.injEq, eq_self, beq_self_eq_true, beq_iff_eq, decide_true, decide_false, Bool.or_true, Bool.true_or, Bool.or_false, Bool.false_or, tYes, rEq, rNe, _root_.L2.start, wipe, List.map_cons, List.map_nil, List.length_cons, List.length_nil, List.append_nil, Nat.reduceAdd, Nat.reduceSub, List.replicate_succ, List.replicate_zero, List.cons_append, List.nil_append, List.getElem?_cons_zero, List.getElem?_cons_succ, List.set_cons_zero, List.set_cons_succ, Option.some.injEq, V.int.injEq, V.ref.injEq, V.bl.injEq, V.str.injEq, List.cons.injEq, HO.lst.injEq, HO.tup.injEq, and_assoc, and_true, true_and, exists_eq_left, exists_eq_left', exists_and_left, exists_eq, reduceCtorEq, false_and, and_false, or_false, false_or, exists_false, decide_eq_true_eq, CPow, CDivW, Int.reducePow, Int.reduceLT, Int.reduceLE, Int.reduceNeg, Int.reduceToNat, Int.reduceAbs, Nat.reducePow, Nat.reduceLT, Nat.reduceLeDiff, sizeLine_eq, Int.reduceMul, Int.reduceAdd, Int.reduceSub, Bool.not_eq_true', decide_eq_false_iff_not, scal, Bool.not_true, Bool.not_false, Bool.true_eq_false, Bool.false_eq_true, ite_false, ite_true, if_true, if_false, ite_self, forall_const, atI0, atI1, atI2, atI3, ixN20, ixN21, upd_same, upd_upd, Int.zero_add, CMul, Int.reduceSub, Nat.le_refl, Nat.zero_le, or_true, true_or, exists_const, Int.sub_zero, rNeD])
        refine ⟨_, Im.dp _ _ iv9, _, Im.dp _ _ io9, oD_shaped _, oD_shaped _, ?_⟩
        rw [SeqAt.eqv_refl _ (SeqAt.canLay_of_shaped (oD_shaped own))]
        (try simp only [ne_0_1, ne_0_1b, ne_0_2, ne_0_2b, ne_0_3, ne_0_3b, ne_0_4, ne_0_4b, ne_0_5, ne_0_5b, ne_0_6, ne_0_6b, ne_0_7, ne_0_7b, ne_1_0, ne_1_0b, ne_1_2, ne_1_2b, ne_1_3, ne_1_3b, ne_1_4, ne_1_4b, ne_1_5, ne_1_5b, ne_1_6, ne_1_6b, ne_1_7, ne_1_7b, ne_2_0, ne_2_0b, ne_2_1, ne_2_1b, ne_2_3, ne_2_3b, ne_2_4, ne_2_4b, ne_2_5, ne_2_5b, ne_2_6, ne_2_6b, ne_2_7, ne_2_7b, ne_3_0, ne_3_0b, ne_3_1, ne_3_1b, ne_3_2, ne_3_2b, ne_4_0, ne_4_0b, ne_4_1, ne_4_1b, ne_4_2, ne_4_2b, ne_5_0, ne_5_0b, ne_5_1, ne_5_1b, ne_5_2, ne_5_2b, ne_6_0, ne_6_0b, ne_6_1, ne_6_1b, ne_6_2, ne_6_2b, ne_7_0, ne_7_0b, ne_7_1, ne_7_1b, ne_7_2, ne_7_2b, cxOf, Cx.nox, Cx.wish, tSeq, tAsg, tC, gName, tIfS, tTest, tOp, tUn, rU, rI0, rI, tVar, tNext, tBreak, tRet, tRetN, tDrop, tLst, tTup, tCons, tNil, tCB, tB, tOr, tAnd, tNot, tIf, tCall, tFor_eq, tLc_eq, iRng1, iRng2, iList, iTup, gTup, gTupH, gUnlH, gCons, gNil, gSub, rSetL, rIxL, rIxT, rIxLH, rIxTH, rSlTS, rCatS, rTupS, rIsiH, rLenS, V.ty.injEq, tyS_non, tyS_bl, tyS_int, tyS_str, tyS_ref, tyO_l, tyO_t, tyO_d, tyO_dt, kit_ll, kit_tt, kit_bb, kit_ii, kit_ib, kit_bi, kit_nt, kit_it, kit_st, kit_bt, kit_lt, kit_dt, kit_ni, kit_si, kit_ti, kit_li, kit_di, kit_nb, kit_ns, kit_is, kit_bs, kit_ss, kit_ts, kit_ls, kit_ds, kit_dd, lenS_ref, lenO_l, lenO_t,  rAppend, tM1, rIxS, tSl, tPart, tNoPart, tBM, tBM0, tDGetS, sDPutS, tTruS, truO_l, truO_t, truS_ref, truS_non, truS_bl, truS_int, tFld, sFld, sFldAug, rAdd, tMeth, tProp, tMake, tMakeK, List.take_succ_cons, List.take_zero, List.drop_succ_cons, List.drop_zero, List.take_nil, tIsN, tNotN, tAndV, tOrV, tNotV, putF, List.lookup, List.any_cons, List.any_nil, Sum.inr.injEq, HO.ins.injEq, HO.dK.injEq, eq_self, beq_self_eq_true, beq_iff_eq, decide_true, decide_false, Bool.or_true, Bool.true_or, Bool.or_false, Bool.false_or, tYes, rEq, rNe, _root_.L2.start, wipe, List.map_cons, List.map_nil, List.length_cons, List.length_nil, List.append_nil, Nat.reduceAdd, Nat.reduceSub, List.replicate_succ, List.replicate_zero, List.cons_append, List.nil_append, List.getElem?_cons_zero, List.getElem?_cons_succ, List.set_cons_zero, List.set_cons_succ, Option.some.injEq, V.int.injEq, V.ref.injEq, V.bl.injEq, V.str.injEq, List.cons.injEq, HO.lst.injEq, HO.tup.injEq, and_assoc, and_true, true_and, exists_eq_left, exists_eq_left', exists_and_left, exists_eq, reduceCtorEq, false_and, and_false, or_false, false_or, exists_false, decide_eq_true_eq, CPow, CDivW, Int.reducePow, Int.reduceLT, Int.reduceLE, Int.reduceNeg, Int.reduceToNat, Int.reduceAbs, Nat.reducePow, Nat.reduceLT, Nat.reduceLeDiff, sizeLine_eq, Int.reduceMul, Int.reduceAdd, Int.reduceSub, Bool.not_eq_true', decide_eq_false_iff_not, scal, Bool.not_true, Bool.not_false, Bool.true_eq_false, Bool.false_eq_true, ite_false, ite_true, if_true, if_false, ite_self, forall_const, atI0, atI1, atI2, atI3, ixN20, ixN21, upd_same, upd_upd, Int.zero_add, CMul, Int.reduceSub, Nat.le_refl, Nat.zero_le, or_true, true_or, exists_const, Int.sub_zero, hq9])
        refine ⟨own, io9, kept, ws, M9.hk, M9.iw, by omega, fun q2 zs2 H10 hq2 iz2 s10 => ?_⟩
        (try simp only [ne_0_1, ne_0_1b, ne_0_2, ne_0_2b, ne_0_3, ne_0_3b, ne_0_4, ne_0_4b, ne_0_5, ne_0_5b, ne_0_6, ne_0_6b, ne_0_7, ne_0_7b, ne_1_0, ne_1_0b, ne_1_2, ne_1_2b, ne_1_3, ne_1_3b, ne_1_4, ne_1_4b, ne_1_5, ne_1_5b, ne_1_6, ne_1_6b, ne_1_7, ne_1_7b, ne_2_0, ne_2_0b, ne_2_1, ne_2_1b, ne_2_3, ne_2_3b, ne_2_4, ne_2_4b, ne_2_5, ne_2_5b, ne_2_6, ne_2_6b, ne_2_7, ne_2_7b, ne_3_0, ne_3_0b, ne_3_1, ne_3_1b, ne_3_2, ne_3_2b, ne_4_0, ne_4_0b, ne_4_1, ne_4_1b, ne_4_2, ne_4_2b, ne_5_0, ne_5_0b, ne_5_1, ne_5_1b, ne_5_2, ne_5_2b, ne_6_0, ne_6_0b, ne_6_1, ne_6_1b, ne_6_2, ne_6_2b, ne_7_0, ne_7_0b, ne_7_1, ne_7_1b, ne_7_2, ne_7_2b, cxOf, Cx.nox, Cx.wish, tSeq, tAsg, tC, gName, tIfS, tTest, tOp, tUn, rU, rI0, rI, tVar, tNext, tBreak, tRet, tRetN, tDrop, tLst, tTup, tCons, tNil, tCB, tB, tOr, tAnd, tNot, tIf, tCall, tFor_eq, tLc_eq, iRng1, iRng2, iList, iTup, gTup, gTupH, gUnlH, gCons, gNil, gSub, rSetL, rIxL, rIxT, rIxLH, rIxTH, rSlTS, rCatS, rTupS, rIsiH, rLenS, V.ty.injEq, tyS_non, tyS_bl, tyS_int, tyS_str, tyS_ref, tyO_l, tyO_t, tyO_d, tyO_dt, kit_ll, kit_tt, kit_bb, kit_ii, kit_ib, kit_bi, kit_nt, kit_it, kit_st, kit_bt, kit_lt, kit_dt, kit_ni, kit_si, kit_ti, kit_li, kit_di, kit_nb, kit_ns, kit_is, kit_bs, kit_ss, kit_ts, kit_ls, kit_ds, kit_dd, lenS_ref, lenO_l, lenO_t,  rAppend, tM1, rIxS, tSl, tPart, tNoPart, tBM, tBM0, tDGetS, sDPutS, tTruS, truO_l, truO_t, truS_ref, truS_non, truS_bl, truS_int, tFld, sFld, sFldAug, rAdd, tMeth, tProp, tMake, tMakeK, List.take_succ_cons, List.take_zero, List.drop_succ_cons, List.drop_zero, List.take_nil, tIsN, tNotN, tAndV, tOrV, tNotV, putF, List.lookup, List.any_cons, List.any_nil, Sum.inr.injEq, HO.ins.injEq, HO.dK.injEq, eq_self, beq_self_eq_true, beq_iff_eq, decide_true, decide_false, Bool.or_true, Bool.true_or, Bool.or_false, Bool.false_or, tYes, rEq, rNe, _root_.L2.start, wipe, List.map_cons, List.map_nil, List.length_cons, List.length_nil, List.append_nil, Nat.reduceAdd, Nat.reduceSub, List.replicate_succ, List.replicate_zero, List.cons_append, List.nil_append, List.getElem?_cons_zero, List.getElem?_cons_succ, List.set_cons_zero, List.set_cons_succ, Option.some.injEq, V.int.injEq, V.ref.injEq, V.bl.injEq, V.str.injEq, List.cons.injEq, HO.lst.injEq, HO.tup.injEq, and_assoc, and_true, true_and, exists_eq_left, exists_eq_left', exists_and_left, exists_eq, reduceCtorEq, false_and, and_false, or_false, false_or, exists_false, decide_eq_true_eq, CPow, CDivW, Int.reducePow, Int.reduceLT, Int.reduceLE, Int.reduceNeg, Int.reduceToNat, Int.reduceAbs, Nat.reducePow, Nat.reduceLT, Nat.reduceLeDiff, sizeLine_eq, Int.reduceMul, Int.reduceAdd, Int.reduceSub, Bool.not_eq_true', decide_eq_false_iff_not, scal, Bool.not_true, Bool.not_false, Bool.true_eq_false, Bool.false_eq_true, ite_false, ite_true, if_true, if_false, ite_self, forall_const, atI0, atI1, atI2, atI3, ixN20, ixN21, upd_same, upd_upd, Int.zero_add, CMul, Int.reduceSub, Nat.le_refl, Nat.zero_le, or_true, true_or, exists_const, Int.sub_zero, rNeD])
        refine ⟨_, .tup (SqT.of (s10 _ _ hq9)) (ImAll.dp _ _ (Same.ims s10 iz9)), _, .tup (SqT.of hq2) (ImAll.dp _ _ iz2), toldD_shaped _ _, toldD_shaped _ _, ?_⟩
        rw [SeqAt.eqv_refl _ (SeqAt.canLay_of_shaped (toldD_shaped own kept))]
        (try simp only [ne_0_1, ne_0_1b, ne_0_2, ne_0_2b, ne_0_3, ne_0_3b, ne_0_4, ne_0_4b, ne_0_5, ne_0_5b, ne_0_6, ne_0_6b, ne_0_7, ne_0_7b, ne_1_0, ne_1_0b, ne_1_2, ne_1_2b, ne_1_3, ne_1_3b, ne_1_4, ne_1_4b, ne_1_5, ne_1_5b, ne_1_6, ne_1_6b, ne_1_7, ne_1_7b, ne_2_0, ne_2_0b, ne_2_1, ne_2_1b, ne_2_3, ne_2_3b, ne_2_4, ne_2_4b, ne_2_5, ne_2_5b, ne_2_6, ne_2_6b, ne_2_7, ne_2_7b, ne_3_0, ne_3_0b, ne_3_1, ne_3_1b, ne_3_2, ne_3_2b, ne_4_0, ne_4_0b, ne_4_1, ne_4_1b, ne_4_2, ne_4_2b, ne_5_0, ne_5_0b, ne_5_1, ne_5_1b, ne_5_2, ne_5_2b, ne_6_0, ne_6_0b, ne_6_1, ne_6_1b, ne_6_2, ne_6_2b, ne_7_0, ne_7_0b, ne_7_1, ne_7_1b, ne_7_2, ne_7_2b, cxOf, Cx.nox, Cx.wish, tSeq, tAsg, tC, gName, tIfS, tTest, tOp, tUn, rU, rI0, rI, tVar, tNext, tBreak, tRet, tRetN, tDrop, tLst, tTup, tCons, tNil, tCB, tB, tOr, tAnd, tNot, tIf, tCall, tFor_eq, tLc_eq, iRng1, iRng2, iList, iTup, gTup, gTupH, gUnlH, gCons, gNil, gSub, rSetL, rIxL, rIxT, rIxLH, rIxTH, rSlTS, rCatS, rTupS, rIsiH, rLenS, V.ty.injEq, tyS_non, tyS_bl, tyS_int, tyS_str, tyS_ref, tyO_l, tyO_t, tyO_d, tyO_dt, kit_ll, kit_tt, kit_bb, kit_ii, kit_ib, kit_bi, kit_nt, kit_it, kit_st, kit_bt, kit_lt, kit_dt, kit_ni, kit_si, kit_ti, kit_li, kit_di, kit_nb, kit_ns, kit_is, kit_bs, kit_ss, kit_ts, kit_ls, kit_ds, kit_dd, lenS_ref, lenO_l, lenO_t,  rAppend, tM1, rIxS, tSl, tPart, tNoPart, tBM, tBM0, tDGetS, sDPutS, tTruS, truO_l, truO_t, truS_ref, truS_non, truS_bl, truS_int, tFld, sFld, sFldAug, rAdd, tMeth, tProp, tMake, tMakeK, List.take_succ_cons, List.take_zero, List.drop_succ_cons, List.drop_zero, List.take_nil, tIsN, tNotN, tAndV, tOrV, tNotV, putF, List.lookup, List.any_cons, List.any_nil, Sum.inr.injEq, HO.ins.injEq, HO.dK.injEq, eq_self, beq_self_eq_true, beq_iff_eq, decide_true, decide_false, Bool.or_true, Bool.true_or, Bool.or_false, Bool.false_or, tYes, rEq, rNe, _root_.L2.start, wipe, List.map_cons, List.map_nil, List.length_cons, List.length_nil, List.append_nil, Nat.reduceAdd, Nat.reduceSub, List.replicate_succ, List.replicate_zero, List.cons_append, List.nil_append, List.getElem?_cons_zero, List.getElem?_cons_succ, List.set_cons_zero, List.set_cons_succ, Option.some.injEq, V.int.injEq, V.ref.injEq, V.bl.injEq, V.str.injEq, List.cons.injEq, HO.lst.injEq, HO.tup.injEq, and_assoc, and_true, true_and, exists_eq_left, exists_eq_left', exists_and_left, exists_eq, reduceCtorEq, false_and, and_false, or_false, false_or, exists_false, decide_eq_true_eq, CPow, CDivW, Int.reducePow, Int.reduceLT, Int.reduceLE, Int.reduceNeg, Int.reduceToNat, Int.reduceAbs, Nat.reducePow, Nat.reduceLT, Nat.reduceLeDiff, sizeLine_eq, Int.reduceMul, Int.reduceAdd, Int.reduceSub, Bool.not_eq_true', decide_eq_false_iff_not, scal, Bool.not_true, Bool.not_false, Bool.true_eq_false, Bool.false_eq_true, ite_false, ite_true, if_true, if_false, ite_self, forall_const, atI0, atI1, atI2, atI3, ixN20, ixN21, upd_same, upd_upd, Int.zero_add, CMul, Int.reduceSub, Nat.le_refl, Nat.zero_le, or_true, true_or, exists_const, Int.sub_zero])
        exact ⟨l, own, kept, ws, M9.same s10⟩
    · rintro σ H5 ⟨l, k, own, kept, ov, ws, b2, b7, b8, b9, rfl, M5⟩
      (try simp only [ne_0_1, ne_0_1b, ne_0_2, ne_0_2b, ne_0_3, ne_0_3b, ne_0_4, ne_0_4b, ne_0_5, ne_0_5b, ne_0_6, ne_0_6b, ne_0_7, ne_0_7b, ne_1_0, ne_1_0b, ne_1_2, ne_1_2b, ne_1_3, ne_1_3b, ne_1_4, ne_1_4b, ne_1_5, ne_1_5b, ne_1_6, ne_1_6b, ne_1_7, ne_1_7b, ne_2_0, ne_2_0b, ne_2_1, ne_2_1b, ne_2_3, ne_2_3b, ne_2_4, ne_2_4b, ne_2_5, ne_2_5b, ne_2_6, ne_2_6b, ne_2_7, ne_2_7b, ne_3_0, ne_3_0b, ne_3_1, ne_3_1b, ne_3_2, ne_3_2b, ne_4_0, ne_4_0b, ne_4_1, ne_4_1b, ne_4_2, ne_4_2b, ne_5_0, ne_5_0b, ne_5_1, ne_5_1b, ne_5_2, ne_5_2b, ne_6_0, ne_6_0b, ne_6_1, ne_6_1b, ne_6_2, ne_6_2b, ne_7_0, ne_7_0b, ne_7_1, ne_7_1b, ne_7_2, ne_7_2b, cxOf, Cx.nox, Cx.wish, tSeq, tAsg, tC, gName, tIfS, tTest, tOp, tUn, rU, rI0, rI, tVar, tNext, tBreak, tRet, tRetN, tDrop, tLst, tTup, tCons, tNil, tCB, tB, tOr, tAnd, tNot, tIf, tCall, tFor_eq, tLc_eq, iRng1, iRng2, iList, iTup, gTup, gTupH, gUnlH, gCons, gNil, gSub, rSetL, rIxL, rIxT, rIxLH, rIxTH, rSlTS, rCatS, rTupS, rIsiH, rLenS, V.ty.injEq, tyS_non, tyS_bl, tyS_int, tyS_str, tyS_ref, tyO_l, tyO_t, tyO_d, tyO_dt, kit_ll, kit_tt, kit_bb, kit_ii, kit_ib, kit_bi, kit_nt, kit_it, kit_st, kit_bt, kit_lt, kit_dt, kit_ni, kit_si, kit_ti, kit_li, kit_di, kit_nb, kit_ns, kit_is, kit_bs, kit_ss, kit_ts, kit_ls, kit_ds, kit_dd, lenS_ref, lenO_l, lenO_t,  rAppend, tM1, rIxS, tSl, tPart, tNoPart, tBM, tBM0, tDGetS, sDPutS, tTruS, truO_l, truO_t, truS_ref, truS_non, truS_bl, truS_int, tFld, sFld, sFldAug, rAdd, tMeth, tProp, tMake, tMakeK, List.take_succ_cons, List.take_zero, List.drop_succ_cons, List.drop_zero, List.take_nil, tIsN, tNotN, tAndV, tOrV, tNotV, putF, List.lookup, List.any_cons, List.any_nil, Sum.inr.injEq, HO.ins.injEq, HO.dK.injEq, eq_self, beq_self_eq_true, beq_iff_eq, decide_true, decide_false, Bool.or_true, Bool.true_or, Bool.or_false, Bool.false_or, tYes, rEq, rNe, _root_.L2.start, wipe, List.map_cons, List.map_nil, List.length_cons, List.length_nil, List.append_nil, Nat.reduceAdd, Nat.reduceSub, List.replicate_succ, List.replicate_zero, List.cons_append, List.nil_append, List.getElem?_cons_zero, List.getElem?_cons_succ, List.set_cons_zero, List.set_cons_succ, Option.some.injEq, V.int.injEq, V.ref.injEq, V.bl.injEq, V.str.injEq, List.cons.injEq, HO.lst.injEq, HO.tup.injEq, and_assoc, and_true, true_and, exists_eq_left, exists_eq_left', exists_and_left, exists_eq, reduceCtorEq, false_and, and_false, or_false, false_or, exists_false, decide_eq_true_eq, CPow, CDivW, Int.reducePow, Int.reduceLT, Int.reduceLE, Int.reduceNeg, Int.reduceToNat, Int.reduceAbs, Nat.reducePow, Nat.reduceLT, Nat.reduceLeDiff, sizeLine_eq, Int.reduceMul, Int.reduceAdd, Int.reduceSub, Bool.not_eq_true', decide_eq_false_iff_not, scal, Bool.not_true, Bool.not_false, Bool.true_eq_false, Bool.false_eq_true, ite_false, ite_true, if_true, if_false, ite_self, forall_const, atI0, atI1, atI2, atI3, ixN20, ixN21, upd_same, upd_upd, Int.zero_add, CMul, Int.reduceSub, Nat.le_refl, Nat.zero_le, or_true, true_or, exists_const, Int.sub_zero])
      exact kk _
end
theorem all_mk {l : PySem.W.OpenLaw} {w : World} {K : PySem.W.Frag} {h : Heap} {mg : Str → Option Value} {fa C_Marks f_Marks_init f_Marks_own p_Marks_own f_Marks_begin f_Marks_end f_Marks_take f_Marks_told f_law_stream f_law_next f_law_flag f_law_transaction f_law_mark f_law_due f_law_taken f_law : Addr} (X : K.In h) (G : h.Ns mainGlobals mg) (hfa : mg "law" = some (.ref fa))
    {od1 an1 od2 an2 od3 an3 od4 an4 od5 an5 od6 an6 od7 an7 od8 an8 od9 an9 od10 an10 od11 an11 od12 an12 od13 an13 od14 an14 : Option Addr} {sl1 sl2 sl3 sl4 sl5 sl6 sl7 sl8 sl9 sl10 sl11 sl12 sl13 sl14 : Array (Option Value)} {oc1 kV1 dc1 pm1 cd1 ct1 oc2 kV2 dc2 pm2 cd2 ct2 oc3 kV3 dc3 pm3 cd3 ct3 oc4 kV4 dc4 pm4 cd4 ct4 oc5 kV5 dc5 pm5 cd5 ct5 oc6 kV6 dc6 pm6 cd6 ct6 oc7 kV7 dc7 pm7 cd7 ct7 oc8 kV8 dc8 pm8 cd8 ct8 oc9 kV9 dc9 pm9 cd9 ct9 oc10 kV10 dc10 pm10 cd10 ct10 oc11 kV11 dc11 pm11 cd11 ct11 oc12 kV12 dc12 pm12 cd12 ct12 oc13 kV13 dc13 pm13 cd13 ct13 oc14 kV14 dc14 pm14 cd14 ct14 : Value}
    {pr2 : List Value}
    (aC_Marks : PySem.W.nsIn K mainGlobals "Marks" = some (some (.ref C_Marks)))
    (pg_Marks : PySem.W.plainGet K C_Marks Str.empty = true)
    (hd_Marks : PySem.W.hasDictIn K C_Marks = true)
    (po_Marks : PySem.W.plainOver K C_Marks = true)
    (sa_Marks : PySem.W.findIn K (.ref C_Marks) "__setattr__" = some (some (.builtin "object.__setattr__")))
    (mk_Marks : PySem.W.makesIn K C_Marks = true)
    (kc_Marks : PySem.W.keepIn K (.ref C_Marks) = true)
    (na_Marks_transaction : PySem.W.findIn K (.ref C_Marks) "_transaction" = some none)
    (na_Marks_own : PySem.W.findIn K (.ref C_Marks) "_own" = some none)
    (na_Marks_kept : PySem.W.findIn K (.ref C_Marks) "_kept" = some none)
    (a1 : PySem.W.findIn K (.ref C_Marks) "__init__" = some (some (.ref f_Marks_init)))
    (i1 : PySem.W.isFn K (.ref f_Marks_init) = true)
    (l1 : K.lookup f_Marks_init = some ⟨oc1, od1, .func (PySem.W.fnOf "__init__" "Marks.__init__" (defArgs s_Marks_init) (defBody s_Marks_init) (defScope s_Marks_init) .none kV1 dc1 pm1 an1 cd1 ct1), sl1⟩)
    (c1 : PySem.W.codeIn K cd1 "Marks.__init__" = true)
    (k1 : PySem.W.keepIn K (.ref f_Marks_init) = true)
    (a2 : PySem.W.findIn K (.ref C_Marks) "own" = some (some (.ref p_Marks_own)))
    (pa2 : PySem.W.specialIn K (.ref p_Marks_own) "__get__" = some (some (.builtin "property.__get__")))
    (pb2 : PySem.W.takesIn K (.ref p_Marks_own) = some true)
    (pc2 : PySem.W.recIn K p_Marks_own "property" = some (.ref f_Marks_own :: pr2))
    (l2 : K.lookup f_Marks_own = some ⟨oc2, od2, .func (PySem.W.fnOf "own" "Marks.own" (defArgs s_Marks_own) (defBody s_Marks_own) (defScope s_Marks_own) .none kV2 dc2 pm2 an2 cd2 ct2), sl2⟩)
    (c2 : PySem.W.codeIn K cd2 "Marks.own" = true)
    (k2 : PySem.W.keepIn K (.ref f_Marks_own) = true)
    (a3 : PySem.W.findIn K (.ref C_Marks) "begin" = some (some (.ref f_Marks_begin)))
    (i3 : PySem.W.isFn K (.ref f_Marks_begin) = true)
    (l3 : K.lookup f_Marks_begin = some ⟨oc3, od3, .func (PySem.W.fnOf "begin" "Marks.begin" (defArgs s_Marks_begin) (defBody s_Marks_begin) (defScope s_Marks_begin) .none kV3 dc3 pm3 an3 cd3 ct3), sl3⟩)
    (c3 : PySem.W.codeIn K cd3 "Marks.begin" = true)
    (k3 : PySem.W.keepIn K (.ref f_Marks_begin) = true)
    (a4 : PySem.W.findIn K (.ref C_Marks) "end" = some (some (.ref f_Marks_end)))
    (i4 : PySem.W.isFn K (.ref f_Marks_end) = true)
    (l4 : K.lookup f_Marks_end = some ⟨oc4, od4, .func (PySem.W.fnOf "end" "Marks.end" (defArgs s_Marks_end) (defBody s_Marks_end) (defScope s_Marks_end) .none kV4 dc4 pm4 an4 cd4 ct4), sl4⟩)
    (c4 : PySem.W.codeIn K cd4 "Marks.end" = true)
    (k4 : PySem.W.keepIn K (.ref f_Marks_end) = true)
    (a5 : PySem.W.findIn K (.ref C_Marks) "take" = some (some (.ref f_Marks_take)))
    (i5 : PySem.W.isFn K (.ref f_Marks_take) = true)
    (l5 : K.lookup f_Marks_take = some ⟨oc5, od5, .func (PySem.W.fnOf "take" "Marks.take" (defArgs s_Marks_take) (defBody s_Marks_take) (defScope s_Marks_take) .none kV5 dc5 pm5 an5 cd5 ct5), sl5⟩)
    (c5 : PySem.W.codeIn K cd5 "Marks.take" = true)
    (k5 : PySem.W.keepIn K (.ref f_Marks_take) = true)
    (a6 : PySem.W.findIn K (.ref C_Marks) "told" = some (some (.ref f_Marks_told)))
    (i6 : PySem.W.isFn K (.ref f_Marks_told) = true)
    (l6 : K.lookup f_Marks_told = some ⟨oc6, od6, .func (PySem.W.fnOf "told" "Marks.told" (defArgs s_Marks_told) (defBody s_Marks_told) (defScope s_Marks_told) .none kV6 dc6 pm6 an6 cd6 ct6), sl6⟩)
    (c6 : PySem.W.codeIn K cd6 "Marks.told" = true)
    (k6 : PySem.W.keepIn K (.ref f_Marks_told) = true)
    (a7 : PySem.W.nsIn K mainGlobals "_law_stream" = some (some (.ref f_law_stream)))
    (l7 : K.lookup f_law_stream = some ⟨oc7, od7, .func (PySem.W.fnOf "_law_stream" "_law_stream" (defArgs s_law_stream) (defBody s_law_stream) (defScope s_law_stream) .none kV7 dc7 pm7 an7 cd7 ct7), sl7⟩)
    (c7 : PySem.W.codeIn K cd7 "_law_stream" = true)
    (k7 : PySem.W.keepIn K (.ref f_law_stream) = true)
    (a8 : PySem.W.nsIn K mainGlobals "_law_next" = some (some (.ref f_law_next)))
    (l8 : K.lookup f_law_next = some ⟨oc8, od8, .func (PySem.W.fnOf "_law_next" "_law_next" (defArgs s_law_next) (defBody s_law_next) (defScope s_law_next) .none kV8 dc8 pm8 an8 cd8 ct8), sl8⟩)
    (c8 : PySem.W.codeIn K cd8 "_law_next" = true)
    (k8 : PySem.W.keepIn K (.ref f_law_next) = true)
    (a9 : PySem.W.nsIn K mainGlobals "_law_flag" = some (some (.ref f_law_flag)))
    (l9 : K.lookup f_law_flag = some ⟨oc9, od9, .func (PySem.W.fnOf "_law_flag" "_law_flag" (defArgs s_law_flag) (defBody s_law_flag) (defScope s_law_flag) .none kV9 dc9 pm9 an9 cd9 ct9), sl9⟩)
    (c9 : PySem.W.codeIn K cd9 "_law_flag" = true)
    (k9 : PySem.W.keepIn K (.ref f_law_flag) = true)
    (a10 : PySem.W.nsIn K mainGlobals "_law_transaction" = some (some (.ref f_law_transaction)))
    (l10 : K.lookup f_law_transaction = some ⟨oc10, od10, .func (PySem.W.fnOf "_law_transaction" "_law_transaction" (defArgs s_law_transaction) (defBody s_law_transaction) (defScope s_law_transaction) .none kV10 dc10 pm10 an10 cd10 ct10), sl10⟩)
    (c10 : PySem.W.codeIn K cd10 "_law_transaction" = true)
    (k10 : PySem.W.keepIn K (.ref f_law_transaction) = true)
    (a11 : PySem.W.nsIn K mainGlobals "_law_mark" = some (some (.ref f_law_mark)))
    (l11 : K.lookup f_law_mark = some ⟨oc11, od11, .func (PySem.W.fnOf "_law_mark" "_law_mark" (defArgs s_law_mark) (defBody s_law_mark) (defScope s_law_mark) .none kV11 dc11 pm11 an11 cd11 ct11), sl11⟩)
    (c11 : PySem.W.codeIn K cd11 "_law_mark" = true)
    (k11 : PySem.W.keepIn K (.ref f_law_mark) = true)
    (a12 : PySem.W.nsIn K mainGlobals "_law_due" = some (some (.ref f_law_due)))
    (l12 : K.lookup f_law_due = some ⟨oc12, od12, .func (PySem.W.fnOf "_law_due" "_law_due" (defArgs s_law_due) (defBody s_law_due) (defScope s_law_due) .none kV12 dc12 pm12 an12 cd12 ct12), sl12⟩)
    (c12 : PySem.W.codeIn K cd12 "_law_due" = true)
    (k12 : PySem.W.keepIn K (.ref f_law_due) = true)
    (a13 : PySem.W.nsIn K mainGlobals "_law_taken" = some (some (.ref f_law_taken)))
    (l13 : K.lookup f_law_taken = some ⟨oc13, od13, .func (PySem.W.fnOf "_law_taken" "_law_taken" (defArgs s_law_taken) (defBody s_law_taken) (defScope s_law_taken) .none kV13 dc13 pm13 an13 cd13 ct13), sl13⟩)
    (c13 : PySem.W.codeIn K cd13 "_law_taken" = true)
    (k13 : PySem.W.keepIn K (.ref f_law_taken) = true)
    (a14 : PySem.W.nsIn K mainGlobals "law" = some (some (.ref f_law)))
    (l14 : K.lookup f_law = some ⟨oc14, od14, .func (PySem.W.fnOf "law" "law" (defArgs s_law) (defBody s_law) (defScope s_law) .none kV14 dc14 pm14 an14 cd14 ct14), sl14⟩)
    (c14 : PySem.W.codeIn K cd14 "law" = true)
    (k14 : PySem.W.keepIn K (.ref f_law) = true)
    (zz_tuple : PySem.W.nsIn K mainGlobals "tuple" = some none)
    (zz_sorted : PySem.W.nsIn K mainGlobals "sorted" = some none)
    (zz_int : PySem.W.nsIn K mainGlobals "int" = some none)
    (zz_isinstance : PySem.W.nsIn K mainGlobals "isinstance" = some none)
    (zz_bool : PySem.W.nsIn K mainGlobals "bool" = some none)
    (zz_range : PySem.W.nsIn K mainGlobals "range" = some none)
    (zz_len : PySem.W.nsIn K mainGlobals "len" = some none)
    (zz_min : PySem.W.nsIn K mainGlobals "min" = some none)
    : ∃ fd : FuncData, (∀ (s : Shared) (v : Value), BindsTo s fd ⟨[v], []⟩ [("_law_script", v)]) ∧ ∀ base : Heap, K.In base → base.Ns mainGlobals mg → FnOk l.prog w K mg base CX0 5 fa fd ["_law_script"] (spLaw K) := by
  have e := hfa.symm.trans (PySem.W.mg_of X G a14)
  have e2 : fa = f_law := by injection e with e; injection e
  subst e2
  have F1 := fun_mk (st := s_Marks_init) l1 c1 k1
  have b1 := F1.binds (ps := ["self", "transaction"]) fun _ _ _ _ _ _ us hl => match us, hl with | [_, _], _ => rfl
  have F2 := fun_mk (st := s_Marks_own) l2 c2 k2
  have b2 := F2.binds (ps := ["self"]) fun _ _ _ _ _ _ us hl => match us, hl with | [_], _ => rfl
  have F3 := fun_mk (st := s_Marks_begin) l3 c3 k3
  have b3 := F3.binds (ps := ["self", "mark"]) fun _ _ _ _ _ _ us hl => match us, hl with | [_, _], _ => rfl
  have F4 := fun_mk (st := s_Marks_end) l4 c4 k4
  have b4 := F4.binds (ps := ["self"]) fun _ _ _ _ _ _ us hl => match us, hl with | [_], _ => rfl
  have F5 := fun_mk (st := s_Marks_take) l5 c5 k5
  have b5 := F5.binds (ps := ["self", "marks"]) fun _ _ _ _ _ _ us hl => match us, hl with | [_, _], _ => rfl
  have F6 := fun_mk (st := s_Marks_told) l6 c6 k6
  have b6 := F6.binds (ps := ["self"]) fun _ _ _ _ _ _ us hl => match us, hl with | [_], _ => rfl
  have F7 := fun_mk (st := s_law_stream) l7 c7 k7
  have b7 := F7.binds (ps := ["_law_cell", "_law_k"]) fun _ _ _ _ _ _ us hl => match us, hl with | [_, _], _ => rfl
  have F8 := fun_mk (st := s_law_next) l8 c8 k8
  have b8 := F8.binds (ps := ["_law_stream_here", "_law_size"]) fun _ _ _ _ _ _ us hl => match us, hl with | [_, _], _ => rfl
  have F9 := fun_mk (st := s_law_flag) l9 c9 k9
  have b9 := F9.binds (ps := ["_law_actual", "_law_due_here"]) fun _ _ _ _ _ _ us hl => match us, hl with | [_, _], _ => rfl
  have F10 := fun_mk (st := s_law_transaction) l10 c10 k10
  have b10 := F10.binds (ps := ["_law_stream_here"]) fun _ _ _ _ _ _ us hl => match us, hl with | [_], _ => rfl
  have F11 := fun_mk (st := s_law_mark) l11 c11 k11
  have b11 := F11.binds (ps := ["_law_stream_here"]) fun _ _ _ _ _ _ us hl => match us, hl with | [_], _ => rfl
  have F12 := fun_mk (st := s_law_due) l12 c12 k12
  have b12 := F12.binds (ps := ["_law_own", "_law_kept"]) fun _ _ _ _ _ _ us hl => match us, hl with | [_, _], _ => rfl
  have F13 := fun_mk (st := s_law_taken) l13 c13 k13
  have b13 := F13.binds (ps := ["_law_marks", "_law_own", "_law_kept", "_law_stream_here"]) fun _ _ _ _ _ _ us hl => match us, hl with | [_, _, _, _], _ => rfl
  have F14 := fun_mk (st := s_law) l14 c14 k14
  have b14 := F14.binds (ps := ["_law_script"]) fun _ _ _ _ _ _ us hl => match us, hl with | [_], _ => rfl
  exact ⟨PySem.W.fnOf "law" "law" (defArgs s_law) (defBody s_law) (defScope s_law) .none kV14 dc14 pm14 an14 cd14 ct14, fun s v => .of_eq rfl, fun base _ _ => ok_law (⟨C_Marks, ⟨pg_Marks, hd_Marks, po_Marks, sa_Marks⟩, PySem.W.mg_of X G aC_Marks, na_Marks_transaction, na_Marks_own, na_Marks_kept, f_Marks_init, _, F1, b1, ⟨mk_Marks, a1, i1, kc_Marks⟩, f_Marks_own, _, F2, b2, p_Marks_own, ⟨a2, pa2, pb2, ⟨_, pc2⟩⟩, f_Marks_begin, _, F3, b3, ⟨a3, i3, k3⟩, f_Marks_end, _, F4, b4, ⟨a4, i4, k4⟩, f_Marks_take, _, F5, b5, ⟨a5, i5, k5⟩, f_Marks_told, _, F6, b6, ⟨a6, i6, k6⟩, f_law_stream, _, F7, b7, PySem.W.mg_of X G a7, f_law_next, _, F8, b8, PySem.W.mg_of X G a8, f_law_flag, _, F9, b9, PySem.W.mg_of X G a9, f_law_transaction, _, F10, b10, PySem.W.mg_of X G a10, f_law_mark, _, F11, b11, PySem.W.mg_of X G a11, f_law_due, _, F12, b12, PySem.W.mg_of X G a12, f_law_taken, _, F13, b13, PySem.W.mg_of X G a13, fa, _, F14, b14, PySem.W.mg_of X G a14, PySem.W.mg_none_of X G zz_tuple, PySem.W.mg_none_of X G zz_sorted, PySem.W.mg_none_of X G zz_int, PySem.W.mg_none_of X G zz_isinstance, PySem.W.mg_none_of X G zz_bool, PySem.W.mg_none_of X G zz_range, PySem.W.mg_none_of X G zz_len, PySem.W.mg_none_of X G zz_min⟩ : Txt K mg)⟩
theorem walk {l : PySem.W.OpenLaw} {q : Program} {loose : List Str} {XP : (Str → Option Value) → Heap → Prop} {YP : World → Heap → Prop} {d : DefRec} {K : Params → PySem.W.Frag} (hn : l.most = some 63) (hdf : d.params.defaults = [])
    (hY : ∀ (w : World) (h : Heap), YP w h → (K w.params).In h)
    (F : ∀ (w : World) (mg : Str → Option Value) (fa : Addr) (h : Heap), (K w.params).In h → h.Ns mainGlobals mg → mg d.name = some (.ref fa) →
      ∃ fd : FuncData, (∀ (s : Shared) (u : Value), BindsTo s fd ⟨[u], []⟩ [("_law_script", u)]) ∧ ∀ base : Heap, (K w.params).In base → base.Ns mainGlobals mg → FnOk l.prog w (K w.params) mg base CX0 5 fa fd ["_law_script"] (spLaw (K w.params))) :
    PySem.W.WalkO q loose XP YP l.row.toRowW d [] (fun f vs => PySem.call f vs) :=
  L2.walk_of (n := 63) (k := 5) (x := "_law_script") (CX := fun _ => CX0) (sp := fun w => spLaw (K w.params)) hn (by decide) hdf ⟨rfl, by decide, by decide⟩ hY F (fun _ _ a ns hl _ hS => ⟨a, ns, rfl, hS, hl, fun _ => rfl⟩) fun _ _ _ _ _ z => z
end G4
open PySem PySem.W PyProof.Rows
set_option maxRecDepth 100000 in
set_option maxHeartbeats 0 in
theorem PySem.Challenge.cw_ringloosed_k16_marks_of_a_transaction_holds : PySem.Challenge.rw_ringloosed_k16_marks_of_a_transaction.Holds := by
  w_on; o_law; k_head; (case hw => w_witness2)
  k_fill
  refine G4.walk (l := PySem.Challenge.rw_ringloosed_k16_marks_of_a_transaction) rfl rfl (fun w h Y => PySem.W.kIn_of Y) ?F
  case F =>
    intro w mg fa h KX G hmg
    refine' G4.all_mk KX G hmg ?aC_Marks ?pg_Marks ?hd_Marks ?po_Marks ?sa_Marks ?mk_Marks ?kc_Marks ?na_Marks_transaction ?na_Marks_own ?na_Marks_kept ?a1 ?i1 ?l1 ?c1 ?k1 ?a2 ?pa2 ?pb2 ?pc2 ?l2 ?c2 ?k2 ?a3 ?i3 ?l3 ?c3 ?k3 ?a4 ?i4 ?l4 ?c4 ?k4 ?a5 ?i5 ?l5 ?c5 ?k5 ?a6 ?i6 ?l6 ?c6 ?k6 ?a7 ?l7 ?c7 ?k7 ?a8 ?l8 ?c8 ?k8 ?a9 ?l9 ?c9 ?k9 ?a10 ?l10 ?c10 ?k10 ?a11 ?l11 ?c11 ?k11 ?a12 ?l12 ?c12 ?k12 ?a13 ?l13 ?c13 ?k13 ?a14 ?l14 ?c14 ?k14 ?zz_tuple ?zz_sorted ?zz_int ?zz_isinstance ?zz_bool ?zz_range ?zz_len ?zz_min
    (case aC_Marks => k_is)
    (case pg_Marks => k_is)
    (case hd_Marks => k_is)
    (case po_Marks => k_is)
    (case sa_Marks => k_is)
    (case mk_Marks => k_is)
    (case kc_Marks => k_is)
    (case na_Marks_transaction => k_is)
    (case na_Marks_own => k_is)
    (case na_Marks_kept => k_is)
    (case a1 => k_is)
    (case i1 => k_is)
    (case l1 => k_is)
    (case c1 => k_is)
    (case k1 => k_is)
    (case a2 => k_is)
    (case pa2 => k_is)
    (case pb2 => k_is)
    (case pc2 => k_is)
    (case l2 => k_is)
    (case c2 => k_is)
    (case k2 => k_is)
    (case a3 => k_is)
    (case i3 => k_is)
    (case l3 => k_is)
    (case c3 => k_is)
    (case k3 => k_is)
    (case a4 => k_is)
    (case i4 => k_is)
    (case l4 => k_is)
    (case c4 => k_is)
    (case k4 => k_is)
    (case a5 => k_is)
    (case i5 => k_is)
    (case l5 => k_is)
    (case c5 => k_is)
    (case k5 => k_is)
    (case a6 => k_is)
    (case i6 => k_is)
    (case l6 => k_is)
    (case c6 => k_is)
    (case k6 => k_is)
    (case a7 => k_is)
    (case l7 => k_is)
    (case c7 => k_is)
    (case k7 => k_is)
    (case a8 => k_is)
    (case l8 => k_is)
    (case c8 => k_is)
    (case k8 => k_is)
    (case a9 => k_is)
    (case l9 => k_is)
    (case c9 => k_is)
    (case k9 => k_is)
    (case a10 => k_is)
    (case l10 => k_is)
    (case c10 => k_is)
    (case k10 => k_is)
    (case a11 => k_is)
    (case l11 => k_is)
    (case c11 => k_is)
    (case k11 => k_is)
    (case a12 => k_is)
    (case l12 => k_is)
    (case c12 => k_is)
    (case k12 => k_is)
    (case a13 => k_is)
    (case l13 => k_is)
    (case c13 => k_is)
    (case k13 => k_is)
    (case a14 => k_is)
    (case l14 => k_is)
    (case c14 => k_is)
    (case k14 => k_is)
    (case zz_tuple => k_is)
    (case zz_sorted => k_is)
    (case zz_int => k_is)
    (case zz_isinstance => k_is)
    (case zz_bool => k_is)
    (case zz_range => k_is)
    (case zz_len => k_is)
    (case zz_min => k_is)
