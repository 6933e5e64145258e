import PyProof.Rows.All
import Wide.All
import OpenK.AllK
import Wide.FinOn
import HandS.ForMost
import HandS.Wide
import HandS.IsInst
import HandS.Deep
import HandS.TupAny
import HandS.TupLe
import HandS.Flow
import HandS.Codes
import HandS.Defaults
import HandS.NoneIn
import HandS.MakeKw
import HandS.MakeKwOnly
import HandS.Property
import HandS.TupMul
import HandS.DeepEq
import KE.SortData
import KE.DataMinMax
import KE.DataCmp
import KE.DataFind
import PySem.Challenge.RW_ringloosed_k03_steps_and_programs
set_option Elab.async false
set_option linter.all false
set_option autoImplicit false
set_option maxRecDepth 100000
set_option maxHeartbeats 8000000
namespace G4
open PySem L2
/-! ### G4 base: row-independent words -/
theorem hu65 {k : Nat} {A : Around} (hr : Room k A) : A.units + 65 < cLine := by have := hr.un; omega
/-- the tuples stay -/
def Tk (H H' : Hp) : Prop := ∀ b xs, H b = some (.tup xs) → H' b = some (.tup xs)
theorem Tk.refl (H : Hp) : Tk H H := fun _ _ h => h
theorem Tk.trans {H H1 H2 : Hp} (a : Tk H H1) (b : Tk H1 H2) : Tk H H2 := fun c o h => b c o (a c o h)
theorem Tk.new {H : Hp} {p : Addr} {o : HO} (h : H p = none) : Tk H (upd H p o) := fun b xs e => by rw [upd_ne (ne_of_none e h)]; exact e
theorem Tk.put {H : Hp} {p : Addr} {xs : List V} {o : HO} (h : H p = some (.lst xs)) : Tk H (upd H p o) := fun b ys e => by
  rw [upd_ne (ne_of e h (by intro z; cases z))]; exact e
theorem Tk.putI {H : Hp} {p C dx : Addr} {fs : List (Str × V)} {o : HO} (h : H p = some (.ins C dx fs)) : Tk H (upd H p o) := fun b ys e => by
  rw [upd_ne (ne_of e h (by intro z; cases z))]; exact e
theorem Tk.putD {H : Hp} {p : Addr} {kvs : List (Key × V)} {o : HO} (h : H p = some (.dK kvs)) : Tk H (upd H p o) := fun b ys e => by
  rw [upd_ne (ne_of e h (by intro z; cases z))]; exact e
theorem Tk.putT {H : Hp} {p : Addr} {kvs : List (List Key × V)} {o : HO} (h : H p = some (.dT kvs)) : Tk H (upd H p o) := fun b ys e => by
  rw [upd_ne (ne_of e h (by intro z; cases z))]; exact e
theorem Same.tk {H H' : Hp} (s : Same H H') : Tk H H' := fun b xs e => s b _ e
theorem same_new {H : Hp} {p : Addr} {o : HO} (h : H p = none) : Same H (upd H p o) := fun b x e => by rw [upd_ne (ne_of_none e h)]; exact e
theorem get_new {H : Hp} {p a : Addr} {o x : HO} (h : H p = none) (e : H a = some x) : upd H p o a = some x := same_new h a x e
theorem get_ne {H : Hp} {p a : Addr} {o x : HO} (h : a ≠ p) (e : H a = some x) : upd H p o a = some x := by rw [upd_ne h]; exact e
/-! ### data that never changes: none, bools, ints, texts, tuples of them -/
mutual
def Im (H : Hp) : PyData → V → Prop
  | .none, v => v = .non
  | .bool b, v => v = .bl b
  | .int i, v => v = .int i
  | .str x, v => v = .str x
  | .tuple ds, v => ∃ a xs, v = .ref a ∧ H a = some (.tup xs) ∧ ImAll H ds xs
  | .list _, _ => False
  | .dict _, _ => False
def ImAll (H : Hp) : List PyData → List V → Prop
  | [], vs => vs = []
  | d :: ds, vs => ∃ v r, vs = v :: r ∧ Im H d v ∧ ImAll H ds r
end
mutual
theorem Im.mono {H H' : Hp} (t : Tk H H') : ∀ (d : PyData) (v : V), Im H d v → Im H' d v
  | .none, _, h => by simpa only [Im] using h
  | .bool _, _, h => by simpa only [Im] using h
  | .int _, _, h => by simpa only [Im] using h
  | .str _, _, h => by simpa only [Im] using h
  | .tuple ds, v, h => by
    simp only [Im] at h ⊢
    obtain ⟨a, xs, e, ha, hx⟩ := h
    exact ⟨a, xs, e, t _ _ ha, ImAll.mono t ds xs hx⟩
  | .list _, _, h => by simp only [Im] at h
  | .dict _, _, h => by simp only [Im] at h
theorem ImAll.mono {H H' : Hp} (t : Tk H H') : ∀ (ds : List PyData) (vs : List V), ImAll H ds vs → ImAll H' ds vs
  | [], _, h => by simpa only [ImAll] using h
  | d :: ds, vs, h => by
    simp only [ImAll] at h ⊢
    obtain ⟨v, r, e, h1, h2⟩ := h
    exact ⟨v, r, e, Im.mono t d v h1, ImAll.mono t ds r h2⟩
end
mutual
theorem Im.dp {K : PySem.W.Frag} {H : Hp} : ∀ (d : PyData) (v : V), Im H d v → Dp K H v d
  | .none, _, h => by simp only [Im] at h; subst h; exact .non
  | .bool _, _, h => by simp only [Im] at h; subst h; exact .bl _
  | .int _, _, h => by simp only [Im] at h; subst h; exact .int _
  | .str _, _, h => by simp only [Im] at h; subst h; exact .str _
  | .tuple ds, v, h => by
    simp only [Im] at h
    obtain ⟨a, xs, rfl, ha, hx⟩ := h
    exact .tup (SqT.of ha) (ImAll.dp ds xs hx)
  | .list _, _, h => by simp only [Im] at h
  | .dict _, _, h => by simp only [Im] at h
theorem ImAll.dp {K : PySem.W.Frag} {H : Hp} : ∀ (ds : List PyData) (vs : List V), ImAll H ds vs → DpAll K H vs ds
  | [], _, h => by simp only [ImAll] at h; subst h; exact .nil
  | d :: ds, vs, h => by
    simp only [ImAll] at h
    obtain ⟨v, r, rfl, h1, h2⟩ := h
    exact .cons (Im.dp d v h1) (ImAll.dp ds r h2)
end
theorem ImAll.len {H : Hp} : ∀ {ds : List PyData} {vs : List V}, ImAll H ds vs → vs.length = ds.length
  | [], _, h => by simp only [ImAll] at h; subst h; rfl
  | d :: ds, vs, h => by
    simp only [ImAll] at h
    obtain ⟨v, r, rfl, h1, h2⟩ := h
    simp [ImAll.len h2]
theorem ImAll.get {H : Hp} : ∀ {ds : List PyData} {vs : List V} {i : Nat} {v : V}, ImAll H ds vs → vs[i]? = some v → ∃ d, ds[i]? = some d ∧ Im H d v
  | [], _, i, v, h, e => by simp only [ImAll] at h; subst h; simp at e
  | d :: ds, vs, i, v, h, e => by
    simp only [ImAll] at h
    obtain ⟨u, r, rfl, h1, h2⟩ := h
    cases i with
    | zero => simp at e; subst e; exact ⟨d, rfl, h1⟩
    | succ i => simp at e; obtain ⟨x, a, b⟩ := ImAll.get h2 e; exact ⟨x, by simpa using a, b⟩
theorem ImAll.get' {H : Hp} : ∀ {ds : List PyData} {vs : List V} {i : Nat} {d : PyData}, ImAll H ds vs → ds[i]? = some d → ∃ v, vs[i]? = some v ∧ Im H d v
  | [], _, i, v, h, e => by simp at e
  | d :: ds, vs, i, x, h, e => by
    simp only [ImAll] at h
    obtain ⟨u, r, rfl, h1, h2⟩ := h
    cases i with
    | zero => simp at e; subst e; exact ⟨u, rfl, h1⟩
    | succ i => simp at e; obtain ⟨x, a, b⟩ := ImAll.get' h2 e; exact ⟨x, by simpa using a, b⟩
theorem ImAll.snoc {H : Hp} : ∀ {ds : List PyData} {vs : List V} {d : PyData} {v : V}, ImAll H ds vs → Im H d v → ImAll H (ds ++ [d]) (vs ++ [v])
  | [], _, d, v, h, e => by simp only [ImAll] at h; subst h; exact ⟨v, [], rfl, e, by simp only [ImAll]⟩
  | x :: ds, vs, d, v, h, e => by
    simp only [ImAll] at h
    obtain ⟨u, r, rfl, h1, h2⟩ := h
    exact ⟨u, r ++ [v], rfl, h1, ImAll.snoc h2 e⟩
theorem ImAll.app {H : Hp} : ∀ {ds es : List PyData} {vs us : List V}, ImAll H ds vs → ImAll H es us → ImAll H (ds ++ es) (vs ++ us)
  | [], _, _, _, h, e => by simp only [ImAll] at h; subst h; exact e
  | x :: ds, es, vs, us, h, e => by
    simp only [ImAll] at h
    obtain ⟨u, r, rfl, h1, h2⟩ := h
    exact ⟨u, r ++ us, rfl, h1, ImAll.app h2 e⟩
theorem ImAll.take {H : Hp} : ∀ {ds : List PyData} {vs : List V} (n : Nat), ImAll H ds vs → ImAll H (ds.take n) (vs.take n)
  | _, _, 0, _ => by simp only [List.take_zero]; simp only [ImAll]
  | [], _, n + 1, h => by simp only [ImAll] at h; subst h; simp only [List.take_nil]; simp only [ImAll]
  | x :: ds, vs, n + 1, h => by
    simp only [ImAll] at h
    obtain ⟨u, r, rfl, h1, h2⟩ := h
    exact ⟨u, r.take n, rfl, h1, ImAll.take n h2⟩
theorem ImAll.drop {H : Hp} : ∀ {ds : List PyData} {vs : List V} (n : Nat), ImAll H ds vs → ImAll H (ds.drop n) (vs.drop n)
  | _, _, 0, h => h
  | [], _, n + 1, h => by simp only [ImAll] at h; subst h; simp only [List.drop_nil]; simp only [ImAll]
  | x :: ds, vs, n + 1, h => by
    simp only [ImAll] at h
    obtain ⟨u, r, rfl, h1, h2⟩ := h
    exact ImAll.drop n h2
theorem im_nil {H : Hp} : ImAll H [] [] := by simp only [ImAll]
theorem im_cons {H : Hp} {d : PyData} {ds : List PyData} {v : V} {vs : List V} (a : Im H d v) (b : ImAll H ds vs) : ImAll H (d :: ds) (v :: vs) := by
  simp only [ImAll]; exact ⟨v, vs, rfl, a, b⟩
theorem im_tup {H : Hp} {ds : List PyData} {xs : List V} {a : Addr} (h : H a = some (.tup xs)) (i : ImAll H ds xs) : Im H (.tuple ds) (.ref a) := by
  simp only [Im]; exact ⟨a, xs, rfl, h, i⟩
theorem im_tupNew {H : Hp} {ds : List PyData} {xs : List V} {a : Addr} (h : H a = none) (i : ImAll H ds xs) : Im (upd H a (.tup xs)) (.tuple ds) (.ref a) :=
  im_tup upd_same (ImAll.mono (Tk.new h) _ _ i)
theorem im_int {H : Hp} {i : Int} : Im H (.int i) (.int i) := by simp only [Im]
theorem im_str {H : Hp} {x : Str} : Im H (.str x) (.str x) := by simp only [Im]
theorem im_bool {H : Hp} {b : Bool} : Im H (.bool b) (.bl b) := by simp only [Im]
theorem im_non {H : Hp} : Im H .none .non := by simp only [Im]
/-! ### data of bounded nesting, of plain kinds (no bools: they equal ints) -/
mutual
def pl : Nat → PyData → Bool
  | _, .none => true
  | _, .int _ => true
  | _, .str x => PyData.strOk x
  | 0, .tuple _ => false
  | n + 1, .tuple ds => plAll n ds
  | 0, .list _ => false
  | n + 1, .list ds => plAll n ds
  | _, .bool _ => false
  | _, .dict _ => false
def plAll : Nat → List PyData → Bool
  | _, [] => true
  | n, d :: ds => pl n d && plAll n ds
end
theorem plAll_iff {n : Nat} : ∀ {ds : List PyData}, plAll n ds = true ↔ ∀ d ∈ ds, pl n d = true
  | [] => by simp [plAll]
  | d :: ds => by simp only [plAll, Bool.and_eq_true, plAll_iff (ds := ds)]; simp
mutual
theorem pl_lay : ∀ (n : Nat) (d : PyData), pl n d = true → d.canLay0 = true ∧ d.depth ≤ n
  | n, .none, _ => by simp [PyData.canLay0, PyData.depth]
  | n, .int _, _ => by simp [PyData.canLay0, PyData.depth]
  | n, .str x, h => by simp only [pl] at h; simp [PyData.canLay0, PyData.depth, h]
  | 0, .tuple _, h => by simp [pl] at h
  | n + 1, .tuple ds, h => by
    simp only [pl] at h
    have := pl_layAll n ds h
    simp only [PyData.canLay0, PyData.depth]; exact ⟨this.1, by omega⟩
  | 0, .list _, h => by simp [pl] at h
  | n + 1, .list ds, h => by
    simp only [pl] at h
    have := pl_layAll n ds h
    simp only [PyData.canLay0, PyData.depth]; exact ⟨this.1, by omega⟩
  | _, .bool _, h => by simp [pl] at h
  | _, .dict _, h => by simp [pl] at h
theorem pl_layAll : ∀ (n : Nat) (ds : List PyData), plAll n ds = true → PyData.canLayAll0 ds = true ∧ PyData.depthAll ds ≤ n
  | n, [], _ => by simp [PyData.canLayAll0, PyData.depthAll]
  | n, d :: ds, h => by
    simp only [plAll, Bool.and_eq_true] at h
    have h1 := pl_lay n d h.1
    have h2 := pl_layAll n ds h.2
    simp only [PyData.canLayAll0, PyData.depthAll, h1.1, h2.1, Bool.and_self, true_and]; omega
end
theorem pl_shaped {n : Nat} {d : PyData} (h : pl n d = true) (hn : n ≤ 64 := by decide) : SeqAt.shaped d = true := by
  have := pl_lay n d h
  show (d.canLay0 && decide (d.depth ≤ 64)) = true
  rw [this.1, Bool.true_and]; exact decide_eq_true (by omega)
mutual
theorem pl_eqv : ∀ (n m : Nat) (d e : PyData), pl n d = true → pl m e = true → (PyData.eqv d e = true ↔ d = e)
  | n, m, .none, e, h, g => by cases e <;> simp_all [PyData.eqv, pl]
  | n, m, .int i, e, h, g => by cases e <;> simp_all [PyData.eqv, pl]
  | n, m, .str x, e, h, g => by cases e <;> simp_all [PyData.eqv, pl]
  | 0, m, .tuple _, e, h, g => by simp [pl] at h
  | n + 1, m, .tuple ds, e, h, g => by
    cases e with
    | tuple es =>
      cases m with
      | zero => simp [pl] at g
      | succ m =>
        simp only [pl] at h g
        simp only [PyData.eqv, PyData.tuple.injEq]
        exact pl_eqvAll n m ds es h g
    | _ => simp_all [PyData.eqv, pl]
  | 0, m, .list _, e, h, g => by simp [pl] at h
  | n + 1, m, .list ds, e, h, g => by
    cases e with
    | list es =>
      cases m with
      | zero => simp [pl] at g
      | succ m =>
        simp only [pl] at h g
        simp only [PyData.eqv, PyData.list.injEq]
        exact pl_eqvAll n m ds es h g
    | _ => simp_all [PyData.eqv, pl]
  | _, m, .bool _, e, h, g => by simp [pl] at h
  | _, m, .dict _, e, h, g => by simp [pl] at h
theorem pl_eqvAll : ∀ (n m : Nat) (ds es : List PyData), plAll n ds = true → plAll m es = true → (PyData.eqvAll ds es = true ↔ ds = es)
  | n, m, [], es, h, g => by cases es <;> simp [PyData.eqvAll]
  | n, m, d :: ds, es, h, g => by
    cases es with
    | nil => simp [PyData.eqvAll]
    | cons e es =>
      simp only [plAll, Bool.and_eq_true] at h g
      simp only [PyData.eqvAll, Bool.and_eq_true, List.cons.injEq]
      rw [pl_eqv n m d e h.1 g.1, pl_eqvAll n m ds es h.2 g.2]
end
noncomputable instance : DecidableEq PyData := fun a b => Classical.propDecidable (a = b)
theorem pl_eqv_dec {n m : Nat} {d e : PyData} (h : pl n d = true) (g : pl m e = true) : PyData.eqv d e = decide (d = e) := by
  rw [Bool.eq_iff_iff, decide_eq_true_eq]; exact pl_eqv n m d e h g
/-! ### x in t, t a tuple of data of any depth -/
section
variable {X : Cx}
def rInDT (K : PySem.W.Frag) : R2 := fun x y H Q => ∃ d ds, Dp K H x d ∧ Dp K H y (.tuple ds) ∧ SeqAt.shaped d = true ∧ SeqAt.shaped (.tuple ds) = true ∧ Q (.bl (ds.any fun z => PyData.eqv z d)) H
theorem op_inT (hu : X.A.units + 65 < cLine) : OpR X (compareOp .In) (rInDT X.K) := by
  intro pins s σ H x y v u Q I rx ry h
  obtain ⟨d, ds, hd, he, sd, se, q⟩ := h
  obtain ⟨as, r1⟩ := Dp.reads I d x v hd rx
  obtain ⟨bs, r2⟩ := Dp.reads I (.tuple ds) y u he ry
  exact SeqAt.in_tuple_reads r2 r1 (SeqAt.canLay_of_shaped se) (SeqAt.canLay_of_shaped sd) (PyProof.Rows.room_in_shaped sd hu) ⟨.bl _, H, I, rfl, q⟩
end
/-! ### rules over what is tracked alone -/
section
variable {X : Cx}
def rIxLH : R2 := fun x y H Q => ∃ p xs i v, x = .ref p ∧ y = .int i ∧ H p = some (.lst xs) ∧ atI xs i = some v ∧ Q v H
def rIxTH : R2 := fun x y H Q => ∃ p xs i v, x = .ref p ∧ y = .int i ∧ H p = some (.tup xs) ∧ atI xs i = some v ∧ Q v H
theorem ix_listH : IxR X rIxLH := fun value slice pins s σ H x y v u Q I rx ry ⟨p, xs, i, w, h1, h2, h3, h4, h5⟩ hs => ix_list value slice pins s σ H x y v u Q I rx ry ⟨p, xs, i, w, h1, h2, SqL.of h3, h4, h5⟩ hs
theorem ix_tupH : IxR X rIxTH := fun value slice pins s σ H x y v u Q I rx ry ⟨p, xs, i, w, h1, h2, h3, h4, h5⟩ hs => ix_tup value slice pins s σ H x y v u Q I rx ry ⟨p, xs, i, w, h1, h2, SqT.of h3, h4, h5⟩ hs
end
theorem atI0 {α : Type} {x : α} {xs : List α} : atI (x :: xs) 0 = some x := atI_nat (j := 0) rfl
theorem atI1 {α : Type} {x y : α} {xs : List α} : atI (x :: y :: xs) 1 = some y := atI_nat (j := 1) rfl
theorem atI2 {α : Type} {x y z : α} {xs : List α} : atI (x :: y :: z :: xs) 2 = some z := atI_nat (j := 2) rfl
theorem atI3 {α : Type} {x y z t : α} {xs : List α} : atI (x :: y :: z :: t :: xs) 3 = some t := atI_nat (j := 3) rfl
theorem ixN20 : ixN 2 0 = some 0 := by decide
theorem ixN21 : ixN 2 1 = some 1 := by decide
theorem atI_mem {α : Type} {xs : List α} {i : Int} (h0 : 0 ≤ i) (h1 : i < xs.length) : ∃ w, atI xs i = some w ∧ w ∈ xs := by
  obtain ⟨n, rfl⟩ := Int.eq_ofNat_of_zero_le h0
  have hn : n < xs.length := by omega
  exact ⟨xs[n], atI_nat (by simp [hn]), List.getElem_mem hn⟩
theorem tyL {K : PySem.W.Frag} {H : Hp} {p : Addr} {xs : List V} (h : H p = some (.lst xs)) : tyV K "list" (.ref p) H := .inl ⟨rfl, xs, SqL.of h⟩
/-! ### texts -/
theorem join_all {P : Nat → Prop} : ∀ (ys : List Str), (∀ y ∈ ys, ∀ c ∈ y.cps.toList, P c) → ∀ c ∈ (Txt.join ⟨#[]⟩ ys).cps.toList, P c := by
  have h : ∀ (ys : List Str), (∀ y ∈ ys, ∀ c ∈ y.cps.toList, P c) → ∀ c ∈ (Str.join ⟨#[]⟩ ys).cps.toList, P c := by
    intro ys
    induction ys with
    | nil => intro _ c hc; exact absurd hc (by simp [Str.join, Str.empty])
    | cons x r ih =>
      intro hy c hc
      cases r with
      | nil => exact hy x (by simp) c hc
      | cons y r =>
        have e : (Str.join ⟨#[]⟩ (x :: y :: r)).cps.toList = x.cps.toList ++ (Str.join ⟨#[]⟩ (y :: r)).cps.toList := by
          show ((x.cps ++ #[]) ++ (Str.join ⟨#[]⟩ (y :: r)).cps).toList = _
          simp
        rw [e] at hc
        rcases List.mem_append.mp hc with hc | hc
        · exact hy x (by simp) c hc
        · exact ih (fun z hz => hy z (List.mem_cons_of_mem _ hz)) c hc
  intro ys hy
  have e : Txt.join ⟨#[]⟩ ys = Str.join ⟨#[]⟩ ys := StrLaws.glued_eq_join _ _
  rw [e]; exact h ys hy
theorem join_len : ∀ (ys : List Str), (Txt.join ⟨#[]⟩ ys).length = (ys.map (·.length)).sum := by
  have h : ∀ (ys : List Str), (Str.join ⟨#[]⟩ ys).length = (ys.map (·.length)).sum := by
    intro ys
    induction ys with
    | nil => rfl
    | cons x r ih =>
      cases r with
      | nil => show x.length = _; simp
      | cons y r =>
        have e : (Str.join ⟨#[]⟩ (x :: y :: r)).length = x.length + (Str.join ⟨#[]⟩ (y :: r)).length := by
          show ((x.cps ++ #[]) ++ (Str.join ⟨#[]⟩ (y :: r)).cps).size = x.cps.size + (Str.join ⟨#[]⟩ (y :: r)).cps.size
          simp
        rw [e, ih]; simp
  intro ys
  have e : Txt.join ⟨#[]⟩ ys = Str.join ⟨#[]⟩ ys := StrLaws.glued_eq_join _ _
  rw [e]; exact h ys
/-- a name: 1 to 12 signs a to z -/
def NameD (x : Str) : Prop := 1 ≤ x.length ∧ x.length ≤ 12 ∧ ∀ c ∈ x.cps.toList, 97 ≤ c ∧ c ≤ 122
theorem NameD.ok {x : Str} (h : NameD x) : PyData.strOk x = true := by
  unfold PyData.strOk
  rw [Array.all_eq_true_iff_forall_mem]
  intro c hc
  have := h.2.2 c (by simpa using hc)
  exact decide_eq_true (by omega)
theorem nameD_by {x : Str} (h : (decide (1 ≤ x.length) && decide (x.length ≤ 12) && x.cps.toList.all fun c => decide (97 ≤ c) && decide (c ≤ 122)) = true) : NameD x := by
  simp only [Bool.and_eq_true, decide_eq_true_eq, List.all_eq_true] at h
  exact ⟨h.1.1, h.1.2, fun c hc => h.2 c hc⟩
/-! ### loops: the reading's own words, folded -/
def Loop (J : It) (g : TG) (tb : TS) (D : Ends) (σ : St) (H : Hp) : Prop := ∃ W : Nat → Nat → St → Hp → Prop, (∃ m, W 0 m σ H) ∧ ∀ i m σ H, W i m σ H →
  (J.stop i H ∧ D.nx σ H) ∨ (J.go i H ∧ ∃ N : St → Hp → Prop, (∀ σ' H', N σ' H' → ∃ m', m' < m ∧ W (i + 1) m' σ' H') ∧ ∀ x H', J.yld i H x H' → g x σ H' fun σ2 H2 => tb { D with nx := N, ct := N, bk := D.nx } σ2 H2)
theorem tFor_eq (wi : TI) (g : TG) (tb : TS) (D : Ends) (σ : St) (H : Hp) : tFor wi g tb D σ H = wi σ H (fun J H1 => Loop J g tb D σ H1) := rfl
theorem Loop.range {lo : Int} {n : Nat} {g : TG} {tb : TS} {D : Ends} {σ : St} {H : Hp} (Pv : Nat → St → Hp → Prop) (h0 : Pv 0 σ H)
    (hs : ∀ i σ H, i < n → Pv i σ H → g (.int (lo + i)) σ H fun σ2 H2 => tb { D with nx := Pv (i + 1), ct := Pv (i + 1), bk := D.nx } σ2 H2) (hd : ∀ σ H, Pv n σ H → D.nx σ H) : Loop (Itr lo n) g tb D σ H := for_range Pv h0 hs hd
theorem Loop.list {K : PySem.W.Frag} {a : Addr} {g : TG} {tb : TS} {D : Ends} {σ : St} {H : Hp} (xs : List V) (Pv : Nat → St → Hp → Prop) (h0 : Pv 0 σ H) (hl : ∀ i σ H, i ≤ xs.length → Pv i σ H → SqL K H a xs)
    (hs : ∀ i x σ H, xs[i]? = some x → Pv i σ H → g x σ H fun σ2 H2 => tb { D with nx := Pv (i + 1), ct := Pv (i + 1), bk := D.nx } σ2 H2) (hd : ∀ σ H, Pv xs.length σ H → D.nx σ H) : Loop (Itl K a) g tb D σ H := for_list Pv h0 hl hs hd
theorem Loop.tup {K : PySem.W.Frag} {a : Addr} {g : TG} {tb : TS} {D : Ends} {σ : St} {H : Hp} (xs : List V) (Pv : Nat → St → Hp → Prop) (h0 : Pv 0 σ H) (hl : ∀ i σ H, i ≤ xs.length → Pv i σ H → SqT K H a xs)
    (hs : ∀ i x σ H, xs[i]? = some x → Pv i σ H → g x σ H fun σ2 H2 => tb { D with nx := Pv (i + 1), ct := Pv (i + 1), bk := D.nx } σ2 H2) (hd : ∀ σ H, Pv xs.length σ H → D.nx σ H) : Loop (Itt K a) g tb D σ H := for_tup Pv h0 hl hs hd
def Lcl (J : It) (g : TG) (tt : TT) (te : TE) (vs : List Nat) (σ : St) (D : Addr) (H : Hp) (Q : Hp → Prop) : Prop := ∃ W : Nat → Nat → Hp → Prop, (∃ m, W 0 m (upd H D (.lst []))) ∧ ∀ i m H, W i m H →
  (J.stop i H ∧ Q H) ∨ (J.go i H ∧ ∃ Nx : Hp → Prop, (∀ H', Nx H' → ∃ m', m' < m ∧ W (i + 1) m' H') ∧ ∀ x H', J.yld i H x H' → g x (wipe σ vs) H' fun σ2 H2 => wipe σ2 vs = wipe σ vs ∧ tt σ2 H2 fun b H3 =>
    if b = true then te σ2 H3 fun y H4 => ∃ acc, H4 D = some (.lst acc) ∧ acc.length < sizeLine ∧ Nx (upd H4 D (.lst (acc ++ [y]))) else Nx H3)
theorem tLc_eq (wi : TI) (g : TG) (tt : TT) (te : TE) (vs : List Nat) (σ : St) (H : Hp) (Q : VK) : tLc wi g tt te vs σ H Q = wi σ H (fun J H1 => ∀ D, H1 D = none → Lcl J g tt te vs σ D H1 (fun H2 => Q (.ref D) H2)) := rfl
theorem Lcl.range {lo : Int} {n : Nat} {g : TG} {tt : TT} {te : TE} {vs : List Nat} {σ : St} {H1 : Hp} {D : Addr} {Qd : Hp → Prop} (Pv : Nat → Hp → Prop) (h0 : Pv 0 (upd H1 D (.lst [])))
    (hs : ∀ i H, i < n → Pv i H → g (.int (lo + i)) (wipe σ vs) H fun σ2 H2 => wipe σ2 vs = wipe σ vs ∧ tt σ2 H2 fun b H3 =>
      if b = true then te σ2 H3 fun y H4 => ∃ acc, H4 D = some (.lst acc) ∧ acc.length < sizeLine ∧ Pv (i + 1) (upd H4 D (.lst (acc ++ [y]))) else Pv (i + 1) H3) (hd : ∀ H, Pv n H → Qd H) : Lcl (Itr lo n) g tt te vs σ D H1 Qd := lc_range Pv h0 hs hd
theorem Lcl.list {K : PySem.W.Frag} {a : Addr} {g : TG} {tt : TT} {te : TE} {vs : List Nat} {σ : St} {H1 : Hp} {D : Addr} {Qd : Hp → Prop} (xs : List V) (Pv : Nat → Hp → Prop) (h0 : Pv 0 (upd H1 D (.lst []))) (hl : ∀ i H, i ≤ xs.length → Pv i H → SqL K H a xs)
    (hs : ∀ i x H, xs[i]? = some x → Pv i H → g x (wipe σ vs) H fun σ2 H2 => wipe σ2 vs = wipe σ vs ∧ tt σ2 H2 fun b H3 =>
      if b = true then te σ2 H3 fun y H4 => ∃ acc, H4 D = some (.lst acc) ∧ acc.length < sizeLine ∧ Pv (i + 1) (upd H4 D (.lst (acc ++ [y]))) else Pv (i + 1) H3) (hd : ∀ H, Pv xs.length H → Qd H) : Lcl (Itl K a) g tt te vs σ D H1 Qd := lc_list Pv h0 hl hs hd
theorem Lcl.tup {K : PySem.W.Frag} {a : Addr} {g : TG} {tt : TT} {te : TE} {vs : List Nat} {σ : St} {H1 : Hp} {D : Addr} {Qd : Hp → Prop} (xs : List V) (Pv : Nat → Hp → Prop) (h0 : Pv 0 (upd H1 D (.lst []))) (hl : ∀ i H, i ≤ xs.length → Pv i H → SqT K H a xs)
    (hs : ∀ i x H, xs[i]? = some x → Pv i H → g x (wipe σ vs) H fun σ2 H2 => wipe σ2 vs = wipe σ vs ∧ tt σ2 H2 fun b H3 =>
      if b = true then te σ2 H3 fun y H4 => ∃ acc, H4 D = some (.lst acc) ∧ acc.length < sizeLine ∧ Pv (i + 1) (upd H4 D (.lst (acc ++ [y]))) else Pv (i + 1) H3) (hd : ∀ H, Pv xs.length H → Qd H) : Lcl (Itt K a) g tt te vs σ D H1 Qd := lc_tup Pv h0 hl hs hd
/-! ### the drawn stream of a law -/
/-- at p a list of two ints -/
def St2 (H : Hp) (p : Addr) : Prop := ∃ d r : Int, H p = some (.lst [.int d, .int r])
/-- a generator ran: the stream at p may have gone on, all else is as it was, new things may stand -/
structure Gn (p : Addr) (H H' : Hp) : Prop where
  st0 : St2 H p
  st : St2 H' p
  but : ∀ b o, H b = some o → b ≠ p → H' b = some o
theorem Gn.tk {p : Addr} {H H' : Hp} (g : Gn p H H') : Tk H H' := fun b xs e => by
  obtain ⟨d, r, h⟩ := g.st0
  exact g.but b _ e (ne_of e h (by intro z; cases z))
theorem Gn.refl {p : Addr} {H : Hp} (h : St2 H p) : Gn p H H := ⟨h, h, fun _ _ e _ => e⟩
theorem Gn.trans {p : Addr} {H H1 H2 : Hp} (a : Gn p H H1) (b : Gn p H1 H2) : Gn p H H2 := ⟨a.st0, b.st, fun c o e n => b.but c o (a.but c o e n) n⟩
theorem St2.new {p q : Addr} {H : Hp} {o : HO} (h : St2 H p) (hq : H q = none) : St2 (upd H q o) p := by
  obtain ⟨d, r, e⟩ := h; exact ⟨d, r, get_new hq e⟩
theorem St2.ne {p q : Addr} {H : Hp} {o : HO} (h : St2 H p) (hq : q ≠ p) : St2 (upd H q o) p := by
  obtain ⟨d, r, e⟩ := h; exact ⟨d, r, get_ne hq.symm e⟩
theorem St2.nn {p q : Addr} {H : Hp} (h : St2 H p) (hq : H q = none) : q ≠ p := by
  obtain ⟨d, r, e⟩ := h; exact (ne_of_none e hq).symm
theorem Gn.new {p q : Addr} {H H1 : Hp} {o : HO} (a : Gn p H H1) (hq : H1 q = none) : Gn p H (upd H1 q o) :=
  ⟨a.st0, a.st.new hq, fun c x e n => get_new hq (a.but c x e n)⟩
/-- a list that the generator made is changed -/
theorem Gn.put {p q : Addr} {H H1 : Hp} {o : HO} (a : Gn p H H1) (hq : H q = none) (hn : q ≠ p) : Gn p H (upd H1 q o) :=
  ⟨a.st0, a.st.ne hn, fun c x e n => get_ne (ne_of_none e hq) (a.but c x e n)⟩
theorem Gn.none {p q : Addr} {H H' : Hp} (g : Gn p H H') (h : H' q = none) : H q = none := by
  cases e : H q with
  | none => rfl
  | some o =>
    by_cases hq : q = p
    · subst hq; obtain ⟨d, r, z⟩ := g.st; rw [h] at z; cases z
    · rw [g.but q o e hq] at h; cases h
theorem Gn.im {p : Addr} {H H' : Hp} (g : Gn p H H') {d : PyData} {v : V} (h : Im H d v) : Im H' d v := Im.mono g.tk d v h
theorem Gn.upd {p : Addr} {H : Hp} {d r : Int} (h : St2 H p) : Gn p H (upd H p (.lst [.int d, .int r])) := ⟨h, ⟨d, r, upd_same⟩, fun b o e n => get_ne n e⟩
theorem imNew {H : Hp} {q : Addr} {o : HO} {d : PyData} {v : V} (hq : H q = none) (h : Im H d v) : Im (upd H q o) d v := Im.mono (Tk.new hq) d v h
theorem cmulR {i j : Int} (h : (decide (-(2 ^ 64) < j) && decide (j < 2 ^ 64)) = true) : CMul i j := by
  simp only [Bool.and_eq_true, decide_eq_true_eq] at h; exact .inr h
theorem cmulL {i j : Int} (h : -(2 ^ 64) < i ∧ i < 2 ^ 64) : CMul i j := .inl h
theorem abc26 : (Str.ofString "abcdefghijklmnopqrstuvwxyz").cps.toList = (List.range 26).map (97 + ·) := by decide +kernel
theorem abc26_len : (Str.ofString "abcdefghijklmnopqrstuvwxyz").length = 26 := by decide +kernel
theorem abc26_at {v : Int} (h0 : 0 ≤ v) (h1 : v < 26) : ∃ c, atI (Str.ofString "abcdefghijklmnopqrstuvwxyz").cps.toList v = some c ∧ 97 ≤ c ∧ c ≤ 122 := by
  rw [abc26]
  obtain ⟨c, hc, hm⟩ := atI_mem (xs := (List.range 26).map (97 + ·)) h0 (by simpa using h1)
  refine ⟨c, hc, ?_⟩
  simp only [List.mem_map, List.mem_range] at hm
  omega
theorem empty_str : Str.ofString "" = ⟨#[]⟩ := by decide +kernel
theorem sum_ones : ∀ {ys : List Str}, (∀ y ∈ ys, y.length = 1) → (ys.map (·.length)).sum = ys.length
  | [], _ => rfl
  | y :: ys, h => by
    have h1 := h y (by simp)
    have h2 := sum_ones (ys := ys) fun z hz => h z (List.mem_cons_of_mem _ hz)
    simp only [List.map_cons, List.sum_cons, List.length_cons, h1, h2]; omega
theorem Gn.at {p q : Addr} {H H' : Hp} {o : HO} (g : Gn p H H') (h : H q = some o) (hn : q ≠ p) : H' q = some o := g.but q o h hn

/-! ### rules whose new thing may be an old one -/
section
variable {X : Cx}
theorem cutV_whole {xs : List V} {lo hi : Option Int} (h : HT.sIx xs.length 0 lo = 0 ∧ HT.sIx xs.length xs.length hi = xs.length) : cutV xs lo hi = xs := by
  unfold cutV; rw [h.1, h.2]; simp
theorem cutV_to (xs : List V) (k : Nat) : cutV xs none (some (k : Int)) = xs.take k := by
  unfold cutV
  rw [HT.sIx_none, HT.sIx_nat, List.drop_zero, Nat.sub_zero]
  by_cases h : k ≤ xs.length
  · rw [Nat.min_eq_left h]
  · rw [Nat.min_eq_right (by omega), List.take_length, List.take_of_length_le (by omega)]
theorem cutV_from (xs : List V) (k : Nat) : cutV xs (some (k : Int)) none = xs.drop k := by
  unfold cutV
  rw [HT.sIx_none, HT.sIx_nat]
  by_cases h : k ≤ xs.length
  · rw [Nat.min_eq_left h, List.take_of_length_le (by rw [List.length_drop]; omega)]
  · rw [Nat.min_eq_right (by omega), List.drop_length, List.drop_of_length_le (by omega)]; simp
def rSlTS : V → Option Int → Option Int → Hp → VK → Prop := fun x lo hi H Q => ∃ a xs, x = .ref a ∧ H a = some (.tup xs) ∧ ∀ p H', Same H H' → H' p = some (.tup (cutV xs lo hi)) → Q (.ref p) H'
theorem sl_tupS : SlR X rSlTS := fun pins s σ H x v vl vu lo hi sl Q I rx hs pl pu ⟨a, xs, h1, h2, h3⟩ =>
  sl_tupA pins s σ H x v vl vu lo hi sl Q I rx hs pl pu ⟨a, xs, h1, SqT.of h2, fun hw => h3 a H (Same.refl H) (by rw [cutV_whole hw]; exact h2), fun _ p hp => h3 p _ (same_new hp) upd_same⟩
def rCatS : R2 := fun x y H Q => ∃ a b xs ys, x = .ref a ∧ y = .ref b ∧ H a = some (.tup xs) ∧ H b = some (.tup ys) ∧ xs.length + ys.length ≤ sizeLine ∧ ∀ p H', Same H H' → H' p = some (.tup (xs ++ ys)) → Q (.ref p) H'
theorem op_catS : OpR X (binaryOp .Add) rCatS := fun pins s σ H x y v u Q I rx ry ⟨a, b, xs, ys, h1, h2, h3, h4, h5, h6⟩ =>
  op_catA pins s σ H x y v u Q I rx ry ⟨a, b, xs, ys, h1, h2, SqT.of h3, SqT.of h4, h5, fun e => h6 b H (Same.refl H) (by rw [e]; exact h4), fun _ e => h6 a H (Same.refl H) (by rw [e, List.append_nil]; exact h3), fun _ _ p hp => h6 p _ (same_new hp) upd_same⟩
def rTupS : List V → Hp → VK → Prop := fun xs H Q => ∃ p ys, xs = [.ref p] ∧ (H p = some (.lst ys) ∨ H p = some (.tup ys)) ∧ ∀ l H', Same H H' → H' l = some (.tup ys) → Q (.ref l) H'
theorem call_tupS : CallR X (.type "tuple") rTupS := fun pins s σ H xs us Q I r ⟨p, ys, h1, h2, h3⟩ =>
  call_tuple_of pins s σ H xs us Q I r ⟨p, ys, h1, h2.elim (fun h => .inl ⟨SqL.of h, fun l hl => h3 l _ (same_new hl) upd_same⟩) fun h => .inr ⟨SqT.of h, h3 p H (Same.refl H) h⟩⟩
def tyO : Option HO → Option String
  | some (.lst _) => some "list"
  | some (.tup _) => some "tuple"
  | some (.dK _) => some "dict"
  | some (.dT _) => some "dict"
  | _ => none
/-- the built-in type's name of a value -/
def tyS (H : Hp) : V → Option String
  | .non => some "NoneType"
  | .bl _ => some "bool"
  | .int _ => some "int"
  | .str _ => some "str"
  | .ref a => tyO (H a)
  | _ => none
theorem tyS_non {H : Hp} : tyS H .non = some "NoneType" := rfl
theorem tyS_bl {H : Hp} {b : Bool} : tyS H (.bl b) = some "bool" := rfl
theorem tyS_int {H : Hp} {b : Int} : tyS H (.int b) = some "int" := rfl
theorem tyS_str {H : Hp} {b : Str} : tyS H (.str b) = some "str" := rfl
theorem tyS_ref {H : Hp} {a : Addr} : tyS H (.ref a) = tyO (H a) := rfl
theorem tyO_l {xs : List V} : tyO (some (.lst xs)) = some "list" := rfl
theorem tyO_t {xs : List V} : tyO (some (.tup xs)) = some "tuple" := rfl
theorem tyO_d {xs : List (Key × V)} : tyO (some (.dK xs)) = some "dict" := rfl
theorem tyO_dt {xs : List (List Key × V)} : tyO (some (.dT xs)) = some "dict" := rfl
theorem tyS_x {K : PySem.W.Frag} {H : Hp} {x : V} {t : String} (h : tyS H x = some t) : TyX K H x (.type t) := by
  cases x with
  | non => cases h; exact .base .non
  | bl b => cases h; exact .base (.bl b)
  | int i => cases h; exact .base (.int i)
  | str x => cases h; exact .base (.str x)
  | ref a =>
    rw [tyS_ref] at h
    cases e : H a with
    | none => rw [e] at h; cases h
    | some o =>
      rw [e] at h
      cases o with
      | lst xs => cases h; exact .base (.lst e)
      | tup xs => cases h; exact .base (.tup e)
      | dK kvs => cases h; exact .base (.dK e)
      | dT kvs => cases h; exact .base (.dT e)
      | _ => cases h
  | _ => cases h
def rIsiH : List V → Hp → VK → Prop := fun xs H Q => ∃ (x : V) (n t : String) (b : Bool), xs = [x, .ty n] ∧ tyS H x = some t ∧ kitB t n = some b ∧ Q (.bl b) H
theorem call_isiH : CallR X (.builtin "isinstance") rIsiH := fun pins s σ H xs us Q I r ⟨x, n, t, b, h1, h2, h3, h4⟩ =>
  call_isi pins s σ H xs us Q I r ⟨x, .ty n, .type t, .type n, b, h1, .ty n, tyS_x h2, kit_ty h3, h4⟩
end
theorem kit_ll : kitB "list" "list" = some true := by decide +kernel
theorem kit_tt : kitB "tuple" "tuple" = some true := by decide +kernel
theorem kit_bb : kitB "bool" "bool" = some true := by decide +kernel
theorem kit_ii : kitB "int" "int" = some true := by decide +kernel
theorem kit_ib : kitB "int" "bool" = some false := by decide +kernel
theorem kit_bi : kitB "bool" "int" = some true := by decide +kernel
theorem kit_nt : kitB "NoneType" "tuple" = some false := by decide +kernel
theorem kit_it : kitB "int" "tuple" = some false := by decide +kernel
theorem kit_st : kitB "str" "tuple" = some false := by decide +kernel
theorem kit_bt : kitB "bool" "tuple" = some false := by decide +kernel
theorem kit_lt : kitB "list" "tuple" = some false := by decide +kernel
theorem kit_dt : kitB "dict" "tuple" = some false := by decide +kernel
theorem kit_ni : kitB "NoneType" "int" = some false := by decide +kernel
theorem kit_si : kitB "str" "int" = some false := by decide +kernel
theorem kit_ti : kitB "tuple" "int" = some false := by decide +kernel
theorem kit_li : kitB "list" "int" = some false := by decide +kernel
theorem kit_di : kitB "dict" "int" = some false := by decide +kernel
theorem kit_nb : kitB "NoneType" "bool" = some false := by decide +kernel
theorem kit_ns : kitB "NoneType" "str" = some false := by decide +kernel
theorem kit_is : kitB "int" "str" = some false := by decide +kernel
theorem kit_bs : kitB "bool" "str" = some false := by decide +kernel
theorem kit_ss : kitB "str" "str" = some true := by decide +kernel
theorem kit_ts : kitB "tuple" "str" = some false := by decide +kernel
theorem kit_ls : kitB "list" "str" = some false := by decide +kernel
theorem kit_ds : kitB "dict" "str" = some false := by decide +kernel
theorem kit_dd : kitB "dict" "dict" = some true := by decide +kernel
theorem Gn.same {p : Addr} {H H1 H2 : Hp} (g : Gn p H H1) (s : Same H1 H2) : Gn p H H2 :=
  ⟨g.st0, by obtain ⟨d, r, h⟩ := g.st; exact ⟨d, r, s _ _ h⟩, fun b o e n => s _ _ (g.but b o e n)⟩
theorem St2.same {p : Addr} {H1 H2 : Hp} (g : St2 H1 p) (s : Same H1 H2) : St2 H2 p := by obtain ⟨d, r, h⟩ := g; exact ⟨d, r, s _ _ h⟩
theorem Same.im {H H' : Hp} (s : Same H H') {d : PyData} {v : V} (h : Im H d v) : Im H' d v := Im.mono (Same.tk s) d v h
theorem Same.ims {H H' : Hp} (s : Same H H') {d : List PyData} {v : List V} (h : ImAll H d v) : ImAll H' d v := ImAll.mono (Same.tk s) d v h
theorem Gn.ims {p : Addr} {H H' : Hp} (g : Gn p H H') {d : List PyData} {v : List V} (h : ImAll H d v) : ImAll H' d v := ImAll.mono g.tk d v h
theorem imsNew {H : Hp} {q : Addr} {o : HO} {d : List PyData} {v : List V} (hq : H q = none) (h : ImAll H d v) : ImAll (upd H q o) d v := ImAll.mono (Tk.new hq) d v h
theorem im_tupE {H : Hp} {ds : List PyData} {v : V} (h : Im H (.tuple ds) v) : ∃ a xs, v = .ref a ∧ H a = some (.tup xs) ∧ ImAll H ds xs := by simpa only [Im] using h
theorem imAll_mem {H : Hp} {P : PyData → Prop} {ds : List PyData} {vs : List V} {i : Nat} {v : V} (h : ImAll H ds vs) (hP : ∀ d ∈ ds, P d) (e : vs[i]? = some v) : ∃ d, ds[i]? = some d ∧ P d ∧ Im H d v := by
  obtain ⟨d, e1, e2⟩ := h.get e
  exact ⟨d, e1, hP d (List.mem_of_getElem? e1), e2⟩
theorem imPut {H : Hp} {q : Addr} {xs : List V} {o : HO} {d : PyData} {v : V} (hq : H q = some (.lst xs)) (h : Im H d v) : Im (upd H q o) d v := Im.mono (Tk.put hq) d v h
theorem imsPut {H : Hp} {q : Addr} {xs : List V} {o : HO} {d : List PyData} {v : List V} (hq : H q = some (.lst xs)) (h : ImAll H d v) : ImAll (upd H q o) d v := ImAll.mono (Tk.put hq) d v h
/-- a list of such data grows by one -/
theorem ims_app {H : Hp} {l : Addr} {vs : List V} {ds : List PyData} {v : V} {d : PyData} (hl : H l = some (.lst vs)) (h : ImAll H ds vs) (hd : Im H d v) : ImAll (upd H l (.lst (vs ++ [v]))) (ds ++ [d]) (vs ++ [v]) := imsPut hl (h.snoc hd)
theorem all_snoc {α : Type} {P : α → Prop} {xs : List α} {x : α} (h : ∀ y ∈ xs, P y) (hx : P x) : ∀ y ∈ xs ++ [x], P y := by
  intro y hy
  rcases List.mem_append.mp hy with hy | hy
  · exact h y hy
  · rw [List.mem_singleton] at hy; subst hy; exact hx
section
variable {X : Cx} {K : PySem.W.Frag}
theorem op_eqDK (hK : X.K = K) (hu : X.A.units + 64 < cLine) : OpR X (compareOp .Eq) (rEqD K) := by subst hK; exact op_eqD hu
theorem op_neDK (hK : X.K = K) (hu : X.A.units + 64 < cLine) : OpR X (compareOp .NotEq) (rNeD K) := by subst hK; exact op_neD hu
theorem op_inDK (hK : X.K = K) (hu : X.A.units + 65 < cLine) : OpR X (compareOp .In) (rInD K) := by subst hK; exact op_inD hu
theorem op_notInDK (hK : X.K = K) (hu : X.A.units + 65 < cLine) : OpR X (compareOp .NotIn) (rNotInD K) := by subst hK; exact op_notInD hu
theorem op_inTK (hK : X.K = K) (hu : X.A.units + 65 < cLine) : OpR X (compareOp .In) (rInDT K) := by subst hK; exact op_inT hu
end
def lenO : Option HO → Option Nat
  | some (.lst xs) => some xs.length
  | some (.tup xs) => some xs.length
  | _ => none
def lenS (H : Hp) : V → Option Nat
  | .str y => if y.length ≤ sizeLine then some y.length else none
  | .ref p => lenO (H p)
  | _ => none
theorem lenO_l {xs : List V} : lenO (some (.lst xs)) = some xs.length := rfl
theorem lenO_t {xs : List V} : lenO (some (.tup xs)) = some xs.length := rfl
theorem lenS_ref {H : Hp} {p : Addr} : lenS H (.ref p) = lenO (H p) := rfl
theorem lenS_str {H : Hp} {y : Str} (h : y.length ≤ 16777216) : lenS H (.str y) = some y.length := by simp only [lenS]; rw [if_pos (by rw [sizeLine_eq]; exact h)]
theorem lenS_v {K : PySem.W.Frag} {H : Hp} {x : V} {n : Nat} (h : lenS H x = some n) : LenV K x H n := by
  cases x with
  | str y =>
    simp only [lenS] at h
    split at h
    · cases h; exact ⟨by assumption, rfl⟩
    · cases h
  | ref a =>
    rw [lenS_ref] at h
    cases e : H a with
    | none => rw [e] at h; cases h
    | some o =>
      rw [e] at h
      cases o with
      | lst xs => cases h; exact .inl ⟨xs, SqL.of e, rfl⟩
      | tup xs => cases h; exact .inr ⟨xs, SqT.of e, rfl⟩
      | _ => cases h
  | _ => cases h
section
variable {X : Cx}
def rLenS : List V → Hp → VK → Prop := fun xs H Q => ∃ (x : V) (n : Nat), xs = [x] ∧ lenS H x = some n ∧ Q (.int n) H
theorem call_lenS : CallR X (.builtin "len") rLenS := fun pins s σ H xs us Q I r ⟨x, n, h1, h2, h3⟩ => call_len pins s σ H xs us Q I r ⟨x, n, h1, lenS_v h2, h3⟩
end
theorem cutI {t u : TS} {D : Ends} {σ : St} {H : Hp} (Mid : St → Hp → Prop) (h1 : t { D with nx := Mid } σ H) (h2 : ∀ σ' H', Mid σ' H' → u D σ' H') : C8.tCut t u D σ H := ⟨Mid, h1, h2⟩
theorem upd_none {H : Hp} {p q : Addr} {o : HO} (h : upd H p o q = none) : q ≠ p ∧ H q = none := by
  by_cases e : q = p
  · subst e; rw [upd_same] at h; cases h
  · rw [upd_ne e] at h; exact ⟨e, h⟩
theorem imIns {H : Hp} {p C dx : Addr} {fs : List (Str × V)} {o : HO} {d : PyData} {v : V} (hp : H p = some (.ins C dx fs)) (h : Im H d v) : Im (upd H p o) d v := Im.mono (Tk.putI hp) d v h
theorem imsIns {H : Hp} {p C dx : Addr} {fs : List (Str × V)} {o : HO} {d : List PyData} {v : List V} (hp : H p = some (.ins C dx fs)) (h : ImAll H d v) : ImAll (upd H p o) d v := ImAll.mono (Tk.putI hp) d v h
theorem imDk {H : Hp} {p : Addr} {fs : List (Key × V)} {o : HO} {d : PyData} {v : V} (hp : H p = some (.dK fs)) (h : Im H d v) : Im (upd H p o) d v := Im.mono (Tk.putD hp) d v h
theorem imsDk {H : Hp} {p : Addr} {fs : List (Key × V)} {o : HO} {d : List PyData} {v : List V} (hp : H p = some (.dK fs)) (h : ImAll H d v) : ImAll (upd H p o) d v := ImAll.mono (Tk.putD hp) d v h
theorem ne_il {H : Hp} {p l C dx : Addr} {fs : List (Str × V)} {ws : List V} (hp : H p = some (.ins C dx fs)) (hl : H l = some (.lst ws)) : p ≠ l := ne_of hp hl (by intro z; cases z)
theorem ne_it {H : Hp} {p l C dx : Addr} {fs : List (Str × V)} {ws : List V} (hp : H p = some (.ins C dx fs)) (hl : H l = some (.tup ws)) : p ≠ l := ne_of hp hl (by intro z; cases z)
theorem ne_dl {H : Hp} {p l : Addr} {fs : List (Key × V)} {ws : List V} (hp : H p = some (.dK fs)) (hl : H l = some (.lst ws)) : p ≠ l := ne_of hp hl (by intro z; cases z)
theorem ne_id {H : Hp} {p l C dx : Addr} {fs : List (Str × V)} {ws : List (Key × V)} (hp : H p = some (.ins C dx fs)) (hl : H l = some (.dK ws)) : p ≠ l := ne_of hp hl (by intro z; cases z)
section
variable {X : Cx} {pos : Pos}
def gTupH (n : Nat) (t : TGs) : TG := fun v σ H Q => ∃ a xs, v = .ref a ∧ H a = some (.tup xs) ∧ xs.length = n ∧ t xs σ H Q
theorem pg_tupH {es : List Expr} {k : Nat} {t : TGs} (n : Nat) (hc : X.calm = true) (h : PGs X es t)
    (hn : (assignEach es X.env).length = n := by rfl) (hst : (assignEach es X.env).findIdx? (·.1) = none := by rfl) : PG X (.Tuple es k pos) (gTupH n t) :=
  ⟨fun pins s σ H v u Q I r ⟨a, xs, h1, h2, h3, h4⟩ => (pg_tup hc h hn hst).run pins s σ H v u Q I r ⟨a, xs, h1, SqT.of h2, h3, h4⟩⟩
def gUnlH (n : Nat) (t : TGs) : TG := fun v σ H Q => ∃ a xs, v = .ref a ∧ H a = some (.lst xs) ∧ xs.length = n ∧ t xs σ H Q
theorem pg_unlH {es : List Expr} {k : Nat} {t : TGs} (n : Nat) (hc : X.calm = true) (h : PGs X es t)
    (hn : (assignEach es X.env).length = n := by rfl) (hst : (assignEach es X.env).findIdx? (·.1) = none := by rfl) : PG X (.Tuple es k pos) (gUnlH n t) :=
  ⟨fun pins s σ H v u Q I r ⟨a, xs, h1, h2, h3, h4⟩ => (pg_unl hc h hn hst).run pins s σ H v u Q I r ⟨a, xs, h1, SqL.of h2, h3, h4⟩⟩
end
/-! ### the drawn data -/
def kD (h : Int) (n : Str) : PyData := .tuple [.int h, .str n]
def KeyD (d : PyData) : Prop := ∃ h n, d = kD h n ∧ 0 ≤ h ∧ h ≤ 1000000000000 ∧ NameD n
theorem KeyD.pl {d : PyData} (h : KeyD d) : pl 1 d = true := by
  obtain ⟨a, b, rfl, _, _, n⟩ := h
  simp [kD, G4.pl, plAll, n.ok]
/-- a step of a program -/
def StepD (d : PyData) : Prop := ∃ k, KeyD k ∧ ((∃ w, d = .tuple [.str w, k] ∧ (w = Str.ofString "read" ∨ w = Str.ofString "store")) ∨
  ∃ w i, d = .tuple [.str w, k, .int i] ∧ (w = Str.ofString "put" ∨ w = Str.ofString "add" ∨ w = Str.ofString "need") ∧ -1000000000000 ≤ i ∧ i ≤ 1000000000000)
theorem ok_words : PyData.strOk (Str.ofString "read") = true ∧ PyData.strOk (Str.ofString "store") = true ∧ PyData.strOk (Str.ofString "put") = true ∧ PyData.strOk (Str.ofString "add") = true ∧ PyData.strOk (Str.ofString "need") = true := by decide +kernel
theorem StepD.pl {d : PyData} (h : StepD d) : G4.pl 2 d = true := by
  obtain ⟨k, hk, h⟩ := h
  obtain ⟨a, b, rfl, _, _, n⟩ := hk
  obtain ⟨o1, o2, o3, o4, o5⟩ := ok_words
  rcases h with ⟨w, rfl, hw⟩ | ⟨w, i, rfl, hw, _⟩
  · rcases hw with rfl | rfl <;> simp [kD, G4.pl, plAll, n.ok, o1, o2]
  · rcases hw with rfl | rfl | rfl <;> simp [kD, G4.pl, plAll, n.ok, o3, o4, o5]
def stepKey : PyData → PyData
  | .tuple (_ :: k :: _) => k
  | _ => .none
theorem StepD.key {d : PyData} (h : StepD d) : KeyD (stepKey d) := by
  obtain ⟨k, hk, h⟩ := h
  rcases h with ⟨w, rfl, _⟩ | ⟨w, i, rfl, _⟩ <;> exact hk
/-- a step as it stands: its second place is its key -/
theorem StepD.at {H : Hp} {d : PyData} {v : V} (h : StepD d) (i : Im H d v) : ∃ a w k r, v = .ref a ∧ H a = some (.tup (w :: k :: r)) ∧ Im H (stepKey d) k := by
  obtain ⟨k, hk, h⟩ := h
  rcases h with ⟨w, rfl, _⟩ | ⟨w, j, rfl, _⟩
  · obtain ⟨a, xs, rfl, ha, hx⟩ := im_tupE i
    simp only [ImAll] at hx
    obtain ⟨v1, r1, rfl, _, v2, r2, rfl, h2, _⟩ := hx
    exact ⟨a, v1, v2, r2, rfl, ha, h2⟩
  · obtain ⟨a, xs, rfl, ha, hx⟩ := im_tupE i
    simp only [ImAll] at hx
    obtain ⟨v1, r1, rfl, _, v2, r2, rfl, h2, _⟩ := hx
    exact ⟨a, v1, v2, r2, rfl, ha, h2⟩
/-- the unlike keys in the order of their first use -/
noncomputable def keysOf (ds : List PyData) : List PyData := ds.foldl (fun acc d => if stepKey d ∈ acc then acc else acc ++ [stepKey d]) []
theorem keysOf_snoc (ds : List PyData) (d : PyData) : keysOf (ds ++ [d]) = if stepKey d ∈ keysOf ds then keysOf ds else keysOf ds ++ [stepKey d] := by
  unfold keysOf; rw [List.foldl_append]; rfl
theorem keysOf_mem : ∀ (n : Nat) (ds : List PyData), ds.length = n → ∀ k, k ∈ keysOf ds ↔ ∃ d ∈ ds, stepKey d = k
  | 0, ds, h, k => by
    have : ds = [] := List.length_eq_zero_iff.mp h
    subst this; simp [keysOf]
  | n + 1, ds, h, k => by
    obtain ⟨es, d, rfl⟩ : ∃ es d, ds = es ++ [d] := by
      rcases List.eq_nil_or_concat ds with e | ⟨es, d, e⟩
      · subst e; simp at h
      · exact ⟨es, d, by simpa using e⟩
    have ih := keysOf_mem n es (by simpa using h)
    rw [keysOf_snoc]
    by_cases hd : stepKey d ∈ keysOf es
    · rw [if_pos hd, ih k]
      have hd' := (ih _).mp hd
      constructor
      · rintro ⟨e, he, q⟩; exact ⟨e, by simp [he], q⟩
      · rintro ⟨e, he, q⟩
        rcases List.mem_append.mp he with he | he
        · exact ⟨e, he, q⟩
        · rw [List.mem_singleton] at he; subst he; rw [← q]; exact hd'
    · rw [if_neg hd, List.mem_append, ih k]
      constructor
      · rintro (⟨e, he, q⟩ | q)
        · exact ⟨e, by simp [he], q⟩
        · rw [List.mem_singleton] at q; exact ⟨d, by simp, q.symm⟩
      · rintro ⟨e, he, q⟩
        rcases List.mem_append.mp he with he | he
        · exact .inl ⟨e, he, q⟩
        · rw [List.mem_singleton] at he; subst he; exact .inr (by simp [q])
theorem keysOf_keys {ds : List PyData} (h : ∀ d ∈ ds, StepD d) : ∀ k ∈ keysOf ds, KeyD k := by
  intro k hk
  obtain ⟨d, hd, rfl⟩ := (keysOf_mem _ ds rfl k).mp hk
  exact (h d hd).key
theorem keysOf_len : ∀ (n : Nat) (ds : List PyData), ds.length = n → (keysOf ds).length ≤ n
  | 0, ds, h => by
    have : ds = [] := List.length_eq_zero_iff.mp h
    subst this; simp [keysOf]
  | n + 1, ds, h => by
    obtain ⟨es, d, rfl⟩ : ∃ es d, ds = es ++ [d] := by
      rcases List.eq_nil_or_concat ds with e | ⟨es, d, e⟩
      · subst e; simp at h
      · exact ⟨es, d, by simpa using e⟩
    have ih := keysOf_len n es (by simpa using h)
    rw [keysOf_snoc]
    split
    · omega
    · rw [List.length_append]; simp; omega
theorem any_mem {n m : Nat} {ds : List PyData} {k : PyData} (h : ∀ d ∈ ds, pl n d = true) (hk : pl m k = true) : (ds.any fun z => PyData.eqv z k) = decide (k ∈ ds) := by
  rw [Bool.eq_iff_iff, List.any_eq_true, decide_eq_true_eq]
  constructor
  · rintro ⟨z, hz, e⟩
    have := (pl_eqv _ _ _ _ (h z hz) hk).mp e
    subst this; exact hz
  · intro hz
    exact ⟨k, hz, (pl_eqv _ _ _ _ hk hk).mpr rfl⟩
theorem pl_list {n : Nat} {ds : List PyData} (h : ∀ d ∈ ds, pl n d = true) : pl (n + 1) (.list ds) = true := by
  simp only [pl]; exact plAll_iff.mpr h
theorem pl_tuple {n : Nat} {ds : List PyData} (h : ∀ d ∈ ds, pl n d = true) : pl (n + 1) (.tuple ds) = true := by
  simp only [pl]; exact plAll_iff.mpr h
/-- a word of three: one key, two kinds -/
theorem take_snoc {α : Type} {xs : List α} {i : Nat} {x : α} (h : xs[i]? = some x) : xs.take (i + 1) = xs.take i ++ [x] := by
  rw [List.take_add_one, h]; rfl
theorem ex_take {ds : List PyData} {k : PyData} {i : Nat} {d : PyData} (h : ds[i]? = some d) : (∃ e ∈ ds.take (i + 1), stepKey e = k) ↔ ((∃ e ∈ ds.take i, stepKey e = k) ∨ stepKey d = k) := by
  rw [take_snoc h]
  constructor
  · rintro ⟨e, he, q⟩
    rcases List.mem_append.mp he with he | he
    · exact .inl ⟨e, he, q⟩
    · rw [List.mem_singleton] at he; subst he; exact .inr q
  · rintro (⟨e, he, q⟩ | q)
    · exact ⟨e, List.mem_append_left _ he, q⟩
    · exact ⟨d, by simp, q⟩
/-! ### order of data: comparisons, sorted, min, remove (over the library's rules for data) -/
open PySem.W in
section
variable {X : Cx}
def rLtA (K : PySem.W.Frag) : R2 := fun x y H Q => ∃ d e, Dp K H x d ∧ Dp K H y e ∧ alike d e = true ∧ d ≠ .none ∧ d.depth ≤ 60 ∧ Q (.bl (dataLt d e)) H
def rGtA (K : PySem.W.Frag) : R2 := fun x y H Q => ∃ d e, Dp K H x d ∧ Dp K H y e ∧ alike d e = true ∧ d ≠ .none ∧ d.depth ≤ 60 ∧ Q (.bl (dataLt e d)) H
def rLeA (K : PySem.W.Frag) : R2 := fun x y H Q => ∃ d e, Dp K H x d ∧ Dp K H y e ∧ alike d e = true ∧ d ≠ .none ∧ d.depth ≤ 60 ∧ Q (.bl (!dataLt e d)) H
theorem op_gtA {K : PySem.W.Frag} (hK : X.K = K) (hu : X.A.units + 65 < cLine) : OpR X (compareOp .Gt) (rGtA K) := by
  subst hK
  intro pins s σ H x y v u Q I rx ry h
  obtain ⟨d, e, hd, he, ha, hn, hp, q⟩ := h
  obtain ⟨as, r1⟩ := Dp.reads I d x v hd rx
  obtain ⟨bs, r2⟩ := Dp.reads I e y u he ry
  refine gt_data r1 r2 ha hn ?_ ⟨.bl _, H, I, rfl, q⟩
  have := Nat.min_le_left d.depth e.depth
  omega
theorem op_ltA {K : PySem.W.Frag} (hK : X.K = K) (hu : X.A.units + 65 < cLine) : OpR X (compareOp .Lt) (rLtA K) := by
  subst hK
  intro pins s σ H x y v u Q I rx ry h
  obtain ⟨d, e, hd, he, ha, hn, hp, q⟩ := h
  obtain ⟨as, r1⟩ := Dp.reads I d x v hd rx
  obtain ⟨bs, r2⟩ := Dp.reads I e y u he ry
  refine lt_data r1 r2 ha hn ?_ ⟨.bl _, H, I, rfl, q⟩
  have := Nat.min_le_left d.depth e.depth
  omega
theorem op_leA {K : PySem.W.Frag} (hK : X.K = K) (hu : X.A.units + 65 < cLine) : OpR X (compareOp .LtE) (rLeA K) := by
  subst hK
  intro pins s σ H x y v u Q I rx ry h
  obtain ⟨d, e, hd, he, ha, hn, hp, q⟩ := h
  obtain ⟨as, r1⟩ := Dp.reads I d x v hd rx
  obtain ⟨bs, r2⟩ := Dp.reads I e y u he ry
  refine le_data r1 r2 ha hn ?_ ⟨.bl _, H, I, rfl, q⟩
  have := Nat.min_le_left d.depth e.depth
  omega
/-- values and data, side by side -/
theorem ims_each {H : Hp} : ∀ {ds : List PyData} {ys : List V} {us : List Value}, ImAll H ds ys → Vals ys us → EachIs (fun u (b : V × PyData) => RelV b.1 u ∧ Im H b.2 b.1) us (ys.zip ds)
  | [], ys, us, h, r => by
    simp only [ImAll] at h; subst h; cases r; exact .nil
  | d :: ds, ys, us, h, r => by
    simp only [ImAll] at h
    obtain ⟨v, t, rfl, h1, h2⟩ := h
    cases r with
    | cons r1 r2 => exact .cons ⟨r1, h1⟩ (ims_each h2 r2)
theorem each_vals {H : Hp} : ∀ {us : List Value} {bs : List (V × PyData)}, EachIs (fun u (b : V × PyData) => RelV b.1 u ∧ Im H b.2 b.1) us bs → Vals (bs.map (·.1)) us ∧ ImAll H (bs.map (·.2)) (bs.map (·.1))
  | _, _, .nil => ⟨.nil, im_nil⟩
  | _, _, .cons h t => by
    obtain ⟨a, b⟩ := each_vals t
    exact ⟨.cons h.1 a, im_cons h.2 b⟩
theorem zip_snd {α β : Type} : ∀ {xs : List α} {ys : List β}, xs.length = ys.length → (xs.zip ys).map (·.2) = ys
  | [], [], _ => rfl
  | x :: xs, y :: ys, h => by simp only [List.zip_cons_cons, List.map_cons]; rw [zip_snd (by simpa using h)]
  | [], _ :: _, h => by simp at h
  | _ :: _, [], h => by simp at h
def rSortD : List V → Hp → VK → Prop := fun vs H Q => ∃ (a : Addr) (ys : List V) (ds : List PyData), vs = [.ref a] ∧ H a = some (.lst ys) ∧ ImAll H ds ys ∧ AllAlike ds ∧ Sortable ds ∧ (∀ d ∈ ds, d.depth ≤ 60) ∧
  ∀ (p : Addr) (zs : List V) (H' : Hp), H p = none → Same H H' → (∀ b, b ≠ p → H' b = H b) → H' p = some (.lst zs) → ImAll H' (ds.mergeSort fun d e => !dataLt e d) zs → Q (.ref p) H'
theorem call_sortD (hu : X.A.units + 65 < cLine) : CallR X (.builtin "sorted") rSortD := by
  intro pins s σ H vs us Q I r h
  obtain ⟨a, ys, ds, rfl, ha, hi, hal, hk, hd, q⟩ := h
  obtain ⟨its, rv, hl, hz⟩ := I.list (SqL.of (K := X.K) ha)
  rw [Vals.ref1 r]
  have hlen := hi.len
  have e := ims_each hi rv
  have hsnd : (ys.zip ds).map (·.2) = ds := zip_snd hlen
  have er : EachIs (fun u (b : V × PyData) => ∃ as, Reads s.heap u b.2 as) its (ys.zip ds) := e.mono fun u b hb => Dp.reads I b.2 b.1 u (Im.dp _ _ hb.2) hb.1
  refine sorted_data (enc := fun b : V × PyData => b.2) hl.isList e er (by rw [hsnd]; exact hal) (by rw [hsnd]; exact hk) (by rw [List.length_zip]; omega) (fun b hb => ?_) fun out ho eo => ?_
  · have hm : b.2 ∈ ds := by rw [← hsnd]; exact List.mem_map_of_mem hb
    have := hd _ hm
    omega
  · obtain ⟨hv, him⟩ := each_vals eo
    obtain ⟨ep, he'⟩ := PyProof.Rows.sortedAll_at s.heap its out.toArray
    have hms : ((ys.zip ds).mergeSort (dataLe false fun b : V × PyData => b.2)).map (·.2) = ds.mergeSort fun d e => !dataLt e d :=
      (sort_maps (r := dataLe false fun b : V × PyData => b.2) (s := fun d e => !dataLt e d) (fun b : V × PyData => b.2) (l := ys.zip ds) (fun _ _ _ _ => rfl)).trans (by rw [hsnd])
    rw [hms] at him
    have hlz : (((ys.zip ds).mergeSort (dataLe false fun b : V × PyData => b.2)).map (·.1)).length ≤ sizeLine := by
      rw [List.length_map, List.length_mergeSort, List.length_zip]; omega
    have hf := I.hok.fresh (Nat.le_succ s.heap.objs.size)
    refine ⟨.ref _, upd H (s.heap.objs.size + 1) (.lst (((ys.zip ds).mergeSort (dataLe false fun b : V × PyData => b.2)).map (·.1))), I.laid (t' := s.toks) (fun _ _ => PyProof.Rows.sortedAll_old) (Nat.le_succ _) ⟨hlz, out, ep, hv, ?_⟩, rfl, q _ _ _ hf (same_new hf) (fun b hb => upd_ne hb) upd_same (imsNew hf him)⟩
    exact he'
def rMinD : List V → Hp → VK → Prop := fun vs H Q => ∃ (a : Addr) (ys : List V) (d : PyData) (ds : List PyData), vs = [.ref a] ∧ H a = some (.lst ys) ∧ ImAll H (d :: ds) ys ∧ AlikeAll (d :: ds) ∧ (∀ e ∈ d :: ds, e.depth ≤ 60) ∧
  ∀ v : V, v ∈ ys → Im H (minD d ds) v → Q v H
theorem depthAll_le {n : Nat} : ∀ {ds : List PyData}, (∀ d ∈ ds, d.depth ≤ n) → PyData.depthAll ds ≤ n
  | [], _ => by simp [PyData.depthAll]
  | d :: ds, h => by
    have h1 := h d (by simp)
    have h2 := depthAll_le (ds := ds) fun e he => h e (List.mem_cons_of_mem _ he)
    simp only [PyData.depthAll]; omega
theorem minD_mem (d : PyData) : ∀ ds : List PyData, minD d ds ∈ d :: ds := by
  intro ds
  unfold minD
  induction ds generalizing d with
  | nil => simp
  | cons e ds ih =>
    simp only [List.foldl_cons]
    have := ih (if dataLt e d = true then e else d)
    rcases List.mem_cons.mp this with h | h
    · rw [h]; split <;> simp
    · simp [h]
theorem call_minD (hc : X.calm = true) (hu : X.A.units + 65 < cLine) : CallR X (.builtin "min") rMinD := by
  intro pins s σ H vs us Q I r h
  obtain ⟨a, ys, d, ds, rfl, ha, hi, hal, hd, q⟩ := h
  obtain ⟨its, rv, hl, hz⟩ := I.list (SqL.of (K := X.K) ha)
  rw [Vals.ref1 r]
  obtain ⟨as, hr⟩ := Dp.readsAll I (d :: ds) ys its (ImAll.dp _ _ hi) rv
  have hda := depthAll_le hd
  refine min_list_data (vs := its.toArray) (I.ok.hd hc) hl.isList (by simpa using hr) hal (by omega) fun i v h' tk bs hv hm hk => ?_
  have hv' : its[i]? = some v := by simpa using hv
  have hl1 := rv.length
  have hi1 : i < ys.length := by rw [hl1]; exact (List.getElem?_eq_some_iff.mp hv').1
  have hy : ys[i]? = some ys[i] := by simp [hi1]
  obtain ⟨u, hu1, hu2⟩ := rv.get hy
  rw [hv'] at hu1
  cases hu1
  obtain ⟨e, he1, he2⟩ := hi.get hy
  obtain ⟨cs, hre⟩ := Dp.reads I e ys[i] v (Im.dp _ _ he2) hu2
  have hem : e ∈ d :: ds := List.mem_of_getElem? he1
  have heq : e = minD d ds := alike_unique _ _ _ _ _ (hal.1 e hem _ (minD_mem d ds)) (PyProof.Rows.Reads.keeps hk hre) hm
  refine ⟨ys[i], H, I.kept (t' := tk) hk, hu2, q _ (List.getElem_mem hi1) ?_⟩
  rw [← heq]; exact he2
theorem vals_erase : ∀ {xs : List V} {us : List Value}, Vals xs us → ∀ j, Vals (xs.eraseIdx j) (us.eraseIdx j)
  | _, _, .nil, _ => .nil
  | _, _, .cons _ t, 0 => t
  | _, _, .cons h t, j + 1 => .cons h (vals_erase t j)
def rRemD : V → List V → Hp → VK → Prop := fun x vs H Q => ∃ (l : Addr) (y : V) (ys : List V) (d : PyData) (ds : List PyData) (j : Nat), x = .ref l ∧ vs = [y] ∧ H l = some (.lst ys) ∧ ImAll H ds ys ∧ Im H d y ∧ PyData.plainAll ds = true ∧ d.plain = true ∧ d.depth ≤ 60 ∧
  SeqAt.dataPlace ds d = some j ∧ Q .non (upd H l (.lst (ys.eraseIdx j)))
theorem mt_remD (hu : X.A.units + 65 < cLine) : MtR X "list.remove" rRemD := by
  intro pins s σ H x vs v us Q I rx rv h
  obtain ⟨l, y, ys, d, ds, j, rfl, rfl, hl, hi, hy, hp1, hp2, hp3, hj, q⟩ := h
  cases rx
  obtain ⟨u, rfl, ru⟩ := vals1 rv
  obtain ⟨z, its, n, r, hL, e⟩ := I.lstM hl
  obtain ⟨as, hr⟩ := Dp.readsAll I ds ys its (ImAll.dp _ _ hi) r
  obtain ⟨bs, hx⟩ := Dp.reads I d y u (Im.dp _ _ hy) ru
  have hlen := r.length
  refine SeqAt.remove_list_data (vs := its.toArray) (j := j) ⟨_, e, rfl, _, rfl⟩ (by simpa using hr) hx hp1 hp2 ?_ hj (by rw [List.size_toArray]; omega) ?_
  · have := Nat.min_le_right (PyData.depthAll ds) d.depth
    omega
  · have hj' : j < its.length := by
      obtain ⟨h1, _⟩ := List.findIdx?_eq_some_iff_getElem.mp hj
      have := hi.len
      omega
    refine ⟨.non, _, I.lset (its' := its.eraseIdx j) (ys := ys.eraseIdx j) (t' := s.toks) hl e ?_ ?_ ?_, rfl, q⟩
    · simp
    · exact vals_erase r j
    · have := List.length_eraseIdx_le ys j
      omega
end
/-! ### dicts with text keys, truth, by what is tracked -/
section
variable {X : Cx} {o i value : Expr} {pos pos' : Pos} {td ty tv ta : TE}
def tDGetS (td ty : TE) : TE := fun σ H Q => td σ H fun x H1 => ty σ H1 fun y H2 => ∃ (a : Addr) (k : Str) (kvs : List (Key × V)) (v : V), x = .ref a ∧ y = .str k ∧ H2 a = some (.dK kvs) ∧ valV kvs (Sum.inr k) = some v ∧ Q v H2
theorem pe_dgetS (hu : X.A.units + 1 < cLine) (ho : PE X o td) (hi : PE X i ty) (hs : NoSl i) : PE X (.Subscript o i pos) (tDGetS td ty) := by
  constructor
  intro pins s σ H Q I h
  apply subD_of PySem.F.slot_dict_getitem.lookup hs
  refine thn (ho.run pins s σ H _ I h) fun u s1 hx => ?_
  obtain ⟨x, H1, I1, rx, q1⟩ := hx
  refine thn (hi.run pins s1 σ H1 _ I1 q1) fun iv s2 hy => ?_
  obtain ⟨y, H2, I2, ry, a, k, kvs, v, rfl, rfl, e, l, q2⟩ := hy
  cases rx
  have g : DGet H2 a (kV (.inr k)) (some v) := by rw [← l]; exact DGet.k e
  exact ⟨dict_typeIs I2 g, d_getItem hu I2 g ry fun w' s3 I3 rw' => ⟨v, H2, I3, rw', q2⟩⟩
def sDPutS (td ty tv : TE) : TS := fun D σ H => tv σ H fun v H1 => td σ H1 fun x H2 => ty σ H2 fun y H3 => ∃ (a : Addr) (k : Str) (kvs : List (Key × V)), x = .ref a ∧ y = .str k ∧ H3 a = some (.dK kvs) ∧ kvs.length < sizeLine ∧ D.nx σ (upd H3 a (.dK (putK kvs (Sum.inr k) v)))
theorem ps_dputS (hu : X.A.units + 1 < cLine) (ho : PE X o td) (hi : PE X i ty) (hv : PE X value tv) (hs : swapsWith value (some (.Subscript o i pos')) pos.line X.env = pure false) :
    PS X (.Assign [.Subscript o i pos'] value pos) (sDPutS td ty tv) := by
  constructor
  intro pins s σ H D I h
  refine wpAny_Assign_Subscript ?_ hs
  refine thn (hv.run pins s σ H _ I h) fun r s1 hx => ?_
  obtain ⟨v, H1, I1, rv, q1⟩ := hx
  refine thn (ho.run pins s1 σ H1 _ I1 q1) fun u s2 hy => ?_
  obtain ⟨x, H2, I2, rx, q2⟩ := hy
  refine thn (hi.run pins s2 σ H2 _ I2 q2) fun iv s3 hz => ?_
  obtain ⟨y, H3, I3, ry, a, k, kvs, rfl, rfl, e, l, q3⟩ := hz
  cases rx
  exact d_setItem hu I3 (DPut.k (k := Sum.inr k) e l) ry rv fun s4 I4 => ⟨σ, _, I4, q3⟩
def truO : Option HO → Option Bool
  | some (.lst xs) => some (!xs.isEmpty)
  | some (.tup xs) => some (!xs.isEmpty)
  | _ => none
def truS (H : Hp) : V → Option Bool
  | .non => some false
  | .bl b => some b
  | .int i => some (i != 0)
  | .ref p => truO (H p)
  | _ => none
theorem truO_l {xs : List V} : truO (some (.lst xs)) = some (!xs.isEmpty) := rfl
theorem truO_t {xs : List V} : truO (some (.tup xs)) = some (!xs.isEmpty) := rfl
theorem truS_ref {H : Hp} {p : Addr} : truS H (.ref p) = truO (H p) := rfl
theorem truS_non {H : Hp} : truS H .non = some false := rfl
theorem truS_bl {H : Hp} {b : Bool} : truS H (.bl b) = some b := rfl
theorem truS_int {H : Hp} {b : Int} : truS H (.int b) = some (b != 0) := rfl
theorem truS_v {K : PySem.W.Frag} {H : Hp} {x : V} {k : Bool} (h : truS H x = some k) : TruV K x H k := by
  cases x with
  | non => cases h; rfl
  | bl b => cases h; rfl
  | int i => cases h; rfl
  | ref a =>
    rw [truS_ref] at h
    cases e : H a with
    | none => rw [e] at h; cases h
    | some o =>
      rw [e] at h
      cases o with
      | lst xs => cases h; exact .inl ⟨xs, SqL.of e, rfl⟩
      | tup xs => cases h; exact .inr (.inl ⟨xs, SqT.of e, rfl⟩)
      | _ => cases h
  | _ => cases h
def tTruS (ta : TE) : TT := fun σ H Q => ta σ H fun x H' => ∃ k, truS H' x = some k ∧ Q k H'
theorem pt_truS {a : Expr} (ha : PE X a ta) (he : ∀ whole, isTrue a X.env whole = (do let v ← whole; standAt a.pos; holding [v] (truthy v))) : PT X a (tTruS ta) := by
  constructor
  intro pins s σ H Q I h
  refine PyProof.Rows.isTrue_plain ?_ (he _)
  refine thn (ha.run pins s σ H _ I h) fun v s1 hx => ?_
  obtain ⟨x, H1, I1, r1, k, e, q⟩ := hx
  exact tru_ok pins s1 σ H1 x v Q I1 r1 ⟨k, truS_v e, q⟩
end
theorem valV_cons {p : Key × V} {r : List (Key × V)} {k : Key} : valV (p :: r) k = if p.1 = k then some p.2 else valV r k := by
  by_cases e : p.1 = k
  · rw [valV_pos e, if_pos e]
  · rw [valV_neg e, if_neg e]
/-! ### pairs of ints; what stays behind a change of an object -/
def tD (t : Int × Int) : PyData := .tuple [.int t.1, .int t.2]
theorem tD_pl (w : Int × Int) : pl 1 (tD w) = true := by simp [tD, pl, plAll]
theorem tD_inj {a b : Int × Int} (h : tD a = tD b) : a = b := by
  obtain ⟨a1, a2⟩ := a; obtain ⟨b1, b2⟩ := b
  simp only [tD, PyData.tuple.injEq, List.cons.injEq, PyData.int.injEq, and_true] at h
  obtain ⟨h1, h2⟩ := h
  subst h1; subst h2; rfl
theorem tD_eqv (a b : Int × Int) : PyData.eqv (tD a) (tD b) = decide (a = b) := by
  rw [pl_eqv_dec (tD_pl a) (tD_pl b)]
  by_cases h : a = b
  · subst h; simp
  · rw [decide_eq_false h, decide_eq_false fun e => h (tD_inj e)]
theorem tD_shaped (a : Int × Int) : SeqAt.shaped (tD a) = true := pl_shaped (tD_pl a)
/-- all but what stands at p and l is as it was; nothing is lost -/
structure Bt (p l : Addr) (H H' : Hp) : Prop where
  keep : ∀ b o, H b = some o → b ≠ p → b ≠ l → H' b = some o
  non : ∀ b, H' b = none → H b = none
theorem Bt.refl (p l : Addr) (H : Hp) : Bt p l H H := ⟨fun _ _ e _ _ => e, fun _ e => e⟩
theorem Bt.of {p l : Addr} {H H' : Hp} (s : Same H H') : Bt p l H H' := ⟨fun b o e _ _ => s b o e, fun b e => by
  cases z : H b with
  | none => rfl
  | some o => rw [s _ _ z] at e; cases e⟩
theorem Bt.trans {p l : Addr} {H H1 H2 : Hp} (a : Bt p l H H1) (b : Bt p l H1 H2) : Bt p l H H2 := ⟨fun c o e n1 n2 => b.keep c o (a.keep c o e n1 n2) n1 n2, fun c e => a.non c (b.non c e)⟩
theorem Bt.same {p l : Addr} {H H1 H2 : Hp} (a : Bt p l H H1) (s : Same H1 H2) : Bt p l H H2 := a.trans (Bt.of s)
theorem Bt.new {p l q : Addr} {H H1 : Hp} {o : HO} (a : Bt p l H H1) (h : H1 q = none) : Bt p l H (upd H1 q o) := a.same (same_new h)
theorem Bt.putP {p l : Addr} {H H1 : Hp} {o : HO} (a : Bt p l H H1) : Bt p l H (upd H1 p o) := ⟨fun c x e n1 n2 => get_ne n1 (a.keep c x e n1 n2), fun c e => a.non c (upd_none e).2⟩
theorem Bt.putL {p l : Addr} {H H1 : Hp} {o : HO} (a : Bt p l H H1) : Bt p l H (upd H1 l o) := ⟨fun c x e n1 n2 => get_ne n2 (a.keep c x e n1 n2), fun c e => a.non c (upd_none e).2⟩
theorem Bt.one {p l : Addr} {H H' : Hp} (a : Bt p p H H') : Bt p l H H' := ⟨fun c x e n1 _ => a.keep c x e n1 n1, a.non⟩
/-- a new list of the def's own is put -/
theorem Bt.putN {p l q : Addr} {H H1 : Hp} {o : HO} (a : Bt p l H H1) (h : H q = none) : Bt p l H (upd H1 q o) := ⟨fun c x e n1 n2 => get_ne (ne_of_none e h) (a.keep c x e n1 n2), fun c e => a.non c (upd_none e).2⟩
theorem filter_take {α : Type} {P : α → Bool} {xs : List α} {i : Nat} {x : α} (h : xs[i]? = some x) : (xs.take (i + 1)).filter P = if P x = true then (xs.take i).filter P ++ [x] else (xs.take i).filter P := by
  rw [take_snoc h, List.filter_append]
  cases e : P x <;> simp [e]
theorem Bt.tk {p l C dx : Addr} {H H' : Hp} {fs : List (Str × V)} {ws : List V} (b : Bt p l H H') (hp : H p = some (.ins C dx fs)) (hl : H l = some (.lst ws)) : Tk H H' := fun c xs e => b.keep c _ e (ne_it hp e).symm (fun z => by subst z; rw [hl] at e; cases e)
theorem Bt.tk1 {p C dx : Addr} {H H' : Hp} {fs : List (Str × V)} (b : Bt p p H H') (hp : H p = some (.ins C dx fs)) : Tk H H' := fun c xs e => b.keep c _ e (ne_it hp e).symm (ne_it hp e).symm
theorem BtD.tk {p l : Addr} {H H' : Hp} {fs : List (Key × V)} {ws : List V} (b : Bt p l H H') (hp : H p = some (.dK fs)) (hl : H l = some (.lst ws)) : Tk H H' := fun c xs e => b.keep c _ e (fun z => by subst z; rw [hp] at e; cases e) (fun z => by subst z; rw [hl] at e; cases e)
theorem ImAll.erase {H : Hp} : ∀ {ds : List PyData} {vs : List V} (j : Nat), ImAll H ds vs → ImAll H (ds.eraseIdx j) (vs.eraseIdx j)
  | [], _, _, h => by simp only [ImAll] at h; subst h; exact im_nil
  | d :: ds, vs, 0, h => by
    simp only [ImAll] at h
    obtain ⟨u, r, rfl, h1, h2⟩ := h
    exact h2
  | d :: ds, vs, j + 1, h => by
    simp only [ImAll] at h
    obtain ⟨u, r, rfl, h1, h2⟩ := h
    exact im_cons h1 (ImAll.erase j h2)
theorem map_erase {α β : Type} (f : α → β) : ∀ (xs : List α) (j : Nat), (xs.map f).eraseIdx j = (xs.eraseIdx j).map f
  | [], _ => rfl
  | _ :: _, 0 => rfl
  | x :: xs, j + 1 => by simp only [List.map_cons, List.eraseIdx_cons_succ]; rw [map_erase f xs j]
/-- the heap with a new instance -/
theorem same_made {H : Hp} {x dx C : Addr} (nx : H x = none) (nd : H dx = none) : Same H (upd (upd H dx (.own x)) x (.ins C dx [])) := fun b o e => by
  rw [upd_ne (ne_of_none e nx), upd_ne (ne_of_none e nd)]; exact e
theorem made_none {H : Hp} {x dx C l : Addr} (h : upd (upd H dx (.own x)) x (.ins C dx []) l = none) : H l = none := (upd_none (upd_none h).2).2
theorem Same.non {H H' : Hp} (s : Same H H') {b : Addr} (h : H' b = none) : H b = none := by
  cases z : H b with
  | none => rfl
  | some o => rw [s _ _ z] at h; cases h
theorem imIns0 {H : Hp} {p dx C : Addr} {d : PyData} {v : V} (hp : H p = none) (hdx : H dx = none) (h : Im H d v) : Im (upd (upd H dx (.own p)) p (.ins C dx [])) d v := Same.im (same_made (C := C) hp hdx) h

theorem ImAll.set {H : Hp} : ∀ {ds : List PyData} {vs : List V} (j : Nat) {d : PyData} {v : V}, ImAll H ds vs → Im H d v → ImAll H (ds.set j d) (vs.set j v)
  | [], _, _, _, _, h, _ => by simp only [ImAll] at h; subst h; exact im_nil
  | d :: ds, vs, 0, _, _, h, i => by
    simp only [ImAll] at h
    obtain ⟨u, r, rfl, h1, h2⟩ := h
    exact im_cons i h2
  | d :: ds, vs, j + 1, _, _, h, i => by
    simp only [ImAll] at h
    obtain ⟨u, r, rfl, h1, h2⟩ := h
    exact im_cons h1 (ImAll.set j h2 i)
/-! ### things of all kinds: none, bools, ints, texts, tuples, lists, the empty dict -/
mutual
def Ob (s : Addr) (H : Hp) : PyData → V → Prop
  | .none, v => v = .non
  | .bool b, v => v = .bl b
  | .int i, v => v = .int i
  | .str x, v => v = .str x
  | .tuple ds, v => ∃ a xs, v = .ref a ∧ H a = some (.tup xs) ∧ ObAll s H ds xs
  | .list ds, v => ∃ a xs, v = .ref a ∧ a ≠ s ∧ H a = some (.lst xs) ∧ ObAll s H ds xs
  | .dict _, v => ∃ a, v = .ref a ∧ a ≠ s ∧ H a = some (.dK [])
def ObAll (s : Addr) (H : Hp) : List PyData → List V → Prop
  | [], vs => vs = []
  | d :: ds, vs => ∃ v r, vs = v :: r ∧ Ob s H d v ∧ ObAll s H ds r
end
/-- all but what stands at s stays -/
def But (s : Addr) (H H' : Hp) : Prop := ∀ b o, H b = some o → b ≠ s → H' b = some o
mutual
theorem Ob.mono {s : Addr} {H H' : Hp} (t : Tk H H') (k : But s H H') : ∀ (d : PyData) (v : V), Ob s H d v → Ob s H' d v
  | .none, _, h => by simpa only [Ob] using h
  | .bool _, _, h => by simpa only [Ob] using h
  | .int _, _, h => by simpa only [Ob] using h
  | .str _, _, h => by simpa only [Ob] using h
  | .tuple ds, v, h => by
    simp only [Ob] at h ⊢
    obtain ⟨a, xs, e, ha, hx⟩ := h
    exact ⟨a, xs, e, t _ _ ha, ObAll.mono t k ds xs hx⟩
  | .list ds, v, h => by
    simp only [Ob] at h ⊢
    obtain ⟨a, xs, e, n, ha, hx⟩ := h
    exact ⟨a, xs, e, n, k _ _ ha n, ObAll.mono t k ds xs hx⟩
  | .dict _, v, h => by
    simp only [Ob] at h ⊢
    obtain ⟨a, e, n, ha⟩ := h
    exact ⟨a, e, n, k _ _ ha n⟩
theorem ObAll.mono {s : Addr} {H H' : Hp} (t : Tk H H') (k : But s H H') : ∀ (ds : List PyData) (vs : List V), ObAll s H ds vs → ObAll s H' ds vs
  | [], _, h => by simpa only [ObAll] using h
  | d :: ds, vs, h => by
    simp only [ObAll] at h ⊢
    obtain ⟨v, r, e, h1, h2⟩ := h
    exact ⟨v, r, e, Ob.mono t k d v h1, ObAll.mono t k ds r h2⟩
end
theorem Ob.gn {s : Addr} {H H' : Hp} (g : Gn s H H') {d : PyData} {v : V} (h : Ob s H d v) : Ob s H' d v := Ob.mono g.tk g.but d v h
theorem Ob.same {s : Addr} {H H' : Hp} (g : Same H H') {d : PyData} {v : V} (h : Ob s H d v) : Ob s H' d v := Ob.mono (Same.tk g) (fun b o e _ => g b o e) d v h
theorem Ob.new {s q : Addr} {H : Hp} {o : HO} (hq : H q = none) {d : PyData} {v : V} (h : Ob s H d v) : Ob s (upd H q o) d v := h.same (same_new hq)
theorem Obs.gn {s : Addr} {H H' : Hp} (g : Gn s H H') {d : List PyData} {v : List V} (h : ObAll s H d v) : ObAll s H' d v := ObAll.mono g.tk g.but d v h
theorem Obs.same {s : Addr} {H H' : Hp} (g : Same H H') {d : List PyData} {v : List V} (h : ObAll s H d v) : ObAll s H' d v := ObAll.mono (Same.tk g) (fun b o e _ => g b o e) d v h
theorem Obs.new {s q : Addr} {H : Hp} {o : HO} (hq : H q = none) {d : List PyData} {v : List V} (h : ObAll s H d v) : ObAll s (upd H q o) d v := Obs.same (same_new hq) h
theorem ob_int {s : Addr} {H : Hp} {i : Int} : Ob s H (.int i) (.int i) := by simp only [Ob]
theorem ob_str {s : Addr} {H : Hp} {i : Str} : Ob s H (.str i) (.str i) := by simp only [Ob]
theorem ob_bl {s : Addr} {H : Hp} {i : Bool} : Ob s H (.bool i) (.bl i) := by simp only [Ob]
theorem ob_non {s : Addr} {H : Hp} : Ob s H .none .non := by simp only [Ob]
theorem obs_nil {s : Addr} {H : Hp} : ObAll s H [] [] := by simp only [ObAll]
theorem obs_cons {s : Addr} {H : Hp} {d : PyData} {ds : List PyData} {v : V} {vs : List V} (a : Ob s H d v) (b : ObAll s H ds vs) : ObAll s H (d :: ds) (v :: vs) := by
  simp only [ObAll]; exact ⟨v, vs, rfl, a, b⟩
theorem ob_tup {s : Addr} {H : Hp} {ds : List PyData} {xs : List V} {a : Addr} (h : H a = some (.tup xs)) (i : ObAll s H ds xs) : Ob s H (.tuple ds) (.ref a) := by
  simp only [Ob]; exact ⟨a, xs, rfl, h, i⟩
theorem ob_lst {s : Addr} {H : Hp} {ds : List PyData} {xs : List V} {a : Addr} (n : a ≠ s) (h : H a = some (.lst xs)) (i : ObAll s H ds xs) : Ob s H (.list ds) (.ref a) := by
  simp only [Ob]; exact ⟨a, xs, rfl, n, h, i⟩
theorem ob_dct {s : Addr} {H : Hp} {a : Addr} (n : a ≠ s) (h : H a = some (.dK [])) : Ob s H (.dict []) (.ref a) := by
  simp only [Ob]; exact ⟨a, rfl, n, h⟩
mutual
theorem Im.ob {s : Addr} {H : Hp} : ∀ {d : PyData} {v : V}, Im H d v → Ob s H d v
  | .none, _, h => by simpa only [Im, Ob] using h
  | .bool _, _, h => by simpa only [Im, Ob] using h
  | .int _, _, h => by simpa only [Im, Ob] using h
  | .str _, _, h => by simpa only [Im, Ob] using h
  | .tuple ds, _, h => by
    simp only [Im] at h
    obtain ⟨a, xs, rfl, ha, hx⟩ := h
    exact ob_tup ha (ImAll.ob hx)
  | .list _, _, h => by simp only [Im] at h
  | .dict _, _, h => by simp only [Im] at h
theorem ImAll.ob {s : Addr} {H : Hp} : ∀ {ds : List PyData} {vs : List V}, ImAll H ds vs → ObAll s H ds vs
  | [], _, h => by simp only [ImAll] at h; subst h; exact obs_nil
  | d :: ds, vs, h => by
    simp only [ImAll] at h
    obtain ⟨v, r, rfl, h1, h2⟩ := h
    exact obs_cons (Im.ob h1) (ImAll.ob h2)
end
def dTy : PyData → String
  | .none => "NoneType"
  | .bool _ => "bool"
  | .int _ => "int"
  | .str _ => "str"
  | .tuple _ => "tuple"
  | .list _ => "list"
  | .dict _ => "dict"
theorem Ob.ty {s : Addr} {H : Hp} {d : PyData} {v : V} (h : Ob s H d v) : tyS H v = some (dTy d) := by
  cases d <;> simp only [Ob] at h
  · subst h; rfl
  · subst h; rfl
  · subst h; rfl
  · subst h; rfl
  · obtain ⟨a, xs, rfl, _, ha, _⟩ := h; rw [tyS_ref, ha]; rfl
  · obtain ⟨a, xs, rfl, ha, _⟩ := h; rw [tyS_ref, ha]; rfl
  · obtain ⟨a, rfl, _, ha⟩ := h; rw [tyS_ref, ha]; rfl
-- its texts are short, and of ASCII
mutual
def okT : PyData → Bool
  | .str x => decide (x.length ≤ 1000) && x.cps.toList.all fun c => decide (c < 128)
  | .tuple ds => okTs ds
  | .list ds => okTs ds
  | _ => true
def okTs : List PyData → Bool
  | [] => true
  | d :: ds => okT d && okTs ds
end
theorem okT_str {x : Str} : okT (.str x) = true ↔ x.length ≤ 1000 ∧ ∀ c ∈ x.cps.toList, c < 128 := by
  simp only [okT, Bool.and_eq_true, decide_eq_true_eq, List.all_eq_true]
/-! ### the loops over texts -/
theorem Loop.str {x : Str} {g : TG} {tb : TS} {D : Ends} {σ : St} {H : Hp} (Pv : Nat → St → Hp → Prop) (h0 : Pv 0 σ H)
    (hs : ∀ i c σ H, x.cps[i]? = some c → Pv i σ H → g (.str ⟨#[c]⟩) σ H fun σ2 H2 => tb { D with nx := Pv (i + 1), ct := Pv (i + 1), bk := D.nx } σ2 H2) (hd : ∀ σ H, Pv x.cps.size σ H → D.nx σ H) : Loop (Its x) g tb D σ H := by
  refine ⟨fun i m σ H => m + i = x.cps.size ∧ Pv i σ H, ⟨x.cps.size, rfl, h0⟩, ?_⟩
  rintro i m σ H ⟨hm, hp⟩
  by_cases hi : i < x.cps.size
  · refine .inr ⟨hi, Pv (i + 1), fun σ' H' q => ⟨m - 1, by omega, by omega, q⟩, ?_⟩
    rintro v H' ⟨rfl, c, hc, rfl⟩
    exact hs i c σ _ hc hp
  · have e : i = x.cps.size := by omega
    subst e
    exact .inl ⟨Nat.le_refl _, hd σ H hp⟩
theorem Lcl.str {x : Str} {g : TG} {tt : TT} {te : TE} {vs : List Nat} {σ : St} {H1 : Hp} {D : Addr} {Qd : Hp → Prop} (Pv : Nat → Hp → Prop) (h0 : Pv 0 (upd H1 D (.lst [])))
    (hs : ∀ i c H, x.cps[i]? = some c → Pv i H → g (.str ⟨#[c]⟩) (wipe σ vs) H fun σ2 H2 => wipe σ2 vs = wipe σ vs ∧ tt σ2 H2 fun b H3 =>
      if b = true then te σ2 H3 fun y H4 => ∃ acc, H4 D = some (.lst acc) ∧ acc.length < sizeLine ∧ Pv (i + 1) (upd H4 D (.lst (acc ++ [y]))) else Pv (i + 1) H3) (hd : ∀ H, Pv x.cps.size H → Qd H) : Lcl (Its x) g tt te vs σ D H1 Qd := by
  refine ⟨fun i m H => m + i = x.cps.size ∧ Pv i H, ⟨x.cps.size, rfl, h0⟩, ?_⟩
  rintro i m H ⟨hm, hp⟩
  by_cases hi : i < x.cps.size
  · refine .inr ⟨hi, Pv (i + 1), fun H' q => ⟨m - 1, by omega, by omega, q⟩, ?_⟩
    rintro v H' ⟨rfl, c, hc, rfl⟩
    exact hs i c _ hc hp
  · have e : i = x.cps.size := by omega
    subst e
    exact .inl ⟨Nat.le_refl _, hd H hp⟩
/-! ### the judgements, plain -/
def isInt : PyData → Bool
  | .int _ => true
  | _ => false
def numD (lo hi : Int) : PyData → Bool
  | .int i => decide (lo ≤ i ∧ i ≤ hi)
  | _ => false
def letter (c : Nat) : Bool := !(Builtin.Str.occurrences (Str.ofString "abcdefghijklmnopqrstuvwxyz") ⟨#[c]⟩ 0 (Str.ofString "abcdefghijklmnopqrstuvwxyz").length 1).isEmpty
def nameD : PyData → Bool
  | .str x => decide (1 ≤ x.length ∧ x.length ≤ 12) && x.cps.toList.all letter
  | _ => false
theorem ims_strs {H : Hp} : ∀ ys : List Str, ImAll H (ys.map PyData.str) (ys.map V.str)
  | [] => im_nil
  | y :: ys => im_cons im_str (ims_strs ys)
theorem strs_shaped {ys : List Str} (h : ∀ y ∈ ys, PyData.strOk y = true) : SeqAt.shaped (.list (ys.map PyData.str)) = true :=
  pl_shaped (n := 1) (pl_list fun d hd => by obtain ⟨y, hy, rfl⟩ := List.mem_map.mp hd; simpa only [pl] using h y hy)
theorem strs_none {ys : List Str} : PyData.eqv (.list (ys.map PyData.str)) (.list []) = ys.isEmpty := by
  cases ys <;> simp [PyData.eqv, PyData.eqvAll]
def Asc (n : Nat) (x : Str) : Prop := x.length ≤ n ∧ ∀ c ∈ x.cps.toList, c < 128
theorem Asc.ok {n : Nat} {x : Str} (h : Asc n x) (hn : n ≤ 1000 := by decide) : okT (.str x) = true := okT_str.mpr ⟨by have := h.1; omega, h.2⟩
theorem Asc.cut {n : Nat} {x : Str} (h : Asc n x) (lo hi : Option Int) : Asc n (cutS x lo hi) := by
  constructor
  · have h1 : x.cps.toList.length = x.length := rfl
    have h2 := h.1
    show (cutS x lo hi).cps.size ≤ n
    unfold cutS
    simp only [List.size_toArray, List.length_take, List.length_drop, h1]
    omega
  · intro c hc
    unfold cutS at hc
    exact h.2 c (List.mem_of_mem_drop (List.mem_of_mem_take hc))
theorem Asc.app {n m : Nat} {x y : Str} (h : Asc n x) (g : Asc m y) : Asc (n + m) (x ++ y) := by
  constructor
  · have h1 := h.1
    have g1 := g.1
    show (x.cps ++ y.cps).size ≤ _
    rw [Array.size_append]
    exact Nat.add_le_add h1 g1
  · intro c hc
    have hc : c ∈ (x.cps ++ y.cps).toList := hc
    rw [Array.toList_append] at hc
    rcases List.mem_append.mp hc with hc | hc
    · exact h.2 c hc
    · exact g.2 c hc
theorem Asc.one {c : Nat} (h : c < 128) : Asc 1 ⟨#[c]⟩ := by
  refine ⟨Nat.le_refl _, fun z hz => ?_⟩
  have : z = c := by simpa using hz
  omega
theorem sum_le {k : Nat} : ∀ {ys : List Str}, (∀ y ∈ ys, y.length ≤ k) → (ys.map (·.length)).sum ≤ ys.length * k
  | [], _ => by simp
  | y :: ys, h => by
    have h1 := h y (by simp)
    have h2 := sum_le (ys := ys) fun z hz => h z (List.mem_cons_of_mem _ hz)
    simp only [List.map_cons, List.sum_cons, List.length_cons, Nat.add_mul, Nat.one_mul]; omega
theorem odd_signs : (Str.ofString "AZ09 _-.\n{`@").cps.toList.length = 12 ∧ ∀ c ∈ (Str.ofString "AZ09 _-.\n{`@").cps.toList, c < 128 := by decide +kernel
theorem odd_len : (Str.ofString "AZ09 _-.\n{`@").length ≤ 16777216 := by decide +kernel
/-- a tuple of it has few parts -/
def small : PyData → Bool
  | .tuple ds => decide (ds.length ≤ 4)
  | _ => true
/-! ### the judgements of composed things -/
def keyJ : PyData → Bool
  | .tuple [a, b] => numD 0 1000000000000 a && nameD b
  | _ => false
def trJ : PyData → Bool
  | .tuple [a, b] => numD 1 1000000000000 a && numD 0 1000000000000 b
  | _ => false
def whoJ : PyData → Bool
  | .tuple [a, b] => trJ a && numD 1 1000000000000 b
  | _ => false
def markJ : PyData → Bool
  | .tuple [t, a, k, n] => trJ t && numD 1 1000000000000 a && keyJ k && numD 1 1000000000000 n
  | _ => false
/-- a tuple as it stands -/
theorem Ob.tup {s : Addr} {H : Hp} {ds : List PyData} {v : V} (h : Ob s H (.tuple ds) v) : ∃ a xs, v = .ref a ∧ H a = some (.tup xs) ∧ ObAll s H ds xs := by simpa only [Ob] using h
theorem ObAll.len {s : Addr} {H : Hp} : ∀ {ds : List PyData} {vs : List V}, ObAll s H ds vs → vs.length = ds.length
  | [], _, h => by simp only [ObAll] at h; subst h; rfl
  | d :: ds, vs, h => by
    simp only [ObAll] at h
    obtain ⟨u, r, rfl, h1, h2⟩ := h
    simp [ObAll.len h2]
theorem Ob.intE {s : Addr} {H : Hp} {i : Int} {v : V} (h : Ob s H (.int i) v) : v = .int i := by simpa only [Ob] using h
theorem Ob.strE {s : Addr} {H : Hp} {i : Str} {v : V} (h : Ob s H (.str i) v) : v = .str i := by simpa only [Ob] using h
theorem okTs_mem : ∀ {ds : List PyData}, okTs ds = true ↔ ∀ d ∈ ds, okT d = true
  | [] => by simp [okTs]
  | d :: ds => by simp only [okTs, Bool.and_eq_true, okTs_mem (ds := ds)]; simp
theorem numD_isInt {lo hi : Int} {d : PyData} (h : numD lo hi d = true) : ∃ i, d = .int i ∧ lo ≤ i ∧ i ≤ hi := by
  cases d <;> simp only [numD, Bool.false_eq_true, decide_eq_true_eq] at h
  exact ⟨_, rfl, h⟩
/-- shapes of tuples: two parts, or not -/
theorem two_or (ds : List PyData) : (∃ a b, ds = [a, b]) ∨ ds.length ≠ 2 := by
  match ds with
  | [] => exact .inr (by simp)
  | [_] => exact .inr (by simp)
  | [a, b] => exact .inl ⟨a, b, rfl⟩
  | _ :: _ :: _ :: _ => exact .inr (by simp)
theorem four_or (ds : List PyData) : (∃ a b c d, ds = [a, b, c, d]) ∨ ds.length ≠ 4 := by
  match ds with
  | [] => exact .inr (by simp)
  | [_] => exact .inr (by simp)
  | [_, _] => exact .inr (by simp)
  | [_, _, _] => exact .inr (by simp)
  | [a, b, c, d] => exact .inl ⟨a, b, c, d, rfl⟩
  | _ :: _ :: _ :: _ :: _ :: _ => exact .inr (by simp)
theorem keyJ_no {ds : List PyData} (h : ds.length ≠ 2) : keyJ (.tuple ds) = false := by
  match ds with
  | [] => rfl
  | [_] => rfl
  | [a, b] => exact absurd rfl h
  | _ :: _ :: _ :: _ => rfl
theorem trJ_no {ds : List PyData} (h : ds.length ≠ 2) : trJ (.tuple ds) = false := by
  match ds with
  | [] => rfl
  | [_] => rfl
  | [a, b] => exact absurd rfl h
  | _ :: _ :: _ :: _ => rfl
theorem whoJ_no {ds : List PyData} (h : ds.length ≠ 2) : whoJ (.tuple ds) = false := by
  match ds with
  | [] => rfl
  | [_] => rfl
  | [a, b] => exact absurd rfl h
  | _ :: _ :: _ :: _ => rfl
theorem markJ_no {ds : List PyData} (h : ds.length ≠ 4) : markJ (.tuple ds) = false := by
  match ds with
  | [] => rfl
  | [_] => rfl
  | [_, _] => rfl
  | [_, _, _] => rfl
  | [a, b, c, d] => exact absurd rfl h
  | _ :: _ :: _ :: _ :: _ :: _ => rfl
theorem obs2 {s : Addr} {H : Hp} {a b : PyData} {xs : List V} (h : ObAll s H [a, b] xs) : ∃ x y, xs = [x, y] ∧ Ob s H a x ∧ Ob s H b y := by
  simp only [ObAll] at h
  obtain ⟨x, r, rfl, h1, y, r2, rfl, h2, rfl⟩ := h
  exact ⟨x, y, rfl, h1, h2⟩
theorem obs4 {s : Addr} {H : Hp} {a b c d : PyData} {xs : List V} (h : ObAll s H [a, b, c, d] xs) : ∃ x y z u, xs = [x, y, z, u] ∧ Ob s H a x ∧ Ob s H b y ∧ Ob s H c z ∧ Ob s H d u := by
  simp only [ObAll] at h
  obtain ⟨x, r, rfl, h1, y, r2, rfl, h2, z, r3, rfl, h3, u, r4, rfl, h4, rfl⟩ := h
  exact ⟨x, y, z, u, rfl, h1, h2, h3, h4⟩
theorem okT2 {a b : PyData} (h : okT (.tuple [a, b]) = true) : okT a = true ∧ okT b = true := by simpa [okT, okTs] using h
theorem okT4 {a b c d : PyData} (h : okT (.tuple [a, b, c, d]) = true) : okT a = true ∧ okT b = true ∧ okT c = true ∧ okT d = true := by
  simp only [okT, okTs, Bool.and_eq_true, Bool.and_true] at h
  exact h
theorem ObAll.app {s : Addr} {H : Hp} : ∀ {ds es : List PyData} {vs us : List V}, ObAll s H ds vs → ObAll s H es us → ObAll s H (ds ++ es) (vs ++ us)
  | [], _, _, _, h, e => by simp only [ObAll] at h; subst h; exact e
  | x :: ds, es, vs, us, h, e => by
    simp only [ObAll] at h
    obtain ⟨u, r, rfl, h1, h2⟩ := h
    exact obs_cons h1 (ObAll.app h2 e)
theorem ObAll.take {s : Addr} {H : Hp} : ∀ {ds : List PyData} {vs : List V} (n : Nat), ObAll s H ds vs → ObAll s H (ds.take n) (vs.take n)
  | _, _, 0, _ => by simp only [List.take_zero]; exact obs_nil
  | [], _, n + 1, h => by simp only [ObAll] at h; subst h; simp only [List.take_nil]; exact obs_nil
  | x :: ds, vs, n + 1, h => by
    simp only [ObAll] at h
    obtain ⟨u, r, rfl, h1, h2⟩ := h
    exact obs_cons h1 (ObAll.take n h2)
theorem ObAll.drop {s : Addr} {H : Hp} : ∀ {ds : List PyData} {vs : List V} (n : Nat), ObAll s H ds vs → ObAll s H (ds.drop n) (vs.drop n)
  | _, _, 0, h => h
  | [], _, n + 1, h => by simp only [ObAll] at h; subst h; simp only [List.drop_nil]; exact obs_nil
  | x :: ds, vs, n + 1, h => by
    simp only [ObAll] at h
    obtain ⟨u, r, rfl, h1, h2⟩ := h
    exact ObAll.drop n h2
theorem ObAll.rev {s : Addr} {H : Hp} : ∀ {ds : List PyData} {vs : List V}, ObAll s H ds vs → ObAll s H ds.reverse vs.reverse
  | [], _, h => by simp only [ObAll] at h; subst h; exact obs_nil
  | x :: ds, vs, h => by
    simp only [ObAll] at h
    obtain ⟨u, r, rfl, h1, h2⟩ := h
    rw [List.reverse_cons, List.reverse_cons]
    exact ObAll.app (ObAll.rev h2) (obs_cons h1 obs_nil)
theorem ObAll.get {s : Addr} {H : Hp} : ∀ {ds : List PyData} {vs : List V} {i : Nat} {v : V}, ObAll s H ds vs → vs[i]? = some v → ∃ d, ds[i]? = some d ∧ Ob s H d v
  | [], _, i, v, h, e => by simp only [ObAll] at h; subst h; simp at e
  | d :: ds, vs, i, v, h, e => by
    simp only [ObAll] at h
    obtain ⟨u, r, rfl, h1, h2⟩ := h
    cases i with
    | zero => simp at e; subst e; exact ⟨d, rfl, h1⟩
    | succ i => simp at e; obtain ⟨x, a, b⟩ := ObAll.get h2 e; exact ⟨x, by simpa using a, b⟩
theorem okTs_sub {ds es : List PyData} (h : okTs ds = true) (hs : ∀ d ∈ es, d ∈ ds) : okTs es = true := okTs_mem.mpr fun d hd => okTs_mem.mp h d (hs d hd)
theorem okTs_app {ds es : List PyData} (h : okTs ds = true) (g : okTs es = true) : okTs (ds ++ es) = true := okTs_mem.mpr fun d hd => by
  rcases List.mem_append.mp hd with z | z
  · exact okTs_mem.mp h d z
  · exact okTs_mem.mp g d z
theorem NameD.okT {n : Str} (h : NameD n) : okT (.str n) = true := okT_str.mpr ⟨by have := h.2.1; omega, fun c hc => by have := h.2.2 c hc; omega⟩
theorem KeyD.okT {d : PyData} (h : KeyD d) : G4.okT d = true := by
  obtain ⟨a, n, rfl, _, _, hn⟩ := h
  have := hn.okT
  simp only [kD, G4.okT, okTs, Bool.and_true, Bool.true_and]
  exact this
/-! ### a list against the empty one -/
section
open PySem.Calls PyProof.Rows PyProof.V PySem.Spec
variable {X : Cx} {K : PySem.W.Frag}
def rEqE : R2 := fun x y H Q => ∃ (a b : Addr) (xs : List V), x = .ref a ∧ y = .ref b ∧ H a = some (.lst xs) ∧ H b = some (.lst []) ∧ Q (.bl xs.isEmpty) H
theorem op_eqE (hu : X.A.units + 64 < cLine) : OpR X (compareOp .Eq) rEqE := by
  intro pins s σ H x y v u Q I rx ry h
  obtain ⟨a, b, xs, rfl, rfl, ha, hb, q⟩ := h
  cases xs with
  | nil => exact op_eqV hu pins s σ H _ _ v u Q I rx ry ⟨0, by decide, .inl ⟨a, b, [], [], rfl, rfl, SqL.of ha, SqL.of hb, .nil⟩, q⟩
  | cons x xs =>
    cases rx
    cases ry
    obtain ⟨us, r1, p1, _⟩ := I.list (SqL.of (K := X.K) ha)
    obtain ⟨ws, r2, p2, _⟩ := I.list (SqL.of (K := X.K) hb)
    cases r2
    cases r1 with
    | cons a1 b1 => exact SeqAt.eq_list_lengthsAt p1.isList p2.isList (by simp) (by omega) ⟨.bl false, H, I, rfl, q⟩
end
/-! ### the judgements of steps and programs -/
def isStr : PyData → Bool
  | .str _ => true
  | _ => false
noncomputable def wordA (d : PyData) : Bool := decide (d = .str (Str.ofString "read") ∨ d = .str (Str.ofString "store"))
noncomputable def wordB (d : PyData) : Bool := decide (d = .str (Str.ofString "put") ∨ d = .str (Str.ofString "add") ∨ d = .str (Str.ofString "need"))
noncomputable def stepJ : PyData → Bool
  | .tuple [a, k] => isStr a && keyJ k && wordA a
  | .tuple [a, k, i] => isStr a && keyJ k && (!wordA a && (wordB a && numD (-1000000000000) 1000000000000 i))
  | _ => false
noncomputable def progJ : PyData → Bool
  | .tuple ds => decide (1 ≤ ds.length ∧ ds.length ≤ 12) && ds.all stepJ
  | _ => false
theorem steps_or (ds : List PyData) : (∃ a k, ds = [a, k]) ∨ (∃ a k i, ds = [a, k, i]) ∨ ds.length < 2 ∨ ∃ a k i j r, ds = a :: k :: i :: j :: r := by
  match ds with
  | [] => exact .inr (.inr (.inl (by simp)))
  | [_] => exact .inr (.inr (.inl (by simp)))
  | [a, b] => exact .inl ⟨a, b, rfl⟩
  | [a, b, c] => exact .inr (.inl ⟨a, b, c, rfl⟩)
  | a :: b :: c :: d :: r => exact .inr (.inr (.inr ⟨a, b, c, d, r, rfl⟩))
theorem stepJ_few {ds : List PyData} (h : ds.length < 2) : stepJ (.tuple ds) = false := by
  match ds with
  | [] => rfl
  | [_] => rfl
  | _ :: _ :: _ => simp at h; omega
theorem obs3 {s : Addr} {H : Hp} {a b c : PyData} {xs : List V} (h : ObAll s H [a, b, c] xs) : ∃ x y z, xs = [x, y, z] ∧ Ob s H a x ∧ Ob s H b y ∧ Ob s H c z := by
  simp only [ObAll] at h
  obtain ⟨x, r, rfl, h1, y, r2, rfl, h2, z, r3, rfl, h3, rfl⟩ := h
  exact ⟨x, y, z, rfl, h1, h2, h3⟩
theorem okT3 {a b c : PyData} (h : okT (.tuple [a, b, c]) = true) : okT a = true ∧ okT b = true ∧ okT c = true := by
  simp only [okT, okTs, Bool.and_eq_true, Bool.and_true] at h
  exact h
theorem ascii_ok {x : Str} (h : okT (.str x) = true) : PyData.strOk x = true := by
  obtain ⟨_, h2⟩ := okT_str.mp h
  unfold PyData.strOk
  rw [Array.all_eq_true_iff_forall_mem]
  intro c hc
  have := h2 c (by simpa using hc)
  exact decide_eq_true (by omega)
theorem str_shaped {x : Str} (h : okT (.str x) = true) : SeqAt.shaped (.str x) = true := pl_shaped (n := 0) (by simpa only [pl] using ascii_ok h)
theorem str_eqv (x y : Str) : PyData.eqv (.str x) (.str y) = decide (PyData.str x = .str y) := by
  rw [Bool.eq_iff_iff, decide_eq_true_eq]; simp [PyData.eqv]
theorem ObAll.rep {s : Addr} {H : Hp} {ds : List PyData} {vs : List V} (h : ObAll s H ds vs) : ∀ n : Nat, ObAll s H (List.replicate n ds).flatten (List.replicate n vs).flatten
  | 0 => obs_nil
  | n + 1 => by
    rw [List.replicate_succ, List.replicate_succ, List.flatten_cons, List.flatten_cons]
    exact h.app (ObAll.rep h n)
theorem mem_rep {α : Type} {x : α} {xs : List α} {n : Nat} (h : x ∈ (List.replicate n xs).flatten) : x ∈ xs := by
  obtain ⟨l, hl, hx⟩ := List.mem_flatten.mp h
  rw [List.eq_of_mem_replicate hl] at hx; exact hx
theorem StepD.okT {d : PyData} (h : StepD d) : G4.okT d = true ∧ small d = true ∧ ∃ es, d = .tuple es ∧ 2 ≤ es.length := by
  obtain ⟨k, hk, h⟩ := h
  have h1 := hk.okT
  rcases h with ⟨w, rfl, hw⟩ | ⟨w, i, rfl, hw, _⟩
  · rcases hw with rfl | rfl
    · exact ⟨by simp only [G4.okT, okTs, h1, Bool.and_true]; decide +kernel, rfl, _, rfl, by simp⟩
    · exact ⟨by simp only [G4.okT, okTs, h1, Bool.and_true]; decide +kernel, rfl, _, rfl, by simp⟩
  · rcases hw with rfl | rfl | rfl
    · exact ⟨by simp only [G4.okT, okTs, h1, Bool.and_true]; decide +kernel, rfl, _, rfl, by simp⟩
    · exact ⟨by simp only [G4.okT, okTs, h1, Bool.and_true]; decide +kernel, rfl, _, rfl, by simp⟩
    · exact ⟨by simp only [G4.okT, okTs, h1, Bool.and_true]; decide +kernel, rfl, _, rfl, by simp⟩
theorem eqD_str {K : PySem.W.Frag} {H : Hp} {w u : Str} {R : VK} (hw : okT (.str w) = true) (hu : PyData.strOk u = true) : rEqD K (.str w) (.str u) H R = R (.bl (decide (PyData.str w = .str u))) H := by
  apply propext
  constructor
  · rintro ⟨d, e, h1, h2, _, _, q⟩
    cases h1; cases h2
    rw [str_eqv] at q
    exact q
  · intro q
    refine ⟨_, _, .str w, .str u, str_shaped hw, pl_shaped (n := 0) (by simpa only [pl] using hu), ?_⟩
    rw [str_eqv]
    exact q
theorem neD_str {K : PySem.W.Frag} {H : Hp} {w u : Str} {R : VK} (hw : okT (.str w) = true) (hu : PyData.strOk u = true) : rNeD K (.str w) (.str u) H R = R (.bl (!decide (PyData.str w = .str u))) H := by
  apply propext
  constructor
  · rintro ⟨d, e, h1, h2, _, _, q⟩
    cases h1; cases h2
    rw [str_eqv] at q
    exact q
  · intro q
    refine ⟨_, _, .str w, .str u, str_shaped hw, pl_shaped (n := 0) (by simpa only [pl] using hu), ?_⟩
    rw [str_eqv]
    exact q
theorem inT_str {K : PySem.W.Frag} {H : Hp} {w : Str} {us : List Str} {p : Addr} {R : VK} (hp : SqT K H p (us.map V.str)) (hw : okT (.str w) = true) (hu : ∀ u ∈ us, PyData.strOk u = true) (q : R (.bl (us.any fun u => decide (PyData.str w = .str u))) H) : rInDT K (.str w) (.ref p) H R := by
  refine ⟨_, us.map PyData.str, .str w, .tup hp (ImAll.dp _ _ (ims_strs us)), str_shaped hw, pl_shaped (n := 1) (pl_tuple fun d hd => by obtain ⟨y, hy, rfl⟩ := List.mem_map.mp hd; simpa only [pl] using hu y hy), ?_⟩
  rw [List.any_map]
  have e : ((fun z => PyData.eqv z (.str w)) ∘ PyData.str) = fun u => decide (PyData.str w = .str u) := by
    funext u
    show PyData.eqv (.str u) (.str w) = _
    rw [str_eqv]
    exact decide_eq_decide.mpr ⟨Eq.symm, Eq.symm⟩
  rw [e]
  exact q
theorem ObAll.cut {s : Addr} {H : Hp} {ds : List PyData} {xs : List V} (h : ObAll s H ds xs) (lo hi : Option Int) : ∃ es, ObAll s H es (cutV xs lo hi) ∧ (∀ d ∈ es, d ∈ ds) ∧ (cutV xs lo hi).length ≤ xs.length :=
  ⟨_, (h.drop _).take _, fun d hd => List.mem_of_mem_drop (List.mem_of_mem_take hd), cutV_length xs lo hi⟩
theorem ObAll.mem {s : Addr} {H : Hp} {ds : List PyData} {xs : List V} {k : Nat} (h : ObAll s H ds xs) (hk : k < xs.length) : ∃ d, xs[k]? = some xs[k] ∧ d ∈ ds ∧ Ob s H d xs[k] := by
  have hg : xs[k]? = some xs[k] := List.getElem?_eq_getElem hk
  obtain ⟨d, hd, od⟩ := h.get hg
  exact ⟨d, hg, List.mem_of_getElem? hd, od⟩
/-! ### t[::-1], t a tuple -/
section
open PySem.Calls PyProof.Rows PyProof.V PySem.Spec HT
variable {prog : Program} {w : World} {A : Around} {E : Value → Shared → Prop} {s : Shared}
theorem applied_rev {sl : Addr} {a b c : Value} {n : Nat} {R : Int × Int × Nat → Shared → Prop} (hs : s.heap.IsSliceOf sl a b c) (pa : IsPart a none) (pb : IsPart b none) (pc : IsPart c (some (-1)))
    (h : R ((n : Int) - 1, -1, n) s) : wpAny (model prog w) A (Builtin.Slice.sliceApplied (.ref sl) (pure (n : Int))) R E s := by
  obtain ⟨o, ho, _, hd⟩ := id hs
  unfold Builtin.Slice.sliceApplied; unfold Builtin.Slice.sliceFields
  refine wpAny_bind (wpAny_bind (wpAny_field ho hd (x := a) rfl (wpAny_bind (wpAny_field ho hd (x := b) rfl (wpAny_bind (wpAny_field ho hd (x := c) rfl (wpAny_pure ?_)))))))
  refine wpAny_bind (slicePart_ pc ?_)
  show wpAny _ _ (if ((-1 : Int) == 0) = true then _ else _) _ _ s
  rw [if_neg (by decide)]
  refine wpAny_bind (slicePart_ pa (wpAny_bind (slicePart_ pb (wpAny_bind (wpAny_pure ?_)))))
  have e : Builtin.Slice.sliceAdjust none none (-1) (n : Int) = ((n : Int) - 1, -1) := rfl
  have e2 : Builtin.Slice.slicePlaces ((n : Int) - 1) (-1) (-1) = n := by
    unfold Builtin.Slice.slicePlaces
    rw [if_neg (by decide)]
    split
    · rw [show (-(-1 : Int)) = 1 from rfl, Int.ediv_one]; omega
    · omega
  show wpAny _ _ (match Builtin.Slice.sliceAdjust none none (-1) (n : Int) with | (x, y) => pure (x, (-1 : Int), Builtin.Slice.slicePlaces x y (-1))) _ _ s
  rw [e]
  show wpAny _ _ (pure ((n : Int) - 1, (-1 : Int), Builtin.Slice.slicePlaces ((n : Int) - 1) (-1) (-1))) _ _ s
  rw [e2]
  exact wpAny_pure h
theorem pick_rev (xs : Array Value) : ((List.range xs.size).filterMap fun (k : Nat) => xs[(((xs.size : Int) - 1) + (k : Int) * (-1)).toNat]?).toArray = xs.toList.reverse.toArray := by
  have e : (fun (k : Nat) => xs[(((xs.size : Int) - 1) + (k : Int) * (-1)).toNat]?) = (fun i => xs[i]?) ∘ fun k => xs.size - 1 - k := by
    funext k
    show xs[(((xs.size : Int) - 1) + (k : Int) * (-1)).toNat]? = xs[xs.size - 1 - k]?
    congr 1
    omega
  rw [e, ← List.filterMap_map, PySem.W.krv_range, List.filterMap_reverse, PySem.W.krv_all]
theorem item_rev {t sl : Addr} {its : Array Value} {a b c : Value} {R : Value → Shared → Prop} (ht : IsTup s.heap t its) (hs : s.heap.IsSliceOf sl a b c) (pa : IsPart a none) (pb : IsPart b none) (pc : IsPart c (some (-1)))
    (h : R (.ref s.heap.objs.size) { s with heap := s.heap.push { cls := .type "tuple", data := .seq its.toList.reverse.toArray } }) (hz : its.size ≤ sizeLine) : wpAny (model prog w) A (getItem (.ref t) (.ref sl)) R E s := by
  have hfit : sizeOk (.seq its.toList.reverse.toArray) := by
    show its.toList.reverse.toArray.size ≤ sizeLine
    rw [List.size_toArray, List.length_reverse, Array.length_toList]; exact hz
  obtain ⟨o, ho, hc, hd⟩ := id hs
  unfold getItem
  try with_reducible refine wpAny_holding ?_
  refine wpAny_bind (wpAny_sequenceKey ht.typeIs (by decide) ?_)
  refine wpAny_bind (wpAny_callSpecial?_slot (name := Str.ofString "__getitem__") ht.typeIs slot_tuple_getitem (wpAny_call_entry slot_tuple_getitem ht.typeIs entry_tuple_getitem ?_ (args_tuple_getitem _ _)))
  show wpAny _ _ (Builtin.Tuple.tupleItemsOf (.ref t) >>= _) _ _ s
  refine wpAny_bind (tupleItemsOf_ ht ?_)
  refine wpAny_bind (wpAny_typeOf (T := "slice") ⟨o, ho, hc⟩ ?_)
  rw [if_pos (by decide)]
  refine wpAny_bind (applied_rev hs pa pb pc ?_)
  show wpAny _ _ (if (((its.size : Int) - 1 == 0) && ((-1 : Int) == 1) && (its.size == its.size)) = true then _ else _) _ _ s
  rw [if_neg (by simp), pick_rev]
  first
    | exact wpAny_bind (m := Builtin.Tuple.tupleExact _) (wpAny_newObj_type (wpAny_pure ⟨_, rfl, wpAny_pure h⟩) hfit)
    | exact wpAny_bind (m := Builtin.Tuple.tupleExact _) (wpAny_newObj_type (wpAny_bind (wpAny_pure (wpAny_pure ⟨_, rfl, wpAny_pure h⟩))) hfit)
    | exact wpAny_bind (wpAny_bind (m := Builtin.Tuple.tupleExact _) (wpAny_newObj_type (wpAny_pure (wpAny_pure ⟨_, rfl, wpAny_pure h⟩)) hfit))
    | exact wpAny_bind (wpAny_bind (m := Builtin.Tuple.tupleExact _) (wpAny_newObj_type (wpAny_pure ⟨_, rfl, wpAny_pure h⟩) hfit))
end
section
open PySem.Calls PyProof.Rows PyProof.V PySem.Spec
variable {X : Cx}
def tRevT (te : TE) : TE := fun σ H Q => te σ H fun x H1 => ∃ a xs, x = .ref a ∧ H1 a = some (.tup xs) ∧ ∀ p, H1 p = none → Q (.ref p) (upd H1 p (.tup xs.reverse))
theorem pe_revT {e : Expr} {te : TE} {k : Nat} {p1 p2 p3 pos : Pos} (he : PE X e te) : PE X (.Subscript e (.Slice none none (some (.UnaryOp .USub (.Constant (.int 1) k p1) p2)) p3) pos) (tRevT te) := by
  constructor
  intro pins s σ H Q I h
  refine Subscript_ (thn (he.run pins s σ H _ I h) fun v s1 hv => ?_)
  obtain ⟨x, H1, I1, r1, a, xs, rfl, hx, q⟩ := hv
  cases r1
  have hst : PO X (some (.UnaryOp .USub (.Constant (.int 1) k p1) p2)) (tPart (tUn (rU fun i => .int (-i)) (tC (.int 1)))) := po_some (pe_un un_neg pe_int)
  refine wpAny_Slice (thn (po_none.run pins s1 σ H1 (fun o H2 => o = none ∧ H2 = H1) I1 ⟨rfl, rfl⟩) fun vl s2 hl => ?_)
  obtain ⟨l, H2, I2, pl, rfl, rfl⟩ := hl
  refine thn (po_none.run pins s2 σ H2 (fun o H3 => o = none ∧ H3 = H2) I2 ⟨rfl, rfl⟩) fun vu s3 hu => ?_
  obtain ⟨u, H3, I3, pu, rfl, rfl⟩ := hu
  refine thn (hst.run pins s3 σ H3 (fun o H4 => o = some (-1) ∧ H4 = H3) I3 ⟨1, rfl, -1, rfl, rfl, rfl⟩) fun vs s4 hs => ?_
  obtain ⟨o, H4, I4, ps, rfl, rfl⟩ := hs
  have I5 : Inv X pins σ H4 { s4 with heap := s4.heap.push { cls := .type "slice", data := .fields #[vl, vu, vs] } } := I4.kept (t' := s4.toks) fun b ob q => Heap.get?_push_of_some _ q
  obtain ⟨its, r, ht, hz⟩ := I5.tuple (SqT.of (K := X.K) hx)
  have hlen := r.length
  show wpAny (model X.prog X.w) X.A (subscriptTail e (.Slice none none (some (.UnaryOp .USub (.Constant (.int 1) k p1) p2)) p3) (.ref a) (.ref s4.heap.objs.size)) (EP X pins σ Q) X.xe { s4 with heap := s4.heap.push { cls := .type "slice", data := .fields #[vl, vu, vs] } }
  refine tail_any (ops := [.ref a, .ref s4.heap.objs.size]) ht.typeIs PyProof.Rows.slot_tuple_getitem.lookup ?_ (by with_unfolding_all rfl)
  refine item_rev ht (Heap.IsSliceOf.new _ vl vu vs) pl pu ps ?_ (by rw [List.size_toArray]; omega)
  refine ⟨.ref _, _, I5.laid (t' := s4.toks) (o := .tup xs.reverse) (fun b ob q => Heap.get?_push_of_some _ q) (Nat.le_refl _) ?_, rfl, q _ (I5.hok.fresh (Nat.le_refl _))⟩
  exact ⟨by rw [List.length_reverse]; exact hz, _, r.reverse, IsTup.new _ _⟩
end

local macro_rules | `(tactic| walk_at "hp") => `(tactic| first
  | assumption | exact upd_same | (refine get_new (by assumption) ?_; walk_at "hp") | (refine Gn.at (by assumption) ?_ (by assumption); walk_at "hp")
  | (refine (by assumption : Same _ _) _ _ ?_; walk_at "hp") | (refine get_ne (by assumption) ?_; walk_at "hp") | (refine get_ne (Ne.symm (by assumption)) ?_; walk_at "hp"))
local macro_rules | `(tactic| walk_at "im") => `(tactic| first
  | assumption | exact im_int | exact im_str | exact im_non | exact im_bool
  | (refine Gn.im (by assumption) ?_; walk_at "im") | (refine imNew (by assumption) ?_; walk_at "im") | (refine Same.im (by assumption) ?_; walk_at "im")
  | (refine imPut (by assumption) ?_; walk_at "im") | (refine imIns (by assumption) ?_; walk_at "im") | (refine imDk (by assumption) ?_; walk_at "im")
  | (refine im_tupNew (by assumption) ?_; walk_at "ims") | (refine im_tup (by assumption) ?_; walk_at "ims"))
local macro_rules | `(tactic| walk_at "ims") => `(tactic| first
  | assumption | exact im_nil | (refine Gn.ims (by assumption) ?_; walk_at "ims") | (refine imsNew (by assumption) ?_; walk_at "ims") | (refine Same.ims (by assumption) ?_; walk_at "ims")
  | (refine imsPut (by assumption) ?_; walk_at "ims") | (refine imsIns (by assumption) ?_; walk_at "ims") | (refine imsDk (by assumption) ?_; walk_at "ims") | (refine im_cons ?_ ?_; walk_at "im"; walk_at "ims"))

def top (i : Nat) : Stmt := PySem.Challenge.pw_ringloosed_k03_steps_and_programs.main.body.getD i (.Pass ⟨0, 0, 0, 0⟩)
abbrev s_is_int : Stmt := top 7
abbrev N_is_int : List Str := ["thing"]
theorem sc_is_int : FnScope N_is_int ["thing"] (defScope s_is_int) := ⟨rfl, rfl, rfl, by decide +kernel, rfl, by decide +kernel, by decide +kernel⟩
abbrev s_is_number : Stmt := top 8
abbrev N_is_number : List Str := ["thing"]
theorem sc_is_number : FnScope N_is_number ["thing"] (defScope s_is_number) := ⟨rfl, rfl, rfl, by decide +kernel, rfl, by decide +kernel, by decide +kernel⟩
abbrev s_is_integer : Stmt := top 9
abbrev N_is_integer : List Str := ["thing"]
theorem sc_is_integer : FnScope N_is_integer ["thing"] (defScope s_is_integer) := ⟨rfl, rfl, rfl, by decide +kernel, rfl, by decide +kernel, by decide +kernel⟩
abbrev s_is_name : Stmt := top 10
abbrev N_is_name : List Str := ["thing", "char"]
theorem sc_is_name : FnScope N_is_name ["thing"] (defScope s_is_name) := ⟨rfl, rfl, rfl, by decide +kernel, rfl, by decide +kernel, by decide +kernel⟩
abbrev s_is_pair : Stmt := top 11
abbrev N_is_pair : List Str := ["thing"]
theorem sc_is_pair : FnScope N_is_pair ["thing"] (defScope s_is_pair) := ⟨rfl, rfl, rfl, by decide +kernel, rfl, by decide +kernel, by decide +kernel⟩
abbrev s_is_key : Stmt := top 12
abbrev N_is_key : List Str := ["thing"]
theorem sc_is_key : FnScope N_is_key ["thing"] (defScope s_is_key) := ⟨rfl, rfl, rfl, by decide +kernel, rfl, by decide +kernel, by decide +kernel⟩
abbrev s_is_step : Stmt := top 13
abbrev N_is_step : List Str := ["thing"]
theorem sc_is_step : FnScope N_is_step ["thing"] (defScope s_is_step) := ⟨rfl, rfl, rfl, by decide +kernel, rfl, by decide +kernel, by decide +kernel⟩
abbrev s_is_program : Stmt := top 14
abbrev N_is_program : List Str := ["thing", "step"]
theorem sc_is_program : FnScope N_is_program ["thing"] (defScope s_is_program) := ⟨rfl, rfl, rfl, by decide +kernel, rfl, by decide +kernel, by decide +kernel⟩
abbrev s_law_stream : Stmt := top 16
abbrev N_law_stream : List Str := ["_law_cell", "_law_k", "_law_digits"]
theorem sc_law_stream : FnScope N_law_stream ["_law_cell", "_law_k"] (defScope s_law_stream) := ⟨rfl, rfl, rfl, by decide +kernel, rfl, by decide +kernel, by decide +kernel⟩
abbrev s_law_next : Stmt := top 17
abbrev N_law_next : List Str := ["_law_stream_here", "_law_size", "_law_drawn"]
theorem sc_law_next : FnScope N_law_next ["_law_stream_here", "_law_size"] (defScope s_law_next) := ⟨rfl, rfl, rfl, by decide +kernel, rfl, by decide +kernel, by decide +kernel⟩
abbrev s_law_flag : Stmt := top 18
abbrev N_law_flag : List Str := ["_law_actual", "_law_due"]
theorem sc_law_flag : FnScope N_law_flag ["_law_actual", "_law_due"] (defScope s_law_flag) := ⟨rfl, rfl, rfl, by decide +kernel, rfl, by decide +kernel, by decide +kernel⟩
abbrev s_law_number : Stmt := top 19
abbrev N_law_number : List Str := ["_law_stream_here", "_law_kind"]
theorem sc_law_number : FnScope N_law_number ["_law_stream_here"] (defScope s_law_number) := ⟨rfl, rfl, rfl, by decide +kernel, rfl, by decide +kernel, by decide +kernel⟩
abbrev s_law_integer : Stmt := top 20
abbrev N_law_integer : List Str := ["_law_stream_here"]
theorem sc_law_integer : FnScope N_law_integer ["_law_stream_here"] (defScope s_law_integer) := ⟨rfl, rfl, rfl, by decide +kernel, rfl, by decide +kernel, by decide +kernel⟩
abbrev s_law_name : Stmt := top 21
abbrev N_law_name : List Str := ["_law_stream_here", "_law_letters", "_law_k"]
theorem sc_law_name : FnScope N_law_name ["_law_stream_here"] (defScope s_law_name) := ⟨rfl, rfl, rfl, by decide +kernel, rfl, by decide +kernel, by decide +kernel⟩
abbrev s_law_key : Stmt := top 22
abbrev N_law_key : List Str := ["_law_stream_here"]
theorem sc_law_key : FnScope N_law_key ["_law_stream_here"] (defScope s_law_key) := ⟨rfl, rfl, rfl, by decide +kernel, rfl, by decide +kernel, by decide +kernel⟩
abbrev s_law_step : Stmt := top 26
abbrev N_law_step : List Str := ["_law_stream_here", "_law_kind"]
theorem sc_law_step : FnScope N_law_step ["_law_stream_here"] (defScope s_law_step) := ⟨rfl, rfl, rfl, by decide +kernel, rfl, by decide +kernel, by decide +kernel⟩
abbrev s_law_is_int : Stmt := top 27
abbrev N_law_is_int : List Str := ["_law_thing", "_law_least", "_law_most"]
theorem sc_law_is_int : FnScope N_law_is_int ["_law_thing", "_law_least", "_law_most"] (defScope s_law_is_int) := ⟨rfl, rfl, rfl, by decide +kernel, rfl, by decide +kernel, by decide +kernel⟩
abbrev s_law_is_name : Stmt := top 28
abbrev N_law_is_name : List Str := ["_law_thing", "_law_char"]
theorem sc_law_is_name : FnScope N_law_is_name ["_law_thing"] (defScope s_law_is_name) := ⟨rfl, rfl, rfl, by decide +kernel, rfl, by decide +kernel, by decide +kernel⟩
abbrev s_law_is_key : Stmt := top 29
abbrev N_law_is_key : List Str := ["_law_thing"]
theorem sc_law_is_key : FnScope N_law_is_key ["_law_thing"] (defScope s_law_is_key) := ⟨rfl, rfl, rfl, by decide +kernel, rfl, by decide +kernel, by decide +kernel⟩
abbrev s_law_is_step : Stmt := top 33
abbrev N_law_is_step : List Str := ["_law_thing"]
theorem sc_law_is_step : FnScope N_law_is_step ["_law_thing"] (defScope s_law_is_step) := ⟨rfl, rfl, rfl, by decide +kernel, rfl, by decide +kernel, by decide +kernel⟩
abbrev s_law_is_program : Stmt := top 34
abbrev N_law_is_program : List Str := ["_law_thing", "_law_step_here"]
theorem sc_law_is_program : FnScope N_law_is_program ["_law_thing"] (defScope s_law_is_program) := ⟨rfl, rfl, rfl, by decide +kernel, rfl, by decide +kernel, by decide +kernel⟩
abbrev s_law_odd : Stmt := top 35
abbrev N_law_odd : List Str := ["_law_stream_here", "_law_things"]
theorem sc_law_odd : FnScope N_law_odd ["_law_stream_here"] (defScope s_law_odd) := ⟨rfl, rfl, rfl, by decide +kernel, rfl, by decide +kernel, by decide +kernel⟩
abbrev s_law_changed_step : Stmt := top 36
abbrev N_law_changed_step : List Str := ["_law_step_here", "_law_stream_here", "_law_kind", "_law_at"]
theorem sc_law_changed_step : FnScope N_law_changed_step ["_law_step_here", "_law_stream_here"] (defScope s_law_changed_step) := ⟨rfl, rfl, rfl, by decide +kernel, rfl, by decide +kernel, by decide +kernel⟩
abbrev s_law_changed : Stmt := top 37
abbrev N_law_changed : List Str := ["_law_program", "_law_stream_here", "_law_kind", "_law_at"]
theorem sc_law_changed : FnScope N_law_changed ["_law_program", "_law_stream_here"] (defScope s_law_changed) := ⟨rfl, rfl, rfl, by decide +kernel, rfl, by decide +kernel, by decide +kernel⟩
abbrev s_law : Stmt := top 38
abbrev N_law : List Str := ["_law_script", "_law_k", "_law_stream_here", "_law_program", "_law_thing", "_law_j"]
theorem sc_law : FnScope N_law ["_law_script"] (defScope s_law) := ⟨rfl, rfl, rfl, by decide +kernel, rfl, by decide +kernel, by decide +kernel⟩
structure Txt (K : PySem.W.Frag) (mg : Str → Option Value) where
  f_is_int : Addr
  d_is_int : FuncData
  F_is_int : Fun K "is_int" "is_int" s_is_int f_is_int d_is_int
  b_is_int : Binds K d_is_int ["thing"] []
  g_is_int : mg "is_int" = some (.ref f_is_int)
  f_is_number : Addr
  d_is_number : FuncData
  F_is_number : Fun K "is_number" "is_number" s_is_number f_is_number d_is_number
  b_is_number : Binds K d_is_number ["thing"] []
  g_is_number : mg "is_number" = some (.ref f_is_number)
  f_is_integer : Addr
  d_is_integer : FuncData
  F_is_integer : Fun K "is_integer" "is_integer" s_is_integer f_is_integer d_is_integer
  b_is_integer : Binds K d_is_integer ["thing"] []
  g_is_integer : mg "is_integer" = some (.ref f_is_integer)
  f_is_name : Addr
  d_is_name : FuncData
  F_is_name : Fun K "is_name" "is_name" s_is_name f_is_name d_is_name
  b_is_name : Binds K d_is_name ["thing"] []
  g_is_name : mg "is_name" = some (.ref f_is_name)
  f_is_pair : Addr
  d_is_pair : FuncData
  F_is_pair : Fun K "is_pair" "is_pair" s_is_pair f_is_pair d_is_pair
  b_is_pair : Binds K d_is_pair ["thing"] []
  g_is_pair : mg "is_pair" = some (.ref f_is_pair)
  f_is_key : Addr
  d_is_key : FuncData
  F_is_key : Fun K "is_key" "is_key" s_is_key f_is_key d_is_key
  b_is_key : Binds K d_is_key ["thing"] []
  g_is_key : mg "is_key" = some (.ref f_is_key)
  f_is_step : Addr
  d_is_step : FuncData
  F_is_step : Fun K "is_step" "is_step" s_is_step f_is_step d_is_step
  b_is_step : Binds K d_is_step ["thing"] []
  g_is_step : mg "is_step" = some (.ref f_is_step)
  f_is_program : Addr
  d_is_program : FuncData
  F_is_program : Fun K "is_program" "is_program" s_is_program f_is_program d_is_program
  b_is_program : Binds K d_is_program ["thing"] []
  g_is_program : mg "is_program" = some (.ref f_is_program)
  f_law_stream : Addr
  d_law_stream : FuncData
  F_law_stream : Fun K "_law_stream" "_law_stream" s_law_stream f_law_stream d_law_stream
  b_law_stream : Binds K d_law_stream ["_law_cell", "_law_k"] []
  g_law_stream : mg "_law_stream" = some (.ref f_law_stream)
  f_law_next : Addr
  d_law_next : FuncData
  F_law_next : Fun K "_law_next" "_law_next" s_law_next f_law_next d_law_next
  b_law_next : Binds K d_law_next ["_law_stream_here", "_law_size"] []
  g_law_next : mg "_law_next" = some (.ref f_law_next)
  f_law_flag : Addr
  d_law_flag : FuncData
  F_law_flag : Fun K "_law_flag" "_law_flag" s_law_flag f_law_flag d_law_flag
  b_law_flag : Binds K d_law_flag ["_law_actual", "_law_due"] []
  g_law_flag : mg "_law_flag" = some (.ref f_law_flag)
  f_law_number : Addr
  d_law_number : FuncData
  F_law_number : Fun K "_law_number" "_law_number" s_law_number f_law_number d_law_number
  b_law_number : Binds K d_law_number ["_law_stream_here"] []
  g_law_number : mg "_law_number" = some (.ref f_law_number)
  f_law_integer : Addr
  d_law_integer : FuncData
  F_law_integer : Fun K "_law_integer" "_law_integer" s_law_integer f_law_integer d_law_integer
  b_law_integer : Binds K d_law_integer ["_law_stream_here"] []
  g_law_integer : mg "_law_integer" = some (.ref f_law_integer)
  f_law_name : Addr
  d_law_name : FuncData
  F_law_name : Fun K "_law_name" "_law_name" s_law_name f_law_name d_law_name
  b_law_name : Binds K d_law_name ["_law_stream_here"] []
  g_law_name : mg "_law_name" = some (.ref f_law_name)
  f_law_key : Addr
  d_law_key : FuncData
  F_law_key : Fun K "_law_key" "_law_key" s_law_key f_law_key d_law_key
  b_law_key : Binds K d_law_key ["_law_stream_here"] []
  g_law_key : mg "_law_key" = some (.ref f_law_key)
  f_law_step : Addr
  d_law_step : FuncData
  F_law_step : Fun K "_law_step" "_law_step" s_law_step f_law_step d_law_step
  b_law_step : Binds K d_law_step ["_law_stream_here"] []
  g_law_step : mg "_law_step" = some (.ref f_law_step)
  f_law_is_int : Addr
  d_law_is_int : FuncData
  F_law_is_int : Fun K "_law_is_int" "_law_is_int" s_law_is_int f_law_is_int d_law_is_int
  b_law_is_int : Binds K d_law_is_int ["_law_thing", "_law_least", "_law_most"] []
  g_law_is_int : mg "_law_is_int" = some (.ref f_law_is_int)
  f_law_is_name : Addr
  d_law_is_name : FuncData
  F_law_is_name : Fun K "_law_is_name" "_law_is_name" s_law_is_name f_law_is_name d_law_is_name
  b_law_is_name : Binds K d_law_is_name ["_law_thing"] []
  g_law_is_name : mg "_law_is_name" = some (.ref f_law_is_name)
  f_law_is_key : Addr
  d_law_is_key : FuncData
  F_law_is_key : Fun K "_law_is_key" "_law_is_key" s_law_is_key f_law_is_key d_law_is_key
  b_law_is_key : Binds K d_law_is_key ["_law_thing"] []
  g_law_is_key : mg "_law_is_key" = some (.ref f_law_is_key)
  f_law_is_step : Addr
  d_law_is_step : FuncData
  F_law_is_step : Fun K "_law_is_step" "_law_is_step" s_law_is_step f_law_is_step d_law_is_step
  b_law_is_step : Binds K d_law_is_step ["_law_thing"] []
  g_law_is_step : mg "_law_is_step" = some (.ref f_law_is_step)
  f_law_is_program : Addr
  d_law_is_program : FuncData
  F_law_is_program : Fun K "_law_is_program" "_law_is_program" s_law_is_program f_law_is_program d_law_is_program
  b_law_is_program : Binds K d_law_is_program ["_law_thing"] []
  g_law_is_program : mg "_law_is_program" = some (.ref f_law_is_program)
  f_law_odd : Addr
  d_law_odd : FuncData
  F_law_odd : Fun K "_law_odd" "_law_odd" s_law_odd f_law_odd d_law_odd
  b_law_odd : Binds K d_law_odd ["_law_stream_here"] []
  g_law_odd : mg "_law_odd" = some (.ref f_law_odd)
  f_law_changed_step : Addr
  d_law_changed_step : FuncData
  F_law_changed_step : Fun K "_law_changed_step" "_law_changed_step" s_law_changed_step f_law_changed_step d_law_changed_step
  b_law_changed_step : Binds K d_law_changed_step ["_law_step_here", "_law_stream_here"] []
  g_law_changed_step : mg "_law_changed_step" = some (.ref f_law_changed_step)
  f_law_changed : Addr
  d_law_changed : FuncData
  F_law_changed : Fun K "_law_changed" "_law_changed" s_law_changed f_law_changed d_law_changed
  b_law_changed : Binds K d_law_changed ["_law_program", "_law_stream_here"] []
  g_law_changed : mg "_law_changed" = some (.ref f_law_changed)
  f_law : Addr
  d_law : FuncData
  F_law : Fun K "law" "law" s_law f_law d_law
  b_law : Binds K d_law ["_law_script"] []
  g_law : mg "law" = some (.ref f_law)
  k_GREATEST : Value
  g_GREATEST : mg "GREATEST" = some k_GREATEST
  r_GREATEST : RelV (V.int 1000000000000) k_GREATEST
  k_LETTERS : Value
  g_LETTERS : mg "LETTERS" = some k_LETTERS
  r_LETTERS : RelV (V.str (Str.ofString "abcdefghijklmnopqrstuvwxyz")) k_LETTERS
  k_LONGEST_NAME : Value
  g_LONGEST_NAME : mg "LONGEST_NAME" = some k_LONGEST_NAME
  r_LONGEST_NAME : RelV (V.int 12) k_LONGEST_NAME
  w_WITHOUT : Addr
  g_WITHOUT : mg "WITHOUT" = some (.ref w_WITHOUT)
  q_WITHOUT : ∀ H, SqT K H w_WITHOUT [V.str (Str.ofString "read"), V.str (Str.ofString "store")]
  w_WITH_INTEGER : Addr
  g_WITH_INTEGER : mg "WITH_INTEGER" = some (.ref w_WITH_INTEGER)
  q_WITH_INTEGER : ∀ H, SqT K H w_WITH_INTEGER [V.str (Str.ofString "put"), V.str (Str.ofString "add"), V.str (Str.ofString "need")]
  k_LONGEST_PROGRAM : Value
  g_LONGEST_PROGRAM : mg "LONGEST_PROGRAM" = some k_LONGEST_PROGRAM
  r_LONGEST_PROGRAM : RelV (V.int 12) k_LONGEST_PROGRAM
  z_isinstance : mg "isinstance" = none
  z_int : mg "int" = none
  z_bool : mg "bool" = none
  z_str : mg "str" = none
  z_len : mg "len" = none
  z_tuple : mg "tuple" = none
  z_all : mg "all" = none
  z_range : mg "range" = none
  z_list : mg "list" = none
  z_min : mg "min" = none
section
variable {P : Program} {w : World} {K : PySem.W.Frag} {mg : Str → Option Value} {base : Heap}
def spLaw (K : PySem.W.Frag) : Sp := fun vs H Q _ => ∃ (a : Addr) (ns : List Int), vs = [.ref a] ∧ SqL K H a (ns.map V.int) ∧ ns.length ≤ 63 ∧ ∀ H', Q (.bl true) H'
def sp_is_int : Sp := fun vs H Q _ => ∃ (s : Addr) (d : PyData) (v : V), vs = [v] ∧ Ob s H d v ∧ Q (.bl (isInt d)) H
theorem ok_is_int (T : Txt K mg) : FnOk P w K mg base CX0 1 T.f_is_int T.d_is_int ["thing"] (sp_is_int) := by
  refine Fun.ok T.F_is_int sc_is_int (fun vs H Q E h => ?_) (fun cdv A outer s H vs Q E hr h => ?_)
  · obtain ⟨s, d, v, rfl, ov, kk⟩ := h; rfl
  · obtain ⟨s, d, v, rfl, ov, kk⟩ := h
    have hu := hu_of hr
    refine ⟨_, (pss_one (ps_ret (pe_and (pe_callB call_isiH (by rfl) T.z_isinstance (by decide +kernel) (pa_cons (pv 0) (pa_cons (pe_bltn (v := .ty "int") (by rfl) T.z_int (by decide +kernel) rfl) pa_nil))) (pe_one (pe_not (pe_callB call_isiH (by rfl) T.z_isinstance (by decide +kernel) (pa_cons (pv 0) (pa_cons (pe_bltn (v := .ty "bool") (by rfl) T.z_bool (by decide +kernel) rfl) pa_nil)))))))), ?_⟩
    (try simp only [cxOf, Cx.nox, Cx.wish, tSeq, tAsg, tC, gName, tIfS, tTest, tOp, tUn, rU, rI0, rI, tVar, tNext, tRevT, tDNewK, tBreak, tChain, iStr, tRet, tRetN, tDrop, tLst, tTup, tCons, tNil, tCB, tB, tOr, tAnd, tNot, tIf, tCall, tFor_eq, tLc_eq, iRng1, iRng2, iList, iTup, gTup, gTupH, gUnlH, gCons, gNil, gSub, rSetL, rIxL, rIxT, rIxLH, rIxTH, rSlTS, rCatS, rTupS, rIsiH, rLenS, V.ty.injEq, tyS_non, tyS_bl, tyS_int, tyS_str, tyS_ref, tyO_l, tyO_t, tyO_d, tyO_dt, kit_ll, kit_tt, kit_bb, kit_ii, kit_ib, kit_bi, kit_nt, kit_it, kit_st, kit_bt, kit_lt, kit_dt, kit_ni, kit_si, kit_ti, kit_li, kit_di, kit_nb, kit_ns, kit_is, kit_bs, kit_ss, kit_ts, kit_ls, kit_ds, kit_dd, lenS_ref, lenO_l, lenO_t,  rAppend, tM1, rIxS, tSl, tPart, tNoPart, tBM, tBM0, tDGetS, sDPutS, tTruS, truO_l, truO_t, truS_ref, truS_non, truS_bl, truS_int, tFld, sFld, sFldAug, rAdd, tMeth, tProp, tMake, tMakeK, List.take_succ_cons, List.take_zero, List.drop_succ_cons, List.drop_zero, List.take_nil, tIsN, tNotN, tAndV, tOrV, tNotV, putF, List.lookup, List.any_cons, List.any_nil, Sum.inr.injEq, HO.ins.injEq, HO.dK.injEq, eq_self, beq_self_eq_true, beq_iff_eq, decide_true, decide_false, Bool.or_true, Bool.true_or, Bool.or_false, Bool.false_or, tYes, rEq, rNe, _root_.L2.start, wipe, List.map_cons, List.map_nil, List.length_cons, List.length_nil, List.append_nil, Nat.reduceAdd, Nat.reduceSub, List.replicate_succ, List.replicate_zero, List.cons_append, List.nil_append, List.getElem?_cons_zero, List.getElem?_cons_succ, List.set_cons_zero, List.set_cons_succ, Option.some.injEq, V.int.injEq, V.ref.injEq, V.bl.injEq, V.str.injEq, List.cons.injEq, HO.lst.injEq, HO.tup.injEq, and_assoc, and_true, true_and, exists_eq_left, exists_eq_left', exists_and_left, exists_eq, reduceCtorEq, false_and, and_false, or_false, false_or, exists_false, decide_eq_true_eq, CPow, CDivW, Int.reducePow, Int.reduceLT, Int.reduceLE, Int.reduceNeg, Int.reduceToNat, Int.reduceAbs, Nat.reducePow, Nat.reduceLT, Nat.reduceLeDiff, sizeLine_eq, Int.reduceMul, Int.reduceAdd, Int.reduceSub, Bool.not_eq_true', decide_eq_false_iff_not, scal, Bool.not_true, Bool.not_false, Bool.true_eq_false, Bool.false_eq_true, ite_false, ite_true, if_true, if_false, ite_self, forall_const, atI0, atI1, atI2, atI3, ixN20, ixN21, upd_same, upd_upd, Int.zero_add, CMul, Int.reduceSub, Nat.le_refl, Nat.zero_le, or_true, true_or, exists_const, Int.sub_zero, ov.ty])
    cases d <;> simp only [dTy] <;> (try simp only [cxOf, Cx.nox, Cx.wish, tSeq, tAsg, tC, gName, tIfS, tTest, tOp, tUn, rU, rI0, rI, tVar, tNext, tRevT, tDNewK, tBreak, tChain, iStr, tRet, tRetN, tDrop, tLst, tTup, tCons, tNil, tCB, tB, tOr, tAnd, tNot, tIf, tCall, tFor_eq, tLc_eq, iRng1, iRng2, iList, iTup, gTup, gTupH, gUnlH, gCons, gNil, gSub, rSetL, rIxL, rIxT, rIxLH, rIxTH, rSlTS, rCatS, rTupS, rIsiH, rLenS, V.ty.injEq, tyS_non, tyS_bl, tyS_int, tyS_str, tyS_ref, tyO_l, tyO_t, tyO_d, tyO_dt, kit_ll, kit_tt, kit_bb, kit_ii, kit_ib, kit_bi, kit_nt, kit_it, kit_st, kit_bt, kit_lt, kit_dt, kit_ni, kit_si, kit_ti, kit_li, kit_di, kit_nb, kit_ns, kit_is, kit_bs, kit_ss, kit_ts, kit_ls, kit_ds, kit_dd, lenS_ref, lenO_l, lenO_t,  rAppend, tM1, rIxS, tSl, tPart, tNoPart, tBM, tBM0, tDGetS, sDPutS, tTruS, truO_l, truO_t, truS_ref, truS_non, truS_bl, truS_int, tFld, sFld, sFldAug, rAdd, tMeth, tProp, tMake, tMakeK, List.take_succ_cons, List.take_zero, List.drop_succ_cons, List.drop_zero, List.take_nil, tIsN, tNotN, tAndV, tOrV, tNotV, putF, List.lookup, List.any_cons, List.any_nil, Sum.inr.injEq, HO.ins.injEq, HO.dK.injEq, eq_self, beq_self_eq_true, beq_iff_eq, decide_true, decide_false, Bool.or_true, Bool.true_or, Bool.or_false, Bool.false_or, tYes, rEq, rNe, _root_.L2.start, wipe, List.map_cons, List.map_nil, List.length_cons, List.length_nil, List.append_nil, Nat.reduceAdd, Nat.reduceSub, List.replicate_succ, List.replicate_zero, List.cons_append, List.nil_append, List.getElem?_cons_zero, List.getElem?_cons_succ, List.set_cons_zero, List.set_cons_succ, Option.some.injEq, V.int.injEq, V.ref.injEq, V.bl.injEq, V.str.injEq, List.cons.injEq, HO.lst.injEq, HO.tup.injEq, and_assoc, and_true, true_and, exists_eq_left, exists_eq_left', exists_and_left, exists_eq, reduceCtorEq, false_and, and_false, or_false, false_or, exists_false, decide_eq_true_eq, CPow, CDivW, Int.reducePow, Int.reduceLT, Int.reduceLE, Int.reduceNeg, Int.reduceToNat, Int.reduceAbs, Nat.reducePow, Nat.reduceLT, Nat.reduceLeDiff, sizeLine_eq, Int.reduceMul, Int.reduceAdd, Int.reduceSub, Bool.not_eq_true', decide_eq_false_iff_not, scal, Bool.not_true, Bool.not_false, Bool.true_eq_false, Bool.false_eq_true, ite_false, ite_true, if_true, if_false, ite_self, forall_const, atI0, atI1, atI2, atI3, ixN20, ixN21, upd_same, upd_upd, Int.zero_add, CMul, Int.reduceSub, Nat.le_refl, Nat.zero_le, or_true, true_or, exists_const, Int.sub_zero]) <;> exact kk
def sp_is_name : Sp := fun vs H Q _ => ∃ (s : Addr) (d : PyData) (v : V), vs = [v] ∧ Ob s H d v ∧ okT d = true ∧ Q (.bl (nameD d)) H
theorem ok_is_name (T : Txt K mg) : FnOk P w K mg base CX0 1 T.f_is_name T.d_is_name ["thing"] (sp_is_name) := by
  refine Fun.ok T.F_is_name sc_is_name (fun vs H Q E h => ?_) (fun cdv A outer s H vs Q E hr h => ?_)
  · obtain ⟨s, d, v, rfl, ov, hok, kk⟩ := h; rfl
  · obtain ⟨s, d, v, rfl, ov, hok, kk⟩ := h
    have hu := hu_of hr
    refine ⟨_, (pss_cons (ps_if (PW.pt (pw_or (pt_not (pt_val (pe_callB call_isiH (by rfl) T.z_isinstance (by decide +kernel) (pa_cons (pv 0) (pa_cons (pe_bltn (v := .ty "str") (by rfl) T.z_str (by decide +kernel) rfl) pa_nil))))) (pw_or1 (pt_not (pt_chain op_le op_le pe_int (pe_callB call_lenS (by rfl) T.z_len (by decide +kernel) (pa_cons (pv 0) pa_nil)) (pe_glob rfl T.g_LONGEST_NAME T.r_LONGEST_NAME)))))) (pss_one (ps_ret pe_bl)) pss_nil)
      (pss_cons (ps_for PassesOwn.never rfl (pi_str (pv 0)) (pg_name (i := 1) sc_is_name.nd rfl (Or.inl rfl))
      (pss_one (ps_if (pt_cmpR op_notin_str (pv 1) (pe_glob rfl T.g_LETTERS T.r_LETTERS) (by rfl)) (pss_one (ps_ret pe_bl)) pss_nil)))
      (pss_one (ps_ret pe_bl)))), ?_⟩
    (try simp only [cxOf, Cx.nox, Cx.wish, tSeq, tAsg, tC, gName, tIfS, tTest, tOp, tUn, rU, rI0, rI, tVar, tNext, tRevT, tDNewK, tBreak, tChain, iStr, tRet, tRetN, tDrop, tLst, tTup, tCons, tNil, tCB, tB, tOr, tAnd, tNot, tIf, tCall, tFor_eq, tLc_eq, iRng1, iRng2, iList, iTup, gTup, gTupH, gUnlH, gCons, gNil, gSub, rSetL, rIxL, rIxT, rIxLH, rIxTH, rSlTS, rCatS, rTupS, rIsiH, rLenS, V.ty.injEq, tyS_non, tyS_bl, tyS_int, tyS_str, tyS_ref, tyO_l, tyO_t, tyO_d, tyO_dt, kit_ll, kit_tt, kit_bb, kit_ii, kit_ib, kit_bi, kit_nt, kit_it, kit_st, kit_bt, kit_lt, kit_dt, kit_ni, kit_si, kit_ti, kit_li, kit_di, kit_nb, kit_ns, kit_is, kit_bs, kit_ss, kit_ts, kit_ls, kit_ds, kit_dd, lenS_ref, lenO_l, lenO_t,  rAppend, tM1, rIxS, tSl, tPart, tNoPart, tBM, tBM0, tDGetS, sDPutS, tTruS, truO_l, truO_t, truS_ref, truS_non, truS_bl, truS_int, tFld, sFld, sFldAug, rAdd, tMeth, tProp, tMake, tMakeK, List.take_succ_cons, List.take_zero, List.drop_succ_cons, List.drop_zero, List.take_nil, tIsN, tNotN, tAndV, tOrV, tNotV, putF, List.lookup, List.any_cons, List.any_nil, Sum.inr.injEq, HO.ins.injEq, HO.dK.injEq, eq_self, beq_self_eq_true, beq_iff_eq, decide_true, decide_false, Bool.or_true, Bool.true_or, Bool.or_false, Bool.false_or, tYes, rEq, rNe, _root_.L2.start, wipe, List.map_cons, List.map_nil, List.length_cons, List.length_nil, List.append_nil, Nat.reduceAdd, Nat.reduceSub, List.replicate_succ, List.replicate_zero, List.cons_append, List.nil_append, List.getElem?_cons_zero, List.getElem?_cons_succ, List.set_cons_zero, List.set_cons_succ, Option.some.injEq, V.int.injEq, V.ref.injEq, V.bl.injEq, V.str.injEq, List.cons.injEq, HO.lst.injEq, HO.tup.injEq, and_assoc, and_true, true_and, exists_eq_left, exists_eq_left', exists_and_left, exists_eq, reduceCtorEq, false_and, and_false, or_false, false_or, exists_false, decide_eq_true_eq, CPow, CDivW, Int.reducePow, Int.reduceLT, Int.reduceLE, Int.reduceNeg, Int.reduceToNat, Int.reduceAbs, Nat.reducePow, Nat.reduceLT, Nat.reduceLeDiff, sizeLine_eq, Int.reduceMul, Int.reduceAdd, Int.reduceSub, Bool.not_eq_true', decide_eq_false_iff_not, scal, Bool.not_true, Bool.not_false, Bool.true_eq_false, Bool.false_eq_true, ite_false, ite_true, if_true, if_false, ite_self, forall_const, atI0, atI1, atI2, atI3, ixN20, ixN21, upd_same, upd_upd, Int.zero_add, CMul, Int.reduceSub, Nat.le_refl, Nat.zero_le, or_true, true_or, exists_const, Int.sub_zero, ov.ty])
    cases d with
    | str x =>
      simp only [Ob] at ov
      subst ov
      obtain ⟨h1, h2⟩ := okT_str.mp hok
      simp only [dTy]
      (try simp only [cxOf, Cx.nox, Cx.wish, tSeq, tAsg, tC, gName, tIfS, tTest, tOp, tUn, rU, rI0, rI, tVar, tNext, tRevT, tDNewK, tBreak, tChain, iStr, tRet, tRetN, tDrop, tLst, tTup, tCons, tNil, tCB, tB, tOr, tAnd, tNot, tIf, tCall, tFor_eq, tLc_eq, iRng1, iRng2, iList, iTup, gTup, gTupH, gUnlH, gCons, gNil, gSub, rSetL, rIxL, rIxT, rIxLH, rIxTH, rSlTS, rCatS, rTupS, rIsiH, rLenS, V.ty.injEq, tyS_non, tyS_bl, tyS_int, tyS_str, tyS_ref, tyO_l, tyO_t, tyO_d, tyO_dt, kit_ll, kit_tt, kit_bb, kit_ii, kit_ib, kit_bi, kit_nt, kit_it, kit_st, kit_bt, kit_lt, kit_dt, kit_ni, kit_si, kit_ti, kit_li, kit_di, kit_nb, kit_ns, kit_is, kit_bs, kit_ss, kit_ts, kit_ls, kit_ds, kit_dd, lenS_ref, lenO_l, lenO_t,  rAppend, tM1, rIxS, tSl, tPart, tNoPart, tBM, tBM0, tDGetS, sDPutS, tTruS, truO_l, truO_t, truS_ref, truS_non, truS_bl, truS_int, tFld, sFld, sFldAug, rAdd, tMeth, tProp, tMake, tMakeK, List.take_succ_cons, List.take_zero, List.drop_succ_cons, List.drop_zero, List.take_nil, tIsN, tNotN, tAndV, tOrV, tNotV, putF, List.lookup, List.any_cons, List.any_nil, Sum.inr.injEq, HO.ins.injEq, HO.dK.injEq, eq_self, beq_self_eq_true, beq_iff_eq, decide_true, decide_false, Bool.or_true, Bool.true_or, Bool.or_false, Bool.false_or, tYes, rEq, rNe, _root_.L2.start, wipe, List.map_cons, List.map_nil, List.length_cons, List.length_nil, List.append_nil, Nat.reduceAdd, Nat.reduceSub, List.replicate_succ, List.replicate_zero, List.cons_append, List.nil_append, List.getElem?_cons_zero, List.getElem?_cons_succ, List.set_cons_zero, List.set_cons_succ, Option.some.injEq, V.int.injEq, V.ref.injEq, V.bl.injEq, V.str.injEq, List.cons.injEq, HO.lst.injEq, HO.tup.injEq, and_assoc, and_true, true_and, exists_eq_left, exists_eq_left', exists_and_left, exists_eq, reduceCtorEq, false_and, and_false, or_false, false_or, exists_false, decide_eq_true_eq, CPow, CDivW, Int.reducePow, Int.reduceLT, Int.reduceLE, Int.reduceNeg, Int.reduceToNat, Int.reduceAbs, Nat.reducePow, Nat.reduceLT, Nat.reduceLeDiff, sizeLine_eq, Int.reduceMul, Int.reduceAdd, Int.reduceSub, Bool.not_eq_true', decide_eq_false_iff_not, scal, Bool.not_true, Bool.not_false, Bool.true_eq_false, Bool.false_eq_true, ite_false, ite_true, if_true, if_false, ite_self, forall_const, atI0, atI1, atI2, atI3, ixN20, ixN21, upd_same, upd_upd, Int.zero_add, CMul, Int.reduceSub, Nat.le_refl, Nat.zero_le, or_true, true_or, exists_const, Int.sub_zero, lenS_str (show x.length ≤ 16777216 by omega)])
      by_cases hl : 1 ≤ x.length ∧ x.length ≤ 12
      · rw [if_pos (by omega), if_neg (by omega)]
        have hn : nameD (.str x) = x.cps.toList.all letter := by simp [nameD, hl]
        rw [hn] at kk
        refine Loop.str (fun i σ H' => ∃ b1, σ = [some (.str x), b1] ∧ H' = H ∧ (x.cps.toList.take i).all letter = true) ⟨none, rfl, rfl, rfl⟩ ?_ ?_
        · rintro i c σ H1 hc ⟨b1, rfl, rfl, ha⟩
          (try simp only [cxOf, Cx.nox, Cx.wish, tSeq, tAsg, tC, gName, tIfS, tTest, tOp, tUn, rU, rI0, rI, tVar, tNext, tRevT, tDNewK, tBreak, tChain, iStr, tRet, tRetN, tDrop, tLst, tTup, tCons, tNil, tCB, tB, tOr, tAnd, tNot, tIf, tCall, tFor_eq, tLc_eq, iRng1, iRng2, iList, iTup, gTup, gTupH, gUnlH, gCons, gNil, gSub, rSetL, rIxL, rIxT, rIxLH, rIxTH, rSlTS, rCatS, rTupS, rIsiH, rLenS, V.ty.injEq, tyS_non, tyS_bl, tyS_int, tyS_str, tyS_ref, tyO_l, tyO_t, tyO_d, tyO_dt, kit_ll, kit_tt, kit_bb, kit_ii, kit_ib, kit_bi, kit_nt, kit_it, kit_st, kit_bt, kit_lt, kit_dt, kit_ni, kit_si, kit_ti, kit_li, kit_di, kit_nb, kit_ns, kit_is, kit_bs, kit_ss, kit_ts, kit_ls, kit_ds, kit_dd, lenS_ref, lenO_l, lenO_t,  rAppend, tM1, rIxS, tSl, tPart, tNoPart, tBM, tBM0, tDGetS, sDPutS, tTruS, truO_l, truO_t, truS_ref, truS_non, truS_bl, truS_int, tFld, sFld, sFldAug, rAdd, tMeth, tProp, tMake, tMakeK, List.take_succ_cons, List.take_zero, List.drop_succ_cons, List.drop_zero, List.take_nil, tIsN, tNotN, tAndV, tOrV, tNotV, putF, List.lookup, List.any_cons, List.any_nil, Sum.inr.injEq, HO.ins.injEq, HO.dK.injEq, eq_self, beq_self_eq_true, beq_iff_eq, decide_true, decide_false, Bool.or_true, Bool.true_or, Bool.or_false, Bool.false_or, tYes, rEq, rNe, _root_.L2.start, wipe, List.map_cons, List.map_nil, List.length_cons, List.length_nil, List.append_nil, Nat.reduceAdd, Nat.reduceSub, List.replicate_succ, List.replicate_zero, List.cons_append, List.nil_append, List.getElem?_cons_zero, List.getElem?_cons_succ, List.set_cons_zero, List.set_cons_succ, Option.some.injEq, V.int.injEq, V.ref.injEq, V.bl.injEq, V.str.injEq, List.cons.injEq, HO.lst.injEq, HO.tup.injEq, and_assoc, and_true, true_and, exists_eq_left, exists_eq_left', exists_and_left, exists_eq, reduceCtorEq, false_and, and_false, or_false, false_or, exists_false, decide_eq_true_eq, CPow, CDivW, Int.reducePow, Int.reduceLT, Int.reduceLE, Int.reduceNeg, Int.reduceToNat, Int.reduceAbs, Nat.reducePow, Nat.reduceLT, Nat.reduceLeDiff, sizeLine_eq, Int.reduceMul, Int.reduceAdd, Int.reduceSub, Bool.not_eq_true', decide_eq_false_iff_not, scal, Bool.not_true, Bool.not_false, Bool.true_eq_false, Bool.false_eq_true, ite_false, ite_true, if_true, if_false, ite_self, forall_const, atI0, atI1, atI2, atI3, ixN20, ixN21, upd_same, upd_upd, Int.zero_add, CMul, Int.reduceSub, Nat.le_refl, Nat.zero_le, or_true, true_or, exists_const, Int.sub_zero])
          have hc' : x.cps.toList[i]? = some c := by rw [Array.getElem?_toList]; exact hc
          rw [take_snoc hc', List.all_append, ha]
          show if letter c = false then _ else _
          cases hlc : letter c with
          | false =>
            rw [if_pos rfl]
            rw [List.all_eq_false.mpr ⟨c, List.mem_of_getElem? hc', by rw [hlc]; simp⟩] at kk
            exact kk
          | true =>
            rw [if_neg (by simp)]
            simp [hlc]
        · rintro σ H1 ⟨b1, rfl, e, ha⟩
          subst e
          rw [List.take_of_length_le (by simp)] at ha
          rw [ha] at kk
          (try simp only [cxOf, Cx.nox, Cx.wish, tSeq, tAsg, tC, gName, tIfS, tTest, tOp, tUn, rU, rI0, rI, tVar, tNext, tRevT, tDNewK, tBreak, tChain, iStr, tRet, tRetN, tDrop, tLst, tTup, tCons, tNil, tCB, tB, tOr, tAnd, tNot, tIf, tCall, tFor_eq, tLc_eq, iRng1, iRng2, iList, iTup, gTup, gTupH, gUnlH, gCons, gNil, gSub, rSetL, rIxL, rIxT, rIxLH, rIxTH, rSlTS, rCatS, rTupS, rIsiH, rLenS, V.ty.injEq, tyS_non, tyS_bl, tyS_int, tyS_str, tyS_ref, tyO_l, tyO_t, tyO_d, tyO_dt, kit_ll, kit_tt, kit_bb, kit_ii, kit_ib, kit_bi, kit_nt, kit_it, kit_st, kit_bt, kit_lt, kit_dt, kit_ni, kit_si, kit_ti, kit_li, kit_di, kit_nb, kit_ns, kit_is, kit_bs, kit_ss, kit_ts, kit_ls, kit_ds, kit_dd, lenS_ref, lenO_l, lenO_t,  rAppend, tM1, rIxS, tSl, tPart, tNoPart, tBM, tBM0, tDGetS, sDPutS, tTruS, truO_l, truO_t, truS_ref, truS_non, truS_bl, truS_int, tFld, sFld, sFldAug, rAdd, tMeth, tProp, tMake, tMakeK, List.take_succ_cons, List.take_zero, List.drop_succ_cons, List.drop_zero, List.take_nil, tIsN, tNotN, tAndV, tOrV, tNotV, putF, List.lookup, List.any_cons, List.any_nil, Sum.inr.injEq, HO.ins.injEq, HO.dK.injEq, eq_self, beq_self_eq_true, beq_iff_eq, decide_true, decide_false, Bool.or_true, Bool.true_or, Bool.or_false, Bool.false_or, tYes, rEq, rNe, _root_.L2.start, wipe, List.map_cons, List.map_nil, List.length_cons, List.length_nil, List.append_nil, Nat.reduceAdd, Nat.reduceSub, List.replicate_succ, List.replicate_zero, List.cons_append, List.nil_append, List.getElem?_cons_zero, List.getElem?_cons_succ, List.set_cons_zero, List.set_cons_succ, Option.some.injEq, V.int.injEq, V.ref.injEq, V.bl.injEq, V.str.injEq, List.cons.injEq, HO.lst.injEq, HO.tup.injEq, and_assoc, and_true, true_and, exists_eq_left, exists_eq_left', exists_and_left, exists_eq, reduceCtorEq, false_and, and_false, or_false, false_or, exists_false, decide_eq_true_eq, CPow, CDivW, Int.reducePow, Int.reduceLT, Int.reduceLE, Int.reduceNeg, Int.reduceToNat, Int.reduceAbs, Nat.reducePow, Nat.reduceLT, Nat.reduceLeDiff, sizeLine_eq, Int.reduceMul, Int.reduceAdd, Int.reduceSub, Bool.not_eq_true', decide_eq_false_iff_not, scal, Bool.not_true, Bool.not_false, Bool.true_eq_false, Bool.false_eq_true, ite_false, ite_true, if_true, if_false, ite_self, forall_const, atI0, atI1, atI2, atI3, ixN20, ixN21, upd_same, upd_upd, Int.zero_add, CMul, Int.reduceSub, Nat.le_refl, Nat.zero_le, or_true, true_or, exists_const, Int.sub_zero])
          exact kk
      · rw [show nameD (.str x) = false from by simp only [nameD, decide_eq_false hl, Bool.false_and]] at kk
        by_cases h1 : 1 ≤ x.length
        · rw [if_pos (by omega), if_pos (by omega)]
          exact kk
        · rw [if_neg (by omega)]
          exact kk
    | _ => simp only [dTy]; (try simp only [cxOf, Cx.nox, Cx.wish, tSeq, tAsg, tC, gName, tIfS, tTest, tOp, tUn, rU, rI0, rI, tVar, tNext, tRevT, tDNewK, tBreak, tChain, iStr, tRet, tRetN, tDrop, tLst, tTup, tCons, tNil, tCB, tB, tOr, tAnd, tNot, tIf, tCall, tFor_eq, tLc_eq, iRng1, iRng2, iList, iTup, gTup, gTupH, gUnlH, gCons, gNil, gSub, rSetL, rIxL, rIxT, rIxLH, rIxTH, rSlTS, rCatS, rTupS, rIsiH, rLenS, V.ty.injEq, tyS_non, tyS_bl, tyS_int, tyS_str, tyS_ref, tyO_l, tyO_t, tyO_d, tyO_dt, kit_ll, kit_tt, kit_bb, kit_ii, kit_ib, kit_bi, kit_nt, kit_it, kit_st, kit_bt, kit_lt, kit_dt, kit_ni, kit_si, kit_ti, kit_li, kit_di, kit_nb, kit_ns, kit_is, kit_bs, kit_ss, kit_ts, kit_ls, kit_ds, kit_dd, lenS_ref, lenO_l, lenO_t,  rAppend, tM1, rIxS, tSl, tPart, tNoPart, tBM, tBM0, tDGetS, sDPutS, tTruS, truO_l, truO_t, truS_ref, truS_non, truS_bl, truS_int, tFld, sFld, sFldAug, rAdd, tMeth, tProp, tMake, tMakeK, List.take_succ_cons, List.take_zero, List.drop_succ_cons, List.drop_zero, List.take_nil, tIsN, tNotN, tAndV, tOrV, tNotV, putF, List.lookup, List.any_cons, List.any_nil, Sum.inr.injEq, HO.ins.injEq, HO.dK.injEq, eq_self, beq_self_eq_true, beq_iff_eq, decide_true, decide_false, Bool.or_true, Bool.true_or, Bool.or_false, Bool.false_or, tYes, rEq, rNe, _root_.L2.start, wipe, List.map_cons, List.map_nil, List.length_cons, List.length_nil, List.append_nil, Nat.reduceAdd, Nat.reduceSub, List.replicate_succ, List.replicate_zero, List.cons_append, List.nil_append, List.getElem?_cons_zero, List.getElem?_cons_succ, List.set_cons_zero, List.set_cons_succ, Option.some.injEq, V.int.injEq, V.ref.injEq, V.bl.injEq, V.str.injEq, List.cons.injEq, HO.lst.injEq, HO.tup.injEq, and_assoc, and_true, true_and, exists_eq_left, exists_eq_left', exists_and_left, exists_eq, reduceCtorEq, false_and, and_false, or_false, false_or, exists_false, decide_eq_true_eq, CPow, CDivW, Int.reducePow, Int.reduceLT, Int.reduceLE, Int.reduceNeg, Int.reduceToNat, Int.reduceAbs, Nat.reducePow, Nat.reduceLT, Nat.reduceLeDiff, sizeLine_eq, Int.reduceMul, Int.reduceAdd, Int.reduceSub, Bool.not_eq_true', decide_eq_false_iff_not, scal, Bool.not_true, Bool.not_false, Bool.true_eq_false, Bool.false_eq_true, ite_false, ite_true, if_true, if_false, ite_self, forall_const, atI0, atI1, atI2, atI3, ixN20, ixN21, upd_same, upd_upd, Int.zero_add, CMul, Int.reduceSub, Nat.le_refl, Nat.zero_le, or_true, true_or, exists_const, Int.sub_zero]); exact kk
def isPair : PyData → Bool
  | .tuple ds => decide (ds.length = 2)
  | _ => false
def sp_is_pair : Sp := fun vs H Q _ => ∃ (s : Addr) (d : PyData) (v : V), vs = [v] ∧ Ob s H d v ∧ Q (.bl (isPair d)) H
theorem ok_is_pair (T : Txt K mg) : FnOk P w K mg base CX0 1 T.f_is_pair T.d_is_pair ["thing"] (sp_is_pair) := by
  refine Fun.ok T.F_is_pair sc_is_pair (fun vs H Q E h => ?_) (fun cdv A outer s H vs Q E hr h => ?_)
  · obtain ⟨s, d, v, rfl, ov, kk⟩ := h; rfl
  · obtain ⟨s, d, v, rfl, ov, kk⟩ := h
    have hu := hu_of hr
    refine ⟨_, (pss_one (ps_ret (pe_and (pe_callB call_isiH (by rfl) T.z_isinstance (by decide +kernel) (pa_cons (pv 0) (pa_cons (pe_bltn (v := .ty "tuple") (by rfl) T.z_tuple (by decide +kernel) rfl) pa_nil))) (pe_one (pe_cmpR op_eq (pe_callB call_lenS (by rfl) T.z_len (by decide +kernel) (pa_cons (pv 0) pa_nil)) pe_int (nomark _)))))), ?_⟩
    (try simp only [cxOf, Cx.nox, Cx.wish, tSeq, tAsg, tC, gName, tIfS, tTest, tOp, tUn, rU, rI0, rI, tVar, tNext, tRevT, tDNewK, tBreak, tChain, iStr, tRet, tRetN, tDrop, tLst, tTup, tCons, tNil, tCB, tB, tOr, tAnd, tNot, tIf, tCall, tFor_eq, tLc_eq, iRng1, iRng2, iList, iTup, gTup, gTupH, gUnlH, gCons, gNil, gSub, rSetL, rIxL, rIxT, rIxLH, rIxTH, rSlTS, rCatS, rTupS, rIsiH, rLenS, V.ty.injEq, tyS_non, tyS_bl, tyS_int, tyS_str, tyS_ref, tyO_l, tyO_t, tyO_d, tyO_dt, kit_ll, kit_tt, kit_bb, kit_ii, kit_ib, kit_bi, kit_nt, kit_it, kit_st, kit_bt, kit_lt, kit_dt, kit_ni, kit_si, kit_ti, kit_li, kit_di, kit_nb, kit_ns, kit_is, kit_bs, kit_ss, kit_ts, kit_ls, kit_ds, kit_dd, lenS_ref, lenO_l, lenO_t,  rAppend, tM1, rIxS, tSl, tPart, tNoPart, tBM, tBM0, tDGetS, sDPutS, tTruS, truO_l, truO_t, truS_ref, truS_non, truS_bl, truS_int, tFld, sFld, sFldAug, rAdd, tMeth, tProp, tMake, tMakeK, List.take_succ_cons, List.take_zero, List.drop_succ_cons, List.drop_zero, List.take_nil, tIsN, tNotN, tAndV, tOrV, tNotV, putF, List.lookup, List.any_cons, List.any_nil, Sum.inr.injEq, HO.ins.injEq, HO.dK.injEq, eq_self, beq_self_eq_true, beq_iff_eq, decide_true, decide_false, Bool.or_true, Bool.true_or, Bool.or_false, Bool.false_or, tYes, rEq, rNe, _root_.L2.start, wipe, List.map_cons, List.map_nil, List.length_cons, List.length_nil, List.append_nil, Nat.reduceAdd, Nat.reduceSub, List.replicate_succ, List.replicate_zero, List.cons_append, List.nil_append, List.getElem?_cons_zero, List.getElem?_cons_succ, List.set_cons_zero, List.set_cons_succ, Option.some.injEq, V.int.injEq, V.ref.injEq, V.bl.injEq, V.str.injEq, List.cons.injEq, HO.lst.injEq, HO.tup.injEq, and_assoc, and_true, true_and, exists_eq_left, exists_eq_left', exists_and_left, exists_eq, reduceCtorEq, false_and, and_false, or_false, false_or, exists_false, decide_eq_true_eq, CPow, CDivW, Int.reducePow, Int.reduceLT, Int.reduceLE, Int.reduceNeg, Int.reduceToNat, Int.reduceAbs, Nat.reducePow, Nat.reduceLT, Nat.reduceLeDiff, sizeLine_eq, Int.reduceMul, Int.reduceAdd, Int.reduceSub, Bool.not_eq_true', decide_eq_false_iff_not, scal, Bool.not_true, Bool.not_false, Bool.true_eq_false, Bool.false_eq_true, ite_false, ite_true, if_true, if_false, ite_self, forall_const, atI0, atI1, atI2, atI3, ixN20, ixN21, upd_same, upd_upd, Int.zero_add, CMul, Int.reduceSub, Nat.le_refl, Nat.zero_le, or_true, true_or, exists_const, Int.sub_zero, ov.ty])
    cases d with
    | tuple ds =>
      obtain ⟨a, xs, rfl, ha, hx⟩ := ov.tup
      have hl := hx.len
      simp only [dTy]
      (try simp only [cxOf, Cx.nox, Cx.wish, tSeq, tAsg, tC, gName, tIfS, tTest, tOp, tUn, rU, rI0, rI, tVar, tNext, tRevT, tDNewK, tBreak, tChain, iStr, tRet, tRetN, tDrop, tLst, tTup, tCons, tNil, tCB, tB, tOr, tAnd, tNot, tIf, tCall, tFor_eq, tLc_eq, iRng1, iRng2, iList, iTup, gTup, gTupH, gUnlH, gCons, gNil, gSub, rSetL, rIxL, rIxT, rIxLH, rIxTH, rSlTS, rCatS, rTupS, rIsiH, rLenS, V.ty.injEq, tyS_non, tyS_bl, tyS_int, tyS_str, tyS_ref, tyO_l, tyO_t, tyO_d, tyO_dt, kit_ll, kit_tt, kit_bb, kit_ii, kit_ib, kit_bi, kit_nt, kit_it, kit_st, kit_bt, kit_lt, kit_dt, kit_ni, kit_si, kit_ti, kit_li, kit_di, kit_nb, kit_ns, kit_is, kit_bs, kit_ss, kit_ts, kit_ls, kit_ds, kit_dd, lenS_ref, lenO_l, lenO_t,  rAppend, tM1, rIxS, tSl, tPart, tNoPart, tBM, tBM0, tDGetS, sDPutS, tTruS, truO_l, truO_t, truS_ref, truS_non, truS_bl, truS_int, tFld, sFld, sFldAug, rAdd, tMeth, tProp, tMake, tMakeK, List.take_succ_cons, List.take_zero, List.drop_succ_cons, List.drop_zero, List.take_nil, tIsN, tNotN, tAndV, tOrV, tNotV, putF, List.lookup, List.any_cons, List.any_nil, Sum.inr.injEq, HO.ins.injEq, HO.dK.injEq, eq_self, beq_self_eq_true, beq_iff_eq, decide_true, decide_false, Bool.or_true, Bool.true_or, Bool.or_false, Bool.false_or, tYes, rEq, rNe, _root_.L2.start, wipe, List.map_cons, List.map_nil, List.length_cons, List.length_nil, List.append_nil, Nat.reduceAdd, Nat.reduceSub, List.replicate_succ, List.replicate_zero, List.cons_append, List.nil_append, List.getElem?_cons_zero, List.getElem?_cons_succ, List.set_cons_zero, List.set_cons_succ, Option.some.injEq, V.int.injEq, V.ref.injEq, V.bl.injEq, V.str.injEq, List.cons.injEq, HO.lst.injEq, HO.tup.injEq, and_assoc, and_true, true_and, exists_eq_left, exists_eq_left', exists_and_left, exists_eq, reduceCtorEq, false_and, and_false, or_false, false_or, exists_false, decide_eq_true_eq, CPow, CDivW, Int.reducePow, Int.reduceLT, Int.reduceLE, Int.reduceNeg, Int.reduceToNat, Int.reduceAbs, Nat.reducePow, Nat.reduceLT, Nat.reduceLeDiff, sizeLine_eq, Int.reduceMul, Int.reduceAdd, Int.reduceSub, Bool.not_eq_true', decide_eq_false_iff_not, scal, Bool.not_true, Bool.not_false, Bool.true_eq_false, Bool.false_eq_true, ite_false, ite_true, if_true, if_false, ite_self, forall_const, atI0, atI1, atI2, atI3, ixN20, ixN21, upd_same, upd_upd, Int.zero_add, CMul, Int.reduceSub, Nat.le_refl, Nat.zero_le, or_true, true_or, exists_const, Int.sub_zero, ha])
      rw [show decide ((xs.length : Int) = 2) = decide (ds.length = 2) from by simp only [decide_eq_decide]; omega]
      exact kk
    | _ => simp only [dTy]; (try simp only [cxOf, Cx.nox, Cx.wish, tSeq, tAsg, tC, gName, tIfS, tTest, tOp, tUn, rU, rI0, rI, tVar, tNext, tRevT, tDNewK, tBreak, tChain, iStr, tRet, tRetN, tDrop, tLst, tTup, tCons, tNil, tCB, tB, tOr, tAnd, tNot, tIf, tCall, tFor_eq, tLc_eq, iRng1, iRng2, iList, iTup, gTup, gTupH, gUnlH, gCons, gNil, gSub, rSetL, rIxL, rIxT, rIxLH, rIxTH, rSlTS, rCatS, rTupS, rIsiH, rLenS, V.ty.injEq, tyS_non, tyS_bl, tyS_int, tyS_str, tyS_ref, tyO_l, tyO_t, tyO_d, tyO_dt, kit_ll, kit_tt, kit_bb, kit_ii, kit_ib, kit_bi, kit_nt, kit_it, kit_st, kit_bt, kit_lt, kit_dt, kit_ni, kit_si, kit_ti, kit_li, kit_di, kit_nb, kit_ns, kit_is, kit_bs, kit_ss, kit_ts, kit_ls, kit_ds, kit_dd, lenS_ref, lenO_l, lenO_t,  rAppend, tM1, rIxS, tSl, tPart, tNoPart, tBM, tBM0, tDGetS, sDPutS, tTruS, truO_l, truO_t, truS_ref, truS_non, truS_bl, truS_int, tFld, sFld, sFldAug, rAdd, tMeth, tProp, tMake, tMakeK, List.take_succ_cons, List.take_zero, List.drop_succ_cons, List.drop_zero, List.take_nil, tIsN, tNotN, tAndV, tOrV, tNotV, putF, List.lookup, List.any_cons, List.any_nil, Sum.inr.injEq, HO.ins.injEq, HO.dK.injEq, eq_self, beq_self_eq_true, beq_iff_eq, decide_true, decide_false, Bool.or_true, Bool.true_or, Bool.or_false, Bool.false_or, tYes, rEq, rNe, _root_.L2.start, wipe, List.map_cons, List.map_nil, List.length_cons, List.length_nil, List.append_nil, Nat.reduceAdd, Nat.reduceSub, List.replicate_succ, List.replicate_zero, List.cons_append, List.nil_append, List.getElem?_cons_zero, List.getElem?_cons_succ, List.set_cons_zero, List.set_cons_succ, Option.some.injEq, V.int.injEq, V.ref.injEq, V.bl.injEq, V.str.injEq, List.cons.injEq, HO.lst.injEq, HO.tup.injEq, and_assoc, and_true, true_and, exists_eq_left, exists_eq_left', exists_and_left, exists_eq, reduceCtorEq, false_and, and_false, or_false, false_or, exists_false, decide_eq_true_eq, CPow, CDivW, Int.reducePow, Int.reduceLT, Int.reduceLE, Int.reduceNeg, Int.reduceToNat, Int.reduceAbs, Nat.reducePow, Nat.reduceLT, Nat.reduceLeDiff, sizeLine_eq, Int.reduceMul, Int.reduceAdd, Int.reduceSub, Bool.not_eq_true', decide_eq_false_iff_not, scal, Bool.not_true, Bool.not_false, Bool.true_eq_false, Bool.false_eq_true, ite_false, ite_true, if_true, if_false, ite_self, forall_const, atI0, atI1, atI2, atI3, ixN20, ixN21, upd_same, upd_upd, Int.zero_add, CMul, Int.reduceSub, Nat.le_refl, Nat.zero_le, or_true, true_or, exists_const, Int.sub_zero]); exact kk
def sp_law_stream : Sp := fun vs H Q _ => ∃ c k : Int, vs = [.int c, .int k] ∧ ∀ (p : Addr) (H' : Hp), H p = none → St2 H' p → Same H H' → (∀ b, b ≠ p → H' b = H b) → Q (.ref p) H'
theorem ok_law_stream (T : Txt K mg) : FnOk P w K mg base CX0 1 T.f_law_stream T.d_law_stream ["_law_cell", "_law_k"] (sp_law_stream) := by
  refine Fun.ok T.F_law_stream sc_law_stream (fun vs H Q E h => ?_) (fun cdv A outer s H vs Q E hr h => ?_)
  · obtain ⟨c, k, rfl, kk⟩ := h; rfl
  · obtain ⟨c, k, rfl, kk⟩ := h
    have hu := hu_of hr
    refine ⟨_, (pss_cons (ps_set (i := 2) sc_law_stream.nd rfl (Or.inl rfl) pe_int)
      (pss_cons (ps_if (pt_cmpR op_ge (pv 0) (pe_op op_pow pe_int pe_int) (nomark _)) (pss_one (ps_set (i := 2) sc_law_stream.nd rfl (Or.inl rfl) (pv 0))) pss_nil)
      (pss_one (ps_ret (pe_lst (pa_cons (pv 2) (pa_cons (pe_op op_mod (pe_callTy call_int1 (by rfl) T.z_int (by decide +kernel) (pa_cons (pe_op op_add (pe_op op_add (pe_op op_mul (pv 0) pe_int) (pe_op op_mul (pv 1) pe_int)) pe_int) pa_nil)) pe_int) pa_nil))))))), ?_⟩
    (try simp only [cxOf, Cx.nox, Cx.wish, tSeq, tAsg, tC, gName, tIfS, tTest, tOp, tUn, rU, rI0, rI, tVar, tNext, tRevT, tDNewK, tBreak, tChain, iStr, tRet, tRetN, tDrop, tLst, tTup, tCons, tNil, tCB, tB, tOr, tAnd, tNot, tIf, tCall, tFor_eq, tLc_eq, iRng1, iRng2, iList, iTup, gTup, gTupH, gUnlH, gCons, gNil, gSub, rSetL, rIxL, rIxT, rIxLH, rIxTH, rSlTS, rCatS, rTupS, rIsiH, rLenS, V.ty.injEq, tyS_non, tyS_bl, tyS_int, tyS_str, tyS_ref, tyO_l, tyO_t, tyO_d, tyO_dt, kit_ll, kit_tt, kit_bb, kit_ii, kit_ib, kit_bi, kit_nt, kit_it, kit_st, kit_bt, kit_lt, kit_dt, kit_ni, kit_si, kit_ti, kit_li, kit_di, kit_nb, kit_ns, kit_is, kit_bs, kit_ss, kit_ts, kit_ls, kit_ds, kit_dd, lenS_ref, lenO_l, lenO_t,  rAppend, tM1, rIxS, tSl, tPart, tNoPart, tBM, tBM0, tDGetS, sDPutS, tTruS, truO_l, truO_t, truS_ref, truS_non, truS_bl, truS_int, tFld, sFld, sFldAug, rAdd, tMeth, tProp, tMake, tMakeK, List.take_succ_cons, List.take_zero, List.drop_succ_cons, List.drop_zero, List.take_nil, tIsN, tNotN, tAndV, tOrV, tNotV, putF, List.lookup, List.any_cons, List.any_nil, Sum.inr.injEq, HO.ins.injEq, HO.dK.injEq, eq_self, beq_self_eq_true, beq_iff_eq, decide_true, decide_false, Bool.or_true, Bool.true_or, Bool.or_false, Bool.false_or, tYes, rEq, rNe, _root_.L2.start, wipe, List.map_cons, List.map_nil, List.length_cons, List.length_nil, List.append_nil, Nat.reduceAdd, Nat.reduceSub, List.replicate_succ, List.replicate_zero, List.cons_append, List.nil_append, List.getElem?_cons_zero, List.getElem?_cons_succ, List.set_cons_zero, List.set_cons_succ, Option.some.injEq, V.int.injEq, V.ref.injEq, V.bl.injEq, V.str.injEq, List.cons.injEq, HO.lst.injEq, HO.tup.injEq, and_assoc, and_true, true_and, exists_eq_left, exists_eq_left', exists_and_left, exists_eq, reduceCtorEq, false_and, and_false, or_false, false_or, exists_false, decide_eq_true_eq, CPow, CDivW, Int.reducePow, Int.reduceLT, Int.reduceLE, Int.reduceNeg, Int.reduceToNat, Int.reduceAbs, Nat.reducePow, Nat.reduceLT, Nat.reduceLeDiff, sizeLine_eq, Int.reduceMul, Int.reduceAdd, Int.reduceSub, Bool.not_eq_true', decide_eq_false_iff_not, scal, Bool.not_true, Bool.not_false, Bool.true_eq_false, Bool.false_eq_true, ite_false, ite_true, if_true, if_false, ite_self, forall_const, atI0, atI1, atI2, atI3, ixN20, ixN21, upd_same, upd_upd, Int.zero_add, CMul, Int.reduceSub, Nat.le_refl, Nat.zero_le, or_true, true_or, exists_const, Int.sub_zero])
    split
    all_goals exact fun p hp => kk p _ hp ⟨_, _, upd_same⟩ (same_new hp) (fun b hb => upd_ne hb)
def sp_law_next : Sp := fun vs H Q _ => ∃ (p : Addr) (n : Int), vs = [.ref p, .int n] ∧ St2 H p ∧ 0 < n ∧ n ≤ 1000000000000000000 ∧ ∀ (v : Int) (H' : Hp), 0 ≤ v → v < n → Gn p H H' → Q (.int v) H'
theorem ok_law_next (T : Txt K mg) : FnOk P w K mg base CX0 1 T.f_law_next T.d_law_next ["_law_stream_here", "_law_size"] (sp_law_next) := by
  refine Fun.ok T.F_law_next sc_law_next (fun vs H Q E h => ?_) (fun cdv A outer s H vs Q E hr h => ?_)
  · obtain ⟨p, n, rfl, ⟨d, r, hp⟩, n0, n1, kk⟩ := h; rfl
  · obtain ⟨p, n, rfl, ⟨d, r, hp⟩, n0, n1, kk⟩ := h
    have hu := hu_of hr
    refine ⟨_, (pss_cons (ps_if (pt_cmpR op_gt (pe_ix ix_listH (pv 0) pe_int (fun _ _ => rfl)) pe_int (nomark _)) (pss_cons (ps_set (i := 2) sc_law_next.nd rfl (Or.inl rfl) (pe_op op_mod (pe_callTy call_int1 (by rfl) T.z_int (by decide +kernel) (pa_cons (pe_ix ix_listH (pv 0) pe_int (fun _ _ => rfl)) pa_nil)) (pv 1)))
      (pss_cons (ps_asg (pe_op op_fdivW (pe_ix ix_listH (pv 0) pe_int (fun _ _ => rfl)) (pv 1)) (pg_sub (pv 0) pe_int set_list))
      (pss_one (ps_ret (pv 2))))) pss_nil)
      (pss_cons (ps_asg (pe_op op_mod (pe_callTy call_int1 (by rfl) T.z_int (by decide +kernel) (pa_cons (pe_op op_add (pe_op op_mul (pe_ix ix_listH (pv 0) pe_int (fun _ _ => rfl)) pe_int) pe_int) pa_nil)) pe_int) (pg_sub (pv 0) pe_int set_list))
      (pss_one (ps_ret (pe_op op_mod (pe_callTy call_int1 (by rfl) T.z_int (by decide +kernel) (pa_cons (pe_op op_fdivW (pe_op op_mod (pe_callTy call_int1 (by rfl) T.z_int (by decide +kernel) (pa_cons (pe_op op_add (pe_op op_mul (pe_ix ix_listH (pv 0) pe_int (fun _ _ => rfl)) pe_int) pe_int) pa_nil)) pe_int) pe_int) pa_nil)) (pv 1)))))), ?_⟩
    have hl : n.natAbs.log2 < 9000 := Nat.lt_of_lt_of_le (PySem.Flt.log2_lt_of (k := 64) (by decide) (by omega)) (by decide)
    (try simp only [cxOf, Cx.nox, Cx.wish, tSeq, tAsg, tC, gName, tIfS, tTest, tOp, tUn, rU, rI0, rI, tVar, tNext, tRevT, tDNewK, tBreak, tChain, iStr, tRet, tRetN, tDrop, tLst, tTup, tCons, tNil, tCB, tB, tOr, tAnd, tNot, tIf, tCall, tFor_eq, tLc_eq, iRng1, iRng2, iList, iTup, gTup, gTupH, gUnlH, gCons, gNil, gSub, rSetL, rIxL, rIxT, rIxLH, rIxTH, rSlTS, rCatS, rTupS, rIsiH, rLenS, V.ty.injEq, tyS_non, tyS_bl, tyS_int, tyS_str, tyS_ref, tyO_l, tyO_t, tyO_d, tyO_dt, kit_ll, kit_tt, kit_bb, kit_ii, kit_ib, kit_bi, kit_nt, kit_it, kit_st, kit_bt, kit_lt, kit_dt, kit_ni, kit_si, kit_ti, kit_li, kit_di, kit_nb, kit_ns, kit_is, kit_bs, kit_ss, kit_ts, kit_ls, kit_ds, kit_dd, lenS_ref, lenO_l, lenO_t,  rAppend, tM1, rIxS, tSl, tPart, tNoPart, tBM, tBM0, tDGetS, sDPutS, tTruS, truO_l, truO_t, truS_ref, truS_non, truS_bl, truS_int, tFld, sFld, sFldAug, rAdd, tMeth, tProp, tMake, tMakeK, List.take_succ_cons, List.take_zero, List.drop_succ_cons, List.drop_zero, List.take_nil, tIsN, tNotN, tAndV, tOrV, tNotV, putF, List.lookup, List.any_cons, List.any_nil, Sum.inr.injEq, HO.ins.injEq, HO.dK.injEq, eq_self, beq_self_eq_true, beq_iff_eq, decide_true, decide_false, Bool.or_true, Bool.true_or, Bool.or_false, Bool.false_or, tYes, rEq, rNe, _root_.L2.start, wipe, List.map_cons, List.map_nil, List.length_cons, List.length_nil, List.append_nil, Nat.reduceAdd, Nat.reduceSub, List.replicate_succ, List.replicate_zero, List.cons_append, List.nil_append, List.getElem?_cons_zero, List.getElem?_cons_succ, List.set_cons_zero, List.set_cons_succ, Option.some.injEq, V.int.injEq, V.ref.injEq, V.bl.injEq, V.str.injEq, List.cons.injEq, HO.lst.injEq, HO.tup.injEq, and_assoc, and_true, true_and, exists_eq_left, exists_eq_left', exists_and_left, exists_eq, reduceCtorEq, false_and, and_false, or_false, false_or, exists_false, decide_eq_true_eq, CPow, CDivW, Int.reducePow, Int.reduceLT, Int.reduceLE, Int.reduceNeg, Int.reduceToNat, Int.reduceAbs, Nat.reducePow, Nat.reduceLT, Nat.reduceLeDiff, sizeLine_eq, Int.reduceMul, Int.reduceAdd, Int.reduceSub, Bool.not_eq_true', decide_eq_false_iff_not, scal, Bool.not_true, Bool.not_false, Bool.true_eq_false, Bool.false_eq_true, ite_false, ite_true, if_true, if_false, ite_self, forall_const, atI0, atI1, atI2, atI3, ixN20, ixN21, upd_same, upd_upd, Int.zero_add, CMul, Int.reduceSub, Nat.le_refl, Nat.zero_le, or_true, true_or, exists_const, Int.sub_zero, hp])
    split
    · exact ⟨n0, n0, hl, kk _ _ (Int.emod_nonneg _ (by omega)) (Int.emod_lt_of_pos _ n0) (Gn.upd ⟨d, r, hp⟩)⟩
    · exact ⟨by decide, n0, kk _ _ (Int.emod_nonneg _ (by omega)) (Int.emod_lt_of_pos _ n0) (Gn.upd ⟨d, r, hp⟩)⟩
def sp_law_flag : Sp := fun vs H Q _ => ∃ (a b : Bool), vs = [.bl a, .bl b] ∧ Q (.bl (decide (a = b))) H
theorem ok_law_flag (T : Txt K mg) : FnOk P w K mg base CX0 1 T.f_law_flag T.d_law_flag ["_law_actual", "_law_due"] (sp_law_flag) := by
  refine Fun.ok T.F_law_flag sc_law_flag (fun vs H Q E h => ?_) (fun cdv A outer s H vs Q E hr h => ?_)
  · obtain ⟨a, b, rfl, kk⟩ := h; rfl
  · obtain ⟨a, b, rfl, kk⟩ := h
    have hu := hu_of hr
    refine ⟨_, (pss_one (ps_ret (pe_and (pe_callB call_isiH (by rfl) T.z_isinstance (by decide +kernel) (pa_cons (pv 0) (pa_cons (pe_bltn (v := .ty "bool") (by rfl) T.z_bool (by decide +kernel) rfl) pa_nil))) (pe_one (pe_cmpR op_eq (pv 0) (pv 1) (nomark _)))))), ?_⟩
    (try simp only [cxOf, Cx.nox, Cx.wish, tSeq, tAsg, tC, gName, tIfS, tTest, tOp, tUn, rU, rI0, rI, tVar, tNext, tRevT, tDNewK, tBreak, tChain, iStr, tRet, tRetN, tDrop, tLst, tTup, tCons, tNil, tCB, tB, tOr, tAnd, tNot, tIf, tCall, tFor_eq, tLc_eq, iRng1, iRng2, iList, iTup, gTup, gTupH, gUnlH, gCons, gNil, gSub, rSetL, rIxL, rIxT, rIxLH, rIxTH, rSlTS, rCatS, rTupS, rIsiH, rLenS, V.ty.injEq, tyS_non, tyS_bl, tyS_int, tyS_str, tyS_ref, tyO_l, tyO_t, tyO_d, tyO_dt, kit_ll, kit_tt, kit_bb, kit_ii, kit_ib, kit_bi, kit_nt, kit_it, kit_st, kit_bt, kit_lt, kit_dt, kit_ni, kit_si, kit_ti, kit_li, kit_di, kit_nb, kit_ns, kit_is, kit_bs, kit_ss, kit_ts, kit_ls, kit_ds, kit_dd, lenS_ref, lenO_l, lenO_t,  rAppend, tM1, rIxS, tSl, tPart, tNoPart, tBM, tBM0, tDGetS, sDPutS, tTruS, truO_l, truO_t, truS_ref, truS_non, truS_bl, truS_int, tFld, sFld, sFldAug, rAdd, tMeth, tProp, tMake, tMakeK, List.take_succ_cons, List.take_zero, List.drop_succ_cons, List.drop_zero, List.take_nil, tIsN, tNotN, tAndV, tOrV, tNotV, putF, List.lookup, List.any_cons, List.any_nil, Sum.inr.injEq, HO.ins.injEq, HO.dK.injEq, eq_self, beq_self_eq_true, beq_iff_eq, decide_true, decide_false, Bool.or_true, Bool.true_or, Bool.or_false, Bool.false_or, tYes, rEq, rNe, _root_.L2.start, wipe, List.map_cons, List.map_nil, List.length_cons, List.length_nil, List.append_nil, Nat.reduceAdd, Nat.reduceSub, List.replicate_succ, List.replicate_zero, List.cons_append, List.nil_append, List.getElem?_cons_zero, List.getElem?_cons_succ, List.set_cons_zero, List.set_cons_succ, Option.some.injEq, V.int.injEq, V.ref.injEq, V.bl.injEq, V.str.injEq, List.cons.injEq, HO.lst.injEq, HO.tup.injEq, and_assoc, and_true, true_and, exists_eq_left, exists_eq_left', exists_and_left, exists_eq, reduceCtorEq, false_and, and_false, or_false, false_or, exists_false, decide_eq_true_eq, CPow, CDivW, Int.reducePow, Int.reduceLT, Int.reduceLE, Int.reduceNeg, Int.reduceToNat, Int.reduceAbs, Nat.reducePow, Nat.reduceLT, Nat.reduceLeDiff, sizeLine_eq, Int.reduceMul, Int.reduceAdd, Int.reduceSub, Bool.not_eq_true', decide_eq_false_iff_not, scal, Bool.not_true, Bool.not_false, Bool.true_eq_false, Bool.false_eq_true, ite_false, ite_true, if_true, if_false, ite_self, forall_const, atI0, atI1, atI2, atI3, ixN20, ixN21, upd_same, upd_upd, Int.zero_add, CMul, Int.reduceSub, Nat.le_refl, Nat.zero_le, or_true, true_or, exists_const, Int.sub_zero])
    exact kk
def sp_law_is_int : Sp := fun vs H Q _ => ∃ (s : Addr) (d : PyData) (v : V) (lo hi : Int), vs = [v, .int lo, .int hi] ∧ Ob s H d v ∧ Q (.bl (numD lo hi d)) H
theorem ok_law_is_int (T : Txt K mg) : FnOk P w K mg base CX0 1 T.f_law_is_int T.d_law_is_int ["_law_thing", "_law_least", "_law_most"] (sp_law_is_int) := by
  refine Fun.ok T.F_law_is_int sc_law_is_int (fun vs H Q E h => ?_) (fun cdv A outer s H vs Q E hr h => ?_)
  · obtain ⟨s, d, v, lo, hi, rfl, ov, kk⟩ := h; rfl
  · obtain ⟨s, d, v, lo, hi, rfl, ov, kk⟩ := h
    have hu := hu_of hr
    refine ⟨_, (pss_one (ps_ret (pe_and (pe_callB call_isiH (by rfl) T.z_isinstance (by decide +kernel) (pa_cons (pv 0) (pa_cons (pe_bltn (v := .ty "int") (by rfl) T.z_int (by decide +kernel) rfl) pa_nil))) (pe_and (pe_not (pe_callB call_isiH (by rfl) T.z_isinstance (by decide +kernel) (pa_cons (pv 0) (pa_cons (pe_bltn (v := .ty "bool") (by rfl) T.z_bool (by decide +kernel) rfl) pa_nil)))) (pe_and (pe_cmpR op_ge (pv 0) (pv 1) (nomark _)) (pe_one (pe_cmpR op_le (pv 0) (pv 2) (nomark _)))))))), ?_⟩
    (try simp only [cxOf, Cx.nox, Cx.wish, tSeq, tAsg, tC, gName, tIfS, tTest, tOp, tUn, rU, rI0, rI, tVar, tNext, tRevT, tDNewK, tBreak, tChain, iStr, tRet, tRetN, tDrop, tLst, tTup, tCons, tNil, tCB, tB, tOr, tAnd, tNot, tIf, tCall, tFor_eq, tLc_eq, iRng1, iRng2, iList, iTup, gTup, gTupH, gUnlH, gCons, gNil, gSub, rSetL, rIxL, rIxT, rIxLH, rIxTH, rSlTS, rCatS, rTupS, rIsiH, rLenS, V.ty.injEq, tyS_non, tyS_bl, tyS_int, tyS_str, tyS_ref, tyO_l, tyO_t, tyO_d, tyO_dt, kit_ll, kit_tt, kit_bb, kit_ii, kit_ib, kit_bi, kit_nt, kit_it, kit_st, kit_bt, kit_lt, kit_dt, kit_ni, kit_si, kit_ti, kit_li, kit_di, kit_nb, kit_ns, kit_is, kit_bs, kit_ss, kit_ts, kit_ls, kit_ds, kit_dd, lenS_ref, lenO_l, lenO_t,  rAppend, tM1, rIxS, tSl, tPart, tNoPart, tBM, tBM0, tDGetS, sDPutS, tTruS, truO_l, truO_t, truS_ref, truS_non, truS_bl, truS_int, tFld, sFld, sFldAug, rAdd, tMeth, tProp, tMake, tMakeK, List.take_succ_cons, List.take_zero, List.drop_succ_cons, List.drop_zero, List.take_nil, tIsN, tNotN, tAndV, tOrV, tNotV, putF, List.lookup, List.any_cons, List.any_nil, Sum.inr.injEq, HO.ins.injEq, HO.dK.injEq, eq_self, beq_self_eq_true, beq_iff_eq, decide_true, decide_false, Bool.or_true, Bool.true_or, Bool.or_false, Bool.false_or, tYes, rEq, rNe, _root_.L2.start, wipe, List.map_cons, List.map_nil, List.length_cons, List.length_nil, List.append_nil, Nat.reduceAdd, Nat.reduceSub, List.replicate_succ, List.replicate_zero, List.cons_append, List.nil_append, List.getElem?_cons_zero, List.getElem?_cons_succ, List.set_cons_zero, List.set_cons_succ, Option.some.injEq, V.int.injEq, V.ref.injEq, V.bl.injEq, V.str.injEq, List.cons.injEq, HO.lst.injEq, HO.tup.injEq, and_assoc, and_true, true_and, exists_eq_left, exists_eq_left', exists_and_left, exists_eq, reduceCtorEq, false_and, and_false, or_false, false_or, exists_false, decide_eq_true_eq, CPow, CDivW, Int.reducePow, Int.reduceLT, Int.reduceLE, Int.reduceNeg, Int.reduceToNat, Int.reduceAbs, Nat.reducePow, Nat.reduceLT, Nat.reduceLeDiff, sizeLine_eq, Int.reduceMul, Int.reduceAdd, Int.reduceSub, Bool.not_eq_true', decide_eq_false_iff_not, scal, Bool.not_true, Bool.not_false, Bool.true_eq_false, Bool.false_eq_true, ite_false, ite_true, if_true, if_false, ite_self, forall_const, atI0, atI1, atI2, atI3, ixN20, ixN21, upd_same, upd_upd, Int.zero_add, CMul, Int.reduceSub, Nat.le_refl, Nat.zero_le, or_true, true_or, exists_const, Int.sub_zero, ov.ty])
    cases d with
    | int i =>
      simp only [Ob] at ov
      subst ov
      simp only [dTy]
      (try simp only [cxOf, Cx.nox, Cx.wish, tSeq, tAsg, tC, gName, tIfS, tTest, tOp, tUn, rU, rI0, rI, tVar, tNext, tRevT, tDNewK, tBreak, tChain, iStr, tRet, tRetN, tDrop, tLst, tTup, tCons, tNil, tCB, tB, tOr, tAnd, tNot, tIf, tCall, tFor_eq, tLc_eq, iRng1, iRng2, iList, iTup, gTup, gTupH, gUnlH, gCons, gNil, gSub, rSetL, rIxL, rIxT, rIxLH, rIxTH, rSlTS, rCatS, rTupS, rIsiH, rLenS, V.ty.injEq, tyS_non, tyS_bl, tyS_int, tyS_str, tyS_ref, tyO_l, tyO_t, tyO_d, tyO_dt, kit_ll, kit_tt, kit_bb, kit_ii, kit_ib, kit_bi, kit_nt, kit_it, kit_st, kit_bt, kit_lt, kit_dt, kit_ni, kit_si, kit_ti, kit_li, kit_di, kit_nb, kit_ns, kit_is, kit_bs, kit_ss, kit_ts, kit_ls, kit_ds, kit_dd, lenS_ref, lenO_l, lenO_t,  rAppend, tM1, rIxS, tSl, tPart, tNoPart, tBM, tBM0, tDGetS, sDPutS, tTruS, truO_l, truO_t, truS_ref, truS_non, truS_bl, truS_int, tFld, sFld, sFldAug, rAdd, tMeth, tProp, tMake, tMakeK, List.take_succ_cons, List.take_zero, List.drop_succ_cons, List.drop_zero, List.take_nil, tIsN, tNotN, tAndV, tOrV, tNotV, putF, List.lookup, List.any_cons, List.any_nil, Sum.inr.injEq, HO.ins.injEq, HO.dK.injEq, eq_self, beq_self_eq_true, beq_iff_eq, decide_true, decide_false, Bool.or_true, Bool.true_or, Bool.or_false, Bool.false_or, tYes, rEq, rNe, _root_.L2.start, wipe, List.map_cons, List.map_nil, List.length_cons, List.length_nil, List.append_nil, Nat.reduceAdd, Nat.reduceSub, List.replicate_succ, List.replicate_zero, List.cons_append, List.nil_append, List.getElem?_cons_zero, List.getElem?_cons_succ, List.set_cons_zero, List.set_cons_succ, Option.some.injEq, V.int.injEq, V.ref.injEq, V.bl.injEq, V.str.injEq, List.cons.injEq, HO.lst.injEq, HO.tup.injEq, and_assoc, and_true, true_and, exists_eq_left, exists_eq_left', exists_and_left, exists_eq, reduceCtorEq, false_and, and_false, or_false, false_or, exists_false, decide_eq_true_eq, CPow, CDivW, Int.reducePow, Int.reduceLT, Int.reduceLE, Int.reduceNeg, Int.reduceToNat, Int.reduceAbs, Nat.reducePow, Nat.reduceLT, Nat.reduceLeDiff, sizeLine_eq, Int.reduceMul, Int.reduceAdd, Int.reduceSub, Bool.not_eq_true', decide_eq_false_iff_not, scal, Bool.not_true, Bool.not_false, Bool.true_eq_false, Bool.false_eq_true, ite_false, ite_true, if_true, if_false, ite_self, forall_const, atI0, atI1, atI2, atI3, ixN20, ixN21, upd_same, upd_upd, Int.zero_add, CMul, Int.reduceSub, Nat.le_refl, Nat.zero_le, or_true, true_or, exists_const, Int.sub_zero])
      by_cases h : (lo : Int) ≤ i
      · rw [if_pos h]
        rw [show numD lo hi (.int i) = decide (i ≤ hi) from by simp [numD, h]] at kk
        exact kk
      · rw [if_neg h]
        rw [show numD lo hi (.int i) = false from by simp [numD, h]] at kk
        exact kk
    | _ => simp only [dTy]; (try simp only [cxOf, Cx.nox, Cx.wish, tSeq, tAsg, tC, gName, tIfS, tTest, tOp, tUn, rU, rI0, rI, tVar, tNext, tRevT, tDNewK, tBreak, tChain, iStr, tRet, tRetN, tDrop, tLst, tTup, tCons, tNil, tCB, tB, tOr, tAnd, tNot, tIf, tCall, tFor_eq, tLc_eq, iRng1, iRng2, iList, iTup, gTup, gTupH, gUnlH, gCons, gNil, gSub, rSetL, rIxL, rIxT, rIxLH, rIxTH, rSlTS, rCatS, rTupS, rIsiH, rLenS, V.ty.injEq, tyS_non, tyS_bl, tyS_int, tyS_str, tyS_ref, tyO_l, tyO_t, tyO_d, tyO_dt, kit_ll, kit_tt, kit_bb, kit_ii, kit_ib, kit_bi, kit_nt, kit_it, kit_st, kit_bt, kit_lt, kit_dt, kit_ni, kit_si, kit_ti, kit_li, kit_di, kit_nb, kit_ns, kit_is, kit_bs, kit_ss, kit_ts, kit_ls, kit_ds, kit_dd, lenS_ref, lenO_l, lenO_t,  rAppend, tM1, rIxS, tSl, tPart, tNoPart, tBM, tBM0, tDGetS, sDPutS, tTruS, truO_l, truO_t, truS_ref, truS_non, truS_bl, truS_int, tFld, sFld, sFldAug, rAdd, tMeth, tProp, tMake, tMakeK, List.take_succ_cons, List.take_zero, List.drop_succ_cons, List.drop_zero, List.take_nil, tIsN, tNotN, tAndV, tOrV, tNotV, putF, List.lookup, List.any_cons, List.any_nil, Sum.inr.injEq, HO.ins.injEq, HO.dK.injEq, eq_self, beq_self_eq_true, beq_iff_eq, decide_true, decide_false, Bool.or_true, Bool.true_or, Bool.or_false, Bool.false_or, tYes, rEq, rNe, _root_.L2.start, wipe, List.map_cons, List.map_nil, List.length_cons, List.length_nil, List.append_nil, Nat.reduceAdd, Nat.reduceSub, List.replicate_succ, List.replicate_zero, List.cons_append, List.nil_append, List.getElem?_cons_zero, List.getElem?_cons_succ, List.set_cons_zero, List.set_cons_succ, Option.some.injEq, V.int.injEq, V.ref.injEq, V.bl.injEq, V.str.injEq, List.cons.injEq, HO.lst.injEq, HO.tup.injEq, and_assoc, and_true, true_and, exists_eq_left, exists_eq_left', exists_and_left, exists_eq, reduceCtorEq, false_and, and_false, or_false, false_or, exists_false, decide_eq_true_eq, CPow, CDivW, Int.reducePow, Int.reduceLT, Int.reduceLE, Int.reduceNeg, Int.reduceToNat, Int.reduceAbs, Nat.reducePow, Nat.reduceLT, Nat.reduceLeDiff, sizeLine_eq, Int.reduceMul, Int.reduceAdd, Int.reduceSub, Bool.not_eq_true', decide_eq_false_iff_not, scal, Bool.not_true, Bool.not_false, Bool.true_eq_false, Bool.false_eq_true, ite_false, ite_true, if_true, if_false, ite_self, forall_const, atI0, atI1, atI2, atI3, ixN20, ixN21, upd_same, upd_upd, Int.zero_add, CMul, Int.reduceSub, Nat.le_refl, Nat.zero_le, or_true, true_or, exists_const, Int.sub_zero]); exact kk
def sp_law_is_name : Sp := fun vs H Q _ => ∃ (s : Addr) (d : PyData) (v : V), vs = [v] ∧ Ob s H d v ∧ okT d = true ∧ ∀ H', Same H H' → Q (.bl (nameD d)) H'
theorem ok_law_is_name (T : Txt K mg) : FnOk P w K mg base CX0 1 T.f_law_is_name T.d_law_is_name ["_law_thing"] (sp_law_is_name) := by
  refine Fun.ok T.F_law_is_name sc_law_is_name (fun vs H Q E h => ?_) (fun cdv A outer s H vs Q E hr h => ?_)
  · obtain ⟨s, d, v, rfl, ov, hok, kk⟩ := h; rfl
  · obtain ⟨s, d, v, rfl, ov, hok, kk⟩ := h
    have hu := hu_of hr
    refine ⟨_, (pss_cons (ps_if (PW.pt (pw_or (pt_not (pt_val (pe_callB call_isiH (by rfl) T.z_isinstance (by decide +kernel) (pa_cons (pv 0) (pa_cons (pe_bltn (v := .ty "str") (by rfl) T.z_str (by decide +kernel) rfl) pa_nil))))) (pw_or (pt_cmpR op_lt (pe_callB call_lenS (by rfl) T.z_len (by decide +kernel) (pa_cons (pv 0) pa_nil)) pe_int (nomark _)) (pw_or1 (pt_cmpR op_gt (pe_callB call_lenS (by rfl) T.z_len (by decide +kernel) (pa_cons (pv 0) pa_nil)) pe_int (nomark _)))))) (pss_one (ps_ret pe_bl)) pss_nil)
      (pss_one (ps_ret (pe_cmpR (op_eqDK (K := K) rfl hr.units) (pe_lc (own := [("_law_char", 1)]) (g := gName 1) rfl sc_law_is_name.nd (pi_str (pv 0)) (blkOk_by (N := N_law_is_name) (sc := defScope s_law_is_name) (by decide +kernel)) (fun _ _ _ _ _ => (pg_name (i := 1) sc_law_is_name.nd rfl (Or.inl rfl))) (fun _ _ _ _ _ => (pts_one (pt_cmpR op_notin_str (pv 1) pe_str (by rfl)))) (fun _ _ _ _ _ => (pv 1))) (pe_lst pa_nil) (nomark _))))), ?_⟩
    (try simp only [cxOf, Cx.nox, Cx.wish, tSeq, tAsg, tC, gName, tIfS, tTest, tOp, tUn, rU, rI0, rI, tVar, tNext, tRevT, tDNewK, tBreak, tChain, iStr, tRet, tRetN, tDrop, tLst, tTup, tCons, tNil, tCB, tB, tOr, tAnd, tNot, tIf, tCall, tFor_eq, tLc_eq, iRng1, iRng2, iList, iTup, gTup, gTupH, gUnlH, gCons, gNil, gSub, rSetL, rIxL, rIxT, rIxLH, rIxTH, rSlTS, rCatS, rTupS, rIsiH, rLenS, V.ty.injEq, tyS_non, tyS_bl, tyS_int, tyS_str, tyS_ref, tyO_l, tyO_t, tyO_d, tyO_dt, kit_ll, kit_tt, kit_bb, kit_ii, kit_ib, kit_bi, kit_nt, kit_it, kit_st, kit_bt, kit_lt, kit_dt, kit_ni, kit_si, kit_ti, kit_li, kit_di, kit_nb, kit_ns, kit_is, kit_bs, kit_ss, kit_ts, kit_ls, kit_ds, kit_dd, lenS_ref, lenO_l, lenO_t,  rAppend, tM1, rIxS, tSl, tPart, tNoPart, tBM, tBM0, tDGetS, sDPutS, tTruS, truO_l, truO_t, truS_ref, truS_non, truS_bl, truS_int, tFld, sFld, sFldAug, rAdd, tMeth, tProp, tMake, tMakeK, List.take_succ_cons, List.take_zero, List.drop_succ_cons, List.drop_zero, List.take_nil, tIsN, tNotN, tAndV, tOrV, tNotV, putF, List.lookup, List.any_cons, List.any_nil, Sum.inr.injEq, HO.ins.injEq, HO.dK.injEq, eq_self, beq_self_eq_true, beq_iff_eq, decide_true, decide_false, Bool.or_true, Bool.true_or, Bool.or_false, Bool.false_or, tYes, rEq, rNe, _root_.L2.start, wipe, List.map_cons, List.map_nil, List.length_cons, List.length_nil, List.append_nil, Nat.reduceAdd, Nat.reduceSub, List.replicate_succ, List.replicate_zero, List.cons_append, List.nil_append, List.getElem?_cons_zero, List.getElem?_cons_succ, List.set_cons_zero, List.set_cons_succ, Option.some.injEq, V.int.injEq, V.ref.injEq, V.bl.injEq, V.str.injEq, List.cons.injEq, HO.lst.injEq, HO.tup.injEq, and_assoc, and_true, true_and, exists_eq_left, exists_eq_left', exists_and_left, exists_eq, reduceCtorEq, false_and, and_false, or_false, false_or, exists_false, decide_eq_true_eq, CPow, CDivW, Int.reducePow, Int.reduceLT, Int.reduceLE, Int.reduceNeg, Int.reduceToNat, Int.reduceAbs, Nat.reducePow, Nat.reduceLT, Nat.reduceLeDiff, sizeLine_eq, Int.reduceMul, Int.reduceAdd, Int.reduceSub, Bool.not_eq_true', decide_eq_false_iff_not, scal, Bool.not_true, Bool.not_false, Bool.true_eq_false, Bool.false_eq_true, ite_false, ite_true, if_true, if_false, ite_self, forall_const, atI0, atI1, atI2, atI3, ixN20, ixN21, upd_same, upd_upd, Int.zero_add, CMul, Int.reduceSub, Nat.le_refl, Nat.zero_le, or_true, true_or, exists_const, Int.sub_zero, ov.ty])
    cases d with
    | str x =>
      simp only [Ob] at ov
      subst ov
      obtain ⟨h1, h2'⟩ := okT_str.mp hok
      simp only [dTy]
      (try simp only [cxOf, Cx.nox, Cx.wish, tSeq, tAsg, tC, gName, tIfS, tTest, tOp, tUn, rU, rI0, rI, tVar, tNext, tRevT, tDNewK, tBreak, tChain, iStr, tRet, tRetN, tDrop, tLst, tTup, tCons, tNil, tCB, tB, tOr, tAnd, tNot, tIf, tCall, tFor_eq, tLc_eq, iRng1, iRng2, iList, iTup, gTup, gTupH, gUnlH, gCons, gNil, gSub, rSetL, rIxL, rIxT, rIxLH, rIxTH, rSlTS, rCatS, rTupS, rIsiH, rLenS, V.ty.injEq, tyS_non, tyS_bl, tyS_int, tyS_str, tyS_ref, tyO_l, tyO_t, tyO_d, tyO_dt, kit_ll, kit_tt, kit_bb, kit_ii, kit_ib, kit_bi, kit_nt, kit_it, kit_st, kit_bt, kit_lt, kit_dt, kit_ni, kit_si, kit_ti, kit_li, kit_di, kit_nb, kit_ns, kit_is, kit_bs, kit_ss, kit_ts, kit_ls, kit_ds, kit_dd, lenS_ref, lenO_l, lenO_t,  rAppend, tM1, rIxS, tSl, tPart, tNoPart, tBM, tBM0, tDGetS, sDPutS, tTruS, truO_l, truO_t, truS_ref, truS_non, truS_bl, truS_int, tFld, sFld, sFldAug, rAdd, tMeth, tProp, tMake, tMakeK, List.take_succ_cons, List.take_zero, List.drop_succ_cons, List.drop_zero, List.take_nil, tIsN, tNotN, tAndV, tOrV, tNotV, putF, List.lookup, List.any_cons, List.any_nil, Sum.inr.injEq, HO.ins.injEq, HO.dK.injEq, eq_self, beq_self_eq_true, beq_iff_eq, decide_true, decide_false, Bool.or_true, Bool.true_or, Bool.or_false, Bool.false_or, tYes, rEq, rNe, _root_.L2.start, wipe, List.map_cons, List.map_nil, List.length_cons, List.length_nil, List.append_nil, Nat.reduceAdd, Nat.reduceSub, List.replicate_succ, List.replicate_zero, List.cons_append, List.nil_append, List.getElem?_cons_zero, List.getElem?_cons_succ, List.set_cons_zero, List.set_cons_succ, Option.some.injEq, V.int.injEq, V.ref.injEq, V.bl.injEq, V.str.injEq, List.cons.injEq, HO.lst.injEq, HO.tup.injEq, and_assoc, and_true, true_and, exists_eq_left, exists_eq_left', exists_and_left, exists_eq, reduceCtorEq, false_and, and_false, or_false, false_or, exists_false, decide_eq_true_eq, CPow, CDivW, Int.reducePow, Int.reduceLT, Int.reduceLE, Int.reduceNeg, Int.reduceToNat, Int.reduceAbs, Nat.reducePow, Nat.reduceLT, Nat.reduceLeDiff, sizeLine_eq, Int.reduceMul, Int.reduceAdd, Int.reduceSub, Bool.not_eq_true', decide_eq_false_iff_not, scal, Bool.not_true, Bool.not_false, Bool.true_eq_false, Bool.false_eq_true, ite_false, ite_true, if_true, if_false, ite_self, forall_const, atI0, atI1, atI2, atI3, ixN20, ixN21, upd_same, upd_upd, Int.zero_add, CMul, Int.reduceSub, Nat.le_refl, Nat.zero_le, or_true, true_or, exists_const, Int.sub_zero, lenS_str (show x.length ≤ 16777216 by omega)])
      by_cases hl : 1 ≤ x.length ∧ x.length ≤ 12
      · rw [if_neg (by omega), if_neg (by omega)]
        have hn : nameD (.str x) = x.cps.toList.all letter := by simp [nameD, hl]
        rw [hn] at kk
        intro D hD
        refine Lcl.str (fun i H' => ∃ ys : List Str, H' D = some (.lst (ys.map V.str)) ∧ ys.length ≤ i ∧ (∀ y ∈ ys, PyData.strOk y = true) ∧ (ys.isEmpty = (x.cps.toList.take i).all letter) ∧ Same H H') ⟨[], upd_same, Nat.le_refl _, by simp, rfl, same_new hD⟩ ?_ ?_
        · rintro i c H1 hc ⟨ys, h1, h2, h3, h4, s1⟩
          (try simp only [cxOf, Cx.nox, Cx.wish, tSeq, tAsg, tC, gName, tIfS, tTest, tOp, tUn, rU, rI0, rI, tVar, tNext, tRevT, tDNewK, tBreak, tChain, iStr, tRet, tRetN, tDrop, tLst, tTup, tCons, tNil, tCB, tB, tOr, tAnd, tNot, tIf, tCall, tFor_eq, tLc_eq, iRng1, iRng2, iList, iTup, gTup, gTupH, gUnlH, gCons, gNil, gSub, rSetL, rIxL, rIxT, rIxLH, rIxTH, rSlTS, rCatS, rTupS, rIsiH, rLenS, V.ty.injEq, tyS_non, tyS_bl, tyS_int, tyS_str, tyS_ref, tyO_l, tyO_t, tyO_d, tyO_dt, kit_ll, kit_tt, kit_bb, kit_ii, kit_ib, kit_bi, kit_nt, kit_it, kit_st, kit_bt, kit_lt, kit_dt, kit_ni, kit_si, kit_ti, kit_li, kit_di, kit_nb, kit_ns, kit_is, kit_bs, kit_ss, kit_ts, kit_ls, kit_ds, kit_dd, lenS_ref, lenO_l, lenO_t,  rAppend, tM1, rIxS, tSl, tPart, tNoPart, tBM, tBM0, tDGetS, sDPutS, tTruS, truO_l, truO_t, truS_ref, truS_non, truS_bl, truS_int, tFld, sFld, sFldAug, rAdd, tMeth, tProp, tMake, tMakeK, List.take_succ_cons, List.take_zero, List.drop_succ_cons, List.drop_zero, List.take_nil, tIsN, tNotN, tAndV, tOrV, tNotV, putF, List.lookup, List.any_cons, List.any_nil, Sum.inr.injEq, HO.ins.injEq, HO.dK.injEq, eq_self, beq_self_eq_true, beq_iff_eq, decide_true, decide_false, Bool.or_true, Bool.true_or, Bool.or_false, Bool.false_or, tYes, rEq, rNe, _root_.L2.start, wipe, List.map_cons, List.map_nil, List.length_cons, List.length_nil, List.append_nil, Nat.reduceAdd, Nat.reduceSub, List.replicate_succ, List.replicate_zero, List.cons_append, List.nil_append, List.getElem?_cons_zero, List.getElem?_cons_succ, List.set_cons_zero, List.set_cons_succ, Option.some.injEq, V.int.injEq, V.ref.injEq, V.bl.injEq, V.str.injEq, List.cons.injEq, HO.lst.injEq, HO.tup.injEq, and_assoc, and_true, true_and, exists_eq_left, exists_eq_left', exists_and_left, exists_eq, reduceCtorEq, false_and, and_false, or_false, false_or, exists_false, decide_eq_true_eq, CPow, CDivW, Int.reducePow, Int.reduceLT, Int.reduceLE, Int.reduceNeg, Int.reduceToNat, Int.reduceAbs, Nat.reducePow, Nat.reduceLT, Nat.reduceLeDiff, sizeLine_eq, Int.reduceMul, Int.reduceAdd, Int.reduceSub, Bool.not_eq_true', decide_eq_false_iff_not, scal, Bool.not_true, Bool.not_false, Bool.true_eq_false, Bool.false_eq_true, ite_false, ite_true, if_true, if_false, ite_self, forall_const, atI0, atI1, atI2, atI3, ixN20, ixN21, upd_same, upd_upd, Int.zero_add, CMul, Int.reduceSub, Nat.le_refl, Nat.zero_le, or_true, true_or, exists_const, Int.sub_zero])
          have hc' : x.cps.toList[i]? = some c := by rw [Array.getElem?_toList]; exact hc
          rw [take_snoc hc', List.all_append, ← h4]
          show if letter c = false then _ else _
          cases hlc : letter c with
          | false =>
            rw [if_pos rfl]
            have hx : i < x.length := by
              have := (List.getElem?_eq_some_iff.mp hc').1
              rw [Array.length_toList] at this
              exact this
            refine ⟨_, h1, by rw [List.length_map]; omega, ys ++ [⟨#[c]⟩], by simp, by rw [List.length_append]; simp; omega, ?_, by simp [hlc], fun b o e => get_ne (ne_of_none e hD) (s1 b o e)⟩
            intro y hy
            rcases List.mem_append.mp hy with hy | hy
            · exact h3 y hy
            · rw [List.mem_singleton] at hy
              subst hy
              have := h2' c (List.mem_of_getElem? hc')
              simp [PyData.strOk]; omega
          | true =>
            rw [if_neg (by simp)]
            exact ⟨ys, h1, by omega, h3, by simp [hlc], s1⟩
        · rintro H1 ⟨ys, h1, h2, h3, h4, s1⟩
          rw [List.take_of_length_le (by simp)] at h4
          intro q hq
          have hyl : ys.length ≤ 1000 := by
            have : x.cps.size = x.length := rfl
            omega
          (try simp only [cxOf, Cx.nox, Cx.wish, tSeq, tAsg, tC, gName, tIfS, tTest, tOp, tUn, rU, rI0, rI, tVar, tNext, tRevT, tDNewK, tBreak, tChain, iStr, tRet, tRetN, tDrop, tLst, tTup, tCons, tNil, tCB, tB, tOr, tAnd, tNot, tIf, tCall, tFor_eq, tLc_eq, iRng1, iRng2, iList, iTup, gTup, gTupH, gUnlH, gCons, gNil, gSub, rSetL, rIxL, rIxT, rIxLH, rIxTH, rSlTS, rCatS, rTupS, rIsiH, rLenS, V.ty.injEq, tyS_non, tyS_bl, tyS_int, tyS_str, tyS_ref, tyO_l, tyO_t, tyO_d, tyO_dt, kit_ll, kit_tt, kit_bb, kit_ii, kit_ib, kit_bi, kit_nt, kit_it, kit_st, kit_bt, kit_lt, kit_dt, kit_ni, kit_si, kit_ti, kit_li, kit_di, kit_nb, kit_ns, kit_is, kit_bs, kit_ss, kit_ts, kit_ls, kit_ds, kit_dd, lenS_ref, lenO_l, lenO_t,  rAppend, tM1, rIxS, tSl, tPart, tNoPart, tBM, tBM0, tDGetS, sDPutS, tTruS, truO_l, truO_t, truS_ref, truS_non, truS_bl, truS_int, tFld, sFld, sFldAug, rAdd, tMeth, tProp, tMake, tMakeK, List.take_succ_cons, List.take_zero, List.drop_succ_cons, List.drop_zero, List.take_nil, tIsN, tNotN, tAndV, tOrV, tNotV, putF, List.lookup, List.any_cons, List.any_nil, Sum.inr.injEq, HO.ins.injEq, HO.dK.injEq, eq_self, beq_self_eq_true, beq_iff_eq, decide_true, decide_false, Bool.or_true, Bool.true_or, Bool.or_false, Bool.false_or, tYes, rEq, rNe, _root_.L2.start, wipe, List.map_cons, List.map_nil, List.length_cons, List.length_nil, List.append_nil, Nat.reduceAdd, Nat.reduceSub, List.replicate_succ, List.replicate_zero, List.cons_append, List.nil_append, List.getElem?_cons_zero, List.getElem?_cons_succ, List.set_cons_zero, List.set_cons_succ, Option.some.injEq, V.int.injEq, V.ref.injEq, V.bl.injEq, V.str.injEq, List.cons.injEq, HO.lst.injEq, HO.tup.injEq, and_assoc, and_true, true_and, exists_eq_left, exists_eq_left', exists_and_left, exists_eq, reduceCtorEq, false_and, and_false, or_false, false_or, exists_false, decide_eq_true_eq, CPow, CDivW, Int.reducePow, Int.reduceLT, Int.reduceLE, Int.reduceNeg, Int.reduceToNat, Int.reduceAbs, Nat.reducePow, Nat.reduceLT, Nat.reduceLeDiff, sizeLine_eq, Int.reduceMul, Int.reduceAdd, Int.reduceSub, Bool.not_eq_true', decide_eq_false_iff_not, scal, Bool.not_true, Bool.not_false, Bool.true_eq_false, Bool.false_eq_true, ite_false, ite_true, if_true, if_false, ite_self, forall_const, atI0, atI1, atI2, atI3, ixN20, ixN21, upd_same, upd_upd, Int.zero_add, CMul, Int.reduceSub, Nat.le_refl, Nat.zero_le, or_true, true_or, exists_const, Int.sub_zero, rEqD])
          refine ⟨_, .lst (SqL.of (get_new hq h1)) (ImAll.dp _ _ (imsNew hq (ims_strs ys))), _, .lst (SqL.of upd_same) .nil, strs_shaped h3, strs_shaped (ys := []) (by simp), ?_⟩
          rw [strs_none, h4]
          exact kk _ (s1.trans (same_new hq))
      · rw [show nameD (.str x) = false from by simp only [nameD, decide_eq_false hl, Bool.false_and]] at kk
        by_cases h1 : x.length < 1
        · rw [if_pos (by omega)]
          exact kk _ (Same.refl _)
        · rw [if_neg (by omega), if_pos (by omega)]
          exact kk _ (Same.refl _)
    | _ => simp only [dTy]; (try simp only [cxOf, Cx.nox, Cx.wish, tSeq, tAsg, tC, gName, tIfS, tTest, tOp, tUn, rU, rI0, rI, tVar, tNext, tRevT, tDNewK, tBreak, tChain, iStr, tRet, tRetN, tDrop, tLst, tTup, tCons, tNil, tCB, tB, tOr, tAnd, tNot, tIf, tCall, tFor_eq, tLc_eq, iRng1, iRng2, iList, iTup, gTup, gTupH, gUnlH, gCons, gNil, gSub, rSetL, rIxL, rIxT, rIxLH, rIxTH, rSlTS, rCatS, rTupS, rIsiH, rLenS, V.ty.injEq, tyS_non, tyS_bl, tyS_int, tyS_str, tyS_ref, tyO_l, tyO_t, tyO_d, tyO_dt, kit_ll, kit_tt, kit_bb, kit_ii, kit_ib, kit_bi, kit_nt, kit_it, kit_st, kit_bt, kit_lt, kit_dt, kit_ni, kit_si, kit_ti, kit_li, kit_di, kit_nb, kit_ns, kit_is, kit_bs, kit_ss, kit_ts, kit_ls, kit_ds, kit_dd, lenS_ref, lenO_l, lenO_t,  rAppend, tM1, rIxS, tSl, tPart, tNoPart, tBM, tBM0, tDGetS, sDPutS, tTruS, truO_l, truO_t, truS_ref, truS_non, truS_bl, truS_int, tFld, sFld, sFldAug, rAdd, tMeth, tProp, tMake, tMakeK, List.take_succ_cons, List.take_zero, List.drop_succ_cons, List.drop_zero, List.take_nil, tIsN, tNotN, tAndV, tOrV, tNotV, putF, List.lookup, List.any_cons, List.any_nil, Sum.inr.injEq, HO.ins.injEq, HO.dK.injEq, eq_self, beq_self_eq_true, beq_iff_eq, decide_true, decide_false, Bool.or_true, Bool.true_or, Bool.or_false, Bool.false_or, tYes, rEq, rNe, _root_.L2.start, wipe, List.map_cons, List.map_nil, List.length_cons, List.length_nil, List.append_nil, Nat.reduceAdd, Nat.reduceSub, List.replicate_succ, List.replicate_zero, List.cons_append, List.nil_append, List.getElem?_cons_zero, List.getElem?_cons_succ, List.set_cons_zero, List.set_cons_succ, Option.some.injEq, V.int.injEq, V.ref.injEq, V.bl.injEq, V.str.injEq, List.cons.injEq, HO.lst.injEq, HO.tup.injEq, and_assoc, and_true, true_and, exists_eq_left, exists_eq_left', exists_and_left, exists_eq, reduceCtorEq, false_and, and_false, or_false, false_or, exists_false, decide_eq_true_eq, CPow, CDivW, Int.reducePow, Int.reduceLT, Int.reduceLE, Int.reduceNeg, Int.reduceToNat, Int.reduceAbs, Nat.reducePow, Nat.reduceLT, Nat.reduceLeDiff, sizeLine_eq, Int.reduceMul, Int.reduceAdd, Int.reduceSub, Bool.not_eq_true', decide_eq_false_iff_not, scal, Bool.not_true, Bool.not_false, Bool.true_eq_false, Bool.false_eq_true, ite_false, ite_true, if_true, if_false, ite_self, forall_const, atI0, atI1, atI2, atI3, ixN20, ixN21, upd_same, upd_upd, Int.zero_add, CMul, Int.reduceSub, Nat.le_refl, Nat.zero_le, or_true, true_or, exists_const, Int.sub_zero]); exact kk _ (Same.refl _)
def sp_is_number : Sp := fun vs H Q _ => ∃ (s : Addr) (d : PyData) (v : V), vs = [v] ∧ Ob s H d v ∧ Q (.bl (numD (0) 1000000000000 d)) H
theorem ok_is_number (T : Txt K mg) : FnOk P w K mg base CX0 2 T.f_is_number T.d_is_number ["thing"] (sp_is_number) := by
  refine Fun.ok T.F_is_number sc_is_number (fun vs H Q E h => ?_) (fun cdv A outer s H vs Q E hr h => ?_)
  · obtain ⟨s, d, v, rfl, ov, kk⟩ := h; rfl
  · obtain ⟨s, d, v, rfl, ov, kk⟩ := h
    have hu := hu_of hr
    refine ⟨_, (pss_one (ps_ret (pe_and (pe_call (ok_is_int T) (hr.mono (by decide)) rfl T.g_is_int T.F_is_int.kp T.b_is_int .nil pass0 (pa_cons (pv 0) pa_nil)) (pe_one (pe_chain op_le op_le pe_int (pv 0) (pe_glob rfl T.g_GREATEST T.r_GREATEST)))))), ?_⟩
    (try simp only [cxOf, Cx.nox, Cx.wish, tSeq, tAsg, tC, gName, tIfS, tTest, tOp, tUn, rU, rI0, rI, tVar, tNext, tRevT, tDNewK, tBreak, tChain, iStr, tRet, tRetN, tDrop, tLst, tTup, tCons, tNil, tCB, tB, tOr, tAnd, tNot, tIf, tCall, tFor_eq, tLc_eq, iRng1, iRng2, iList, iTup, gTup, gTupH, gUnlH, gCons, gNil, gSub, rSetL, rIxL, rIxT, rIxLH, rIxTH, rSlTS, rCatS, rTupS, rIsiH, rLenS, V.ty.injEq, tyS_non, tyS_bl, tyS_int, tyS_str, tyS_ref, tyO_l, tyO_t, tyO_d, tyO_dt, kit_ll, kit_tt, kit_bb, kit_ii, kit_ib, kit_bi, kit_nt, kit_it, kit_st, kit_bt, kit_lt, kit_dt, kit_ni, kit_si, kit_ti, kit_li, kit_di, kit_nb, kit_ns, kit_is, kit_bs, kit_ss, kit_ts, kit_ls, kit_ds, kit_dd, lenS_ref, lenO_l, lenO_t,  rAppend, tM1, rIxS, tSl, tPart, tNoPart, tBM, tBM0, tDGetS, sDPutS, tTruS, truO_l, truO_t, truS_ref, truS_non, truS_bl, truS_int, tFld, sFld, sFldAug, rAdd, tMeth, tProp, tMake, tMakeK, List.take_succ_cons, List.take_zero, List.drop_succ_cons, List.drop_zero, List.take_nil, tIsN, tNotN, tAndV, tOrV, tNotV, putF, List.lookup, List.any_cons, List.any_nil, Sum.inr.injEq, HO.ins.injEq, HO.dK.injEq, eq_self, beq_self_eq_true, beq_iff_eq, decide_true, decide_false, Bool.or_true, Bool.true_or, Bool.or_false, Bool.false_or, tYes, rEq, rNe, _root_.L2.start, wipe, List.map_cons, List.map_nil, List.length_cons, List.length_nil, List.append_nil, Nat.reduceAdd, Nat.reduceSub, List.replicate_succ, List.replicate_zero, List.cons_append, List.nil_append, List.getElem?_cons_zero, List.getElem?_cons_succ, List.set_cons_zero, List.set_cons_succ, Option.some.injEq, V.int.injEq, V.ref.injEq, V.bl.injEq, V.str.injEq, List.cons.injEq, HO.lst.injEq, HO.tup.injEq, and_assoc, and_true, true_and, exists_eq_left, exists_eq_left', exists_and_left, exists_eq, reduceCtorEq, false_and, and_false, or_false, false_or, exists_false, decide_eq_true_eq, CPow, CDivW, Int.reducePow, Int.reduceLT, Int.reduceLE, Int.reduceNeg, Int.reduceToNat, Int.reduceAbs, Nat.reducePow, Nat.reduceLT, Nat.reduceLeDiff, sizeLine_eq, Int.reduceMul, Int.reduceAdd, Int.reduceSub, Bool.not_eq_true', decide_eq_false_iff_not, scal, Bool.not_true, Bool.not_false, Bool.true_eq_false, Bool.false_eq_true, ite_false, ite_true, if_true, if_false, ite_self, forall_const, atI0, atI1, atI2, atI3, ixN20, ixN21, upd_same, upd_upd, Int.zero_add, CMul, Int.reduceSub, Nat.le_refl, Nat.zero_le, or_true, true_or, exists_const, Int.sub_zero, sp_is_int])
    refine ⟨s, d, ov, ?_⟩
    cases d with
    | int i =>
      simp only [Ob] at ov
      subst ov
      simp only [isInt]
      (try simp only [cxOf, Cx.nox, Cx.wish, tSeq, tAsg, tC, gName, tIfS, tTest, tOp, tUn, rU, rI0, rI, tVar, tNext, tRevT, tDNewK, tBreak, tChain, iStr, tRet, tRetN, tDrop, tLst, tTup, tCons, tNil, tCB, tB, tOr, tAnd, tNot, tIf, tCall, tFor_eq, tLc_eq, iRng1, iRng2, iList, iTup, gTup, gTupH, gUnlH, gCons, gNil, gSub, rSetL, rIxL, rIxT, rIxLH, rIxTH, rSlTS, rCatS, rTupS, rIsiH, rLenS, V.ty.injEq, tyS_non, tyS_bl, tyS_int, tyS_str, tyS_ref, tyO_l, tyO_t, tyO_d, tyO_dt, kit_ll, kit_tt, kit_bb, kit_ii, kit_ib, kit_bi, kit_nt, kit_it, kit_st, kit_bt, kit_lt, kit_dt, kit_ni, kit_si, kit_ti, kit_li, kit_di, kit_nb, kit_ns, kit_is, kit_bs, kit_ss, kit_ts, kit_ls, kit_ds, kit_dd, lenS_ref, lenO_l, lenO_t,  rAppend, tM1, rIxS, tSl, tPart, tNoPart, tBM, tBM0, tDGetS, sDPutS, tTruS, truO_l, truO_t, truS_ref, truS_non, truS_bl, truS_int, tFld, sFld, sFldAug, rAdd, tMeth, tProp, tMake, tMakeK, List.take_succ_cons, List.take_zero, List.drop_succ_cons, List.drop_zero, List.take_nil, tIsN, tNotN, tAndV, tOrV, tNotV, putF, List.lookup, List.any_cons, List.any_nil, Sum.inr.injEq, HO.ins.injEq, HO.dK.injEq, eq_self, beq_self_eq_true, beq_iff_eq, decide_true, decide_false, Bool.or_true, Bool.true_or, Bool.or_false, Bool.false_or, tYes, rEq, rNe, _root_.L2.start, wipe, List.map_cons, List.map_nil, List.length_cons, List.length_nil, List.append_nil, Nat.reduceAdd, Nat.reduceSub, List.replicate_succ, List.replicate_zero, List.cons_append, List.nil_append, List.getElem?_cons_zero, List.getElem?_cons_succ, List.set_cons_zero, List.set_cons_succ, Option.some.injEq, V.int.injEq, V.ref.injEq, V.bl.injEq, V.str.injEq, List.cons.injEq, HO.lst.injEq, HO.tup.injEq, and_assoc, and_true, true_and, exists_eq_left, exists_eq_left', exists_and_left, exists_eq, reduceCtorEq, false_and, and_false, or_false, false_or, exists_false, decide_eq_true_eq, CPow, CDivW, Int.reducePow, Int.reduceLT, Int.reduceLE, Int.reduceNeg, Int.reduceToNat, Int.reduceAbs, Nat.reducePow, Nat.reduceLT, Nat.reduceLeDiff, sizeLine_eq, Int.reduceMul, Int.reduceAdd, Int.reduceSub, Bool.not_eq_true', decide_eq_false_iff_not, scal, Bool.not_true, Bool.not_false, Bool.true_eq_false, Bool.false_eq_true, ite_false, ite_true, if_true, if_false, ite_self, forall_const, atI0, atI1, atI2, atI3, ixN20, ixN21, upd_same, upd_upd, Int.zero_add, CMul, Int.reduceSub, Nat.le_refl, Nat.zero_le, or_true, true_or, exists_const, Int.sub_zero])
      by_cases h : (0 : Int) ≤ i
      · rw [if_pos h]
        rw [show numD 0 1000000000000 (.int i) = decide (i ≤ 1000000000000) from by simp [numD, h]] at kk
        exact kk
      · rw [if_neg h]
        rw [show numD 0 1000000000000 (.int i) = false from by simp [numD, h]] at kk
        exact kk
    | _ => exact kk
def sp_is_integer : Sp := fun vs H Q _ => ∃ (s : Addr) (d : PyData) (v : V), vs = [v] ∧ Ob s H d v ∧ Q (.bl (numD (-1000000000000) 1000000000000 d)) H
theorem ok_is_integer (T : Txt K mg) : FnOk P w K mg base CX0 2 T.f_is_integer T.d_is_integer ["thing"] (sp_is_integer) := by
  refine Fun.ok T.F_is_integer sc_is_integer (fun vs H Q E h => ?_) (fun cdv A outer s H vs Q E hr h => ?_)
  · obtain ⟨s, d, v, rfl, ov, kk⟩ := h; rfl
  · obtain ⟨s, d, v, rfl, ov, kk⟩ := h
    have hu := hu_of hr
    refine ⟨_, (pss_one (ps_ret (pe_and (pe_call (ok_is_int T) (hr.mono (by decide)) rfl T.g_is_int T.F_is_int.kp T.b_is_int .nil pass0 (pa_cons (pv 0) pa_nil)) (pe_one (pe_chain op_le op_le (pe_un un_neg (pe_glob rfl T.g_GREATEST T.r_GREATEST)) (pv 0) (pe_glob rfl T.g_GREATEST T.r_GREATEST)))))), ?_⟩
    (try simp only [cxOf, Cx.nox, Cx.wish, tSeq, tAsg, tC, gName, tIfS, tTest, tOp, tUn, rU, rI0, rI, tVar, tNext, tRevT, tDNewK, tBreak, tChain, iStr, tRet, tRetN, tDrop, tLst, tTup, tCons, tNil, tCB, tB, tOr, tAnd, tNot, tIf, tCall, tFor_eq, tLc_eq, iRng1, iRng2, iList, iTup, gTup, gTupH, gUnlH, gCons, gNil, gSub, rSetL, rIxL, rIxT, rIxLH, rIxTH, rSlTS, rCatS, rTupS, rIsiH, rLenS, V.ty.injEq, tyS_non, tyS_bl, tyS_int, tyS_str, tyS_ref, tyO_l, tyO_t, tyO_d, tyO_dt, kit_ll, kit_tt, kit_bb, kit_ii, kit_ib, kit_bi, kit_nt, kit_it, kit_st, kit_bt, kit_lt, kit_dt, kit_ni, kit_si, kit_ti, kit_li, kit_di, kit_nb, kit_ns, kit_is, kit_bs, kit_ss, kit_ts, kit_ls, kit_ds, kit_dd, lenS_ref, lenO_l, lenO_t,  rAppend, tM1, rIxS, tSl, tPart, tNoPart, tBM, tBM0, tDGetS, sDPutS, tTruS, truO_l, truO_t, truS_ref, truS_non, truS_bl, truS_int, tFld, sFld, sFldAug, rAdd, tMeth, tProp, tMake, tMakeK, List.take_succ_cons, List.take_zero, List.drop_succ_cons, List.drop_zero, List.take_nil, tIsN, tNotN, tAndV, tOrV, tNotV, putF, List.lookup, List.any_cons, List.any_nil, Sum.inr.injEq, HO.ins.injEq, HO.dK.injEq, eq_self, beq_self_eq_true, beq_iff_eq, decide_true, decide_false, Bool.or_true, Bool.true_or, Bool.or_false, Bool.false_or, tYes, rEq, rNe, _root_.L2.start, wipe, List.map_cons, List.map_nil, List.length_cons, List.length_nil, List.append_nil, Nat.reduceAdd, Nat.reduceSub, List.replicate_succ, List.replicate_zero, List.cons_append, List.nil_append, List.getElem?_cons_zero, List.getElem?_cons_succ, List.set_cons_zero, List.set_cons_succ, Option.some.injEq, V.int.injEq, V.ref.injEq, V.bl.injEq, V.str.injEq, List.cons.injEq, HO.lst.injEq, HO.tup.injEq, and_assoc, and_true, true_and, exists_eq_left, exists_eq_left', exists_and_left, exists_eq, reduceCtorEq, false_and, and_false, or_false, false_or, exists_false, decide_eq_true_eq, CPow, CDivW, Int.reducePow, Int.reduceLT, Int.reduceLE, Int.reduceNeg, Int.reduceToNat, Int.reduceAbs, Nat.reducePow, Nat.reduceLT, Nat.reduceLeDiff, sizeLine_eq, Int.reduceMul, Int.reduceAdd, Int.reduceSub, Bool.not_eq_true', decide_eq_false_iff_not, scal, Bool.not_true, Bool.not_false, Bool.true_eq_false, Bool.false_eq_true, ite_false, ite_true, if_true, if_false, ite_self, forall_const, atI0, atI1, atI2, atI3, ixN20, ixN21, upd_same, upd_upd, Int.zero_add, CMul, Int.reduceSub, Nat.le_refl, Nat.zero_le, or_true, true_or, exists_const, Int.sub_zero, sp_is_int])
    refine ⟨s, d, ov, ?_⟩
    cases d with
    | int i =>
      simp only [Ob] at ov
      subst ov
      simp only [isInt]
      (try simp only [cxOf, Cx.nox, Cx.wish, tSeq, tAsg, tC, gName, tIfS, tTest, tOp, tUn, rU, rI0, rI, tVar, tNext, tRevT, tDNewK, tBreak, tChain, iStr, tRet, tRetN, tDrop, tLst, tTup, tCons, tNil, tCB, tB, tOr, tAnd, tNot, tIf, tCall, tFor_eq, tLc_eq, iRng1, iRng2, iList, iTup, gTup, gTupH, gUnlH, gCons, gNil, gSub, rSetL, rIxL, rIxT, rIxLH, rIxTH, rSlTS, rCatS, rTupS, rIsiH, rLenS, V.ty.injEq, tyS_non, tyS_bl, tyS_int, tyS_str, tyS_ref, tyO_l, tyO_t, tyO_d, tyO_dt, kit_ll, kit_tt, kit_bb, kit_ii, kit_ib, kit_bi, kit_nt, kit_it, kit_st, kit_bt, kit_lt, kit_dt, kit_ni, kit_si, kit_ti, kit_li, kit_di, kit_nb, kit_ns, kit_is, kit_bs, kit_ss, kit_ts, kit_ls, kit_ds, kit_dd, lenS_ref, lenO_l, lenO_t,  rAppend, tM1, rIxS, tSl, tPart, tNoPart, tBM, tBM0, tDGetS, sDPutS, tTruS, truO_l, truO_t, truS_ref, truS_non, truS_bl, truS_int, tFld, sFld, sFldAug, rAdd, tMeth, tProp, tMake, tMakeK, List.take_succ_cons, List.take_zero, List.drop_succ_cons, List.drop_zero, List.take_nil, tIsN, tNotN, tAndV, tOrV, tNotV, putF, List.lookup, List.any_cons, List.any_nil, Sum.inr.injEq, HO.ins.injEq, HO.dK.injEq, eq_self, beq_self_eq_true, beq_iff_eq, decide_true, decide_false, Bool.or_true, Bool.true_or, Bool.or_false, Bool.false_or, tYes, rEq, rNe, _root_.L2.start, wipe, List.map_cons, List.map_nil, List.length_cons, List.length_nil, List.append_nil, Nat.reduceAdd, Nat.reduceSub, List.replicate_succ, List.replicate_zero, List.cons_append, List.nil_append, List.getElem?_cons_zero, List.getElem?_cons_succ, List.set_cons_zero, List.set_cons_succ, Option.some.injEq, V.int.injEq, V.ref.injEq, V.bl.injEq, V.str.injEq, List.cons.injEq, HO.lst.injEq, HO.tup.injEq, and_assoc, and_true, true_and, exists_eq_left, exists_eq_left', exists_and_left, exists_eq, reduceCtorEq, false_and, and_false, or_false, false_or, exists_false, decide_eq_true_eq, CPow, CDivW, Int.reducePow, Int.reduceLT, Int.reduceLE, Int.reduceNeg, Int.reduceToNat, Int.reduceAbs, Nat.reducePow, Nat.reduceLT, Nat.reduceLeDiff, sizeLine_eq, Int.reduceMul, Int.reduceAdd, Int.reduceSub, Bool.not_eq_true', decide_eq_false_iff_not, scal, Bool.not_true, Bool.not_false, Bool.true_eq_false, Bool.false_eq_true, ite_false, ite_true, if_true, if_false, ite_self, forall_const, atI0, atI1, atI2, atI3, ixN20, ixN21, upd_same, upd_upd, Int.zero_add, CMul, Int.reduceSub, Nat.le_refl, Nat.zero_le, or_true, true_or, exists_const, Int.sub_zero])
      by_cases h : ((-1000000000000) : Int) ≤ i
      · rw [if_pos h]
        rw [show numD (-1000000000000) 1000000000000 (.int i) = decide (i ≤ 1000000000000) from by simp [numD, h]] at kk
        exact kk
      · rw [if_neg h]
        rw [show numD (-1000000000000) 1000000000000 (.int i) = false from by simp [numD, h]] at kk
        exact kk
    | _ => exact kk
def sp_law_number : Sp := fun vs H Q _ => ∃ (p : Addr), vs = [.ref p] ∧ St2 H p ∧ ∀ (v : Int) (H' : Hp), 0 ≤ v → v ≤ 1000000000000 → Gn p H H' → Q (.int v) H'
theorem ok_law_number (T : Txt K mg) : FnOk P w K mg base CX0 2 T.f_law_number T.d_law_number ["_law_stream_here"] (sp_law_number) := by
  refine Fun.ok T.F_law_number sc_law_number (fun vs H Q E h => ?_) (fun cdv A outer s H vs Q E hr h => ?_)
  · obtain ⟨p, rfl, hp, kk⟩ := h; rfl
  · obtain ⟨p, rfl, hp, kk⟩ := h
    have hu := hu_of hr
    refine ⟨_, (pss_cons (ps_set (i := 1) sc_law_number.nd rfl (Or.inl rfl) (pe_call (ok_law_next T) (hr.mono (by decide)) rfl T.g_law_next T.F_law_next.kp T.b_law_next .nil pass0 (pa_cons (pv 0) (pa_cons pe_int pa_nil))))
      (pss_cons (ps_if (pt_cmpR op_eq (pv 1) pe_int (nomark _)) (pss_one (ps_ret (pe_op op_sub (pe_op op_pow pe_int pe_int) (pe_call (ok_law_next T) (hr.mono (by decide)) rfl T.g_law_next T.F_law_next.kp T.b_law_next .nil pass0 (pa_cons (pv 0) (pa_cons pe_int pa_nil)))))) pss_nil)
      (pss_cons (ps_if (pt_cmpR op_eq (pv 1) pe_int (nomark _)) (pss_one (ps_ret (pe_op op_add (pe_op op_mul (pe_call (ok_law_next T) (hr.mono (by decide)) rfl T.g_law_next T.F_law_next.kp T.b_law_next .nil pass0 (pa_cons (pv 0) (pa_cons (pe_op op_pow pe_int pe_int) pa_nil))) (pe_op op_pow pe_int pe_int)) (pe_call (ok_law_next T) (hr.mono (by decide)) rfl T.g_law_next T.F_law_next.kp T.b_law_next .nil pass0 (pa_cons (pv 0) (pa_cons (pe_op op_pow pe_int pe_int) pa_nil)))))) pss_nil)
      (pss_one (ps_ret (pe_call (ok_law_next T) (hr.mono (by decide)) rfl T.g_law_next T.F_law_next.kp T.b_law_next .nil pass0 (pa_cons (pv 0) (pa_cons pe_int pa_nil)))))))), ?_⟩
    (try simp only [cxOf, Cx.nox, Cx.wish, tSeq, tAsg, tC, gName, tIfS, tTest, tOp, tUn, rU, rI0, rI, tVar, tNext, tRevT, tDNewK, tBreak, tChain, iStr, tRet, tRetN, tDrop, tLst, tTup, tCons, tNil, tCB, tB, tOr, tAnd, tNot, tIf, tCall, tFor_eq, tLc_eq, iRng1, iRng2, iList, iTup, gTup, gTupH, gUnlH, gCons, gNil, gSub, rSetL, rIxL, rIxT, rIxLH, rIxTH, rSlTS, rCatS, rTupS, rIsiH, rLenS, V.ty.injEq, tyS_non, tyS_bl, tyS_int, tyS_str, tyS_ref, tyO_l, tyO_t, tyO_d, tyO_dt, kit_ll, kit_tt, kit_bb, kit_ii, kit_ib, kit_bi, kit_nt, kit_it, kit_st, kit_bt, kit_lt, kit_dt, kit_ni, kit_si, kit_ti, kit_li, kit_di, kit_nb, kit_ns, kit_is, kit_bs, kit_ss, kit_ts, kit_ls, kit_ds, kit_dd, lenS_ref, lenO_l, lenO_t,  rAppend, tM1, rIxS, tSl, tPart, tNoPart, tBM, tBM0, tDGetS, sDPutS, tTruS, truO_l, truO_t, truS_ref, truS_non, truS_bl, truS_int, tFld, sFld, sFldAug, rAdd, tMeth, tProp, tMake, tMakeK, List.take_succ_cons, List.take_zero, List.drop_succ_cons, List.drop_zero, List.take_nil, tIsN, tNotN, tAndV, tOrV, tNotV, putF, List.lookup, List.any_cons, List.any_nil, Sum.inr.injEq, HO.ins.injEq, HO.dK.injEq, eq_self, beq_self_eq_true, beq_iff_eq, decide_true, decide_false, Bool.or_true, Bool.true_or, Bool.or_false, Bool.false_or, tYes, rEq, rNe, _root_.L2.start, wipe, List.map_cons, List.map_nil, List.length_cons, List.length_nil, List.append_nil, Nat.reduceAdd, Nat.reduceSub, List.replicate_succ, List.replicate_zero, List.cons_append, List.nil_append, List.getElem?_cons_zero, List.getElem?_cons_succ, List.set_cons_zero, List.set_cons_succ, Option.some.injEq, V.int.injEq, V.ref.injEq, V.bl.injEq, V.str.injEq, List.cons.injEq, HO.lst.injEq, HO.tup.injEq, and_assoc, and_true, true_and, exists_eq_left, exists_eq_left', exists_and_left, exists_eq, reduceCtorEq, false_and, and_false, or_false, false_or, exists_false, decide_eq_true_eq, CPow, CDivW, Int.reducePow, Int.reduceLT, Int.reduceLE, Int.reduceNeg, Int.reduceToNat, Int.reduceAbs, Nat.reducePow, Nat.reduceLT, Nat.reduceLeDiff, sizeLine_eq, Int.reduceMul, Int.reduceAdd, Int.reduceSub, Bool.not_eq_true', decide_eq_false_iff_not, scal, Bool.not_true, Bool.not_false, Bool.true_eq_false, Bool.false_eq_true, ite_false, ite_true, if_true, if_false, ite_self, forall_const, atI0, atI1, atI2, atI3, ixN20, ixN21, upd_same, upd_upd, Int.zero_add, CMul, Int.reduceSub, Nat.le_refl, Nat.zero_le, or_true, true_or, exists_const, Int.sub_zero, sp_law_next])
    refine ⟨hp, fun v H1 h0 h1 g1 => ?_⟩
    split
    · refine ⟨g1.st, fun u H2 i0 i1 g2 => ?_⟩
      exact kk _ _ (by omega) (by omega) (g1.trans g2)
    · split
      · refine ⟨g1.st, fun u H2 i0 i1 g2 => ⟨g2.st, fun t H3 j0 j1 g3 => ?_⟩⟩
        exact kk _ _ (by omega) (by omega) ((g1.trans g2).trans g3)
      · refine ⟨g1.st, fun u H2 i0 i1 g2 => ?_⟩
        exact kk _ _ (by omega) (by omega) (g1.trans g2)
def sp_law_name : Sp := fun vs H Q _ => ∃ (p : Addr), vs = [.ref p] ∧ St2 H p ∧ ∀ (x : Str) (H' : Hp), NameD x → Gn p H H' → Q (.str x) H'
theorem ok_law_name (T : Txt K mg) : FnOk P w K mg base CX0 2 T.f_law_name T.d_law_name ["_law_stream_here"] (sp_law_name) := by
  refine Fun.ok T.F_law_name sc_law_name (fun vs H Q E h => ?_) (fun cdv A outer s H vs Q E hr h => ?_)
  · obtain ⟨p, rfl, hp, kk⟩ := h; rfl
  · obtain ⟨p, rfl, hp, kk⟩ := h
    have hu := hu_of hr
    refine ⟨_, (pss_cons (ps_set (i := 1) sc_law_name.nd rfl (Or.inr rfl) pe_str)
      (pss_cons (ps_if (pt_cmpR op_eq (pe_call (ok_law_next T) (hr.mono (by decide)) rfl T.g_law_next T.F_law_next.kp T.b_law_next .nil pass0 (pa_cons (pv 0) (pa_cons pe_int pa_nil))) pe_int (nomark _)) (pss_one (ps_ret (pe_ix ix_tupH (pe_tup (pa_cons pe_str (pa_cons pe_str (pa_cons pe_str (pa_cons pe_str pa_nil))))) (pe_call (ok_law_next T) (hr.mono (by decide)) rfl T.g_law_next T.F_law_next.kp T.b_law_next .nil pass0 (pa_cons (pv 0) (pa_cons pe_int pa_nil))) (fun _ _ => rfl)))) pss_nil)
      (pss_one (ps_ret (pe_join pe_str (pe_lc (own := [("_law_k", 2)]) (g := gName 2) (tt := tYes) rfl sc_law_name.nd (pi_range1 (by rfl) T.z_range (pa_cons (pe_op op_add pe_int (pe_call (ok_law_next T) (hr.mono (by decide)) rfl T.g_law_next T.F_law_next.kp T.b_law_next .nil pass0 (pa_cons (pv 0) (pa_cons pe_int pa_nil)))) pa_nil)) (blkOk_by (N := N_law_name) (sc := defScope s_law_name) (by decide +kernel)) (fun _ _ _ _ _ => (pg_name (i := 2) sc_law_name.nd rfl (Or.inl rfl))) (fun _ _ _ _ _ => pts_nil) (fun _ _ _ _ _ => (pe_ix ix_str (pv 1) (pe_call (ok_law_next T) (hr.mono (by decide)) rfl T.g_law_next T.F_law_next.kp T.b_law_next .nil pass0 (pa_cons (pv 0) (pa_cons pe_int pa_nil))) (fun _ _ => rfl))))))))), ?_⟩
    (try simp only [cxOf, Cx.nox, Cx.wish, tSeq, tAsg, tC, gName, tIfS, tTest, tOp, tUn, rU, rI0, rI, tVar, tNext, tRevT, tDNewK, tBreak, tChain, iStr, tRet, tRetN, tDrop, tLst, tTup, tCons, tNil, tCB, tB, tOr, tAnd, tNot, tIf, tCall, tFor_eq, tLc_eq, iRng1, iRng2, iList, iTup, gTup, gTupH, gUnlH, gCons, gNil, gSub, rSetL, rIxL, rIxT, rIxLH, rIxTH, rSlTS, rCatS, rTupS, rIsiH, rLenS, V.ty.injEq, tyS_non, tyS_bl, tyS_int, tyS_str, tyS_ref, tyO_l, tyO_t, tyO_d, tyO_dt, kit_ll, kit_tt, kit_bb, kit_ii, kit_ib, kit_bi, kit_nt, kit_it, kit_st, kit_bt, kit_lt, kit_dt, kit_ni, kit_si, kit_ti, kit_li, kit_di, kit_nb, kit_ns, kit_is, kit_bs, kit_ss, kit_ts, kit_ls, kit_ds, kit_dd, lenS_ref, lenO_l, lenO_t,  rAppend, tM1, rIxS, tSl, tPart, tNoPart, tBM, tBM0, tDGetS, sDPutS, tTruS, truO_l, truO_t, truS_ref, truS_non, truS_bl, truS_int, tFld, sFld, sFldAug, rAdd, tMeth, tProp, tMake, tMakeK, List.take_succ_cons, List.take_zero, List.drop_succ_cons, List.drop_zero, List.take_nil, tIsN, tNotN, tAndV, tOrV, tNotV, putF, List.lookup, List.any_cons, List.any_nil, Sum.inr.injEq, HO.ins.injEq, HO.dK.injEq, eq_self, beq_self_eq_true, beq_iff_eq, decide_true, decide_false, Bool.or_true, Bool.true_or, Bool.or_false, Bool.false_or, tYes, rEq, rNe, _root_.L2.start, wipe, List.map_cons, List.map_nil, List.length_cons, List.length_nil, List.append_nil, Nat.reduceAdd, Nat.reduceSub, List.replicate_succ, List.replicate_zero, List.cons_append, List.nil_append, List.getElem?_cons_zero, List.getElem?_cons_succ, List.set_cons_zero, List.set_cons_succ, Option.some.injEq, V.int.injEq, V.ref.injEq, V.bl.injEq, V.str.injEq, List.cons.injEq, HO.lst.injEq, HO.tup.injEq, and_assoc, and_true, true_and, exists_eq_left, exists_eq_left', exists_and_left, exists_eq, reduceCtorEq, false_and, and_false, or_false, false_or, exists_false, decide_eq_true_eq, CPow, CDivW, Int.reducePow, Int.reduceLT, Int.reduceLE, Int.reduceNeg, Int.reduceToNat, Int.reduceAbs, Nat.reducePow, Nat.reduceLT, Nat.reduceLeDiff, sizeLine_eq, Int.reduceMul, Int.reduceAdd, Int.reduceSub, Bool.not_eq_true', decide_eq_false_iff_not, scal, Bool.not_true, Bool.not_false, Bool.true_eq_false, Bool.false_eq_true, ite_false, ite_true, if_true, if_false, ite_self, forall_const, atI0, atI1, atI2, atI3, ixN20, ixN21, upd_same, upd_upd, Int.zero_add, CMul, Int.reduceSub, Nat.le_refl, Nat.zero_le, or_true, true_or, exists_const, Int.sub_zero, sp_law_next])
    refine ⟨hp, fun v H1 h0 h1 g1 => ?_⟩
    split
    · intro q hq
      refine ⟨g1.st.new hq, fun i H2 i0 i1 g2 => ?_⟩
      have ht := g2.but q _ upd_same (St2.nn g1.st hq)
      obtain ⟨x, hx, hm⟩ := atI_mem (xs := [V.str (Str.ofString "a"), V.str (Str.ofString "b"), V.str (Str.ofString "ab"), V.str (Str.ofString "zz")]) i0 (by simpa using i1)
      refine ⟨_, ht, x, hx, ?_⟩
      simp only [List.mem_cons, List.not_mem_nil, or_false] at hm
      rcases hm with rfl | rfl | rfl | rfl
      all_goals exact kk _ _ (nameD_by (by decide +kernel)) ((g1.new hq).trans g2)
    · refine ⟨⟨_, rfl⟩, g1.st, fun n H2 n0 n1 g2 => ⟨by omega, by omega, fun D hD => ?_⟩⟩
      refine Lcl.range (fun j H' => ∃ ys : List Str, H' D = some (.lst (ys.map V.str)) ∧ ys.length = j ∧ (∀ y ∈ ys, y.length = 1 ∧ ∀ c ∈ y.cps.toList, 97 ≤ c ∧ c ≤ 122) ∧ Gn p H2 H') ⟨[], upd_same, rfl, by simp, (Gn.refl g2.st).new hD⟩ ?_ ?_
      · rintro j H3 hj ⟨ys, hl, hn, hy, g3⟩
        (try simp only [cxOf, Cx.nox, Cx.wish, tSeq, tAsg, tC, gName, tIfS, tTest, tOp, tUn, rU, rI0, rI, tVar, tNext, tRevT, tDNewK, tBreak, tChain, iStr, tRet, tRetN, tDrop, tLst, tTup, tCons, tNil, tCB, tB, tOr, tAnd, tNot, tIf, tCall, tFor_eq, tLc_eq, iRng1, iRng2, iList, iTup, gTup, gTupH, gUnlH, gCons, gNil, gSub, rSetL, rIxL, rIxT, rIxLH, rIxTH, rSlTS, rCatS, rTupS, rIsiH, rLenS, V.ty.injEq, tyS_non, tyS_bl, tyS_int, tyS_str, tyS_ref, tyO_l, tyO_t, tyO_d, tyO_dt, kit_ll, kit_tt, kit_bb, kit_ii, kit_ib, kit_bi, kit_nt, kit_it, kit_st, kit_bt, kit_lt, kit_dt, kit_ni, kit_si, kit_ti, kit_li, kit_di, kit_nb, kit_ns, kit_is, kit_bs, kit_ss, kit_ts, kit_ls, kit_ds, kit_dd, lenS_ref, lenO_l, lenO_t,  rAppend, tM1, rIxS, tSl, tPart, tNoPart, tBM, tBM0, tDGetS, sDPutS, tTruS, truO_l, truO_t, truS_ref, truS_non, truS_bl, truS_int, tFld, sFld, sFldAug, rAdd, tMeth, tProp, tMake, tMakeK, List.take_succ_cons, List.take_zero, List.drop_succ_cons, List.drop_zero, List.take_nil, tIsN, tNotN, tAndV, tOrV, tNotV, putF, List.lookup, List.any_cons, List.any_nil, Sum.inr.injEq, HO.ins.injEq, HO.dK.injEq, eq_self, beq_self_eq_true, beq_iff_eq, decide_true, decide_false, Bool.or_true, Bool.true_or, Bool.or_false, Bool.false_or, tYes, rEq, rNe, _root_.L2.start, wipe, List.map_cons, List.map_nil, List.length_cons, List.length_nil, List.append_nil, Nat.reduceAdd, Nat.reduceSub, List.replicate_succ, List.replicate_zero, List.cons_append, List.nil_append, List.getElem?_cons_zero, List.getElem?_cons_succ, List.set_cons_zero, List.set_cons_succ, Option.some.injEq, V.int.injEq, V.ref.injEq, V.bl.injEq, V.str.injEq, List.cons.injEq, HO.lst.injEq, HO.tup.injEq, and_assoc, and_true, true_and, exists_eq_left, exists_eq_left', exists_and_left, exists_eq, reduceCtorEq, false_and, and_false, or_false, false_or, exists_false, decide_eq_true_eq, CPow, CDivW, Int.reducePow, Int.reduceLT, Int.reduceLE, Int.reduceNeg, Int.reduceToNat, Int.reduceAbs, Nat.reducePow, Nat.reduceLT, Nat.reduceLeDiff, sizeLine_eq, Int.reduceMul, Int.reduceAdd, Int.reduceSub, Bool.not_eq_true', decide_eq_false_iff_not, scal, Bool.not_true, Bool.not_false, Bool.true_eq_false, Bool.false_eq_true, ite_false, ite_true, if_true, if_false, ite_self, forall_const, atI0, atI1, atI2, atI3, ixN20, ixN21, upd_same, upd_upd, Int.zero_add, CMul, Int.reduceSub, Nat.le_refl, Nat.zero_le, or_true, true_or, exists_const, Int.sub_zero, sp_law_next])
        refine ⟨g3.st, fun v H4 v0 v1 g4 => ⟨by rw [abc26_len]; decide, ?_⟩⟩
        obtain ⟨c, hc, c0, c1⟩ := abc26_at v0 v1
        have hnp : D ≠ p := St2.nn g2.st hD
        refine ⟨c, hc, _, g4.at hl hnp, by rw [List.length_map]; omega, ys ++ [⟨#[c]⟩], by simp, by simp [hn], ?_, (g3.trans g4).put hD hnp⟩
        intro y hyy
        rcases List.mem_append.mp hyy with h | h
        · exact hy y h
        · rw [List.mem_singleton] at h
          subst h
          refine ⟨rfl, fun z hz => ?_⟩
          have : z = c := by simpa using hz
          omega
      · rintro H3 ⟨ys, hl, hn, hy, g3⟩
        have e1 := sum_ones fun y h => (hy y h).1
        refine ⟨ys, .inl (SqL.of hl), ?_, ?_⟩
        · rw [e1, empty_str]
          show ys.length + ys.length * 0 ≤ _
          omega
        · refine kk _ _ ?_ ((g1.trans g2).trans g3)
          rw [empty_str]
          refine ⟨?_, ?_, join_all ys fun y h => (hy y h).2⟩
          · rw [join_len, e1]; omega
          · rw [join_len, e1]; omega
def sp_law_is_key : Sp := fun vs H Q _ => ∃ (s : Addr) (d : PyData) (v : V), vs = [v] ∧ Ob s H d v ∧ okT d = true ∧ ∀ H', Same H H' → Q (.bl (keyJ d)) H'
theorem ok_law_is_key (T : Txt K mg) : FnOk P w K mg base CX0 2 T.f_law_is_key T.d_law_is_key ["_law_thing"] (sp_law_is_key) := by
  refine Fun.ok T.F_law_is_key sc_law_is_key (fun vs H Q E h => ?_) (fun cdv A outer s H vs Q E hr h => ?_)
  · obtain ⟨s, d, v, rfl, ov, hok, kk⟩ := h; rfl
  · obtain ⟨s, d, v, rfl, ov, hok, kk⟩ := h
    have hu := hu_of hr
    refine ⟨_, (pss_one (ps_ret (pe_and (pe_callB call_isiH (by rfl) T.z_isinstance (by decide +kernel) (pa_cons (pv 0) (pa_cons (pe_bltn (v := .ty "tuple") (by rfl) T.z_tuple (by decide +kernel) rfl) pa_nil))) (pe_and (pe_cmpR op_eq (pe_callB call_lenS (by rfl) T.z_len (by decide +kernel) (pa_cons (pv 0) pa_nil)) pe_int (nomark _)) (pe_and (pe_call (ok_law_is_int T) (hr.mono (by decide)) rfl T.g_law_is_int T.F_law_is_int.kp T.b_law_is_int .nil pass0 (pa_cons (pe_ix ix_tupH (pv 0) pe_int (fun _ _ => rfl)) (pa_cons pe_int (pa_cons (pe_op op_pow pe_int pe_int) pa_nil)))) (pe_one (pe_call (ok_law_is_name T) (hr.mono (by decide)) rfl T.g_law_is_name T.F_law_is_name.kp T.b_law_is_name .nil pass0 (pa_cons (pe_ix ix_tupH (pv 0) pe_int (fun _ _ => rfl)) pa_nil)))))))), ?_⟩
    (try simp only [cxOf, Cx.nox, Cx.wish, tSeq, tAsg, tC, gName, tIfS, tTest, tOp, tUn, rU, rI0, rI, tVar, tNext, tRevT, tDNewK, tBreak, tChain, iStr, tRet, tRetN, tDrop, tLst, tTup, tCons, tNil, tCB, tB, tOr, tAnd, tNot, tIf, tCall, tFor_eq, tLc_eq, iRng1, iRng2, iList, iTup, gTup, gTupH, gUnlH, gCons, gNil, gSub, rSetL, rIxL, rIxT, rIxLH, rIxTH, rSlTS, rCatS, rTupS, rIsiH, rLenS, V.ty.injEq, tyS_non, tyS_bl, tyS_int, tyS_str, tyS_ref, tyO_l, tyO_t, tyO_d, tyO_dt, kit_ll, kit_tt, kit_bb, kit_ii, kit_ib, kit_bi, kit_nt, kit_it, kit_st, kit_bt, kit_lt, kit_dt, kit_ni, kit_si, kit_ti, kit_li, kit_di, kit_nb, kit_ns, kit_is, kit_bs, kit_ss, kit_ts, kit_ls, kit_ds, kit_dd, lenS_ref, lenO_l, lenO_t,  rAppend, tM1, rIxS, tSl, tPart, tNoPart, tBM, tBM0, tDGetS, sDPutS, tTruS, truO_l, truO_t, truS_ref, truS_non, truS_bl, truS_int, tFld, sFld, sFldAug, rAdd, tMeth, tProp, tMake, tMakeK, List.take_succ_cons, List.take_zero, List.drop_succ_cons, List.drop_zero, List.take_nil, tIsN, tNotN, tAndV, tOrV, tNotV, putF, List.lookup, List.any_cons, List.any_nil, Sum.inr.injEq, HO.ins.injEq, HO.dK.injEq, eq_self, beq_self_eq_true, beq_iff_eq, decide_true, decide_false, Bool.or_true, Bool.true_or, Bool.or_false, Bool.false_or, tYes, rEq, rNe, _root_.L2.start, wipe, List.map_cons, List.map_nil, List.length_cons, List.length_nil, List.append_nil, Nat.reduceAdd, Nat.reduceSub, List.replicate_succ, List.replicate_zero, List.cons_append, List.nil_append, List.getElem?_cons_zero, List.getElem?_cons_succ, List.set_cons_zero, List.set_cons_succ, Option.some.injEq, V.int.injEq, V.ref.injEq, V.bl.injEq, V.str.injEq, List.cons.injEq, HO.lst.injEq, HO.tup.injEq, and_assoc, and_true, true_and, exists_eq_left, exists_eq_left', exists_and_left, exists_eq, reduceCtorEq, false_and, and_false, or_false, false_or, exists_false, decide_eq_true_eq, CPow, CDivW, Int.reducePow, Int.reduceLT, Int.reduceLE, Int.reduceNeg, Int.reduceToNat, Int.reduceAbs, Nat.reducePow, Nat.reduceLT, Nat.reduceLeDiff, sizeLine_eq, Int.reduceMul, Int.reduceAdd, Int.reduceSub, Bool.not_eq_true', decide_eq_false_iff_not, scal, Bool.not_true, Bool.not_false, Bool.true_eq_false, Bool.false_eq_true, ite_false, ite_true, if_true, if_false, ite_self, forall_const, atI0, atI1, atI2, atI3, ixN20, ixN21, upd_same, upd_upd, Int.zero_add, CMul, Int.reduceSub, Nat.le_refl, Nat.zero_le, or_true, true_or, exists_const, Int.sub_zero, ov.ty])
    cases d with
    | tuple ds =>
      obtain ⟨q, xs, rfl, hq, hx⟩ := ov.tup
      simp only [dTy]
      rcases two_or ds with ⟨a, b, rfl⟩ | hn
      · obtain ⟨x, y, rfl, ox, oy⟩ := obs2 hx
        obtain ⟨ka, kb⟩ := okT2 hok
        (try simp only [cxOf, Cx.nox, Cx.wish, tSeq, tAsg, tC, gName, tIfS, tTest, tOp, tUn, rU, rI0, rI, tVar, tNext, tRevT, tDNewK, tBreak, tChain, iStr, tRet, tRetN, tDrop, tLst, tTup, tCons, tNil, tCB, tB, tOr, tAnd, tNot, tIf, tCall, tFor_eq, tLc_eq, iRng1, iRng2, iList, iTup, gTup, gTupH, gUnlH, gCons, gNil, gSub, rSetL, rIxL, rIxT, rIxLH, rIxTH, rSlTS, rCatS, rTupS, rIsiH, rLenS, V.ty.injEq, tyS_non, tyS_bl, tyS_int, tyS_str, tyS_ref, tyO_l, tyO_t, tyO_d, tyO_dt, kit_ll, kit_tt, kit_bb, kit_ii, kit_ib, kit_bi, kit_nt, kit_it, kit_st, kit_bt, kit_lt, kit_dt, kit_ni, kit_si, kit_ti, kit_li, kit_di, kit_nb, kit_ns, kit_is, kit_bs, kit_ss, kit_ts, kit_ls, kit_ds, kit_dd, lenS_ref, lenO_l, lenO_t,  rAppend, tM1, rIxS, tSl, tPart, tNoPart, tBM, tBM0, tDGetS, sDPutS, tTruS, truO_l, truO_t, truS_ref, truS_non, truS_bl, truS_int, tFld, sFld, sFldAug, rAdd, tMeth, tProp, tMake, tMakeK, List.take_succ_cons, List.take_zero, List.drop_succ_cons, List.drop_zero, List.take_nil, tIsN, tNotN, tAndV, tOrV, tNotV, putF, List.lookup, List.any_cons, List.any_nil, Sum.inr.injEq, HO.ins.injEq, HO.dK.injEq, eq_self, beq_self_eq_true, beq_iff_eq, decide_true, decide_false, Bool.or_true, Bool.true_or, Bool.or_false, Bool.false_or, tYes, rEq, rNe, _root_.L2.start, wipe, List.map_cons, List.map_nil, List.length_cons, List.length_nil, List.append_nil, Nat.reduceAdd, Nat.reduceSub, List.replicate_succ, List.replicate_zero, List.cons_append, List.nil_append, List.getElem?_cons_zero, List.getElem?_cons_succ, List.set_cons_zero, List.set_cons_succ, Option.some.injEq, V.int.injEq, V.ref.injEq, V.bl.injEq, V.str.injEq, List.cons.injEq, HO.lst.injEq, HO.tup.injEq, and_assoc, and_true, true_and, exists_eq_left, exists_eq_left', exists_and_left, exists_eq, reduceCtorEq, false_and, and_false, or_false, false_or, exists_false, decide_eq_true_eq, CPow, CDivW, Int.reducePow, Int.reduceLT, Int.reduceLE, Int.reduceNeg, Int.reduceToNat, Int.reduceAbs, Nat.reducePow, Nat.reduceLT, Nat.reduceLeDiff, sizeLine_eq, Int.reduceMul, Int.reduceAdd, Int.reduceSub, Bool.not_eq_true', decide_eq_false_iff_not, scal, Bool.not_true, Bool.not_false, Bool.true_eq_false, Bool.false_eq_true, ite_false, ite_true, if_true, if_false, ite_self, forall_const, atI0, atI1, atI2, atI3, ixN20, ixN21, upd_same, upd_upd, Int.zero_add, CMul, Int.reduceSub, Nat.le_refl, Nat.zero_le, or_true, true_or, exists_const, Int.sub_zero, hq, sp_law_is_int, sp_law_is_name])
        rw [if_pos (by decide)]
        simp only [keyJ] at kk
        refine ⟨s, a, ox, ?_⟩
        cases hA : numD 0 1000000000000 a with
        | false => rw [hA] at kk; simp only [Bool.false_and] at kk; (try simp only [cxOf, Cx.nox, Cx.wish, tSeq, tAsg, tC, gName, tIfS, tTest, tOp, tUn, rU, rI0, rI, tVar, tNext, tRevT, tDNewK, tBreak, tChain, iStr, tRet, tRetN, tDrop, tLst, tTup, tCons, tNil, tCB, tB, tOr, tAnd, tNot, tIf, tCall, tFor_eq, tLc_eq, iRng1, iRng2, iList, iTup, gTup, gTupH, gUnlH, gCons, gNil, gSub, rSetL, rIxL, rIxT, rIxLH, rIxTH, rSlTS, rCatS, rTupS, rIsiH, rLenS, V.ty.injEq, tyS_non, tyS_bl, tyS_int, tyS_str, tyS_ref, tyO_l, tyO_t, tyO_d, tyO_dt, kit_ll, kit_tt, kit_bb, kit_ii, kit_ib, kit_bi, kit_nt, kit_it, kit_st, kit_bt, kit_lt, kit_dt, kit_ni, kit_si, kit_ti, kit_li, kit_di, kit_nb, kit_ns, kit_is, kit_bs, kit_ss, kit_ts, kit_ls, kit_ds, kit_dd, lenS_ref, lenO_l, lenO_t,  rAppend, tM1, rIxS, tSl, tPart, tNoPart, tBM, tBM0, tDGetS, sDPutS, tTruS, truO_l, truO_t, truS_ref, truS_non, truS_bl, truS_int, tFld, sFld, sFldAug, rAdd, tMeth, tProp, tMake, tMakeK, List.take_succ_cons, List.take_zero, List.drop_succ_cons, List.drop_zero, List.take_nil, tIsN, tNotN, tAndV, tOrV, tNotV, putF, List.lookup, List.any_cons, List.any_nil, Sum.inr.injEq, HO.ins.injEq, HO.dK.injEq, eq_self, beq_self_eq_true, beq_iff_eq, decide_true, decide_false, Bool.or_true, Bool.true_or, Bool.or_false, Bool.false_or, tYes, rEq, rNe, _root_.L2.start, wipe, List.map_cons, List.map_nil, List.length_cons, List.length_nil, List.append_nil, Nat.reduceAdd, Nat.reduceSub, List.replicate_succ, List.replicate_zero, List.cons_append, List.nil_append, List.getElem?_cons_zero, List.getElem?_cons_succ, List.set_cons_zero, List.set_cons_succ, Option.some.injEq, V.int.injEq, V.ref.injEq, V.bl.injEq, V.str.injEq, List.cons.injEq, HO.lst.injEq, HO.tup.injEq, and_assoc, and_true, true_and, exists_eq_left, exists_eq_left', exists_and_left, exists_eq, reduceCtorEq, false_and, and_false, or_false, false_or, exists_false, decide_eq_true_eq, CPow, CDivW, Int.reducePow, Int.reduceLT, Int.reduceLE, Int.reduceNeg, Int.reduceToNat, Int.reduceAbs, Nat.reducePow, Nat.reduceLT, Nat.reduceLeDiff, sizeLine_eq, Int.reduceMul, Int.reduceAdd, Int.reduceSub, Bool.not_eq_true', decide_eq_false_iff_not, scal, Bool.not_true, Bool.not_false, Bool.true_eq_false, Bool.false_eq_true, ite_false, ite_true, if_true, if_false, ite_self, forall_const, atI0, atI1, atI2, atI3, ixN20, ixN21, upd_same, upd_upd, Int.zero_add, CMul, Int.reduceSub, Nat.le_refl, Nat.zero_le, or_true, true_or, exists_const, Int.sub_zero]); exact kk _ (Same.refl _)
        | true => rw [hA] at kk; simp only [Bool.true_and] at kk; (try simp only [cxOf, Cx.nox, Cx.wish, tSeq, tAsg, tC, gName, tIfS, tTest, tOp, tUn, rU, rI0, rI, tVar, tNext, tRevT, tDNewK, tBreak, tChain, iStr, tRet, tRetN, tDrop, tLst, tTup, tCons, tNil, tCB, tB, tOr, tAnd, tNot, tIf, tCall, tFor_eq, tLc_eq, iRng1, iRng2, iList, iTup, gTup, gTupH, gUnlH, gCons, gNil, gSub, rSetL, rIxL, rIxT, rIxLH, rIxTH, rSlTS, rCatS, rTupS, rIsiH, rLenS, V.ty.injEq, tyS_non, tyS_bl, tyS_int, tyS_str, tyS_ref, tyO_l, tyO_t, tyO_d, tyO_dt, kit_ll, kit_tt, kit_bb, kit_ii, kit_ib, kit_bi, kit_nt, kit_it, kit_st, kit_bt, kit_lt, kit_dt, kit_ni, kit_si, kit_ti, kit_li, kit_di, kit_nb, kit_ns, kit_is, kit_bs, kit_ss, kit_ts, kit_ls, kit_ds, kit_dd, lenS_ref, lenO_l, lenO_t,  rAppend, tM1, rIxS, tSl, tPart, tNoPart, tBM, tBM0, tDGetS, sDPutS, tTruS, truO_l, truO_t, truS_ref, truS_non, truS_bl, truS_int, tFld, sFld, sFldAug, rAdd, tMeth, tProp, tMake, tMakeK, List.take_succ_cons, List.take_zero, List.drop_succ_cons, List.drop_zero, List.take_nil, tIsN, tNotN, tAndV, tOrV, tNotV, putF, List.lookup, List.any_cons, List.any_nil, Sum.inr.injEq, HO.ins.injEq, HO.dK.injEq, eq_self, beq_self_eq_true, beq_iff_eq, decide_true, decide_false, Bool.or_true, Bool.true_or, Bool.or_false, Bool.false_or, tYes, rEq, rNe, _root_.L2.start, wipe, List.map_cons, List.map_nil, List.length_cons, List.length_nil, List.append_nil, Nat.reduceAdd, Nat.reduceSub, List.replicate_succ, List.replicate_zero, List.cons_append, List.nil_append, List.getElem?_cons_zero, List.getElem?_cons_succ, List.set_cons_zero, List.set_cons_succ, Option.some.injEq, V.int.injEq, V.ref.injEq, V.bl.injEq, V.str.injEq, List.cons.injEq, HO.lst.injEq, HO.tup.injEq, and_assoc, and_true, true_and, exists_eq_left, exists_eq_left', exists_and_left, exists_eq, reduceCtorEq, false_and, and_false, or_false, false_or, exists_false, decide_eq_true_eq, CPow, CDivW, Int.reducePow, Int.reduceLT, Int.reduceLE, Int.reduceNeg, Int.reduceToNat, Int.reduceAbs, Nat.reducePow, Nat.reduceLT, Nat.reduceLeDiff, sizeLine_eq, Int.reduceMul, Int.reduceAdd, Int.reduceSub, Bool.not_eq_true', decide_eq_false_iff_not, scal, Bool.not_true, Bool.not_false, Bool.true_eq_false, Bool.false_eq_true, ite_false, ite_true, if_true, if_false, ite_self, forall_const, atI0, atI1, atI2, atI3, ixN20, ixN21, upd_same, upd_upd, Int.zero_add, CMul, Int.reduceSub, Nat.le_refl, Nat.zero_le, or_true, true_or, exists_const, Int.sub_zero]); exact ⟨s, b, oy, kb, kk⟩
      · have hl := hx.len
        (try simp only [cxOf, Cx.nox, Cx.wish, tSeq, tAsg, tC, gName, tIfS, tTest, tOp, tUn, rU, rI0, rI, tVar, tNext, tRevT, tDNewK, tBreak, tChain, iStr, tRet, tRetN, tDrop, tLst, tTup, tCons, tNil, tCB, tB, tOr, tAnd, tNot, tIf, tCall, tFor_eq, tLc_eq, iRng1, iRng2, iList, iTup, gTup, gTupH, gUnlH, gCons, gNil, gSub, rSetL, rIxL, rIxT, rIxLH, rIxTH, rSlTS, rCatS, rTupS, rIsiH, rLenS, V.ty.injEq, tyS_non, tyS_bl, tyS_int, tyS_str, tyS_ref, tyO_l, tyO_t, tyO_d, tyO_dt, kit_ll, kit_tt, kit_bb, kit_ii, kit_ib, kit_bi, kit_nt, kit_it, kit_st, kit_bt, kit_lt, kit_dt, kit_ni, kit_si, kit_ti, kit_li, kit_di, kit_nb, kit_ns, kit_is, kit_bs, kit_ss, kit_ts, kit_ls, kit_ds, kit_dd, lenS_ref, lenO_l, lenO_t,  rAppend, tM1, rIxS, tSl, tPart, tNoPart, tBM, tBM0, tDGetS, sDPutS, tTruS, truO_l, truO_t, truS_ref, truS_non, truS_bl, truS_int, tFld, sFld, sFldAug, rAdd, tMeth, tProp, tMake, tMakeK, List.take_succ_cons, List.take_zero, List.drop_succ_cons, List.drop_zero, List.take_nil, tIsN, tNotN, tAndV, tOrV, tNotV, putF, List.lookup, List.any_cons, List.any_nil, Sum.inr.injEq, HO.ins.injEq, HO.dK.injEq, eq_self, beq_self_eq_true, beq_iff_eq, decide_true, decide_false, Bool.or_true, Bool.true_or, Bool.or_false, Bool.false_or, tYes, rEq, rNe, _root_.L2.start, wipe, List.map_cons, List.map_nil, List.length_cons, List.length_nil, List.append_nil, Nat.reduceAdd, Nat.reduceSub, List.replicate_succ, List.replicate_zero, List.cons_append, List.nil_append, List.getElem?_cons_zero, List.getElem?_cons_succ, List.set_cons_zero, List.set_cons_succ, Option.some.injEq, V.int.injEq, V.ref.injEq, V.bl.injEq, V.str.injEq, List.cons.injEq, HO.lst.injEq, HO.tup.injEq, and_assoc, and_true, true_and, exists_eq_left, exists_eq_left', exists_and_left, exists_eq, reduceCtorEq, false_and, and_false, or_false, false_or, exists_false, decide_eq_true_eq, CPow, CDivW, Int.reducePow, Int.reduceLT, Int.reduceLE, Int.reduceNeg, Int.reduceToNat, Int.reduceAbs, Nat.reducePow, Nat.reduceLT, Nat.reduceLeDiff, sizeLine_eq, Int.reduceMul, Int.reduceAdd, Int.reduceSub, Bool.not_eq_true', decide_eq_false_iff_not, scal, Bool.not_true, Bool.not_false, Bool.true_eq_false, Bool.false_eq_true, ite_false, ite_true, if_true, if_false, ite_self, forall_const, atI0, atI1, atI2, atI3, ixN20, ixN21, upd_same, upd_upd, Int.zero_add, CMul, Int.reduceSub, Nat.le_refl, Nat.zero_le, or_true, true_or, exists_const, Int.sub_zero, hq])
        rw [keyJ_no hn] at kk
        rw [if_neg (by omega)]
        exact kk _ (Same.refl _)
    | _ => simp only [dTy]; (try simp only [cxOf, Cx.nox, Cx.wish, tSeq, tAsg, tC, gName, tIfS, tTest, tOp, tUn, rU, rI0, rI, tVar, tNext, tRevT, tDNewK, tBreak, tChain, iStr, tRet, tRetN, tDrop, tLst, tTup, tCons, tNil, tCB, tB, tOr, tAnd, tNot, tIf, tCall, tFor_eq, tLc_eq, iRng1, iRng2, iList, iTup, gTup, gTupH, gUnlH, gCons, gNil, gSub, rSetL, rIxL, rIxT, rIxLH, rIxTH, rSlTS, rCatS, rTupS, rIsiH, rLenS, V.ty.injEq, tyS_non, tyS_bl, tyS_int, tyS_str, tyS_ref, tyO_l, tyO_t, tyO_d, tyO_dt, kit_ll, kit_tt, kit_bb, kit_ii, kit_ib, kit_bi, kit_nt, kit_it, kit_st, kit_bt, kit_lt, kit_dt, kit_ni, kit_si, kit_ti, kit_li, kit_di, kit_nb, kit_ns, kit_is, kit_bs, kit_ss, kit_ts, kit_ls, kit_ds, kit_dd, lenS_ref, lenO_l, lenO_t,  rAppend, tM1, rIxS, tSl, tPart, tNoPart, tBM, tBM0, tDGetS, sDPutS, tTruS, truO_l, truO_t, truS_ref, truS_non, truS_bl, truS_int, tFld, sFld, sFldAug, rAdd, tMeth, tProp, tMake, tMakeK, List.take_succ_cons, List.take_zero, List.drop_succ_cons, List.drop_zero, List.take_nil, tIsN, tNotN, tAndV, tOrV, tNotV, putF, List.lookup, List.any_cons, List.any_nil, Sum.inr.injEq, HO.ins.injEq, HO.dK.injEq, eq_self, beq_self_eq_true, beq_iff_eq, decide_true, decide_false, Bool.or_true, Bool.true_or, Bool.or_false, Bool.false_or, tYes, rEq, rNe, _root_.L2.start, wipe, List.map_cons, List.map_nil, List.length_cons, List.length_nil, List.append_nil, Nat.reduceAdd, Nat.reduceSub, List.replicate_succ, List.replicate_zero, List.cons_append, List.nil_append, List.getElem?_cons_zero, List.getElem?_cons_succ, List.set_cons_zero, List.set_cons_succ, Option.some.injEq, V.int.injEq, V.ref.injEq, V.bl.injEq, V.str.injEq, List.cons.injEq, HO.lst.injEq, HO.tup.injEq, and_assoc, and_true, true_and, exists_eq_left, exists_eq_left', exists_and_left, exists_eq, reduceCtorEq, false_and, and_false, or_false, false_or, exists_false, decide_eq_true_eq, CPow, CDivW, Int.reducePow, Int.reduceLT, Int.reduceLE, Int.reduceNeg, Int.reduceToNat, Int.reduceAbs, Nat.reducePow, Nat.reduceLT, Nat.reduceLeDiff, sizeLine_eq, Int.reduceMul, Int.reduceAdd, Int.reduceSub, Bool.not_eq_true', decide_eq_false_iff_not, scal, Bool.not_true, Bool.not_false, Bool.true_eq_false, Bool.false_eq_true, ite_false, ite_true, if_true, if_false, ite_self, forall_const, atI0, atI1, atI2, atI3, ixN20, ixN21, upd_same, upd_upd, Int.zero_add, CMul, Int.reduceSub, Nat.le_refl, Nat.zero_le, or_true, true_or, exists_const, Int.sub_zero]); exact kk _ (Same.refl _)
def sp_law_odd : Sp := fun vs H Q _ => ∃ (p : Addr), vs = [.ref p] ∧ St2 H p ∧ ∀ (v : V) (d : PyData) (H' : Hp), Ob p H' d v → okT d = true → small d = true → Gn p H H' → Q v H'
theorem ok_law_odd (T : Txt K mg) : FnOk P w K mg base CX0 2 T.f_law_odd T.d_law_odd ["_law_stream_here"] (sp_law_odd) := by
  refine Fun.ok T.F_law_odd sc_law_odd (fun vs H Q E h => ?_) (fun cdv A outer s H vs Q E hr h => ?_)
  · obtain ⟨p, rfl, hp, kk⟩ := h; rfl
  · obtain ⟨p, rfl, hp, kk⟩ := h
    have hu := hu_of hr
    refine ⟨_, (pss_cons (ps_set (i := 1) sc_law_odd.nd rfl (Or.inl rfl) (pe_lst (pa_cons pe_non (pa_cons pe_bl (pa_cons pe_bl (pa_cons pe_int (pa_cons pe_int (pa_cons (pe_un un_neg pe_int) (pa_cons (pe_op op_pow pe_int pe_int) (pa_cons (pe_op op_add (pe_op op_pow pe_int pe_int) pe_int) (pa_cons (pe_un un_neg (pe_op op_pow pe_int pe_int)) (pa_cons (pe_op op_sub (pe_un un_neg (pe_op op_pow pe_int pe_int)) pe_int) (pa_cons (pe_op op_pow pe_int pe_int) (pa_cons (pe_op op_add (pe_op op_pow pe_int pe_int) pe_int) pa_nil))))))))))))))
      (pss_cons (ps_set (i := 1) sc_law_odd.nd rfl (Or.inl rfl) (pe_op op_cat (pv 1) (pe_lst (pa_cons (pe_un un_neg (pe_op op_pow pe_int pe_int)) (pa_cons (pe_op op_sub (pe_un un_neg (pe_op op_pow pe_int pe_int)) pe_int) (pa_cons pe_str (pa_cons pe_str (pa_cons pe_str (pa_cons pe_str (pa_cons pe_str (pa_cons pe_str (pa_cons (pe_tup pa_nil) (pa_cons (pe_lst pa_nil) (pa_cons pe_dnewK (pa_cons pe_str (pa_cons (pe_tup (pa_cons pe_str pa_nil)) pa_nil))))))))))))))))
      (pss_cons (ps_set (i := 1) sc_law_odd.nd rfl (Or.inl rfl) (pe_op op_cat (pv 1) (pe_lst (pa_cons (pe_lst (pa_cons pe_str pa_nil)) (pa_cons (pe_tup (pa_cons pe_int (pa_cons pe_str pa_nil))) (pa_cons (pe_lst (pa_cons pe_int (pa_cons pe_str pa_nil))) (pa_cons (pe_tup (pa_cons pe_int (pa_cons pe_int pa_nil))) (pa_cons (pe_tup (pa_cons pe_int (pa_cons pe_int pa_nil))) (pa_cons (pe_tup (pa_cons pe_bl (pa_cons pe_str pa_nil))) (pa_cons (pe_tup (pa_cons pe_int (pa_cons pe_bl pa_nil))) (pa_cons (pe_tup (pa_cons pe_non (pa_cons pe_non pa_nil))) (pa_cons (pe_tup (pa_cons (pe_tup (pa_cons pe_int (pa_cons pe_int pa_nil))) (pa_cons pe_int pa_nil))) pa_nil))))))))))))
      (pss_one (ps_ret (pe_ix ix_listH (pv 1) (pe_call (ok_law_next T) (hr.mono (by decide)) rfl T.g_law_next T.F_law_next.kp T.b_law_next .nil pass0 (pa_cons (pv 0) (pa_cons pe_int pa_nil))) (fun _ _ => rfl))))))), ?_⟩
    (try simp only [cxOf, Cx.nox, Cx.wish, tSeq, tAsg, tC, gName, tIfS, tTest, tOp, tUn, rU, rI0, rI, tVar, tNext, tRevT, tDNewK, tBreak, tChain, iStr, tRet, tRetN, tDrop, tLst, tTup, tCons, tNil, tCB, tB, tOr, tAnd, tNot, tIf, tCall, tFor_eq, tLc_eq, iRng1, iRng2, iList, iTup, gTup, gTupH, gUnlH, gCons, gNil, gSub, rSetL, rIxL, rIxT, rIxLH, rIxTH, rSlTS, rCatS, rTupS, rIsiH, rLenS, V.ty.injEq, tyS_non, tyS_bl, tyS_int, tyS_str, tyS_ref, tyO_l, tyO_t, tyO_d, tyO_dt, kit_ll, kit_tt, kit_bb, kit_ii, kit_ib, kit_bi, kit_nt, kit_it, kit_st, kit_bt, kit_lt, kit_dt, kit_ni, kit_si, kit_ti, kit_li, kit_di, kit_nb, kit_ns, kit_is, kit_bs, kit_ss, kit_ts, kit_ls, kit_ds, kit_dd, lenS_ref, lenO_l, lenO_t,  rAppend, tM1, rIxS, tSl, tPart, tNoPart, tBM, tBM0, tDGetS, sDPutS, tTruS, truO_l, truO_t, truS_ref, truS_non, truS_bl, truS_int, tFld, sFld, sFldAug, rAdd, tMeth, tProp, tMake, tMakeK, List.take_succ_cons, List.take_zero, List.drop_succ_cons, List.drop_zero, List.take_nil, tIsN, tNotN, tAndV, tOrV, tNotV, putF, List.lookup, List.any_cons, List.any_nil, Sum.inr.injEq, HO.ins.injEq, HO.dK.injEq, eq_self, beq_self_eq_true, beq_iff_eq, decide_true, decide_false, Bool.or_true, Bool.true_or, Bool.or_false, Bool.false_or, tYes, rEq, rNe, _root_.L2.start, wipe, List.map_cons, List.map_nil, List.length_cons, List.length_nil, List.append_nil, Nat.reduceAdd, Nat.reduceSub, List.replicate_succ, List.replicate_zero, List.cons_append, List.nil_append, List.getElem?_cons_zero, List.getElem?_cons_succ, List.set_cons_zero, List.set_cons_succ, Option.some.injEq, V.int.injEq, V.ref.injEq, V.bl.injEq, V.str.injEq, List.cons.injEq, HO.lst.injEq, HO.tup.injEq, and_assoc, and_true, true_and, exists_eq_left, exists_eq_left', exists_and_left, exists_eq, reduceCtorEq, false_and, and_false, or_false, false_or, exists_false, decide_eq_true_eq, CPow, CDivW, Int.reducePow, Int.reduceLT, Int.reduceLE, Int.reduceNeg, Int.reduceToNat, Int.reduceAbs, Nat.reducePow, Nat.reduceLT, Nat.reduceLeDiff, sizeLine_eq, Int.reduceMul, Int.reduceAdd, Int.reduceSub, Bool.not_eq_true', decide_eq_false_iff_not, scal, Bool.not_true, Bool.not_false, Bool.true_eq_false, Bool.false_eq_true, ite_false, ite_true, if_true, if_false, ite_self, forall_const, atI0, atI1, atI2, atI3, ixN20, ixN21, upd_same, upd_upd, Int.zero_add, CMul, Int.reduceSub, Nat.le_refl, Nat.zero_le, or_true, true_or, exists_const, Int.sub_zero, sp_law_next])
    have g0 := Gn.refl hp
    intro q1 n1
    have nn1 := St2.nn g0.st n1
    have s1 := same_new n1 (o := (HO.lst [V.non, V.bl true, V.bl false, V.int 0, V.int 1, V.int (-1), V.int 1000000000000, V.int 1000000000001, V.int (-1000000000000), V.int (-1000000000001), V.int 1000000000000000, V.int 1000000000000001]))
    have g1 := g0.new n1 (o := (HO.lst [V.non, V.bl true, V.bl false, V.int 0, V.int 1, V.int (-1), V.int 1000000000000, V.int 1000000000001, V.int (-1000000000000), V.int (-1000000000001), V.int 1000000000000000, V.int 1000000000000001]))
    have e1 : upd H q1 (HO.lst [V.non, V.bl true, V.bl false, V.int 0, V.int 1, V.int (-1), V.int 1000000000000, V.int 1000000000001, V.int (-1000000000000), V.int (-1000000000001), V.int 1000000000000000, V.int 1000000000000001]) q1 = some (HO.lst [V.non, V.bl true, V.bl false, V.int 0, V.int 1, V.int (-1), V.int 1000000000000, V.int 1000000000001, V.int (-1000000000000), V.int (-1000000000001), V.int 1000000000000000, V.int 1000000000000001]) := upd_same
    generalize upd H q1 (HO.lst [V.non, V.bl true, V.bl false, V.int 0, V.int 1, V.int (-1), V.int 1000000000000, V.int 1000000000001, V.int (-1000000000000), V.int (-1000000000001), V.int 1000000000000000, V.int 1000000000000001]) = H1 at s1 g1 e1 ⊢
    intro q2 n2
    have nn2 := St2.nn g1.st n2
    have s2 := same_new n2 (o := (HO.tup []))
    have g2 := g1.new n2 (o := (HO.tup []))
    have e2 : upd H1 q2 (HO.tup []) q2 = some (HO.tup []) := upd_same
    generalize upd H1 q2 (HO.tup []) = H2 at s2 g2 e2 ⊢
    have o2 : Ob p H2 (.tuple []) (.ref q2) := ob_tup e2 obs_nil
    intro q3 n3
    have nn3 := St2.nn g2.st n3
    have s3 := same_new n3 (o := (HO.lst []))
    have g3 := g2.new n3 (o := (HO.lst []))
    have e3 : upd H2 q3 (HO.lst []) q3 = some (HO.lst []) := upd_same
    generalize upd H2 q3 (HO.lst []) = H3 at s3 g3 e3 ⊢
    have o3 : Ob p H3 (.list []) (.ref q3) := ob_lst nn3 e3 obs_nil
    intro q4 n4
    have nn4 := St2.nn g3.st n4
    have s4 := same_new n4 (o := (HO.dK []))
    have g4 := g3.new n4 (o := (HO.dK []))
    have e4 : upd H3 q4 (HO.dK []) q4 = some (HO.dK []) := upd_same
    generalize upd H3 q4 (HO.dK []) = H4 at s4 g4 e4 ⊢
    have o4 : Ob p H4 (.dict []) (.ref q4) := ob_dct nn4 e4
    intro q5 n5
    have nn5 := St2.nn g4.st n5
    have s5 := same_new n5 (o := (HO.tup [V.str (Str.ofString "a")]))
    have g5 := g4.new n5 (o := (HO.tup [V.str (Str.ofString "a")]))
    have e5 : upd H4 q5 (HO.tup [V.str (Str.ofString "a")]) q5 = some (HO.tup [V.str (Str.ofString "a")]) := upd_same
    generalize upd H4 q5 (HO.tup [V.str (Str.ofString "a")]) = H5 at s5 g5 e5 ⊢
    have o5 : Ob p H5 (.tuple [.str (Str.ofString "a")]) (.ref q5) := ob_tup e5 (obs_cons ob_str obs_nil)
    intro q6 n6
    have nn6 := St2.nn g5.st n6
    have s6 := same_new n6 (o := (HO.lst [V.int (-1000000000000000), V.int (-1000000000000001), V.str (Str.ofString ""), V.str (Str.ofString "a"), V.str (Str.ofString "A"), V.str (Str.ofString "a1"), V.str (Str.ofString "a b"), V.str (Str.ofString "abcdefghijklm"), V.ref q2, V.ref q3, V.ref q4, V.str (Str.ofString "a\n"), V.ref q5]))
    have g6 := g5.new n6 (o := (HO.lst [V.int (-1000000000000000), V.int (-1000000000000001), V.str (Str.ofString ""), V.str (Str.ofString "a"), V.str (Str.ofString "A"), V.str (Str.ofString "a1"), V.str (Str.ofString "a b"), V.str (Str.ofString "abcdefghijklm"), V.ref q2, V.ref q3, V.ref q4, V.str (Str.ofString "a\n"), V.ref q5]))
    have e6 : upd H5 q6 (HO.lst [V.int (-1000000000000000), V.int (-1000000000000001), V.str (Str.ofString ""), V.str (Str.ofString "a"), V.str (Str.ofString "A"), V.str (Str.ofString "a1"), V.str (Str.ofString "a b"), V.str (Str.ofString "abcdefghijklm"), V.ref q2, V.ref q3, V.ref q4, V.str (Str.ofString "a\n"), V.ref q5]) q6 = some (HO.lst [V.int (-1000000000000000), V.int (-1000000000000001), V.str (Str.ofString ""), V.str (Str.ofString "a"), V.str (Str.ofString "A"), V.str (Str.ofString "a1"), V.str (Str.ofString "a b"), V.str (Str.ofString "abcdefghijklm"), V.ref q2, V.ref q3, V.ref q4, V.str (Str.ofString "a\n"), V.ref q5]) := upd_same
    generalize upd H5 q6 (HO.lst [V.int (-1000000000000000), V.int (-1000000000000001), V.str (Str.ofString ""), V.str (Str.ofString "a"), V.str (Str.ofString "A"), V.str (Str.ofString "a1"), V.str (Str.ofString "a b"), V.str (Str.ofString "abcdefghijklm"), V.ref q2, V.ref q3, V.ref q4, V.str (Str.ofString "a\n"), V.ref q5]) = H6 at s6 g6 e6 ⊢
    have t1_6 := s6 _ _ (s5 _ _ (s4 _ _ (s3 _ _ (s2 _ _ e1))))
    (try simp only [cxOf, Cx.nox, Cx.wish, tSeq, tAsg, tC, gName, tIfS, tTest, tOp, tUn, rU, rI0, rI, tVar, tNext, tRevT, tDNewK, tBreak, tChain, iStr, tRet, tRetN, tDrop, tLst, tTup, tCons, tNil, tCB, tB, tOr, tAnd, tNot, tIf, tCall, tFor_eq, tLc_eq, iRng1, iRng2, iList, iTup, gTup, gTupH, gUnlH, gCons, gNil, gSub, rSetL, rIxL, rIxT, rIxLH, rIxTH, rSlTS, rCatS, rTupS, rIsiH, rLenS, V.ty.injEq, tyS_non, tyS_bl, tyS_int, tyS_str, tyS_ref, tyO_l, tyO_t, tyO_d, tyO_dt, kit_ll, kit_tt, kit_bb, kit_ii, kit_ib, kit_bi, kit_nt, kit_it, kit_st, kit_bt, kit_lt, kit_dt, kit_ni, kit_si, kit_ti, kit_li, kit_di, kit_nb, kit_ns, kit_is, kit_bs, kit_ss, kit_ts, kit_ls, kit_ds, kit_dd, lenS_ref, lenO_l, lenO_t,  rAppend, tM1, rIxS, tSl, tPart, tNoPart, tBM, tBM0, tDGetS, sDPutS, tTruS, truO_l, truO_t, truS_ref, truS_non, truS_bl, truS_int, tFld, sFld, sFldAug, rAdd, tMeth, tProp, tMake, tMakeK, List.take_succ_cons, List.take_zero, List.drop_succ_cons, List.drop_zero, List.take_nil, tIsN, tNotN, tAndV, tOrV, tNotV, putF, List.lookup, List.any_cons, List.any_nil, Sum.inr.injEq, HO.ins.injEq, HO.dK.injEq, eq_self, beq_self_eq_true, beq_iff_eq, decide_true, decide_false, Bool.or_true, Bool.true_or, Bool.or_false, Bool.false_or, tYes, rEq, rNe, _root_.L2.start, wipe, List.map_cons, List.map_nil, List.length_cons, List.length_nil, List.append_nil, Nat.reduceAdd, Nat.reduceSub, List.replicate_succ, List.replicate_zero, List.cons_append, List.nil_append, List.getElem?_cons_zero, List.getElem?_cons_succ, List.set_cons_zero, List.set_cons_succ, Option.some.injEq, V.int.injEq, V.ref.injEq, V.bl.injEq, V.str.injEq, List.cons.injEq, HO.lst.injEq, HO.tup.injEq, and_assoc, and_true, true_and, exists_eq_left, exists_eq_left', exists_and_left, exists_eq, reduceCtorEq, false_and, and_false, or_false, false_or, exists_false, decide_eq_true_eq, CPow, CDivW, Int.reducePow, Int.reduceLT, Int.reduceLE, Int.reduceNeg, Int.reduceToNat, Int.reduceAbs, Nat.reducePow, Nat.reduceLT, Nat.reduceLeDiff, sizeLine_eq, Int.reduceMul, Int.reduceAdd, Int.reduceSub, Bool.not_eq_true', decide_eq_false_iff_not, scal, Bool.not_true, Bool.not_false, Bool.true_eq_false, Bool.false_eq_true, ite_false, ite_true, if_true, if_false, ite_self, forall_const, atI0, atI1, atI2, atI3, ixN20, ixN21, upd_same, upd_upd, Int.zero_add, CMul, Int.reduceSub, Nat.le_refl, Nat.zero_le, or_true, true_or, exists_const, Int.sub_zero, rCat, t1_6, e6])
    try refine ⟨by decide, ?_⟩
    intro q7 n7
    have nn7 := St2.nn g6.st n7
    have s7 := same_new n7 (o := (HO.lst [V.non, V.bl true, V.bl false, V.int 0, V.int 1, V.int (-1), V.int 1000000000000, V.int 1000000000001, V.int (-1000000000000), V.int (-1000000000001), V.int 1000000000000000, V.int 1000000000000001, V.int (-1000000000000000), V.int (-1000000000000001), V.str (Str.ofString ""), V.str (Str.ofString "a"), V.str (Str.ofString "A"), V.str (Str.ofString "a1"), V.str (Str.ofString "a b"), V.str (Str.ofString "abcdefghijklm"), V.ref q2, V.ref q3, V.ref q4, V.str (Str.ofString "a\n"), V.ref q5]))
    have g7 := g6.new n7 (o := (HO.lst [V.non, V.bl true, V.bl false, V.int 0, V.int 1, V.int (-1), V.int 1000000000000, V.int 1000000000001, V.int (-1000000000000), V.int (-1000000000001), V.int 1000000000000000, V.int 1000000000000001, V.int (-1000000000000000), V.int (-1000000000000001), V.str (Str.ofString ""), V.str (Str.ofString "a"), V.str (Str.ofString "A"), V.str (Str.ofString "a1"), V.str (Str.ofString "a b"), V.str (Str.ofString "abcdefghijklm"), V.ref q2, V.ref q3, V.ref q4, V.str (Str.ofString "a\n"), V.ref q5]))
    have e7 : upd H6 q7 (HO.lst [V.non, V.bl true, V.bl false, V.int 0, V.int 1, V.int (-1), V.int 1000000000000, V.int 1000000000001, V.int (-1000000000000), V.int (-1000000000001), V.int 1000000000000000, V.int 1000000000000001, V.int (-1000000000000000), V.int (-1000000000000001), V.str (Str.ofString ""), V.str (Str.ofString "a"), V.str (Str.ofString "A"), V.str (Str.ofString "a1"), V.str (Str.ofString "a b"), V.str (Str.ofString "abcdefghijklm"), V.ref q2, V.ref q3, V.ref q4, V.str (Str.ofString "a\n"), V.ref q5]) q7 = some (HO.lst [V.non, V.bl true, V.bl false, V.int 0, V.int 1, V.int (-1), V.int 1000000000000, V.int 1000000000001, V.int (-1000000000000), V.int (-1000000000001), V.int 1000000000000000, V.int 1000000000000001, V.int (-1000000000000000), V.int (-1000000000000001), V.str (Str.ofString ""), V.str (Str.ofString "a"), V.str (Str.ofString "A"), V.str (Str.ofString "a1"), V.str (Str.ofString "a b"), V.str (Str.ofString "abcdefghijklm"), V.ref q2, V.ref q3, V.ref q4, V.str (Str.ofString "a\n"), V.ref q5]) := upd_same
    generalize upd H6 q7 (HO.lst [V.non, V.bl true, V.bl false, V.int 0, V.int 1, V.int (-1), V.int 1000000000000, V.int 1000000000001, V.int (-1000000000000), V.int (-1000000000001), V.int 1000000000000000, V.int 1000000000000001, V.int (-1000000000000000), V.int (-1000000000000001), V.str (Str.ofString ""), V.str (Str.ofString "a"), V.str (Str.ofString "A"), V.str (Str.ofString "a1"), V.str (Str.ofString "a b"), V.str (Str.ofString "abcdefghijklm"), V.ref q2, V.ref q3, V.ref q4, V.str (Str.ofString "a\n"), V.ref q5]) = H7 at s7 g7 e7 ⊢
    intro q8 n8
    have nn8 := St2.nn g7.st n8
    have s8 := same_new n8 (o := (HO.lst [V.str (Str.ofString "a")]))
    have g8 := g7.new n8 (o := (HO.lst [V.str (Str.ofString "a")]))
    have e8 : upd H7 q8 (HO.lst [V.str (Str.ofString "a")]) q8 = some (HO.lst [V.str (Str.ofString "a")]) := upd_same
    generalize upd H7 q8 (HO.lst [V.str (Str.ofString "a")]) = H8 at s8 g8 e8 ⊢
    have o8 : Ob p H8 (.list [.str (Str.ofString "a")]) (.ref q8) := ob_lst nn8 e8 (obs_cons ob_str obs_nil)
    intro q9 n9
    have nn9 := St2.nn g8.st n9
    have s9 := same_new n9 (o := (HO.tup [V.int 1, V.str (Str.ofString "a")]))
    have g9 := g8.new n9 (o := (HO.tup [V.int 1, V.str (Str.ofString "a")]))
    have e9 : upd H8 q9 (HO.tup [V.int 1, V.str (Str.ofString "a")]) q9 = some (HO.tup [V.int 1, V.str (Str.ofString "a")]) := upd_same
    generalize upd H8 q9 (HO.tup [V.int 1, V.str (Str.ofString "a")]) = H9 at s9 g9 e9 ⊢
    have o9 : Ob p H9 (.tuple [.int 1, .str (Str.ofString "a")]) (.ref q9) := ob_tup e9 (obs_cons ob_int (obs_cons ob_str obs_nil))
    intro q10 n10
    have nn10 := St2.nn g9.st n10
    have s10 := same_new n10 (o := (HO.lst [V.int 1, V.str (Str.ofString "a")]))
    have g10 := g9.new n10 (o := (HO.lst [V.int 1, V.str (Str.ofString "a")]))
    have e10 : upd H9 q10 (HO.lst [V.int 1, V.str (Str.ofString "a")]) q10 = some (HO.lst [V.int 1, V.str (Str.ofString "a")]) := upd_same
    generalize upd H9 q10 (HO.lst [V.int 1, V.str (Str.ofString "a")]) = H10 at s10 g10 e10 ⊢
    have o10 : Ob p H10 (.list [.int 1, .str (Str.ofString "a")]) (.ref q10) := ob_lst nn10 e10 (obs_cons ob_int (obs_cons ob_str obs_nil))
    intro q11 n11
    have nn11 := St2.nn g10.st n11
    have s11 := same_new n11 (o := (HO.tup [V.int 1, V.int 0]))
    have g11 := g10.new n11 (o := (HO.tup [V.int 1, V.int 0]))
    have e11 : upd H10 q11 (HO.tup [V.int 1, V.int 0]) q11 = some (HO.tup [V.int 1, V.int 0]) := upd_same
    generalize upd H10 q11 (HO.tup [V.int 1, V.int 0]) = H11 at s11 g11 e11 ⊢
    have o11 : Ob p H11 (.tuple [.int 1, .int 0]) (.ref q11) := ob_tup e11 (obs_cons ob_int (obs_cons ob_int obs_nil))
    intro q12 n12
    have nn12 := St2.nn g11.st n12
    have s12 := same_new n12 (o := (HO.tup [V.int 0, V.int 1]))
    have g12 := g11.new n12 (o := (HO.tup [V.int 0, V.int 1]))
    have e12 : upd H11 q12 (HO.tup [V.int 0, V.int 1]) q12 = some (HO.tup [V.int 0, V.int 1]) := upd_same
    generalize upd H11 q12 (HO.tup [V.int 0, V.int 1]) = H12 at s12 g12 e12 ⊢
    have o12 : Ob p H12 (.tuple [.int 0, .int 1]) (.ref q12) := ob_tup e12 (obs_cons ob_int (obs_cons ob_int obs_nil))
    intro q13 n13
    have nn13 := St2.nn g12.st n13
    have s13 := same_new n13 (o := (HO.tup [V.bl true, V.str (Str.ofString "a")]))
    have g13 := g12.new n13 (o := (HO.tup [V.bl true, V.str (Str.ofString "a")]))
    have e13 : upd H12 q13 (HO.tup [V.bl true, V.str (Str.ofString "a")]) q13 = some (HO.tup [V.bl true, V.str (Str.ofString "a")]) := upd_same
    generalize upd H12 q13 (HO.tup [V.bl true, V.str (Str.ofString "a")]) = H13 at s13 g13 e13 ⊢
    have o13 : Ob p H13 (.tuple [.bool true, .str (Str.ofString "a")]) (.ref q13) := ob_tup e13 (obs_cons ob_bl (obs_cons ob_str obs_nil))
    intro q14 n14
    have nn14 := St2.nn g13.st n14
    have s14 := same_new n14 (o := (HO.tup [V.int 1, V.bl true]))
    have g14 := g13.new n14 (o := (HO.tup [V.int 1, V.bl true]))
    have e14 : upd H13 q14 (HO.tup [V.int 1, V.bl true]) q14 = some (HO.tup [V.int 1, V.bl true]) := upd_same
    generalize upd H13 q14 (HO.tup [V.int 1, V.bl true]) = H14 at s14 g14 e14 ⊢
    have o14 : Ob p H14 (.tuple [.int 1, .bool true]) (.ref q14) := ob_tup e14 (obs_cons ob_int (obs_cons ob_bl obs_nil))
    intro q15 n15
    have nn15 := St2.nn g14.st n15
    have s15 := same_new n15 (o := (HO.tup [V.non, V.non]))
    have g15 := g14.new n15 (o := (HO.tup [V.non, V.non]))
    have e15 : upd H14 q15 (HO.tup [V.non, V.non]) q15 = some (HO.tup [V.non, V.non]) := upd_same
    generalize upd H14 q15 (HO.tup [V.non, V.non]) = H15 at s15 g15 e15 ⊢
    have o15 : Ob p H15 (.tuple [.none, .none]) (.ref q15) := ob_tup e15 (obs_cons ob_non (obs_cons ob_non obs_nil))
    intro q16 n16
    have nn16 := St2.nn g15.st n16
    have s16 := same_new n16 (o := (HO.tup [V.int 1, V.int 0]))
    have g16 := g15.new n16 (o := (HO.tup [V.int 1, V.int 0]))
    have e16 : upd H15 q16 (HO.tup [V.int 1, V.int 0]) q16 = some (HO.tup [V.int 1, V.int 0]) := upd_same
    generalize upd H15 q16 (HO.tup [V.int 1, V.int 0]) = H16 at s16 g16 e16 ⊢
    have o16 : Ob p H16 (.tuple [.int 1, .int 0]) (.ref q16) := ob_tup e16 (obs_cons ob_int (obs_cons ob_int obs_nil))
    intro q17 n17
    have nn17 := St2.nn g16.st n17
    have s17 := same_new n17 (o := (HO.tup [V.ref q16, V.int 1]))
    have g17 := g16.new n17 (o := (HO.tup [V.ref q16, V.int 1]))
    have e17 : upd H16 q17 (HO.tup [V.ref q16, V.int 1]) q17 = some (HO.tup [V.ref q16, V.int 1]) := upd_same
    generalize upd H16 q17 (HO.tup [V.ref q16, V.int 1]) = H17 at s17 g17 e17 ⊢
    have o17 : Ob p H17 (.tuple [.tuple [.int 1, .int 0], .int 1]) (.ref q17) := ob_tup e17 (obs_cons (o16.same s17) (obs_cons ob_int obs_nil))
    intro q18 n18
    have nn18 := St2.nn g17.st n18
    have s18 := same_new n18 (o := (HO.lst [V.ref q8, V.ref q9, V.ref q10, V.ref q11, V.ref q12, V.ref q13, V.ref q14, V.ref q15, V.ref q17]))
    have g18 := g17.new n18 (o := (HO.lst [V.ref q8, V.ref q9, V.ref q10, V.ref q11, V.ref q12, V.ref q13, V.ref q14, V.ref q15, V.ref q17]))
    have e18 : upd H17 q18 (HO.lst [V.ref q8, V.ref q9, V.ref q10, V.ref q11, V.ref q12, V.ref q13, V.ref q14, V.ref q15, V.ref q17]) q18 = some (HO.lst [V.ref q8, V.ref q9, V.ref q10, V.ref q11, V.ref q12, V.ref q13, V.ref q14, V.ref q15, V.ref q17]) := upd_same
    generalize upd H17 q18 (HO.lst [V.ref q8, V.ref q9, V.ref q10, V.ref q11, V.ref q12, V.ref q13, V.ref q14, V.ref q15, V.ref q17]) = H18 at s18 g18 e18 ⊢
    have t7_18 := s18 _ _ (s17 _ _ (s16 _ _ (s15 _ _ (s14 _ _ (s13 _ _ (s12 _ _ (s11 _ _ (s10 _ _ (s9 _ _ (s8 _ _ (e7)))))))))))
    (try simp only [cxOf, Cx.nox, Cx.wish, tSeq, tAsg, tC, gName, tIfS, tTest, tOp, tUn, rU, rI0, rI, tVar, tNext, tRevT, tDNewK, tBreak, tChain, iStr, tRet, tRetN, tDrop, tLst, tTup, tCons, tNil, tCB, tB, tOr, tAnd, tNot, tIf, tCall, tFor_eq, tLc_eq, iRng1, iRng2, iList, iTup, gTup, gTupH, gUnlH, gCons, gNil, gSub, rSetL, rIxL, rIxT, rIxLH, rIxTH, rSlTS, rCatS, rTupS, rIsiH, rLenS, V.ty.injEq, tyS_non, tyS_bl, tyS_int, tyS_str, tyS_ref, tyO_l, tyO_t, tyO_d, tyO_dt, kit_ll, kit_tt, kit_bb, kit_ii, kit_ib, kit_bi, kit_nt, kit_it, kit_st, kit_bt, kit_lt, kit_dt, kit_ni, kit_si, kit_ti, kit_li, kit_di, kit_nb, kit_ns, kit_is, kit_bs, kit_ss, kit_ts, kit_ls, kit_ds, kit_dd, lenS_ref, lenO_l, lenO_t,  rAppend, tM1, rIxS, tSl, tPart, tNoPart, tBM, tBM0, tDGetS, sDPutS, tTruS, truO_l, truO_t, truS_ref, truS_non, truS_bl, truS_int, tFld, sFld, sFldAug, rAdd, tMeth, tProp, tMake, tMakeK, List.take_succ_cons, List.take_zero, List.drop_succ_cons, List.drop_zero, List.take_nil, tIsN, tNotN, tAndV, tOrV, tNotV, putF, List.lookup, List.any_cons, List.any_nil, Sum.inr.injEq, HO.ins.injEq, HO.dK.injEq, eq_self, beq_self_eq_true, beq_iff_eq, decide_true, decide_false, Bool.or_true, Bool.true_or, Bool.or_false, Bool.false_or, tYes, rEq, rNe, _root_.L2.start, wipe, List.map_cons, List.map_nil, List.length_cons, List.length_nil, List.append_nil, Nat.reduceAdd, Nat.reduceSub, List.replicate_succ, List.replicate_zero, List.cons_append, List.nil_append, List.getElem?_cons_zero, List.getElem?_cons_succ, List.set_cons_zero, List.set_cons_succ, Option.some.injEq, V.int.injEq, V.ref.injEq, V.bl.injEq, V.str.injEq, List.cons.injEq, HO.lst.injEq, HO.tup.injEq, and_assoc, and_true, true_and, exists_eq_left, exists_eq_left', exists_and_left, exists_eq, reduceCtorEq, false_and, and_false, or_false, false_or, exists_false, decide_eq_true_eq, CPow, CDivW, Int.reducePow, Int.reduceLT, Int.reduceLE, Int.reduceNeg, Int.reduceToNat, Int.reduceAbs, Nat.reducePow, Nat.reduceLT, Nat.reduceLeDiff, sizeLine_eq, Int.reduceMul, Int.reduceAdd, Int.reduceSub, Bool.not_eq_true', decide_eq_false_iff_not, scal, Bool.not_true, Bool.not_false, Bool.true_eq_false, Bool.false_eq_true, ite_false, ite_true, if_true, if_false, ite_self, forall_const, atI0, atI1, atI2, atI3, ixN20, ixN21, upd_same, upd_upd, Int.zero_add, CMul, Int.reduceSub, Nat.le_refl, Nat.zero_le, or_true, true_or, exists_const, Int.sub_zero, rCat, t7_18, e18])
    intro q19 n19
    have nn19 := St2.nn g18.st n19
    have s19 := same_new n19 (o := (HO.lst [V.non, V.bl true, V.bl false, V.int 0, V.int 1, V.int (-1), V.int 1000000000000, V.int 1000000000001, V.int (-1000000000000), V.int (-1000000000001), V.int 1000000000000000, V.int 1000000000000001, V.int (-1000000000000000), V.int (-1000000000000001), V.str (Str.ofString ""), V.str (Str.ofString "a"), V.str (Str.ofString "A"), V.str (Str.ofString "a1"), V.str (Str.ofString "a b"), V.str (Str.ofString "abcdefghijklm"), V.ref q2, V.ref q3, V.ref q4, V.str (Str.ofString "a\n"), V.ref q5, V.ref q8, V.ref q9, V.ref q10, V.ref q11, V.ref q12, V.ref q13, V.ref q14, V.ref q15, V.ref q17]))
    have g19 := g18.new n19 (o := (HO.lst [V.non, V.bl true, V.bl false, V.int 0, V.int 1, V.int (-1), V.int 1000000000000, V.int 1000000000001, V.int (-1000000000000), V.int (-1000000000001), V.int 1000000000000000, V.int 1000000000000001, V.int (-1000000000000000), V.int (-1000000000000001), V.str (Str.ofString ""), V.str (Str.ofString "a"), V.str (Str.ofString "A"), V.str (Str.ofString "a1"), V.str (Str.ofString "a b"), V.str (Str.ofString "abcdefghijklm"), V.ref q2, V.ref q3, V.ref q4, V.str (Str.ofString "a\n"), V.ref q5, V.ref q8, V.ref q9, V.ref q10, V.ref q11, V.ref q12, V.ref q13, V.ref q14, V.ref q15, V.ref q17]))
    have e19 : upd H18 q19 (HO.lst [V.non, V.bl true, V.bl false, V.int 0, V.int 1, V.int (-1), V.int 1000000000000, V.int 1000000000001, V.int (-1000000000000), V.int (-1000000000001), V.int 1000000000000000, V.int 1000000000000001, V.int (-1000000000000000), V.int (-1000000000000001), V.str (Str.ofString ""), V.str (Str.ofString "a"), V.str (Str.ofString "A"), V.str (Str.ofString "a1"), V.str (Str.ofString "a b"), V.str (Str.ofString "abcdefghijklm"), V.ref q2, V.ref q3, V.ref q4, V.str (Str.ofString "a\n"), V.ref q5, V.ref q8, V.ref q9, V.ref q10, V.ref q11, V.ref q12, V.ref q13, V.ref q14, V.ref q15, V.ref q17]) q19 = some (HO.lst [V.non, V.bl true, V.bl false, V.int 0, V.int 1, V.int (-1), V.int 1000000000000, V.int 1000000000001, V.int (-1000000000000), V.int (-1000000000001), V.int 1000000000000000, V.int 1000000000000001, V.int (-1000000000000000), V.int (-1000000000000001), V.str (Str.ofString ""), V.str (Str.ofString "a"), V.str (Str.ofString "A"), V.str (Str.ofString "a1"), V.str (Str.ofString "a b"), V.str (Str.ofString "abcdefghijklm"), V.ref q2, V.ref q3, V.ref q4, V.str (Str.ofString "a\n"), V.ref q5, V.ref q8, V.ref q9, V.ref q10, V.ref q11, V.ref q12, V.ref q13, V.ref q14, V.ref q15, V.ref q17]) := upd_same
    generalize upd H18 q19 (HO.lst [V.non, V.bl true, V.bl false, V.int 0, V.int 1, V.int (-1), V.int 1000000000000, V.int 1000000000001, V.int (-1000000000000), V.int (-1000000000001), V.int 1000000000000000, V.int 1000000000000001, V.int (-1000000000000000), V.int (-1000000000000001), V.str (Str.ofString ""), V.str (Str.ofString "a"), V.str (Str.ofString "A"), V.str (Str.ofString "a1"), V.str (Str.ofString "a b"), V.str (Str.ofString "abcdefghijklm"), V.ref q2, V.ref q3, V.ref q4, V.str (Str.ofString "a\n"), V.ref q5, V.ref q8, V.ref q9, V.ref q10, V.ref q11, V.ref q12, V.ref q13, V.ref q14, V.ref q15, V.ref q17]) = H19 at s19 g19 e19 ⊢
    refine ⟨g19.st, fun v H20 v0 v1 g20 => ?_⟩
    have gg := g19.trans g20
    have e20 := g20.but _ _ e19 nn19
    (try simp only [cxOf, Cx.nox, Cx.wish, tSeq, tAsg, tC, gName, tIfS, tTest, tOp, tUn, rU, rI0, rI, tVar, tNext, tRevT, tDNewK, tBreak, tChain, iStr, tRet, tRetN, tDrop, tLst, tTup, tCons, tNil, tCB, tB, tOr, tAnd, tNot, tIf, tCall, tFor_eq, tLc_eq, iRng1, iRng2, iList, iTup, gTup, gTupH, gUnlH, gCons, gNil, gSub, rSetL, rIxL, rIxT, rIxLH, rIxTH, rSlTS, rCatS, rTupS, rIsiH, rLenS, V.ty.injEq, tyS_non, tyS_bl, tyS_int, tyS_str, tyS_ref, tyO_l, tyO_t, tyO_d, tyO_dt, kit_ll, kit_tt, kit_bb, kit_ii, kit_ib, kit_bi, kit_nt, kit_it, kit_st, kit_bt, kit_lt, kit_dt, kit_ni, kit_si, kit_ti, kit_li, kit_di, kit_nb, kit_ns, kit_is, kit_bs, kit_ss, kit_ts, kit_ls, kit_ds, kit_dd, lenS_ref, lenO_l, lenO_t,  rAppend, tM1, rIxS, tSl, tPart, tNoPart, tBM, tBM0, tDGetS, sDPutS, tTruS, truO_l, truO_t, truS_ref, truS_non, truS_bl, truS_int, tFld, sFld, sFldAug, rAdd, tMeth, tProp, tMake, tMakeK, List.take_succ_cons, List.take_zero, List.drop_succ_cons, List.drop_zero, List.take_nil, tIsN, tNotN, tAndV, tOrV, tNotV, putF, List.lookup, List.any_cons, List.any_nil, Sum.inr.injEq, HO.ins.injEq, HO.dK.injEq, eq_self, beq_self_eq_true, beq_iff_eq, decide_true, decide_false, Bool.or_true, Bool.true_or, Bool.or_false, Bool.false_or, tYes, rEq, rNe, _root_.L2.start, wipe, List.map_cons, List.map_nil, List.length_cons, List.length_nil, List.append_nil, Nat.reduceAdd, Nat.reduceSub, List.replicate_succ, List.replicate_zero, List.cons_append, List.nil_append, List.getElem?_cons_zero, List.getElem?_cons_succ, List.set_cons_zero, List.set_cons_succ, Option.some.injEq, V.int.injEq, V.ref.injEq, V.bl.injEq, V.str.injEq, List.cons.injEq, HO.lst.injEq, HO.tup.injEq, and_assoc, and_true, true_and, exists_eq_left, exists_eq_left', exists_and_left, exists_eq, reduceCtorEq, false_and, and_false, or_false, false_or, exists_false, decide_eq_true_eq, CPow, CDivW, Int.reducePow, Int.reduceLT, Int.reduceLE, Int.reduceNeg, Int.reduceToNat, Int.reduceAbs, Nat.reducePow, Nat.reduceLT, Nat.reduceLeDiff, sizeLine_eq, Int.reduceMul, Int.reduceAdd, Int.reduceSub, Bool.not_eq_true', decide_eq_false_iff_not, scal, Bool.not_true, Bool.not_false, Bool.true_eq_false, Bool.false_eq_true, ite_false, ite_true, if_true, if_false, ite_self, forall_const, atI0, atI1, atI2, atI3, ixN20, ixN21, upd_same, upd_upd, Int.zero_add, CMul, Int.reduceSub, Nat.le_refl, Nat.zero_le, or_true, true_or, exists_const, Int.sub_zero, e20])
    obtain ⟨x, hx, hm⟩ := atI_mem (xs := [V.non, V.bl true, V.bl false, V.int 0, V.int 1, V.int (-1), V.int 1000000000000, V.int 1000000000001, V.int (-1000000000000), V.int (-1000000000001), V.int 1000000000000000, V.int 1000000000000001, V.int (-1000000000000000), V.int (-1000000000000001), V.str (Str.ofString ""), V.str (Str.ofString "a"), V.str (Str.ofString "A"), V.str (Str.ofString "a1"), V.str (Str.ofString "a b"), V.str (Str.ofString "abcdefghijklm"), V.ref q2, V.ref q3, V.ref q4, V.str (Str.ofString "a\n"), V.ref q5, V.ref q8, V.ref q9, V.ref q10, V.ref q11, V.ref q12, V.ref q13, V.ref q14, V.ref q15, V.ref q17]) v0 (by simpa using v1)
    refine ⟨x, hx, ?_⟩
    have t19 : Same H19 H19 := Same.refl _
    have t18 := s19.trans t19
    have t17 := s18.trans t18
    have t16 := s17.trans t17
    have t15 := s16.trans t16
    have t14 := s15.trans t15
    have t13 := s14.trans t14
    have t12 := s13.trans t13
    have t11 := s12.trans t12
    have t10 := s11.trans t11
    have t9 := s10.trans t10
    have t8 := s9.trans t9
    have t7 := s8.trans t8
    have t6 := s7.trans t7
    have t5 := s6.trans t6
    have t4 := s5.trans t5
    have t3 := s4.trans t4
    have t2 := s3.trans t3
    have all : ∀ x ∈ [V.non, V.bl true, V.bl false, V.int 0, V.int 1, V.int (-1), V.int 1000000000000, V.int 1000000000001, V.int (-1000000000000), V.int (-1000000000001), V.int 1000000000000000, V.int 1000000000000001, V.int (-1000000000000000), V.int (-1000000000000001), V.str (Str.ofString ""), V.str (Str.ofString "a"), V.str (Str.ofString "A"), V.str (Str.ofString "a1"), V.str (Str.ofString "a b"), V.str (Str.ofString "abcdefghijklm"), V.ref q2, V.ref q3, V.ref q4, V.str (Str.ofString "a\n"), V.ref q5, V.ref q8, V.ref q9, V.ref q10, V.ref q11, V.ref q12, V.ref q13, V.ref q14, V.ref q15, V.ref q17], ∃ d, Ob p H20 d x ∧ okT d = true ∧ small d = true := by
      simp only [List.forall_mem_cons]
      exact ⟨⟨.none, ob_non, by decide +kernel, rfl⟩, ⟨.bool true, ob_bl, by decide +kernel, rfl⟩, ⟨.bool false, ob_bl, by decide +kernel, rfl⟩, ⟨.int 0, ob_int, by decide +kernel, rfl⟩, ⟨.int 1, ob_int, by decide +kernel, rfl⟩, ⟨.int (-1), ob_int, by decide +kernel, rfl⟩, ⟨.int 1000000000000, ob_int, by decide +kernel, rfl⟩, ⟨.int 1000000000001, ob_int, by decide +kernel, rfl⟩, ⟨.int (-1000000000000), ob_int, by decide +kernel, rfl⟩, ⟨.int (-1000000000001), ob_int, by decide +kernel, rfl⟩, ⟨.int 1000000000000000, ob_int, by decide +kernel, rfl⟩, ⟨.int 1000000000000001, ob_int, by decide +kernel, rfl⟩, ⟨.int (-1000000000000000), ob_int, by decide +kernel, rfl⟩, ⟨.int (-1000000000000001), ob_int, by decide +kernel, rfl⟩, ⟨.str (Str.ofString ""), ob_str, by decide +kernel, rfl⟩, ⟨.str (Str.ofString "a"), ob_str, by decide +kernel, rfl⟩, ⟨.str (Str.ofString "A"), ob_str, by decide +kernel, rfl⟩, ⟨.str (Str.ofString "a1"), ob_str, by decide +kernel, rfl⟩, ⟨.str (Str.ofString "a b"), ob_str, by decide +kernel, rfl⟩, ⟨.str (Str.ofString "abcdefghijklm"), ob_str, by decide +kernel, rfl⟩, ⟨_, (o2.same t2).gn g20, by decide +kernel, by decide⟩, ⟨_, (o3.same t3).gn g20, by decide +kernel, by decide⟩, ⟨_, (o4.same t4).gn g20, by decide +kernel, by decide⟩, ⟨.str (Str.ofString "a\n"), ob_str, by decide +kernel, rfl⟩, ⟨_, (o5.same t5).gn g20, by decide +kernel, by decide⟩, ⟨_, (o8.same t8).gn g20, by decide +kernel, by decide⟩, ⟨_, (o9.same t9).gn g20, by decide +kernel, by decide⟩, ⟨_, (o10.same t10).gn g20, by decide +kernel, by decide⟩, ⟨_, (o11.same t11).gn g20, by decide +kernel, by decide⟩, ⟨_, (o12.same t12).gn g20, by decide +kernel, by decide⟩, ⟨_, (o13.same t13).gn g20, by decide +kernel, by decide⟩, ⟨_, (o14.same t14).gn g20, by decide +kernel, by decide⟩, ⟨_, (o15.same t15).gn g20, by decide +kernel, by decide⟩, ⟨_, (o17.same t17).gn g20, by decide +kernel, by decide⟩, fun _ h => by simp at h⟩
    obtain ⟨d, h1, h2, h3⟩ := all x hm
    exact kk x d _ h1 h2 h3 gg
def sp_is_key : Sp := fun vs H Q _ => ∃ (s : Addr) (d : PyData) (v : V), vs = [v] ∧ Ob s H d v ∧ okT d = true ∧ Q (.bl (keyJ d)) H
theorem ok_is_key (T : Txt K mg) : FnOk P w K mg base CX0 3 T.f_is_key T.d_is_key ["thing"] (sp_is_key) := by
  refine Fun.ok T.F_is_key sc_is_key (fun vs H Q E h => ?_) (fun cdv A outer s H vs Q E hr h => ?_)
  · obtain ⟨s, d, v, rfl, ov, hok, kk⟩ := h; rfl
  · obtain ⟨s, d, v, rfl, ov, hok, kk⟩ := h
    have hu := hu_of hr
    refine ⟨_, (pss_one (ps_ret (pe_and (pe_call (ok_is_pair T) (hr.mono (by decide)) rfl T.g_is_pair T.F_is_pair.kp T.b_is_pair .nil pass0 (pa_cons (pv 0) pa_nil)) (pe_and (pe_call (ok_is_number T) (hr.mono (by decide)) rfl T.g_is_number T.F_is_number.kp T.b_is_number .nil pass0 (pa_cons (pe_ix ix_tupH (pv 0) pe_int (fun _ _ => rfl)) pa_nil)) (pe_one (pe_call (ok_is_name T) (hr.mono (by decide)) rfl T.g_is_name T.F_is_name.kp T.b_is_name .nil pass0 (pa_cons (pe_ix ix_tupH (pv 0) pe_int (fun _ _ => rfl)) pa_nil))))))), ?_⟩
    (try simp only [cxOf, Cx.nox, Cx.wish, tSeq, tAsg, tC, gName, tIfS, tTest, tOp, tUn, rU, rI0, rI, tVar, tNext, tRevT, tDNewK, tBreak, tChain, iStr, tRet, tRetN, tDrop, tLst, tTup, tCons, tNil, tCB, tB, tOr, tAnd, tNot, tIf, tCall, tFor_eq, tLc_eq, iRng1, iRng2, iList, iTup, gTup, gTupH, gUnlH, gCons, gNil, gSub, rSetL, rIxL, rIxT, rIxLH, rIxTH, rSlTS, rCatS, rTupS, rIsiH, rLenS, V.ty.injEq, tyS_non, tyS_bl, tyS_int, tyS_str, tyS_ref, tyO_l, tyO_t, tyO_d, tyO_dt, kit_ll, kit_tt, kit_bb, kit_ii, kit_ib, kit_bi, kit_nt, kit_it, kit_st, kit_bt, kit_lt, kit_dt, kit_ni, kit_si, kit_ti, kit_li, kit_di, kit_nb, kit_ns, kit_is, kit_bs, kit_ss, kit_ts, kit_ls, kit_ds, kit_dd, lenS_ref, lenO_l, lenO_t,  rAppend, tM1, rIxS, tSl, tPart, tNoPart, tBM, tBM0, tDGetS, sDPutS, tTruS, truO_l, truO_t, truS_ref, truS_non, truS_bl, truS_int, tFld, sFld, sFldAug, rAdd, tMeth, tProp, tMake, tMakeK, List.take_succ_cons, List.take_zero, List.drop_succ_cons, List.drop_zero, List.take_nil, tIsN, tNotN, tAndV, tOrV, tNotV, putF, List.lookup, List.any_cons, List.any_nil, Sum.inr.injEq, HO.ins.injEq, HO.dK.injEq, eq_self, beq_self_eq_true, beq_iff_eq, decide_true, decide_false, Bool.or_true, Bool.true_or, Bool.or_false, Bool.false_or, tYes, rEq, rNe, _root_.L2.start, wipe, List.map_cons, List.map_nil, List.length_cons, List.length_nil, List.append_nil, Nat.reduceAdd, Nat.reduceSub, List.replicate_succ, List.replicate_zero, List.cons_append, List.nil_append, List.getElem?_cons_zero, List.getElem?_cons_succ, List.set_cons_zero, List.set_cons_succ, Option.some.injEq, V.int.injEq, V.ref.injEq, V.bl.injEq, V.str.injEq, List.cons.injEq, HO.lst.injEq, HO.tup.injEq, and_assoc, and_true, true_and, exists_eq_left, exists_eq_left', exists_and_left, exists_eq, reduceCtorEq, false_and, and_false, or_false, false_or, exists_false, decide_eq_true_eq, CPow, CDivW, Int.reducePow, Int.reduceLT, Int.reduceLE, Int.reduceNeg, Int.reduceToNat, Int.reduceAbs, Nat.reducePow, Nat.reduceLT, Nat.reduceLeDiff, sizeLine_eq, Int.reduceMul, Int.reduceAdd, Int.reduceSub, Bool.not_eq_true', decide_eq_false_iff_not, scal, Bool.not_true, Bool.not_false, Bool.true_eq_false, Bool.false_eq_true, ite_false, ite_true, if_true, if_false, ite_self, forall_const, atI0, atI1, atI2, atI3, ixN20, ixN21, upd_same, upd_upd, Int.zero_add, CMul, Int.reduceSub, Nat.le_refl, Nat.zero_le, or_true, true_or, exists_const, Int.sub_zero, sp_is_pair])
    refine ⟨s, d, ov, ?_⟩
    cases d with
    | tuple ds =>
      rcases two_or ds with ⟨a, b, rfl⟩ | hn
      · obtain ⟨q, xs, rfl, hq, hx⟩ := ov.tup
        obtain ⟨x, y, rfl, ox, oy⟩ := obs2 hx
        obtain ⟨ka, kb⟩ := okT2 hok
        simp only [isPair, List.length_cons, List.length_nil]
        (try simp only [cxOf, Cx.nox, Cx.wish, tSeq, tAsg, tC, gName, tIfS, tTest, tOp, tUn, rU, rI0, rI, tVar, tNext, tRevT, tDNewK, tBreak, tChain, iStr, tRet, tRetN, tDrop, tLst, tTup, tCons, tNil, tCB, tB, tOr, tAnd, tNot, tIf, tCall, tFor_eq, tLc_eq, iRng1, iRng2, iList, iTup, gTup, gTupH, gUnlH, gCons, gNil, gSub, rSetL, rIxL, rIxT, rIxLH, rIxTH, rSlTS, rCatS, rTupS, rIsiH, rLenS, V.ty.injEq, tyS_non, tyS_bl, tyS_int, tyS_str, tyS_ref, tyO_l, tyO_t, tyO_d, tyO_dt, kit_ll, kit_tt, kit_bb, kit_ii, kit_ib, kit_bi, kit_nt, kit_it, kit_st, kit_bt, kit_lt, kit_dt, kit_ni, kit_si, kit_ti, kit_li, kit_di, kit_nb, kit_ns, kit_is, kit_bs, kit_ss, kit_ts, kit_ls, kit_ds, kit_dd, lenS_ref, lenO_l, lenO_t,  rAppend, tM1, rIxS, tSl, tPart, tNoPart, tBM, tBM0, tDGetS, sDPutS, tTruS, truO_l, truO_t, truS_ref, truS_non, truS_bl, truS_int, tFld, sFld, sFldAug, rAdd, tMeth, tProp, tMake, tMakeK, List.take_succ_cons, List.take_zero, List.drop_succ_cons, List.drop_zero, List.take_nil, tIsN, tNotN, tAndV, tOrV, tNotV, putF, List.lookup, List.any_cons, List.any_nil, Sum.inr.injEq, HO.ins.injEq, HO.dK.injEq, eq_self, beq_self_eq_true, beq_iff_eq, decide_true, decide_false, Bool.or_true, Bool.true_or, Bool.or_false, Bool.false_or, tYes, rEq, rNe, _root_.L2.start, wipe, List.map_cons, List.map_nil, List.length_cons, List.length_nil, List.append_nil, Nat.reduceAdd, Nat.reduceSub, List.replicate_succ, List.replicate_zero, List.cons_append, List.nil_append, List.getElem?_cons_zero, List.getElem?_cons_succ, List.set_cons_zero, List.set_cons_succ, Option.some.injEq, V.int.injEq, V.ref.injEq, V.bl.injEq, V.str.injEq, List.cons.injEq, HO.lst.injEq, HO.tup.injEq, and_assoc, and_true, true_and, exists_eq_left, exists_eq_left', exists_and_left, exists_eq, reduceCtorEq, false_and, and_false, or_false, false_or, exists_false, decide_eq_true_eq, CPow, CDivW, Int.reducePow, Int.reduceLT, Int.reduceLE, Int.reduceNeg, Int.reduceToNat, Int.reduceAbs, Nat.reducePow, Nat.reduceLT, Nat.reduceLeDiff, sizeLine_eq, Int.reduceMul, Int.reduceAdd, Int.reduceSub, Bool.not_eq_true', decide_eq_false_iff_not, scal, Bool.not_true, Bool.not_false, Bool.true_eq_false, Bool.false_eq_true, ite_false, ite_true, if_true, if_false, ite_self, forall_const, atI0, atI1, atI2, atI3, ixN20, ixN21, upd_same, upd_upd, Int.zero_add, CMul, Int.reduceSub, Nat.le_refl, Nat.zero_le, or_true, true_or, exists_const, Int.sub_zero, hq, sp_is_number, sp_is_name])
        simp only [keyJ] at kk
        refine ⟨s, a, ox, ?_⟩
        cases hA : numD 0 1000000000000 a with
        | false => rw [hA] at kk; simp only [Bool.false_and] at kk; (try simp only [cxOf, Cx.nox, Cx.wish, tSeq, tAsg, tC, gName, tIfS, tTest, tOp, tUn, rU, rI0, rI, tVar, tNext, tRevT, tDNewK, tBreak, tChain, iStr, tRet, tRetN, tDrop, tLst, tTup, tCons, tNil, tCB, tB, tOr, tAnd, tNot, tIf, tCall, tFor_eq, tLc_eq, iRng1, iRng2, iList, iTup, gTup, gTupH, gUnlH, gCons, gNil, gSub, rSetL, rIxL, rIxT, rIxLH, rIxTH, rSlTS, rCatS, rTupS, rIsiH, rLenS, V.ty.injEq, tyS_non, tyS_bl, tyS_int, tyS_str, tyS_ref, tyO_l, tyO_t, tyO_d, tyO_dt, kit_ll, kit_tt, kit_bb, kit_ii, kit_ib, kit_bi, kit_nt, kit_it, kit_st, kit_bt, kit_lt, kit_dt, kit_ni, kit_si, kit_ti, kit_li, kit_di, kit_nb, kit_ns, kit_is, kit_bs, kit_ss, kit_ts, kit_ls, kit_ds, kit_dd, lenS_ref, lenO_l, lenO_t,  rAppend, tM1, rIxS, tSl, tPart, tNoPart, tBM, tBM0, tDGetS, sDPutS, tTruS, truO_l, truO_t, truS_ref, truS_non, truS_bl, truS_int, tFld, sFld, sFldAug, rAdd, tMeth, tProp, tMake, tMakeK, List.take_succ_cons, List.take_zero, List.drop_succ_cons, List.drop_zero, List.take_nil, tIsN, tNotN, tAndV, tOrV, tNotV, putF, List.lookup, List.any_cons, List.any_nil, Sum.inr.injEq, HO.ins.injEq, HO.dK.injEq, eq_self, beq_self_eq_true, beq_iff_eq, decide_true, decide_false, Bool.or_true, Bool.true_or, Bool.or_false, Bool.false_or, tYes, rEq, rNe, _root_.L2.start, wipe, List.map_cons, List.map_nil, List.length_cons, List.length_nil, List.append_nil, Nat.reduceAdd, Nat.reduceSub, List.replicate_succ, List.replicate_zero, List.cons_append, List.nil_append, List.getElem?_cons_zero, List.getElem?_cons_succ, List.set_cons_zero, List.set_cons_succ, Option.some.injEq, V.int.injEq, V.ref.injEq, V.bl.injEq, V.str.injEq, List.cons.injEq, HO.lst.injEq, HO.tup.injEq, and_assoc, and_true, true_and, exists_eq_left, exists_eq_left', exists_and_left, exists_eq, reduceCtorEq, false_and, and_false, or_false, false_or, exists_false, decide_eq_true_eq, CPow, CDivW, Int.reducePow, Int.reduceLT, Int.reduceLE, Int.reduceNeg, Int.reduceToNat, Int.reduceAbs, Nat.reducePow, Nat.reduceLT, Nat.reduceLeDiff, sizeLine_eq, Int.reduceMul, Int.reduceAdd, Int.reduceSub, Bool.not_eq_true', decide_eq_false_iff_not, scal, Bool.not_true, Bool.not_false, Bool.true_eq_false, Bool.false_eq_true, ite_false, ite_true, if_true, if_false, ite_self, forall_const, atI0, atI1, atI2, atI3, ixN20, ixN21, upd_same, upd_upd, Int.zero_add, CMul, Int.reduceSub, Nat.le_refl, Nat.zero_le, or_true, true_or, exists_const, Int.sub_zero]); exact kk
        | true => rw [hA] at kk; simp only [Bool.true_and] at kk; (try simp only [cxOf, Cx.nox, Cx.wish, tSeq, tAsg, tC, gName, tIfS, tTest, tOp, tUn, rU, rI0, rI, tVar, tNext, tRevT, tDNewK, tBreak, tChain, iStr, tRet, tRetN, tDrop, tLst, tTup, tCons, tNil, tCB, tB, tOr, tAnd, tNot, tIf, tCall, tFor_eq, tLc_eq, iRng1, iRng2, iList, iTup, gTup, gTupH, gUnlH, gCons, gNil, gSub, rSetL, rIxL, rIxT, rIxLH, rIxTH, rSlTS, rCatS, rTupS, rIsiH, rLenS, V.ty.injEq, tyS_non, tyS_bl, tyS_int, tyS_str, tyS_ref, tyO_l, tyO_t, tyO_d, tyO_dt, kit_ll, kit_tt, kit_bb, kit_ii, kit_ib, kit_bi, kit_nt, kit_it, kit_st, kit_bt, kit_lt, kit_dt, kit_ni, kit_si, kit_ti, kit_li, kit_di, kit_nb, kit_ns, kit_is, kit_bs, kit_ss, kit_ts, kit_ls, kit_ds, kit_dd, lenS_ref, lenO_l, lenO_t,  rAppend, tM1, rIxS, tSl, tPart, tNoPart, tBM, tBM0, tDGetS, sDPutS, tTruS, truO_l, truO_t, truS_ref, truS_non, truS_bl, truS_int, tFld, sFld, sFldAug, rAdd, tMeth, tProp, tMake, tMakeK, List.take_succ_cons, List.take_zero, List.drop_succ_cons, List.drop_zero, List.take_nil, tIsN, tNotN, tAndV, tOrV, tNotV, putF, List.lookup, List.any_cons, List.any_nil, Sum.inr.injEq, HO.ins.injEq, HO.dK.injEq, eq_self, beq_self_eq_true, beq_iff_eq, decide_true, decide_false, Bool.or_true, Bool.true_or, Bool.or_false, Bool.false_or, tYes, rEq, rNe, _root_.L2.start, wipe, List.map_cons, List.map_nil, List.length_cons, List.length_nil, List.append_nil, Nat.reduceAdd, Nat.reduceSub, List.replicate_succ, List.replicate_zero, List.cons_append, List.nil_append, List.getElem?_cons_zero, List.getElem?_cons_succ, List.set_cons_zero, List.set_cons_succ, Option.some.injEq, V.int.injEq, V.ref.injEq, V.bl.injEq, V.str.injEq, List.cons.injEq, HO.lst.injEq, HO.tup.injEq, and_assoc, and_true, true_and, exists_eq_left, exists_eq_left', exists_and_left, exists_eq, reduceCtorEq, false_and, and_false, or_false, false_or, exists_false, decide_eq_true_eq, CPow, CDivW, Int.reducePow, Int.reduceLT, Int.reduceLE, Int.reduceNeg, Int.reduceToNat, Int.reduceAbs, Nat.reducePow, Nat.reduceLT, Nat.reduceLeDiff, sizeLine_eq, Int.reduceMul, Int.reduceAdd, Int.reduceSub, Bool.not_eq_true', decide_eq_false_iff_not, scal, Bool.not_true, Bool.not_false, Bool.true_eq_false, Bool.false_eq_true, ite_false, ite_true, if_true, if_false, ite_self, forall_const, atI0, atI1, atI2, atI3, ixN20, ixN21, upd_same, upd_upd, Int.zero_add, CMul, Int.reduceSub, Nat.le_refl, Nat.zero_le, or_true, true_or, exists_const, Int.sub_zero]); exact ⟨s, b, oy, kb, kk⟩
      · rw [keyJ_no hn] at kk
        simp only [isPair, decide_eq_false hn]
        (try simp only [cxOf, Cx.nox, Cx.wish, tSeq, tAsg, tC, gName, tIfS, tTest, tOp, tUn, rU, rI0, rI, tVar, tNext, tRevT, tDNewK, tBreak, tChain, iStr, tRet, tRetN, tDrop, tLst, tTup, tCons, tNil, tCB, tB, tOr, tAnd, tNot, tIf, tCall, tFor_eq, tLc_eq, iRng1, iRng2, iList, iTup, gTup, gTupH, gUnlH, gCons, gNil, gSub, rSetL, rIxL, rIxT, rIxLH, rIxTH, rSlTS, rCatS, rTupS, rIsiH, rLenS, V.ty.injEq, tyS_non, tyS_bl, tyS_int, tyS_str, tyS_ref, tyO_l, tyO_t, tyO_d, tyO_dt, kit_ll, kit_tt, kit_bb, kit_ii, kit_ib, kit_bi, kit_nt, kit_it, kit_st, kit_bt, kit_lt, kit_dt, kit_ni, kit_si, kit_ti, kit_li, kit_di, kit_nb, kit_ns, kit_is, kit_bs, kit_ss, kit_ts, kit_ls, kit_ds, kit_dd, lenS_ref, lenO_l, lenO_t,  rAppend, tM1, rIxS, tSl, tPart, tNoPart, tBM, tBM0, tDGetS, sDPutS, tTruS, truO_l, truO_t, truS_ref, truS_non, truS_bl, truS_int, tFld, sFld, sFldAug, rAdd, tMeth, tProp, tMake, tMakeK, List.take_succ_cons, List.take_zero, List.drop_succ_cons, List.drop_zero, List.take_nil, tIsN, tNotN, tAndV, tOrV, tNotV, putF, List.lookup, List.any_cons, List.any_nil, Sum.inr.injEq, HO.ins.injEq, HO.dK.injEq, eq_self, beq_self_eq_true, beq_iff_eq, decide_true, decide_false, Bool.or_true, Bool.true_or, Bool.or_false, Bool.false_or, tYes, rEq, rNe, _root_.L2.start, wipe, List.map_cons, List.map_nil, List.length_cons, List.length_nil, List.append_nil, Nat.reduceAdd, Nat.reduceSub, List.replicate_succ, List.replicate_zero, List.cons_append, List.nil_append, List.getElem?_cons_zero, List.getElem?_cons_succ, List.set_cons_zero, List.set_cons_succ, Option.some.injEq, V.int.injEq, V.ref.injEq, V.bl.injEq, V.str.injEq, List.cons.injEq, HO.lst.injEq, HO.tup.injEq, and_assoc, and_true, true_and, exists_eq_left, exists_eq_left', exists_and_left, exists_eq, reduceCtorEq, false_and, and_false, or_false, false_or, exists_false, decide_eq_true_eq, CPow, CDivW, Int.reducePow, Int.reduceLT, Int.reduceLE, Int.reduceNeg, Int.reduceToNat, Int.reduceAbs, Nat.reducePow, Nat.reduceLT, Nat.reduceLeDiff, sizeLine_eq, Int.reduceMul, Int.reduceAdd, Int.reduceSub, Bool.not_eq_true', decide_eq_false_iff_not, scal, Bool.not_true, Bool.not_false, Bool.true_eq_false, Bool.false_eq_true, ite_false, ite_true, if_true, if_false, ite_self, forall_const, atI0, atI1, atI2, atI3, ixN20, ixN21, upd_same, upd_upd, Int.zero_add, CMul, Int.reduceSub, Nat.le_refl, Nat.zero_le, or_true, true_or, exists_const, Int.sub_zero])
        exact kk
    | _ => exact kk
def sp_law_integer : Sp := fun vs H Q _ => ∃ (p : Addr), vs = [.ref p] ∧ St2 H p ∧ ∀ (v : Int) (H' : Hp), -1000000000000 ≤ v → v ≤ 1000000000000 → Gn p H H' → Q (.int v) H'
theorem ok_law_integer (T : Txt K mg) : FnOk P w K mg base CX0 3 T.f_law_integer T.d_law_integer ["_law_stream_here"] (sp_law_integer) := by
  refine Fun.ok T.F_law_integer sc_law_integer (fun vs H Q E h => ?_) (fun cdv A outer s H vs Q E hr h => ?_)
  · obtain ⟨p, rfl, hp, kk⟩ := h; rfl
  · obtain ⟨p, rfl, hp, kk⟩ := h
    have hu := hu_of hr
    refine ⟨_, (pss_one (ps_ret (pe_op op_mul (pe_call (ok_law_number T) (hr.mono (by decide)) rfl T.g_law_number T.F_law_number.kp T.b_law_number .nil pass0 (pa_cons (pv 0) pa_nil)) (pe_op op_sub pe_int (pe_op op_mul pe_int (pe_call (ok_law_next T) (hr.mono (by decide)) rfl T.g_law_next T.F_law_next.kp T.b_law_next .nil pass0 (pa_cons (pv 0) (pa_cons pe_int pa_nil)))))))), ?_⟩
    (try simp only [cxOf, Cx.nox, Cx.wish, tSeq, tAsg, tC, gName, tIfS, tTest, tOp, tUn, rU, rI0, rI, tVar, tNext, tRevT, tDNewK, tBreak, tChain, iStr, tRet, tRetN, tDrop, tLst, tTup, tCons, tNil, tCB, tB, tOr, tAnd, tNot, tIf, tCall, tFor_eq, tLc_eq, iRng1, iRng2, iList, iTup, gTup, gTupH, gUnlH, gCons, gNil, gSub, rSetL, rIxL, rIxT, rIxLH, rIxTH, rSlTS, rCatS, rTupS, rIsiH, rLenS, V.ty.injEq, tyS_non, tyS_bl, tyS_int, tyS_str, tyS_ref, tyO_l, tyO_t, tyO_d, tyO_dt, kit_ll, kit_tt, kit_bb, kit_ii, kit_ib, kit_bi, kit_nt, kit_it, kit_st, kit_bt, kit_lt, kit_dt, kit_ni, kit_si, kit_ti, kit_li, kit_di, kit_nb, kit_ns, kit_is, kit_bs, kit_ss, kit_ts, kit_ls, kit_ds, kit_dd, lenS_ref, lenO_l, lenO_t,  rAppend, tM1, rIxS, tSl, tPart, tNoPart, tBM, tBM0, tDGetS, sDPutS, tTruS, truO_l, truO_t, truS_ref, truS_non, truS_bl, truS_int, tFld, sFld, sFldAug, rAdd, tMeth, tProp, tMake, tMakeK, List.take_succ_cons, List.take_zero, List.drop_succ_cons, List.drop_zero, List.take_nil, tIsN, tNotN, tAndV, tOrV, tNotV, putF, List.lookup, List.any_cons, List.any_nil, Sum.inr.injEq, HO.ins.injEq, HO.dK.injEq, eq_self, beq_self_eq_true, beq_iff_eq, decide_true, decide_false, Bool.or_true, Bool.true_or, Bool.or_false, Bool.false_or, tYes, rEq, rNe, _root_.L2.start, wipe, List.map_cons, List.map_nil, List.length_cons, List.length_nil, List.append_nil, Nat.reduceAdd, Nat.reduceSub, List.replicate_succ, List.replicate_zero, List.cons_append, List.nil_append, List.getElem?_cons_zero, List.getElem?_cons_succ, List.set_cons_zero, List.set_cons_succ, Option.some.injEq, V.int.injEq, V.ref.injEq, V.bl.injEq, V.str.injEq, List.cons.injEq, HO.lst.injEq, HO.tup.injEq, and_assoc, and_true, true_and, exists_eq_left, exists_eq_left', exists_and_left, exists_eq, reduceCtorEq, false_and, and_false, or_false, false_or, exists_false, decide_eq_true_eq, CPow, CDivW, Int.reducePow, Int.reduceLT, Int.reduceLE, Int.reduceNeg, Int.reduceToNat, Int.reduceAbs, Nat.reducePow, Nat.reduceLT, Nat.reduceLeDiff, sizeLine_eq, Int.reduceMul, Int.reduceAdd, Int.reduceSub, Bool.not_eq_true', decide_eq_false_iff_not, scal, Bool.not_true, Bool.not_false, Bool.true_eq_false, Bool.false_eq_true, ite_false, ite_true, if_true, if_false, ite_self, forall_const, atI0, atI1, atI2, atI3, ixN20, ixN21, upd_same, upd_upd, Int.zero_add, CMul, Int.reduceSub, Nat.le_refl, Nat.zero_le, or_true, true_or, exists_const, Int.sub_zero, sp_law_next, sp_law_number])
    refine ⟨hp, fun v H1 h0 h1 g1 => ⟨g1.st, fun u H2 i0 i1 g2 => ?_⟩⟩
    have e : u = 0 ∨ u = 1 := by omega
    rcases e with rfl | rfl
    · exact ⟨.inl ⟨by omega, by omega⟩, kk _ _ (by omega) (by omega) (g1.trans g2)⟩
    · exact ⟨.inl ⟨by omega, by omega⟩, kk _ _ (by omega) (by omega) (g1.trans g2)⟩
def sp_law_key : Sp := fun vs H Q _ => ∃ (p : Addr), vs = [.ref p] ∧ St2 H p ∧ ∀ (v : V) (d : PyData) (H' : Hp), KeyD d → Im H' d v → Gn p H H' → Q v H'
theorem ok_law_key (T : Txt K mg) : FnOk P w K mg base CX0 3 T.f_law_key T.d_law_key ["_law_stream_here"] (sp_law_key) := by
  refine Fun.ok T.F_law_key sc_law_key (fun vs H Q E h => ?_) (fun cdv A outer s H vs Q E hr h => ?_)
  · obtain ⟨p, rfl, hp, kk⟩ := h; rfl
  · obtain ⟨p, rfl, hp, kk⟩ := h
    have hu := hu_of hr
    refine ⟨_, (pss_one (ps_ret (pe_tup (pa_cons (pe_call (ok_law_number T) (hr.mono (by decide)) rfl T.g_law_number T.F_law_number.kp T.b_law_number .nil pass0 (pa_cons (pv 0) pa_nil)) (pa_cons (pe_call (ok_law_name T) (hr.mono (by decide)) rfl T.g_law_name T.F_law_name.kp T.b_law_name .nil pass0 (pa_cons (pv 0) pa_nil)) pa_nil))))), ?_⟩
    (try simp only [cxOf, Cx.nox, Cx.wish, tSeq, tAsg, tC, gName, tIfS, tTest, tOp, tUn, rU, rI0, rI, tVar, tNext, tRevT, tDNewK, tBreak, tChain, iStr, tRet, tRetN, tDrop, tLst, tTup, tCons, tNil, tCB, tB, tOr, tAnd, tNot, tIf, tCall, tFor_eq, tLc_eq, iRng1, iRng2, iList, iTup, gTup, gTupH, gUnlH, gCons, gNil, gSub, rSetL, rIxL, rIxT, rIxLH, rIxTH, rSlTS, rCatS, rTupS, rIsiH, rLenS, V.ty.injEq, tyS_non, tyS_bl, tyS_int, tyS_str, tyS_ref, tyO_l, tyO_t, tyO_d, tyO_dt, kit_ll, kit_tt, kit_bb, kit_ii, kit_ib, kit_bi, kit_nt, kit_it, kit_st, kit_bt, kit_lt, kit_dt, kit_ni, kit_si, kit_ti, kit_li, kit_di, kit_nb, kit_ns, kit_is, kit_bs, kit_ss, kit_ts, kit_ls, kit_ds, kit_dd, lenS_ref, lenO_l, lenO_t,  rAppend, tM1, rIxS, tSl, tPart, tNoPart, tBM, tBM0, tDGetS, sDPutS, tTruS, truO_l, truO_t, truS_ref, truS_non, truS_bl, truS_int, tFld, sFld, sFldAug, rAdd, tMeth, tProp, tMake, tMakeK, List.take_succ_cons, List.take_zero, List.drop_succ_cons, List.drop_zero, List.take_nil, tIsN, tNotN, tAndV, tOrV, tNotV, putF, List.lookup, List.any_cons, List.any_nil, Sum.inr.injEq, HO.ins.injEq, HO.dK.injEq, eq_self, beq_self_eq_true, beq_iff_eq, decide_true, decide_false, Bool.or_true, Bool.true_or, Bool.or_false, Bool.false_or, tYes, rEq, rNe, _root_.L2.start, wipe, List.map_cons, List.map_nil, List.length_cons, List.length_nil, List.append_nil, Nat.reduceAdd, Nat.reduceSub, List.replicate_succ, List.replicate_zero, List.cons_append, List.nil_append, List.getElem?_cons_zero, List.getElem?_cons_succ, List.set_cons_zero, List.set_cons_succ, Option.some.injEq, V.int.injEq, V.ref.injEq, V.bl.injEq, V.str.injEq, List.cons.injEq, HO.lst.injEq, HO.tup.injEq, and_assoc, and_true, true_and, exists_eq_left, exists_eq_left', exists_and_left, exists_eq, reduceCtorEq, false_and, and_false, or_false, false_or, exists_false, decide_eq_true_eq, CPow, CDivW, Int.reducePow, Int.reduceLT, Int.reduceLE, Int.reduceNeg, Int.reduceToNat, Int.reduceAbs, Nat.reducePow, Nat.reduceLT, Nat.reduceLeDiff, sizeLine_eq, Int.reduceMul, Int.reduceAdd, Int.reduceSub, Bool.not_eq_true', decide_eq_false_iff_not, scal, Bool.not_true, Bool.not_false, Bool.true_eq_false, Bool.false_eq_true, ite_false, ite_true, if_true, if_false, ite_self, forall_const, atI0, atI1, atI2, atI3, ixN20, ixN21, upd_same, upd_upd, Int.zero_add, CMul, Int.reduceSub, Nat.le_refl, Nat.zero_le, or_true, true_or, exists_const, Int.sub_zero, sp_law_number, sp_law_name])
    refine ⟨hp, fun v H1 h0 h1 g1 => ⟨g1.st, fun x H2 hx g2 q hq => ?_⟩⟩
    exact kk _ _ _ ⟨v, x, rfl, h0, h1, hx⟩ (by walk_at "im") ((g1.trans g2).new hq)
def sp_law_is_step : Sp := fun vs H Q _ => ∃ (s : Addr) (d : PyData) (v : V), vs = [v] ∧ Ob s H d v ∧ okT d = true ∧ ∀ H', Same H H' → Q (.bl (stepJ d)) H'
theorem ok_law_is_step (T : Txt K mg) : FnOk P w K mg base CX0 3 T.f_law_is_step T.d_law_is_step ["_law_thing"] (sp_law_is_step) := by
  refine Fun.ok T.F_law_is_step sc_law_is_step (fun vs H Q E h => ?_) (fun cdv A outer s H vs Q E hr h => ?_)
  · obtain ⟨s, d, v, rfl, ov, hok, kk⟩ := h; rfl
  · obtain ⟨s, d, v, rfl, ov, hok, kk⟩ := h
    have hu := hu_of hr
    refine ⟨_, (pss_cons (ps_if (PW.pt (pw_or (pt_not (pt_val (pe_callB call_isiH (by rfl) T.z_isinstance (by decide +kernel) (pa_cons (pv 0) (pa_cons (pe_bltn (v := .ty "tuple") (by rfl) T.z_tuple (by decide +kernel) rfl) pa_nil))))) (pw_or (pt_cmpR op_lt (pe_callB call_lenS (by rfl) T.z_len (by decide +kernel) (pa_cons (pv 0) pa_nil)) pe_int (nomark _)) (pw_or (pt_not (pt_val (pe_callB call_isiH (by rfl) T.z_isinstance (by decide +kernel) (pa_cons (pe_ix ix_tupH (pv 0) pe_int (fun _ _ => rfl)) (pa_cons (pe_bltn (v := .ty "str") (by rfl) T.z_str (by decide +kernel) rfl) pa_nil))))) (pw_or1 (pt_not (pt_val (pe_call (ok_law_is_key T) (hr.mono (by decide)) rfl T.g_law_is_key T.F_law_is_key.kp T.b_law_is_key .nil pass0 (pa_cons (pe_ix ix_tupH (pv 0) pe_int (fun _ _ => rfl)) pa_nil))))))))) (pss_one (ps_ret pe_bl)) pss_nil)
      (pss_cons (ps_if (PW.pt (pw_or (pt_cmpR (op_eqDK (K := K) rfl hr.units) (pe_ix ix_tupH (pv 0) pe_int (fun _ _ => rfl)) pe_str (nomark _)) (pw_or1 (pt_cmpR (op_eqDK (K := K) rfl hr.units) (pe_ix ix_tupH (pv 0) pe_int (fun _ _ => rfl)) pe_str (nomark _))))) (pss_one (ps_ret (pe_cmpR op_eq (pe_callB call_lenS (by rfl) T.z_len (by decide +kernel) (pa_cons (pv 0) pa_nil)) pe_int (nomark _)))) pss_nil)
      (pss_cons (ps_if (PW.pt (pw_and (pt_cmpR (op_neDK (K := K) rfl hr.units) (pe_ix ix_tupH (pv 0) pe_int (fun _ _ => rfl)) pe_str (nomark _)) (pw_and (pt_cmpR (op_neDK (K := K) rfl hr.units) (pe_ix ix_tupH (pv 0) pe_int (fun _ _ => rfl)) pe_str (nomark _)) (pw_and1 (pt_cmpR (op_neDK (K := K) rfl hr.units) (pe_ix ix_tupH (pv 0) pe_int (fun _ _ => rfl)) pe_str (nomark _)))))) (pss_one (ps_ret pe_bl)) pss_nil)
      (pss_one (ps_ret (pe_and (pe_cmpR op_eq (pe_callB call_lenS (by rfl) T.z_len (by decide +kernel) (pa_cons (pv 0) pa_nil)) pe_int (nomark _)) (pe_one (pe_call (ok_law_is_int T) (hr.mono (by decide)) rfl T.g_law_is_int T.F_law_is_int.kp T.b_law_is_int .nil pass0 (pa_cons (pe_ix ix_tupH (pv 0) pe_int (fun _ _ => rfl)) (pa_cons (pe_un un_neg (pe_op op_pow pe_int pe_int)) (pa_cons (pe_op op_pow pe_int pe_int) pa_nil))))))))))), ?_⟩
    (try simp only [cxOf, Cx.nox, Cx.wish, tSeq, tAsg, tC, gName, tIfS, tTest, tOp, tUn, rU, rI0, rI, tVar, tNext, tRevT, tDNewK, tBreak, tChain, iStr, tRet, tRetN, tDrop, tLst, tTup, tCons, tNil, tCB, tB, tOr, tAnd, tNot, tIf, tCall, tFor_eq, tLc_eq, iRng1, iRng2, iList, iTup, gTup, gTupH, gUnlH, gCons, gNil, gSub, rSetL, rIxL, rIxT, rIxLH, rIxTH, rSlTS, rCatS, rTupS, rIsiH, rLenS, V.ty.injEq, tyS_non, tyS_bl, tyS_int, tyS_str, tyS_ref, tyO_l, tyO_t, tyO_d, tyO_dt, kit_ll, kit_tt, kit_bb, kit_ii, kit_ib, kit_bi, kit_nt, kit_it, kit_st, kit_bt, kit_lt, kit_dt, kit_ni, kit_si, kit_ti, kit_li, kit_di, kit_nb, kit_ns, kit_is, kit_bs, kit_ss, kit_ts, kit_ls, kit_ds, kit_dd, lenS_ref, lenO_l, lenO_t,  rAppend, tM1, rIxS, tSl, tPart, tNoPart, tBM, tBM0, tDGetS, sDPutS, tTruS, truO_l, truO_t, truS_ref, truS_non, truS_bl, truS_int, tFld, sFld, sFldAug, rAdd, tMeth, tProp, tMake, tMakeK, List.take_succ_cons, List.take_zero, List.drop_succ_cons, List.drop_zero, List.take_nil, tIsN, tNotN, tAndV, tOrV, tNotV, putF, List.lookup, List.any_cons, List.any_nil, Sum.inr.injEq, HO.ins.injEq, HO.dK.injEq, eq_self, beq_self_eq_true, beq_iff_eq, decide_true, decide_false, Bool.or_true, Bool.true_or, Bool.or_false, Bool.false_or, tYes, rEq, rNe, _root_.L2.start, wipe, List.map_cons, List.map_nil, List.length_cons, List.length_nil, List.append_nil, Nat.reduceAdd, Nat.reduceSub, List.replicate_succ, List.replicate_zero, List.cons_append, List.nil_append, List.getElem?_cons_zero, List.getElem?_cons_succ, List.set_cons_zero, List.set_cons_succ, Option.some.injEq, V.int.injEq, V.ref.injEq, V.bl.injEq, V.str.injEq, List.cons.injEq, HO.lst.injEq, HO.tup.injEq, and_assoc, and_true, true_and, exists_eq_left, exists_eq_left', exists_and_left, exists_eq, reduceCtorEq, false_and, and_false, or_false, false_or, exists_false, decide_eq_true_eq, CPow, CDivW, Int.reducePow, Int.reduceLT, Int.reduceLE, Int.reduceNeg, Int.reduceToNat, Int.reduceAbs, Nat.reducePow, Nat.reduceLT, Nat.reduceLeDiff, sizeLine_eq, Int.reduceMul, Int.reduceAdd, Int.reduceSub, Bool.not_eq_true', decide_eq_false_iff_not, scal, Bool.not_true, Bool.not_false, Bool.true_eq_false, Bool.false_eq_true, ite_false, ite_true, if_true, if_false, ite_self, forall_const, atI0, atI1, atI2, atI3, ixN20, ixN21, upd_same, upd_upd, Int.zero_add, CMul, Int.reduceSub, Nat.le_refl, Nat.zero_le, or_true, true_or, exists_const, Int.sub_zero, ov.ty])
    cases d with
    | tuple ds =>
      obtain ⟨q, xs, rfl, hq, hx⟩ := ov.tup
      have hl := hx.len
      simp only [dTy]
      rcases steps_or ds with ⟨a, k, rfl⟩ | ⟨a, k, i, rfl⟩ | hf | ⟨a, k, i, j, r, rfl⟩
      · obtain ⟨x, y, rfl, ox, oy⟩ := obs2 hx
        obtain ⟨ka, kb⟩ := okT2 hok
        (try simp only [cxOf, Cx.nox, Cx.wish, tSeq, tAsg, tC, gName, tIfS, tTest, tOp, tUn, rU, rI0, rI, tVar, tNext, tRevT, tDNewK, tBreak, tChain, iStr, tRet, tRetN, tDrop, tLst, tTup, tCons, tNil, tCB, tB, tOr, tAnd, tNot, tIf, tCall, tFor_eq, tLc_eq, iRng1, iRng2, iList, iTup, gTup, gTupH, gUnlH, gCons, gNil, gSub, rSetL, rIxL, rIxT, rIxLH, rIxTH, rSlTS, rCatS, rTupS, rIsiH, rLenS, V.ty.injEq, tyS_non, tyS_bl, tyS_int, tyS_str, tyS_ref, tyO_l, tyO_t, tyO_d, tyO_dt, kit_ll, kit_tt, kit_bb, kit_ii, kit_ib, kit_bi, kit_nt, kit_it, kit_st, kit_bt, kit_lt, kit_dt, kit_ni, kit_si, kit_ti, kit_li, kit_di, kit_nb, kit_ns, kit_is, kit_bs, kit_ss, kit_ts, kit_ls, kit_ds, kit_dd, lenS_ref, lenO_l, lenO_t,  rAppend, tM1, rIxS, tSl, tPart, tNoPart, tBM, tBM0, tDGetS, sDPutS, tTruS, truO_l, truO_t, truS_ref, truS_non, truS_bl, truS_int, tFld, sFld, sFldAug, rAdd, tMeth, tProp, tMake, tMakeK, List.take_succ_cons, List.take_zero, List.drop_succ_cons, List.drop_zero, List.take_nil, tIsN, tNotN, tAndV, tOrV, tNotV, putF, List.lookup, List.any_cons, List.any_nil, Sum.inr.injEq, HO.ins.injEq, HO.dK.injEq, eq_self, beq_self_eq_true, beq_iff_eq, decide_true, decide_false, Bool.or_true, Bool.true_or, Bool.or_false, Bool.false_or, tYes, rEq, rNe, _root_.L2.start, wipe, List.map_cons, List.map_nil, List.length_cons, List.length_nil, List.append_nil, Nat.reduceAdd, Nat.reduceSub, List.replicate_succ, List.replicate_zero, List.cons_append, List.nil_append, List.getElem?_cons_zero, List.getElem?_cons_succ, List.set_cons_zero, List.set_cons_succ, Option.some.injEq, V.int.injEq, V.ref.injEq, V.bl.injEq, V.str.injEq, List.cons.injEq, HO.lst.injEq, HO.tup.injEq, and_assoc, and_true, true_and, exists_eq_left, exists_eq_left', exists_and_left, exists_eq, reduceCtorEq, false_and, and_false, or_false, false_or, exists_false, decide_eq_true_eq, CPow, CDivW, Int.reducePow, Int.reduceLT, Int.reduceLE, Int.reduceNeg, Int.reduceToNat, Int.reduceAbs, Nat.reducePow, Nat.reduceLT, Nat.reduceLeDiff, sizeLine_eq, Int.reduceMul, Int.reduceAdd, Int.reduceSub, Bool.not_eq_true', decide_eq_false_iff_not, scal, Bool.not_true, Bool.not_false, Bool.true_eq_false, Bool.false_eq_true, ite_false, ite_true, if_true, if_false, ite_self, forall_const, atI0, atI1, atI2, atI3, ixN20, ixN21, upd_same, upd_upd, Int.zero_add, CMul, Int.reduceSub, Nat.le_refl, Nat.zero_le, or_true, true_or, exists_const, Int.sub_zero, hq, ox.ty])
        rw [if_neg (by decide)]
        cases a with
        | str w =>
          have := ox.strE
          subst this
          simp only [dTy]
          (try simp only [cxOf, Cx.nox, Cx.wish, tSeq, tAsg, tC, gName, tIfS, tTest, tOp, tUn, rU, rI0, rI, tVar, tNext, tRevT, tDNewK, tBreak, tChain, iStr, tRet, tRetN, tDrop, tLst, tTup, tCons, tNil, tCB, tB, tOr, tAnd, tNot, tIf, tCall, tFor_eq, tLc_eq, iRng1, iRng2, iList, iTup, gTup, gTupH, gUnlH, gCons, gNil, gSub, rSetL, rIxL, rIxT, rIxLH, rIxTH, rSlTS, rCatS, rTupS, rIsiH, rLenS, V.ty.injEq, tyS_non, tyS_bl, tyS_int, tyS_str, tyS_ref, tyO_l, tyO_t, tyO_d, tyO_dt, kit_ll, kit_tt, kit_bb, kit_ii, kit_ib, kit_bi, kit_nt, kit_it, kit_st, kit_bt, kit_lt, kit_dt, kit_ni, kit_si, kit_ti, kit_li, kit_di, kit_nb, kit_ns, kit_is, kit_bs, kit_ss, kit_ts, kit_ls, kit_ds, kit_dd, lenS_ref, lenO_l, lenO_t,  rAppend, tM1, rIxS, tSl, tPart, tNoPart, tBM, tBM0, tDGetS, sDPutS, tTruS, truO_l, truO_t, truS_ref, truS_non, truS_bl, truS_int, tFld, sFld, sFldAug, rAdd, tMeth, tProp, tMake, tMakeK, List.take_succ_cons, List.take_zero, List.drop_succ_cons, List.drop_zero, List.take_nil, tIsN, tNotN, tAndV, tOrV, tNotV, putF, List.lookup, List.any_cons, List.any_nil, Sum.inr.injEq, HO.ins.injEq, HO.dK.injEq, eq_self, beq_self_eq_true, beq_iff_eq, decide_true, decide_false, Bool.or_true, Bool.true_or, Bool.or_false, Bool.false_or, tYes, rEq, rNe, _root_.L2.start, wipe, List.map_cons, List.map_nil, List.length_cons, List.length_nil, List.append_nil, Nat.reduceAdd, Nat.reduceSub, List.replicate_succ, List.replicate_zero, List.cons_append, List.nil_append, List.getElem?_cons_zero, List.getElem?_cons_succ, List.set_cons_zero, List.set_cons_succ, Option.some.injEq, V.int.injEq, V.ref.injEq, V.bl.injEq, V.str.injEq, List.cons.injEq, HO.lst.injEq, HO.tup.injEq, and_assoc, and_true, true_and, exists_eq_left, exists_eq_left', exists_and_left, exists_eq, reduceCtorEq, false_and, and_false, or_false, false_or, exists_false, decide_eq_true_eq, CPow, CDivW, Int.reducePow, Int.reduceLT, Int.reduceLE, Int.reduceNeg, Int.reduceToNat, Int.reduceAbs, Nat.reducePow, Nat.reduceLT, Nat.reduceLeDiff, sizeLine_eq, Int.reduceMul, Int.reduceAdd, Int.reduceSub, Bool.not_eq_true', decide_eq_false_iff_not, scal, Bool.not_true, Bool.not_false, Bool.true_eq_false, Bool.false_eq_true, ite_false, ite_true, if_true, if_false, ite_self, forall_const, atI0, atI1, atI2, atI3, ixN20, ixN21, upd_same, upd_upd, Int.zero_add, CMul, Int.reduceSub, Nat.le_refl, Nat.zero_le, or_true, true_or, exists_const, Int.sub_zero, sp_law_is_key])
          refine ⟨s, k, oy, kb, fun H1 s1 => ?_⟩
          have hq1 := s1 _ _ hq
          simp only [stepJ, isStr, Bool.true_and] at kk
          cases hK : keyJ k with
          | false => rw [hK] at kk; simp only [Bool.false_and] at kk; (try simp only [cxOf, Cx.nox, Cx.wish, tSeq, tAsg, tC, gName, tIfS, tTest, tOp, tUn, rU, rI0, rI, tVar, tNext, tRevT, tDNewK, tBreak, tChain, iStr, tRet, tRetN, tDrop, tLst, tTup, tCons, tNil, tCB, tB, tOr, tAnd, tNot, tIf, tCall, tFor_eq, tLc_eq, iRng1, iRng2, iList, iTup, gTup, gTupH, gUnlH, gCons, gNil, gSub, rSetL, rIxL, rIxT, rIxLH, rIxTH, rSlTS, rCatS, rTupS, rIsiH, rLenS, V.ty.injEq, tyS_non, tyS_bl, tyS_int, tyS_str, tyS_ref, tyO_l, tyO_t, tyO_d, tyO_dt, kit_ll, kit_tt, kit_bb, kit_ii, kit_ib, kit_bi, kit_nt, kit_it, kit_st, kit_bt, kit_lt, kit_dt, kit_ni, kit_si, kit_ti, kit_li, kit_di, kit_nb, kit_ns, kit_is, kit_bs, kit_ss, kit_ts, kit_ls, kit_ds, kit_dd, lenS_ref, lenO_l, lenO_t,  rAppend, tM1, rIxS, tSl, tPart, tNoPart, tBM, tBM0, tDGetS, sDPutS, tTruS, truO_l, truO_t, truS_ref, truS_non, truS_bl, truS_int, tFld, sFld, sFldAug, rAdd, tMeth, tProp, tMake, tMakeK, List.take_succ_cons, List.take_zero, List.drop_succ_cons, List.drop_zero, List.take_nil, tIsN, tNotN, tAndV, tOrV, tNotV, putF, List.lookup, List.any_cons, List.any_nil, Sum.inr.injEq, HO.ins.injEq, HO.dK.injEq, eq_self, beq_self_eq_true, beq_iff_eq, decide_true, decide_false, Bool.or_true, Bool.true_or, Bool.or_false, Bool.false_or, tYes, rEq, rNe, _root_.L2.start, wipe, List.map_cons, List.map_nil, List.length_cons, List.length_nil, List.append_nil, Nat.reduceAdd, Nat.reduceSub, List.replicate_succ, List.replicate_zero, List.cons_append, List.nil_append, List.getElem?_cons_zero, List.getElem?_cons_succ, List.set_cons_zero, List.set_cons_succ, Option.some.injEq, V.int.injEq, V.ref.injEq, V.bl.injEq, V.str.injEq, List.cons.injEq, HO.lst.injEq, HO.tup.injEq, and_assoc, and_true, true_and, exists_eq_left, exists_eq_left', exists_and_left, exists_eq, reduceCtorEq, false_and, and_false, or_false, false_or, exists_false, decide_eq_true_eq, CPow, CDivW, Int.reducePow, Int.reduceLT, Int.reduceLE, Int.reduceNeg, Int.reduceToNat, Int.reduceAbs, Nat.reducePow, Nat.reduceLT, Nat.reduceLeDiff, sizeLine_eq, Int.reduceMul, Int.reduceAdd, Int.reduceSub, Bool.not_eq_true', decide_eq_false_iff_not, scal, Bool.not_true, Bool.not_false, Bool.true_eq_false, Bool.false_eq_true, ite_false, ite_true, if_true, if_false, ite_self, forall_const, atI0, atI1, atI2, atI3, ixN20, ixN21, upd_same, upd_upd, Int.zero_add, CMul, Int.reduceSub, Nat.le_refl, Nat.zero_le, or_true, true_or, exists_const, Int.sub_zero]); exact kk _ s1
          | true =>
            rw [hK] at kk; simp only [Bool.true_and] at kk
            (try simp only [cxOf, Cx.nox, Cx.wish, tSeq, tAsg, tC, gName, tIfS, tTest, tOp, tUn, rU, rI0, rI, tVar, tNext, tRevT, tDNewK, tBreak, tChain, iStr, tRet, tRetN, tDrop, tLst, tTup, tCons, tNil, tCB, tB, tOr, tAnd, tNot, tIf, tCall, tFor_eq, tLc_eq, iRng1, iRng2, iList, iTup, gTup, gTupH, gUnlH, gCons, gNil, gSub, rSetL, rIxL, rIxT, rIxLH, rIxTH, rSlTS, rCatS, rTupS, rIsiH, rLenS, V.ty.injEq, tyS_non, tyS_bl, tyS_int, tyS_str, tyS_ref, tyO_l, tyO_t, tyO_d, tyO_dt, kit_ll, kit_tt, kit_bb, kit_ii, kit_ib, kit_bi, kit_nt, kit_it, kit_st, kit_bt, kit_lt, kit_dt, kit_ni, kit_si, kit_ti, kit_li, kit_di, kit_nb, kit_ns, kit_is, kit_bs, kit_ss, kit_ts, kit_ls, kit_ds, kit_dd, lenS_ref, lenO_l, lenO_t,  rAppend, tM1, rIxS, tSl, tPart, tNoPart, tBM, tBM0, tDGetS, sDPutS, tTruS, truO_l, truO_t, truS_ref, truS_non, truS_bl, truS_int, tFld, sFld, sFldAug, rAdd, tMeth, tProp, tMake, tMakeK, List.take_succ_cons, List.take_zero, List.drop_succ_cons, List.drop_zero, List.take_nil, tIsN, tNotN, tAndV, tOrV, tNotV, putF, List.lookup, List.any_cons, List.any_nil, Sum.inr.injEq, HO.ins.injEq, HO.dK.injEq, eq_self, beq_self_eq_true, beq_iff_eq, decide_true, decide_false, Bool.or_true, Bool.true_or, Bool.or_false, Bool.false_or, tYes, rEq, rNe, _root_.L2.start, wipe, List.map_cons, List.map_nil, List.length_cons, List.length_nil, List.append_nil, Nat.reduceAdd, Nat.reduceSub, List.replicate_succ, List.replicate_zero, List.cons_append, List.nil_append, List.getElem?_cons_zero, List.getElem?_cons_succ, List.set_cons_zero, List.set_cons_succ, Option.some.injEq, V.int.injEq, V.ref.injEq, V.bl.injEq, V.str.injEq, List.cons.injEq, HO.lst.injEq, HO.tup.injEq, and_assoc, and_true, true_and, exists_eq_left, exists_eq_left', exists_and_left, exists_eq, reduceCtorEq, false_and, and_false, or_false, false_or, exists_false, decide_eq_true_eq, CPow, CDivW, Int.reducePow, Int.reduceLT, Int.reduceLE, Int.reduceNeg, Int.reduceToNat, Int.reduceAbs, Nat.reducePow, Nat.reduceLT, Nat.reduceLeDiff, sizeLine_eq, Int.reduceMul, Int.reduceAdd, Int.reduceSub, Bool.not_eq_true', decide_eq_false_iff_not, scal, Bool.not_true, Bool.not_false, Bool.true_eq_false, Bool.false_eq_true, ite_false, ite_true, if_true, if_false, ite_self, forall_const, atI0, atI1, atI2, atI3, ixN20, ixN21, upd_same, upd_upd, Int.zero_add, CMul, Int.reduceSub, Nat.le_refl, Nat.zero_le, or_true, true_or, exists_const, Int.sub_zero, hq1, eqD_str ka ok_words.1, eqD_str ka ok_words.2.1, neD_str ka ok_words.2.2.1, neD_str ka ok_words.2.2.2.1, neD_str ka ok_words.2.2.2.2])
            have kk1 := kk _ s1
            simp only [wordA, wordB] at kk1
            by_cases e1 : PyData.str w = .str (Str.ofString "read")
            · rw [if_pos e1]
              simpa [e1] using kk1
            rw [if_neg e1]
            by_cases e2 : PyData.str w = .str (Str.ofString "store")
            · rw [if_pos e2]
              simpa [e2] using kk1
            rw [if_neg e2]
            have kk2 : Q (V.bl false) H1 := by simpa [e1, e2] using kk1
            repeat' split
            all_goals first
              | exact kk2
              | (exfalso; omega)
        | _ => simp only [stepJ, isStr, Bool.false_and] at kk; simp only [dTy]; (try simp only [cxOf, Cx.nox, Cx.wish, tSeq, tAsg, tC, gName, tIfS, tTest, tOp, tUn, rU, rI0, rI, tVar, tNext, tRevT, tDNewK, tBreak, tChain, iStr, tRet, tRetN, tDrop, tLst, tTup, tCons, tNil, tCB, tB, tOr, tAnd, tNot, tIf, tCall, tFor_eq, tLc_eq, iRng1, iRng2, iList, iTup, gTup, gTupH, gUnlH, gCons, gNil, gSub, rSetL, rIxL, rIxT, rIxLH, rIxTH, rSlTS, rCatS, rTupS, rIsiH, rLenS, V.ty.injEq, tyS_non, tyS_bl, tyS_int, tyS_str, tyS_ref, tyO_l, tyO_t, tyO_d, tyO_dt, kit_ll, kit_tt, kit_bb, kit_ii, kit_ib, kit_bi, kit_nt, kit_it, kit_st, kit_bt, kit_lt, kit_dt, kit_ni, kit_si, kit_ti, kit_li, kit_di, kit_nb, kit_ns, kit_is, kit_bs, kit_ss, kit_ts, kit_ls, kit_ds, kit_dd, lenS_ref, lenO_l, lenO_t,  rAppend, tM1, rIxS, tSl, tPart, tNoPart, tBM, tBM0, tDGetS, sDPutS, tTruS, truO_l, truO_t, truS_ref, truS_non, truS_bl, truS_int, tFld, sFld, sFldAug, rAdd, tMeth, tProp, tMake, tMakeK, List.take_succ_cons, List.take_zero, List.drop_succ_cons, List.drop_zero, List.take_nil, tIsN, tNotN, tAndV, tOrV, tNotV, putF, List.lookup, List.any_cons, List.any_nil, Sum.inr.injEq, HO.ins.injEq, HO.dK.injEq, eq_self, beq_self_eq_true, beq_iff_eq, decide_true, decide_false, Bool.or_true, Bool.true_or, Bool.or_false, Bool.false_or, tYes, rEq, rNe, _root_.L2.start, wipe, List.map_cons, List.map_nil, List.length_cons, List.length_nil, List.append_nil, Nat.reduceAdd, Nat.reduceSub, List.replicate_succ, List.replicate_zero, List.cons_append, List.nil_append, List.getElem?_cons_zero, List.getElem?_cons_succ, List.set_cons_zero, List.set_cons_succ, Option.some.injEq, V.int.injEq, V.ref.injEq, V.bl.injEq, V.str.injEq, List.cons.injEq, HO.lst.injEq, HO.tup.injEq, and_assoc, and_true, true_and, exists_eq_left, exists_eq_left', exists_and_left, exists_eq, reduceCtorEq, false_and, and_false, or_false, false_or, exists_false, decide_eq_true_eq, CPow, CDivW, Int.reducePow, Int.reduceLT, Int.reduceLE, Int.reduceNeg, Int.reduceToNat, Int.reduceAbs, Nat.reducePow, Nat.reduceLT, Nat.reduceLeDiff, sizeLine_eq, Int.reduceMul, Int.reduceAdd, Int.reduceSub, Bool.not_eq_true', decide_eq_false_iff_not, scal, Bool.not_true, Bool.not_false, Bool.true_eq_false, Bool.false_eq_true, ite_false, ite_true, if_true, if_false, ite_self, forall_const, atI0, atI1, atI2, atI3, ixN20, ixN21, upd_same, upd_upd, Int.zero_add, CMul, Int.reduceSub, Nat.le_refl, Nat.zero_le, or_true, true_or, exists_const, Int.sub_zero]); exact kk _ (Same.refl _)
      · obtain ⟨x, y, z, rfl, ox, oy, oz⟩ := obs3 hx
        obtain ⟨ka, kb, kc⟩ := okT3 hok
        (try simp only [cxOf, Cx.nox, Cx.wish, tSeq, tAsg, tC, gName, tIfS, tTest, tOp, tUn, rU, rI0, rI, tVar, tNext, tRevT, tDNewK, tBreak, tChain, iStr, tRet, tRetN, tDrop, tLst, tTup, tCons, tNil, tCB, tB, tOr, tAnd, tNot, tIf, tCall, tFor_eq, tLc_eq, iRng1, iRng2, iList, iTup, gTup, gTupH, gUnlH, gCons, gNil, gSub, rSetL, rIxL, rIxT, rIxLH, rIxTH, rSlTS, rCatS, rTupS, rIsiH, rLenS, V.ty.injEq, tyS_non, tyS_bl, tyS_int, tyS_str, tyS_ref, tyO_l, tyO_t, tyO_d, tyO_dt, kit_ll, kit_tt, kit_bb, kit_ii, kit_ib, kit_bi, kit_nt, kit_it, kit_st, kit_bt, kit_lt, kit_dt, kit_ni, kit_si, kit_ti, kit_li, kit_di, kit_nb, kit_ns, kit_is, kit_bs, kit_ss, kit_ts, kit_ls, kit_ds, kit_dd, lenS_ref, lenO_l, lenO_t,  rAppend, tM1, rIxS, tSl, tPart, tNoPart, tBM, tBM0, tDGetS, sDPutS, tTruS, truO_l, truO_t, truS_ref, truS_non, truS_bl, truS_int, tFld, sFld, sFldAug, rAdd, tMeth, tProp, tMake, tMakeK, List.take_succ_cons, List.take_zero, List.drop_succ_cons, List.drop_zero, List.take_nil, tIsN, tNotN, tAndV, tOrV, tNotV, putF, List.lookup, List.any_cons, List.any_nil, Sum.inr.injEq, HO.ins.injEq, HO.dK.injEq, eq_self, beq_self_eq_true, beq_iff_eq, decide_true, decide_false, Bool.or_true, Bool.true_or, Bool.or_false, Bool.false_or, tYes, rEq, rNe, _root_.L2.start, wipe, List.map_cons, List.map_nil, List.length_cons, List.length_nil, List.append_nil, Nat.reduceAdd, Nat.reduceSub, List.replicate_succ, List.replicate_zero, List.cons_append, List.nil_append, List.getElem?_cons_zero, List.getElem?_cons_succ, List.set_cons_zero, List.set_cons_succ, Option.some.injEq, V.int.injEq, V.ref.injEq, V.bl.injEq, V.str.injEq, List.cons.injEq, HO.lst.injEq, HO.tup.injEq, and_assoc, and_true, true_and, exists_eq_left, exists_eq_left', exists_and_left, exists_eq, reduceCtorEq, false_and, and_false, or_false, false_or, exists_false, decide_eq_true_eq, CPow, CDivW, Int.reducePow, Int.reduceLT, Int.reduceLE, Int.reduceNeg, Int.reduceToNat, Int.reduceAbs, Nat.reducePow, Nat.reduceLT, Nat.reduceLeDiff, sizeLine_eq, Int.reduceMul, Int.reduceAdd, Int.reduceSub, Bool.not_eq_true', decide_eq_false_iff_not, scal, Bool.not_true, Bool.not_false, Bool.true_eq_false, Bool.false_eq_true, ite_false, ite_true, if_true, if_false, ite_self, forall_const, atI0, atI1, atI2, atI3, ixN20, ixN21, upd_same, upd_upd, Int.zero_add, CMul, Int.reduceSub, Nat.le_refl, Nat.zero_le, or_true, true_or, exists_const, Int.sub_zero, hq, ox.ty])
        rw [if_neg (by decide)]
        cases a with
        | str w =>
          have := ox.strE
          subst this
          simp only [dTy]
          (try simp only [cxOf, Cx.nox, Cx.wish, tSeq, tAsg, tC, gName, tIfS, tTest, tOp, tUn, rU, rI0, rI, tVar, tNext, tRevT, tDNewK, tBreak, tChain, iStr, tRet, tRetN, tDrop, tLst, tTup, tCons, tNil, tCB, tB, tOr, tAnd, tNot, tIf, tCall, tFor_eq, tLc_eq, iRng1, iRng2, iList, iTup, gTup, gTupH, gUnlH, gCons, gNil, gSub, rSetL, rIxL, rIxT, rIxLH, rIxTH, rSlTS, rCatS, rTupS, rIsiH, rLenS, V.ty.injEq, tyS_non, tyS_bl, tyS_int, tyS_str, tyS_ref, tyO_l, tyO_t, tyO_d, tyO_dt, kit_ll, kit_tt, kit_bb, kit_ii, kit_ib, kit_bi, kit_nt, kit_it, kit_st, kit_bt, kit_lt, kit_dt, kit_ni, kit_si, kit_ti, kit_li, kit_di, kit_nb, kit_ns, kit_is, kit_bs, kit_ss, kit_ts, kit_ls, kit_ds, kit_dd, lenS_ref, lenO_l, lenO_t,  rAppend, tM1, rIxS, tSl, tPart, tNoPart, tBM, tBM0, tDGetS, sDPutS, tTruS, truO_l, truO_t, truS_ref, truS_non, truS_bl, truS_int, tFld, sFld, sFldAug, rAdd, tMeth, tProp, tMake, tMakeK, List.take_succ_cons, List.take_zero, List.drop_succ_cons, List.drop_zero, List.take_nil, tIsN, tNotN, tAndV, tOrV, tNotV, putF, List.lookup, List.any_cons, List.any_nil, Sum.inr.injEq, HO.ins.injEq, HO.dK.injEq, eq_self, beq_self_eq_true, beq_iff_eq, decide_true, decide_false, Bool.or_true, Bool.true_or, Bool.or_false, Bool.false_or, tYes, rEq, rNe, _root_.L2.start, wipe, List.map_cons, List.map_nil, List.length_cons, List.length_nil, List.append_nil, Nat.reduceAdd, Nat.reduceSub, List.replicate_succ, List.replicate_zero, List.cons_append, List.nil_append, List.getElem?_cons_zero, List.getElem?_cons_succ, List.set_cons_zero, List.set_cons_succ, Option.some.injEq, V.int.injEq, V.ref.injEq, V.bl.injEq, V.str.injEq, List.cons.injEq, HO.lst.injEq, HO.tup.injEq, and_assoc, and_true, true_and, exists_eq_left, exists_eq_left', exists_and_left, exists_eq, reduceCtorEq, false_and, and_false, or_false, false_or, exists_false, decide_eq_true_eq, CPow, CDivW, Int.reducePow, Int.reduceLT, Int.reduceLE, Int.reduceNeg, Int.reduceToNat, Int.reduceAbs, Nat.reducePow, Nat.reduceLT, Nat.reduceLeDiff, sizeLine_eq, Int.reduceMul, Int.reduceAdd, Int.reduceSub, Bool.not_eq_true', decide_eq_false_iff_not, scal, Bool.not_true, Bool.not_false, Bool.true_eq_false, Bool.false_eq_true, ite_false, ite_true, if_true, if_false, ite_self, forall_const, atI0, atI1, atI2, atI3, ixN20, ixN21, upd_same, upd_upd, Int.zero_add, CMul, Int.reduceSub, Nat.le_refl, Nat.zero_le, or_true, true_or, exists_const, Int.sub_zero, sp_law_is_key])
          refine ⟨s, k, oy, kb, fun H1 s1 => ?_⟩
          have hq1 := s1 _ _ hq
          simp only [stepJ, isStr, Bool.true_and] at kk
          cases hK : keyJ k with
          | false => rw [hK] at kk; simp only [Bool.false_and] at kk; (try simp only [cxOf, Cx.nox, Cx.wish, tSeq, tAsg, tC, gName, tIfS, tTest, tOp, tUn, rU, rI0, rI, tVar, tNext, tRevT, tDNewK, tBreak, tChain, iStr, tRet, tRetN, tDrop, tLst, tTup, tCons, tNil, tCB, tB, tOr, tAnd, tNot, tIf, tCall, tFor_eq, tLc_eq, iRng1, iRng2, iList, iTup, gTup, gTupH, gUnlH, gCons, gNil, gSub, rSetL, rIxL, rIxT, rIxLH, rIxTH, rSlTS, rCatS, rTupS, rIsiH, rLenS, V.ty.injEq, tyS_non, tyS_bl, tyS_int, tyS_str, tyS_ref, tyO_l, tyO_t, tyO_d, tyO_dt, kit_ll, kit_tt, kit_bb, kit_ii, kit_ib, kit_bi, kit_nt, kit_it, kit_st, kit_bt, kit_lt, kit_dt, kit_ni, kit_si, kit_ti, kit_li, kit_di, kit_nb, kit_ns, kit_is, kit_bs, kit_ss, kit_ts, kit_ls, kit_ds, kit_dd, lenS_ref, lenO_l, lenO_t,  rAppend, tM1, rIxS, tSl, tPart, tNoPart, tBM, tBM0, tDGetS, sDPutS, tTruS, truO_l, truO_t, truS_ref, truS_non, truS_bl, truS_int, tFld, sFld, sFldAug, rAdd, tMeth, tProp, tMake, tMakeK, List.take_succ_cons, List.take_zero, List.drop_succ_cons, List.drop_zero, List.take_nil, tIsN, tNotN, tAndV, tOrV, tNotV, putF, List.lookup, List.any_cons, List.any_nil, Sum.inr.injEq, HO.ins.injEq, HO.dK.injEq, eq_self, beq_self_eq_true, beq_iff_eq, decide_true, decide_false, Bool.or_true, Bool.true_or, Bool.or_false, Bool.false_or, tYes, rEq, rNe, _root_.L2.start, wipe, List.map_cons, List.map_nil, List.length_cons, List.length_nil, List.append_nil, Nat.reduceAdd, Nat.reduceSub, List.replicate_succ, List.replicate_zero, List.cons_append, List.nil_append, List.getElem?_cons_zero, List.getElem?_cons_succ, List.set_cons_zero, List.set_cons_succ, Option.some.injEq, V.int.injEq, V.ref.injEq, V.bl.injEq, V.str.injEq, List.cons.injEq, HO.lst.injEq, HO.tup.injEq, and_assoc, and_true, true_and, exists_eq_left, exists_eq_left', exists_and_left, exists_eq, reduceCtorEq, false_and, and_false, or_false, false_or, exists_false, decide_eq_true_eq, CPow, CDivW, Int.reducePow, Int.reduceLT, Int.reduceLE, Int.reduceNeg, Int.reduceToNat, Int.reduceAbs, Nat.reducePow, Nat.reduceLT, Nat.reduceLeDiff, sizeLine_eq, Int.reduceMul, Int.reduceAdd, Int.reduceSub, Bool.not_eq_true', decide_eq_false_iff_not, scal, Bool.not_true, Bool.not_false, Bool.true_eq_false, Bool.false_eq_true, ite_false, ite_true, if_true, if_false, ite_self, forall_const, atI0, atI1, atI2, atI3, ixN20, ixN21, upd_same, upd_upd, Int.zero_add, CMul, Int.reduceSub, Nat.le_refl, Nat.zero_le, or_true, true_or, exists_const, Int.sub_zero]); exact kk _ s1
          | true =>
            rw [hK] at kk; simp only [Bool.true_and] at kk
            (try simp only [cxOf, Cx.nox, Cx.wish, tSeq, tAsg, tC, gName, tIfS, tTest, tOp, tUn, rU, rI0, rI, tVar, tNext, tRevT, tDNewK, tBreak, tChain, iStr, tRet, tRetN, tDrop, tLst, tTup, tCons, tNil, tCB, tB, tOr, tAnd, tNot, tIf, tCall, tFor_eq, tLc_eq, iRng1, iRng2, iList, iTup, gTup, gTupH, gUnlH, gCons, gNil, gSub, rSetL, rIxL, rIxT, rIxLH, rIxTH, rSlTS, rCatS, rTupS, rIsiH, rLenS, V.ty.injEq, tyS_non, tyS_bl, tyS_int, tyS_str, tyS_ref, tyO_l, tyO_t, tyO_d, tyO_dt, kit_ll, kit_tt, kit_bb, kit_ii, kit_ib, kit_bi, kit_nt, kit_it, kit_st, kit_bt, kit_lt, kit_dt, kit_ni, kit_si, kit_ti, kit_li, kit_di, kit_nb, kit_ns, kit_is, kit_bs, kit_ss, kit_ts, kit_ls, kit_ds, kit_dd, lenS_ref, lenO_l, lenO_t,  rAppend, tM1, rIxS, tSl, tPart, tNoPart, tBM, tBM0, tDGetS, sDPutS, tTruS, truO_l, truO_t, truS_ref, truS_non, truS_bl, truS_int, tFld, sFld, sFldAug, rAdd, tMeth, tProp, tMake, tMakeK, List.take_succ_cons, List.take_zero, List.drop_succ_cons, List.drop_zero, List.take_nil, tIsN, tNotN, tAndV, tOrV, tNotV, putF, List.lookup, List.any_cons, List.any_nil, Sum.inr.injEq, HO.ins.injEq, HO.dK.injEq, eq_self, beq_self_eq_true, beq_iff_eq, decide_true, decide_false, Bool.or_true, Bool.true_or, Bool.or_false, Bool.false_or, tYes, rEq, rNe, _root_.L2.start, wipe, List.map_cons, List.map_nil, List.length_cons, List.length_nil, List.append_nil, Nat.reduceAdd, Nat.reduceSub, List.replicate_succ, List.replicate_zero, List.cons_append, List.nil_append, List.getElem?_cons_zero, List.getElem?_cons_succ, List.set_cons_zero, List.set_cons_succ, Option.some.injEq, V.int.injEq, V.ref.injEq, V.bl.injEq, V.str.injEq, List.cons.injEq, HO.lst.injEq, HO.tup.injEq, and_assoc, and_true, true_and, exists_eq_left, exists_eq_left', exists_and_left, exists_eq, reduceCtorEq, false_and, and_false, or_false, false_or, exists_false, decide_eq_true_eq, CPow, CDivW, Int.reducePow, Int.reduceLT, Int.reduceLE, Int.reduceNeg, Int.reduceToNat, Int.reduceAbs, Nat.reducePow, Nat.reduceLT, Nat.reduceLeDiff, sizeLine_eq, Int.reduceMul, Int.reduceAdd, Int.reduceSub, Bool.not_eq_true', decide_eq_false_iff_not, scal, Bool.not_true, Bool.not_false, Bool.true_eq_false, Bool.false_eq_true, ite_false, ite_true, if_true, if_false, ite_self, forall_const, atI0, atI1, atI2, atI3, ixN20, ixN21, upd_same, upd_upd, Int.zero_add, CMul, Int.reduceSub, Nat.le_refl, Nat.zero_le, or_true, true_or, exists_const, Int.sub_zero, hq1, eqD_str ka ok_words.1, eqD_str ka ok_words.2.1, neD_str ka ok_words.2.2.1, neD_str ka ok_words.2.2.2.1, neD_str ka ok_words.2.2.2.2, sp_law_is_int])
            have kk1 := kk _ s1
            simp only [wordA, wordB] at kk1
            by_cases e1 : PyData.str w = .str (Str.ofString "read")
            · rw [if_pos e1]
              simpa [e1] using kk1
            rw [if_neg e1]
            by_cases e2 : PyData.str w = .str (Str.ofString "store")
            · rw [if_pos e2]
              simpa [e2] using kk1
            rw [if_neg e2]
            by_cases e3 : PyData.str w = .str (Str.ofString "put")
            · rw [if_neg (not_not_intro e3), if_pos (by decide)]
              exact ⟨s, i, oz.same s1, by simpa only [eq_false e1, eq_false e2, eq_true e3, or_self, or_true, true_or, or_false, false_or, decide_true, decide_false, Bool.not_false, Bool.not_true, Bool.true_and, Bool.false_and] using kk1⟩
            rw [if_pos e3]
            by_cases e4 : PyData.str w = .str (Str.ofString "add")
            · rw [if_neg (not_not_intro e4), if_pos (by decide)]
              exact ⟨s, i, oz.same s1, by simpa only [eq_false e1, eq_false e2, eq_true e4, or_self, or_true, true_or, or_false, false_or, decide_true, decide_false, Bool.not_false, Bool.not_true, Bool.true_and, Bool.false_and] using kk1⟩
            rw [if_pos e4]
            by_cases e5 : PyData.str w = .str (Str.ofString "need")
            · rw [if_neg (not_not_intro e5), if_pos (by decide)]
              exact ⟨s, i, oz.same s1, by simpa only [eq_false e1, eq_false e2, eq_true e5, or_self, or_true, true_or, or_false, false_or, decide_true, decide_false, Bool.not_false, Bool.not_true, Bool.true_and, Bool.false_and] using kk1⟩
            rw [if_pos e5]
            simpa only [eq_false e1, eq_false e2, eq_false e3, eq_false e4, eq_false e5, or_self, or_true, true_or, or_false, false_or, decide_true, decide_false, Bool.not_false, Bool.not_true, Bool.true_and, Bool.false_and] using kk1
        | _ => simp only [stepJ, isStr, Bool.false_and] at kk; simp only [dTy]; (try simp only [cxOf, Cx.nox, Cx.wish, tSeq, tAsg, tC, gName, tIfS, tTest, tOp, tUn, rU, rI0, rI, tVar, tNext, tRevT, tDNewK, tBreak, tChain, iStr, tRet, tRetN, tDrop, tLst, tTup, tCons, tNil, tCB, tB, tOr, tAnd, tNot, tIf, tCall, tFor_eq, tLc_eq, iRng1, iRng2, iList, iTup, gTup, gTupH, gUnlH, gCons, gNil, gSub, rSetL, rIxL, rIxT, rIxLH, rIxTH, rSlTS, rCatS, rTupS, rIsiH, rLenS, V.ty.injEq, tyS_non, tyS_bl, tyS_int, tyS_str, tyS_ref, tyO_l, tyO_t, tyO_d, tyO_dt, kit_ll, kit_tt, kit_bb, kit_ii, kit_ib, kit_bi, kit_nt, kit_it, kit_st, kit_bt, kit_lt, kit_dt, kit_ni, kit_si, kit_ti, kit_li, kit_di, kit_nb, kit_ns, kit_is, kit_bs, kit_ss, kit_ts, kit_ls, kit_ds, kit_dd, lenS_ref, lenO_l, lenO_t,  rAppend, tM1, rIxS, tSl, tPart, tNoPart, tBM, tBM0, tDGetS, sDPutS, tTruS, truO_l, truO_t, truS_ref, truS_non, truS_bl, truS_int, tFld, sFld, sFldAug, rAdd, tMeth, tProp, tMake, tMakeK, List.take_succ_cons, List.take_zero, List.drop_succ_cons, List.drop_zero, List.take_nil, tIsN, tNotN, tAndV, tOrV, tNotV, putF, List.lookup, List.any_cons, List.any_nil, Sum.inr.injEq, HO.ins.injEq, HO.dK.injEq, eq_self, beq_self_eq_true, beq_iff_eq, decide_true, decide_false, Bool.or_true, Bool.true_or, Bool.or_false, Bool.false_or, tYes, rEq, rNe, _root_.L2.start, wipe, List.map_cons, List.map_nil, List.length_cons, List.length_nil, List.append_nil, Nat.reduceAdd, Nat.reduceSub, List.replicate_succ, List.replicate_zero, List.cons_append, List.nil_append, List.getElem?_cons_zero, List.getElem?_cons_succ, List.set_cons_zero, List.set_cons_succ, Option.some.injEq, V.int.injEq, V.ref.injEq, V.bl.injEq, V.str.injEq, List.cons.injEq, HO.lst.injEq, HO.tup.injEq, and_assoc, and_true, true_and, exists_eq_left, exists_eq_left', exists_and_left, exists_eq, reduceCtorEq, false_and, and_false, or_false, false_or, exists_false, decide_eq_true_eq, CPow, CDivW, Int.reducePow, Int.reduceLT, Int.reduceLE, Int.reduceNeg, Int.reduceToNat, Int.reduceAbs, Nat.reducePow, Nat.reduceLT, Nat.reduceLeDiff, sizeLine_eq, Int.reduceMul, Int.reduceAdd, Int.reduceSub, Bool.not_eq_true', decide_eq_false_iff_not, scal, Bool.not_true, Bool.not_false, Bool.true_eq_false, Bool.false_eq_true, ite_false, ite_true, if_true, if_false, ite_self, forall_const, atI0, atI1, atI2, atI3, ixN20, ixN21, upd_same, upd_upd, Int.zero_add, CMul, Int.reduceSub, Nat.le_refl, Nat.zero_le, or_true, true_or, exists_const, Int.sub_zero]); exact kk _ (Same.refl _)
      · rw [stepJ_few hf] at kk
        (try simp only [cxOf, Cx.nox, Cx.wish, tSeq, tAsg, tC, gName, tIfS, tTest, tOp, tUn, rU, rI0, rI, tVar, tNext, tRevT, tDNewK, tBreak, tChain, iStr, tRet, tRetN, tDrop, tLst, tTup, tCons, tNil, tCB, tB, tOr, tAnd, tNot, tIf, tCall, tFor_eq, tLc_eq, iRng1, iRng2, iList, iTup, gTup, gTupH, gUnlH, gCons, gNil, gSub, rSetL, rIxL, rIxT, rIxLH, rIxTH, rSlTS, rCatS, rTupS, rIsiH, rLenS, V.ty.injEq, tyS_non, tyS_bl, tyS_int, tyS_str, tyS_ref, tyO_l, tyO_t, tyO_d, tyO_dt, kit_ll, kit_tt, kit_bb, kit_ii, kit_ib, kit_bi, kit_nt, kit_it, kit_st, kit_bt, kit_lt, kit_dt, kit_ni, kit_si, kit_ti, kit_li, kit_di, kit_nb, kit_ns, kit_is, kit_bs, kit_ss, kit_ts, kit_ls, kit_ds, kit_dd, lenS_ref, lenO_l, lenO_t,  rAppend, tM1, rIxS, tSl, tPart, tNoPart, tBM, tBM0, tDGetS, sDPutS, tTruS, truO_l, truO_t, truS_ref, truS_non, truS_bl, truS_int, tFld, sFld, sFldAug, rAdd, tMeth, tProp, tMake, tMakeK, List.take_succ_cons, List.take_zero, List.drop_succ_cons, List.drop_zero, List.take_nil, tIsN, tNotN, tAndV, tOrV, tNotV, putF, List.lookup, List.any_cons, List.any_nil, Sum.inr.injEq, HO.ins.injEq, HO.dK.injEq, eq_self, beq_self_eq_true, beq_iff_eq, decide_true, decide_false, Bool.or_true, Bool.true_or, Bool.or_false, Bool.false_or, tYes, rEq, rNe, _root_.L2.start, wipe, List.map_cons, List.map_nil, List.length_cons, List.length_nil, List.append_nil, Nat.reduceAdd, Nat.reduceSub, List.replicate_succ, List.replicate_zero, List.cons_append, List.nil_append, List.getElem?_cons_zero, List.getElem?_cons_succ, List.set_cons_zero, List.set_cons_succ, Option.some.injEq, V.int.injEq, V.ref.injEq, V.bl.injEq, V.str.injEq, List.cons.injEq, HO.lst.injEq, HO.tup.injEq, and_assoc, and_true, true_and, exists_eq_left, exists_eq_left', exists_and_left, exists_eq, reduceCtorEq, false_and, and_false, or_false, false_or, exists_false, decide_eq_true_eq, CPow, CDivW, Int.reducePow, Int.reduceLT, Int.reduceLE, Int.reduceNeg, Int.reduceToNat, Int.reduceAbs, Nat.reducePow, Nat.reduceLT, Nat.reduceLeDiff, sizeLine_eq, Int.reduceMul, Int.reduceAdd, Int.reduceSub, Bool.not_eq_true', decide_eq_false_iff_not, scal, Bool.not_true, Bool.not_false, Bool.true_eq_false, Bool.false_eq_true, ite_false, ite_true, if_true, if_false, ite_self, forall_const, atI0, atI1, atI2, atI3, ixN20, ixN21, upd_same, upd_upd, Int.zero_add, CMul, Int.reduceSub, Nat.le_refl, Nat.zero_le, or_true, true_or, exists_const, Int.sub_zero, hq])
        rw [if_pos (by omega)]
        exact kk _ (Same.refl _)
      · (try simp only [cxOf, Cx.nox, Cx.wish, tSeq, tAsg, tC, gName, tIfS, tTest, tOp, tUn, rU, rI0, rI, tVar, tNext, tRevT, tDNewK, tBreak, tChain, iStr, tRet, tRetN, tDrop, tLst, tTup, tCons, tNil, tCB, tB, tOr, tAnd, tNot, tIf, tCall, tFor_eq, tLc_eq, iRng1, iRng2, iList, iTup, gTup, gTupH, gUnlH, gCons, gNil, gSub, rSetL, rIxL, rIxT, rIxLH, rIxTH, rSlTS, rCatS, rTupS, rIsiH, rLenS, V.ty.injEq, tyS_non, tyS_bl, tyS_int, tyS_str, tyS_ref, tyO_l, tyO_t, tyO_d, tyO_dt, kit_ll, kit_tt, kit_bb, kit_ii, kit_ib, kit_bi, kit_nt, kit_it, kit_st, kit_bt, kit_lt, kit_dt, kit_ni, kit_si, kit_ti, kit_li, kit_di, kit_nb, kit_ns, kit_is, kit_bs, kit_ss, kit_ts, kit_ls, kit_ds, kit_dd, lenS_ref, lenO_l, lenO_t,  rAppend, tM1, rIxS, tSl, tPart, tNoPart, tBM, tBM0, tDGetS, sDPutS, tTruS, truO_l, truO_t, truS_ref, truS_non, truS_bl, truS_int, tFld, sFld, sFldAug, rAdd, tMeth, tProp, tMake, tMakeK, List.take_succ_cons, List.take_zero, List.drop_succ_cons, List.drop_zero, List.take_nil, tIsN, tNotN, tAndV, tOrV, tNotV, putF, List.lookup, List.any_cons, List.any_nil, Sum.inr.injEq, HO.ins.injEq, HO.dK.injEq, eq_self, beq_self_eq_true, beq_iff_eq, decide_true, decide_false, Bool.or_true, Bool.true_or, Bool.or_false, Bool.false_or, tYes, rEq, rNe, _root_.L2.start, wipe, List.map_cons, List.map_nil, List.length_cons, List.length_nil, List.append_nil, Nat.reduceAdd, Nat.reduceSub, List.replicate_succ, List.replicate_zero, List.cons_append, List.nil_append, List.getElem?_cons_zero, List.getElem?_cons_succ, List.set_cons_zero, List.set_cons_succ, Option.some.injEq, V.int.injEq, V.ref.injEq, V.bl.injEq, V.str.injEq, List.cons.injEq, HO.lst.injEq, HO.tup.injEq, and_assoc, and_true, true_and, exists_eq_left, exists_eq_left', exists_and_left, exists_eq, reduceCtorEq, false_and, and_false, or_false, false_or, exists_false, decide_eq_true_eq, CPow, CDivW, Int.reducePow, Int.reduceLT, Int.reduceLE, Int.reduceNeg, Int.reduceToNat, Int.reduceAbs, Nat.reducePow, Nat.reduceLT, Nat.reduceLeDiff, sizeLine_eq, Int.reduceMul, Int.reduceAdd, Int.reduceSub, Bool.not_eq_true', decide_eq_false_iff_not, scal, Bool.not_true, Bool.not_false, Bool.true_eq_false, Bool.false_eq_true, ite_false, ite_true, if_true, if_false, ite_self, forall_const, atI0, atI1, atI2, atI3, ixN20, ixN21, upd_same, upd_upd, Int.zero_add, CMul, Int.reduceSub, Nat.le_refl, Nat.zero_le, or_true, true_or, exists_const, Int.sub_zero, hq])
        simp only [ObAll] at hx
        obtain ⟨x, r1, rfl, ox, y, r2, rfl, oy, r3, hx⟩ := hx
        have ha := okTs_mem.mp hok
        have ka := ha a (by simp)
        have kb := ha k (by simp)
        rw [show stepJ (.tuple (a :: k :: i :: j :: r)) = false from rfl] at kk
        simp only [List.length_cons] at hl
        rw [if_neg (by simp only [List.length_cons]; omega)]
        (try simp only [cxOf, Cx.nox, Cx.wish, tSeq, tAsg, tC, gName, tIfS, tTest, tOp, tUn, rU, rI0, rI, tVar, tNext, tRevT, tDNewK, tBreak, tChain, iStr, tRet, tRetN, tDrop, tLst, tTup, tCons, tNil, tCB, tB, tOr, tAnd, tNot, tIf, tCall, tFor_eq, tLc_eq, iRng1, iRng2, iList, iTup, gTup, gTupH, gUnlH, gCons, gNil, gSub, rSetL, rIxL, rIxT, rIxLH, rIxTH, rSlTS, rCatS, rTupS, rIsiH, rLenS, V.ty.injEq, tyS_non, tyS_bl, tyS_int, tyS_str, tyS_ref, tyO_l, tyO_t, tyO_d, tyO_dt, kit_ll, kit_tt, kit_bb, kit_ii, kit_ib, kit_bi, kit_nt, kit_it, kit_st, kit_bt, kit_lt, kit_dt, kit_ni, kit_si, kit_ti, kit_li, kit_di, kit_nb, kit_ns, kit_is, kit_bs, kit_ss, kit_ts, kit_ls, kit_ds, kit_dd, lenS_ref, lenO_l, lenO_t,  rAppend, tM1, rIxS, tSl, tPart, tNoPart, tBM, tBM0, tDGetS, sDPutS, tTruS, truO_l, truO_t, truS_ref, truS_non, truS_bl, truS_int, tFld, sFld, sFldAug, rAdd, tMeth, tProp, tMake, tMakeK, List.take_succ_cons, List.take_zero, List.drop_succ_cons, List.drop_zero, List.take_nil, tIsN, tNotN, tAndV, tOrV, tNotV, putF, List.lookup, List.any_cons, List.any_nil, Sum.inr.injEq, HO.ins.injEq, HO.dK.injEq, eq_self, beq_self_eq_true, beq_iff_eq, decide_true, decide_false, Bool.or_true, Bool.true_or, Bool.or_false, Bool.false_or, tYes, rEq, rNe, _root_.L2.start, wipe, List.map_cons, List.map_nil, List.length_cons, List.length_nil, List.append_nil, Nat.reduceAdd, Nat.reduceSub, List.replicate_succ, List.replicate_zero, List.cons_append, List.nil_append, List.getElem?_cons_zero, List.getElem?_cons_succ, List.set_cons_zero, List.set_cons_succ, Option.some.injEq, V.int.injEq, V.ref.injEq, V.bl.injEq, V.str.injEq, List.cons.injEq, HO.lst.injEq, HO.tup.injEq, and_assoc, and_true, true_and, exists_eq_left, exists_eq_left', exists_and_left, exists_eq, reduceCtorEq, false_and, and_false, or_false, false_or, exists_false, decide_eq_true_eq, CPow, CDivW, Int.reducePow, Int.reduceLT, Int.reduceLE, Int.reduceNeg, Int.reduceToNat, Int.reduceAbs, Nat.reducePow, Nat.reduceLT, Nat.reduceLeDiff, sizeLine_eq, Int.reduceMul, Int.reduceAdd, Int.reduceSub, Bool.not_eq_true', decide_eq_false_iff_not, scal, Bool.not_true, Bool.not_false, Bool.true_eq_false, Bool.false_eq_true, ite_false, ite_true, if_true, if_false, ite_self, forall_const, atI0, atI1, atI2, atI3, ixN20, ixN21, upd_same, upd_upd, Int.zero_add, CMul, Int.reduceSub, Nat.le_refl, Nat.zero_le, or_true, true_or, exists_const, Int.sub_zero, ox.ty])
        cases a with
        | str w =>
          have := ox.strE
          subst this
          simp only [dTy]
          (try simp only [cxOf, Cx.nox, Cx.wish, tSeq, tAsg, tC, gName, tIfS, tTest, tOp, tUn, rU, rI0, rI, tVar, tNext, tRevT, tDNewK, tBreak, tChain, iStr, tRet, tRetN, tDrop, tLst, tTup, tCons, tNil, tCB, tB, tOr, tAnd, tNot, tIf, tCall, tFor_eq, tLc_eq, iRng1, iRng2, iList, iTup, gTup, gTupH, gUnlH, gCons, gNil, gSub, rSetL, rIxL, rIxT, rIxLH, rIxTH, rSlTS, rCatS, rTupS, rIsiH, rLenS, V.ty.injEq, tyS_non, tyS_bl, tyS_int, tyS_str, tyS_ref, tyO_l, tyO_t, tyO_d, tyO_dt, kit_ll, kit_tt, kit_bb, kit_ii, kit_ib, kit_bi, kit_nt, kit_it, kit_st, kit_bt, kit_lt, kit_dt, kit_ni, kit_si, kit_ti, kit_li, kit_di, kit_nb, kit_ns, kit_is, kit_bs, kit_ss, kit_ts, kit_ls, kit_ds, kit_dd, lenS_ref, lenO_l, lenO_t,  rAppend, tM1, rIxS, tSl, tPart, tNoPart, tBM, tBM0, tDGetS, sDPutS, tTruS, truO_l, truO_t, truS_ref, truS_non, truS_bl, truS_int, tFld, sFld, sFldAug, rAdd, tMeth, tProp, tMake, tMakeK, List.take_succ_cons, List.take_zero, List.drop_succ_cons, List.drop_zero, List.take_nil, tIsN, tNotN, tAndV, tOrV, tNotV, putF, List.lookup, List.any_cons, List.any_nil, Sum.inr.injEq, HO.ins.injEq, HO.dK.injEq, eq_self, beq_self_eq_true, beq_iff_eq, decide_true, decide_false, Bool.or_true, Bool.true_or, Bool.or_false, Bool.false_or, tYes, rEq, rNe, _root_.L2.start, wipe, List.map_cons, List.map_nil, List.length_cons, List.length_nil, List.append_nil, Nat.reduceAdd, Nat.reduceSub, List.replicate_succ, List.replicate_zero, List.cons_append, List.nil_append, List.getElem?_cons_zero, List.getElem?_cons_succ, List.set_cons_zero, List.set_cons_succ, Option.some.injEq, V.int.injEq, V.ref.injEq, V.bl.injEq, V.str.injEq, List.cons.injEq, HO.lst.injEq, HO.tup.injEq, and_assoc, and_true, true_and, exists_eq_left, exists_eq_left', exists_and_left, exists_eq, reduceCtorEq, false_and, and_false, or_false, false_or, exists_false, decide_eq_true_eq, CPow, CDivW, Int.reducePow, Int.reduceLT, Int.reduceLE, Int.reduceNeg, Int.reduceToNat, Int.reduceAbs, Nat.reducePow, Nat.reduceLT, Nat.reduceLeDiff, sizeLine_eq, Int.reduceMul, Int.reduceAdd, Int.reduceSub, Bool.not_eq_true', decide_eq_false_iff_not, scal, Bool.not_true, Bool.not_false, Bool.true_eq_false, Bool.false_eq_true, ite_false, ite_true, if_true, if_false, ite_self, forall_const, atI0, atI1, atI2, atI3, ixN20, ixN21, upd_same, upd_upd, Int.zero_add, CMul, Int.reduceSub, Nat.le_refl, Nat.zero_le, or_true, true_or, exists_const, Int.sub_zero, sp_law_is_key])
          refine ⟨s, k, oy, kb, fun H1 s1 => ?_⟩
          have hq1 := s1 _ _ hq
          have kk1 := kk _ s1
          cases hK : keyJ k with
          | false => (try simp only [cxOf, Cx.nox, Cx.wish, tSeq, tAsg, tC, gName, tIfS, tTest, tOp, tUn, rU, rI0, rI, tVar, tNext, tRevT, tDNewK, tBreak, tChain, iStr, tRet, tRetN, tDrop, tLst, tTup, tCons, tNil, tCB, tB, tOr, tAnd, tNot, tIf, tCall, tFor_eq, tLc_eq, iRng1, iRng2, iList, iTup, gTup, gTupH, gUnlH, gCons, gNil, gSub, rSetL, rIxL, rIxT, rIxLH, rIxTH, rSlTS, rCatS, rTupS, rIsiH, rLenS, V.ty.injEq, tyS_non, tyS_bl, tyS_int, tyS_str, tyS_ref, tyO_l, tyO_t, tyO_d, tyO_dt, kit_ll, kit_tt, kit_bb, kit_ii, kit_ib, kit_bi, kit_nt, kit_it, kit_st, kit_bt, kit_lt, kit_dt, kit_ni, kit_si, kit_ti, kit_li, kit_di, kit_nb, kit_ns, kit_is, kit_bs, kit_ss, kit_ts, kit_ls, kit_ds, kit_dd, lenS_ref, lenO_l, lenO_t,  rAppend, tM1, rIxS, tSl, tPart, tNoPart, tBM, tBM0, tDGetS, sDPutS, tTruS, truO_l, truO_t, truS_ref, truS_non, truS_bl, truS_int, tFld, sFld, sFldAug, rAdd, tMeth, tProp, tMake, tMakeK, List.take_succ_cons, List.take_zero, List.drop_succ_cons, List.drop_zero, List.take_nil, tIsN, tNotN, tAndV, tOrV, tNotV, putF, List.lookup, List.any_cons, List.any_nil, Sum.inr.injEq, HO.ins.injEq, HO.dK.injEq, eq_self, beq_self_eq_true, beq_iff_eq, decide_true, decide_false, Bool.or_true, Bool.true_or, Bool.or_false, Bool.false_or, tYes, rEq, rNe, _root_.L2.start, wipe, List.map_cons, List.map_nil, List.length_cons, List.length_nil, List.append_nil, Nat.reduceAdd, Nat.reduceSub, List.replicate_succ, List.replicate_zero, List.cons_append, List.nil_append, List.getElem?_cons_zero, List.getElem?_cons_succ, List.set_cons_zero, List.set_cons_succ, Option.some.injEq, V.int.injEq, V.ref.injEq, V.bl.injEq, V.str.injEq, List.cons.injEq, HO.lst.injEq, HO.tup.injEq, and_assoc, and_true, true_and, exists_eq_left, exists_eq_left', exists_and_left, exists_eq, reduceCtorEq, false_and, and_false, or_false, false_or, exists_false, decide_eq_true_eq, CPow, CDivW, Int.reducePow, Int.reduceLT, Int.reduceLE, Int.reduceNeg, Int.reduceToNat, Int.reduceAbs, Nat.reducePow, Nat.reduceLT, Nat.reduceLeDiff, sizeLine_eq, Int.reduceMul, Int.reduceAdd, Int.reduceSub, Bool.not_eq_true', decide_eq_false_iff_not, scal, Bool.not_true, Bool.not_false, Bool.true_eq_false, Bool.false_eq_true, ite_false, ite_true, if_true, if_false, ite_self, forall_const, atI0, atI1, atI2, atI3, ixN20, ixN21, upd_same, upd_upd, Int.zero_add, CMul, Int.reduceSub, Nat.le_refl, Nat.zero_le, or_true, true_or, exists_const, Int.sub_zero]); exact kk1
          | true =>
            (try simp only [cxOf, Cx.nox, Cx.wish, tSeq, tAsg, tC, gName, tIfS, tTest, tOp, tUn, rU, rI0, rI, tVar, tNext, tRevT, tDNewK, tBreak, tChain, iStr, tRet, tRetN, tDrop, tLst, tTup, tCons, tNil, tCB, tB, tOr, tAnd, tNot, tIf, tCall, tFor_eq, tLc_eq, iRng1, iRng2, iList, iTup, gTup, gTupH, gUnlH, gCons, gNil, gSub, rSetL, rIxL, rIxT, rIxLH, rIxTH, rSlTS, rCatS, rTupS, rIsiH, rLenS, V.ty.injEq, tyS_non, tyS_bl, tyS_int, tyS_str, tyS_ref, tyO_l, tyO_t, tyO_d, tyO_dt, kit_ll, kit_tt, kit_bb, kit_ii, kit_ib, kit_bi, kit_nt, kit_it, kit_st, kit_bt, kit_lt, kit_dt, kit_ni, kit_si, kit_ti, kit_li, kit_di, kit_nb, kit_ns, kit_is, kit_bs, kit_ss, kit_ts, kit_ls, kit_ds, kit_dd, lenS_ref, lenO_l, lenO_t,  rAppend, tM1, rIxS, tSl, tPart, tNoPart, tBM, tBM0, tDGetS, sDPutS, tTruS, truO_l, truO_t, truS_ref, truS_non, truS_bl, truS_int, tFld, sFld, sFldAug, rAdd, tMeth, tProp, tMake, tMakeK, List.take_succ_cons, List.take_zero, List.drop_succ_cons, List.drop_zero, List.take_nil, tIsN, tNotN, tAndV, tOrV, tNotV, putF, List.lookup, List.any_cons, List.any_nil, Sum.inr.injEq, HO.ins.injEq, HO.dK.injEq, eq_self, beq_self_eq_true, beq_iff_eq, decide_true, decide_false, Bool.or_true, Bool.true_or, Bool.or_false, Bool.false_or, tYes, rEq, rNe, _root_.L2.start, wipe, List.map_cons, List.map_nil, List.length_cons, List.length_nil, List.append_nil, Nat.reduceAdd, Nat.reduceSub, List.replicate_succ, List.replicate_zero, List.cons_append, List.nil_append, List.getElem?_cons_zero, List.getElem?_cons_succ, List.set_cons_zero, List.set_cons_succ, Option.some.injEq, V.int.injEq, V.ref.injEq, V.bl.injEq, V.str.injEq, List.cons.injEq, HO.lst.injEq, HO.tup.injEq, and_assoc, and_true, true_and, exists_eq_left, exists_eq_left', exists_and_left, exists_eq, reduceCtorEq, false_and, and_false, or_false, false_or, exists_false, decide_eq_true_eq, CPow, CDivW, Int.reducePow, Int.reduceLT, Int.reduceLE, Int.reduceNeg, Int.reduceToNat, Int.reduceAbs, Nat.reducePow, Nat.reduceLT, Nat.reduceLeDiff, sizeLine_eq, Int.reduceMul, Int.reduceAdd, Int.reduceSub, Bool.not_eq_true', decide_eq_false_iff_not, scal, Bool.not_true, Bool.not_false, Bool.true_eq_false, Bool.false_eq_true, ite_false, ite_true, if_true, if_false, ite_self, forall_const, atI0, atI1, atI2, atI3, ixN20, ixN21, upd_same, upd_upd, Int.zero_add, CMul, Int.reduceSub, Nat.le_refl, Nat.zero_le, or_true, true_or, exists_const, Int.sub_zero, hq1, eqD_str ka ok_words.1, eqD_str ka ok_words.2.1, neD_str ka ok_words.2.2.1, neD_str ka ok_words.2.2.2.1, neD_str ka ok_words.2.2.2.2])
            have f1 : ¬ (((r2.length + 1 + 1 : Nat) : Int) = 2) := by omega
            have f2 : ¬ (((r2.length + 1 + 1 : Nat) : Int) = 3) := by omega
            repeat' split
            all_goals first
              | exact kk1
              | (rw [decide_eq_false f1]; exact kk1)
              | exact absurd (by assumption) f2
        | _ => simp only [dTy]; (try simp only [cxOf, Cx.nox, Cx.wish, tSeq, tAsg, tC, gName, tIfS, tTest, tOp, tUn, rU, rI0, rI, tVar, tNext, tRevT, tDNewK, tBreak, tChain, iStr, tRet, tRetN, tDrop, tLst, tTup, tCons, tNil, tCB, tB, tOr, tAnd, tNot, tIf, tCall, tFor_eq, tLc_eq, iRng1, iRng2, iList, iTup, gTup, gTupH, gUnlH, gCons, gNil, gSub, rSetL, rIxL, rIxT, rIxLH, rIxTH, rSlTS, rCatS, rTupS, rIsiH, rLenS, V.ty.injEq, tyS_non, tyS_bl, tyS_int, tyS_str, tyS_ref, tyO_l, tyO_t, tyO_d, tyO_dt, kit_ll, kit_tt, kit_bb, kit_ii, kit_ib, kit_bi, kit_nt, kit_it, kit_st, kit_bt, kit_lt, kit_dt, kit_ni, kit_si, kit_ti, kit_li, kit_di, kit_nb, kit_ns, kit_is, kit_bs, kit_ss, kit_ts, kit_ls, kit_ds, kit_dd, lenS_ref, lenO_l, lenO_t,  rAppend, tM1, rIxS, tSl, tPart, tNoPart, tBM, tBM0, tDGetS, sDPutS, tTruS, truO_l, truO_t, truS_ref, truS_non, truS_bl, truS_int, tFld, sFld, sFldAug, rAdd, tMeth, tProp, tMake, tMakeK, List.take_succ_cons, List.take_zero, List.drop_succ_cons, List.drop_zero, List.take_nil, tIsN, tNotN, tAndV, tOrV, tNotV, putF, List.lookup, List.any_cons, List.any_nil, Sum.inr.injEq, HO.ins.injEq, HO.dK.injEq, eq_self, beq_self_eq_true, beq_iff_eq, decide_true, decide_false, Bool.or_true, Bool.true_or, Bool.or_false, Bool.false_or, tYes, rEq, rNe, _root_.L2.start, wipe, List.map_cons, List.map_nil, List.length_cons, List.length_nil, List.append_nil, Nat.reduceAdd, Nat.reduceSub, List.replicate_succ, List.replicate_zero, List.cons_append, List.nil_append, List.getElem?_cons_zero, List.getElem?_cons_succ, List.set_cons_zero, List.set_cons_succ, Option.some.injEq, V.int.injEq, V.ref.injEq, V.bl.injEq, V.str.injEq, List.cons.injEq, HO.lst.injEq, HO.tup.injEq, and_assoc, and_true, true_and, exists_eq_left, exists_eq_left', exists_and_left, exists_eq, reduceCtorEq, false_and, and_false, or_false, false_or, exists_false, decide_eq_true_eq, CPow, CDivW, Int.reducePow, Int.reduceLT, Int.reduceLE, Int.reduceNeg, Int.reduceToNat, Int.reduceAbs, Nat.reducePow, Nat.reduceLT, Nat.reduceLeDiff, sizeLine_eq, Int.reduceMul, Int.reduceAdd, Int.reduceSub, Bool.not_eq_true', decide_eq_false_iff_not, scal, Bool.not_true, Bool.not_false, Bool.true_eq_false, Bool.false_eq_true, ite_false, ite_true, if_true, if_false, ite_self, forall_const, atI0, atI1, atI2, atI3, ixN20, ixN21, upd_same, upd_upd, Int.zero_add, CMul, Int.reduceSub, Nat.le_refl, Nat.zero_le, or_true, true_or, exists_const, Int.sub_zero]); exact kk _ (Same.refl _)
    | _ => simp only [dTy]; (try simp only [cxOf, Cx.nox, Cx.wish, tSeq, tAsg, tC, gName, tIfS, tTest, tOp, tUn, rU, rI0, rI, tVar, tNext, tRevT, tDNewK, tBreak, tChain, iStr, tRet, tRetN, tDrop, tLst, tTup, tCons, tNil, tCB, tB, tOr, tAnd, tNot, tIf, tCall, tFor_eq, tLc_eq, iRng1, iRng2, iList, iTup, gTup, gTupH, gUnlH, gCons, gNil, gSub, rSetL, rIxL, rIxT, rIxLH, rIxTH, rSlTS, rCatS, rTupS, rIsiH, rLenS, V.ty.injEq, tyS_non, tyS_bl, tyS_int, tyS_str, tyS_ref, tyO_l, tyO_t, tyO_d, tyO_dt, kit_ll, kit_tt, kit_bb, kit_ii, kit_ib, kit_bi, kit_nt, kit_it, kit_st, kit_bt, kit_lt, kit_dt, kit_ni, kit_si, kit_ti, kit_li, kit_di, kit_nb, kit_ns, kit_is, kit_bs, kit_ss, kit_ts, kit_ls, kit_ds, kit_dd, lenS_ref, lenO_l, lenO_t,  rAppend, tM1, rIxS, tSl, tPart, tNoPart, tBM, tBM0, tDGetS, sDPutS, tTruS, truO_l, truO_t, truS_ref, truS_non, truS_bl, truS_int, tFld, sFld, sFldAug, rAdd, tMeth, tProp, tMake, tMakeK, List.take_succ_cons, List.take_zero, List.drop_succ_cons, List.drop_zero, List.take_nil, tIsN, tNotN, tAndV, tOrV, tNotV, putF, List.lookup, List.any_cons, List.any_nil, Sum.inr.injEq, HO.ins.injEq, HO.dK.injEq, eq_self, beq_self_eq_true, beq_iff_eq, decide_true, decide_false, Bool.or_true, Bool.true_or, Bool.or_false, Bool.false_or, tYes, rEq, rNe, _root_.L2.start, wipe, List.map_cons, List.map_nil, List.length_cons, List.length_nil, List.append_nil, Nat.reduceAdd, Nat.reduceSub, List.replicate_succ, List.replicate_zero, List.cons_append, List.nil_append, List.getElem?_cons_zero, List.getElem?_cons_succ, List.set_cons_zero, List.set_cons_succ, Option.some.injEq, V.int.injEq, V.ref.injEq, V.bl.injEq, V.str.injEq, List.cons.injEq, HO.lst.injEq, HO.tup.injEq, and_assoc, and_true, true_and, exists_eq_left, exists_eq_left', exists_and_left, exists_eq, reduceCtorEq, false_and, and_false, or_false, false_or, exists_false, decide_eq_true_eq, CPow, CDivW, Int.reducePow, Int.reduceLT, Int.reduceLE, Int.reduceNeg, Int.reduceToNat, Int.reduceAbs, Nat.reducePow, Nat.reduceLT, Nat.reduceLeDiff, sizeLine_eq, Int.reduceMul, Int.reduceAdd, Int.reduceSub, Bool.not_eq_true', decide_eq_false_iff_not, scal, Bool.not_true, Bool.not_false, Bool.true_eq_false, Bool.false_eq_true, ite_false, ite_true, if_true, if_false, ite_self, forall_const, atI0, atI1, atI2, atI3, ixN20, ixN21, upd_same, upd_upd, Int.zero_add, CMul, Int.reduceSub, Nat.le_refl, Nat.zero_le, or_true, true_or, exists_const, Int.sub_zero]); exact kk _ (Same.refl _)
def sp_is_step (wA wB : Addr) : Sp := fun vs H Q _ => ∃ (s : Addr) (d : PyData) (v : V), vs = [v] ∧ Ob s H d v ∧ okT d = true ∧ Q (.bl (stepJ d)) H
theorem ok_is_step (T : Txt K mg) : FnOk P w K mg base CX0 4 T.f_is_step T.d_is_step ["thing"] (sp_is_step T.w_WITHOUT T.w_WITH_INTEGER) := by
  refine Fun.ok T.F_is_step sc_is_step (fun vs H Q E h => ?_) (fun cdv A outer s H vs Q E hr h => ?_)
  · obtain ⟨s, d, v, rfl, ov, hok, kk⟩ := h; rfl
  · obtain ⟨s, d, v, rfl, ov, hok, kk⟩ := h
    have hu := hu_of hr
    refine ⟨_, (pss_cons (ps_if (PW.pt (pw_or (pt_not (pt_val (pe_callB call_isiH (by rfl) T.z_isinstance (by decide +kernel) (pa_cons (pv 0) (pa_cons (pe_bltn (v := .ty "tuple") (by rfl) T.z_tuple (by decide +kernel) rfl) pa_nil))))) (pw_or (pt_not (pt_chain op_le op_le pe_int (pe_callB call_lenS (by rfl) T.z_len (by decide +kernel) (pa_cons (pv 0) pa_nil)) pe_int)) (pw_or1 (pt_not (pt_val (pe_callB call_isiH (by rfl) T.z_isinstance (by decide +kernel) (pa_cons (pe_ix ix_tupH (pv 0) pe_int (fun _ _ => rfl)) (pa_cons (pe_bltn (v := .ty "str") (by rfl) T.z_str (by decide +kernel) rfl) pa_nil))))))))) (pss_one (ps_ret pe_bl)) pss_nil)
      (pss_cons (ps_if (pt_not (pt_val (pe_call (ok_is_key T) (hr.mono (by decide)) rfl T.g_is_key T.F_is_key.kp T.b_is_key .nil pass0 (pa_cons (pe_ix ix_tupH (pv 0) pe_int (fun _ _ => rfl)) pa_nil)))) (pss_one (ps_ret pe_bl)) pss_nil)
      (pss_cons (ps_if (pt_cmpR (op_inTK (K := K) rfl (hu65 hr)) (pe_ix ix_tupH (pv 0) pe_int (fun _ _ => rfl)) (pe_glob (v := V.ref T.w_WITHOUT) rfl T.g_WITHOUT rfl) (by rfl)) (pss_one (ps_ret (pe_cmpR op_eq (pe_callB call_lenS (by rfl) T.z_len (by decide +kernel) (pa_cons (pv 0) pa_nil)) pe_int (nomark _)))) pss_nil)
      (pss_one (ps_ret (pe_and (pe_cmpR (op_inTK (K := K) rfl (hu65 hr)) (pe_ix ix_tupH (pv 0) pe_int (fun _ _ => rfl)) (pe_glob (v := V.ref T.w_WITH_INTEGER) rfl T.g_WITH_INTEGER rfl) (by rfl)) (pe_and (pe_cmpR op_eq (pe_callB call_lenS (by rfl) T.z_len (by decide +kernel) (pa_cons (pv 0) pa_nil)) pe_int (nomark _)) (pe_one (pe_call (ok_is_integer T) (hr.mono (by decide)) rfl T.g_is_integer T.F_is_integer.kp T.b_is_integer .nil pass0 (pa_cons (pe_ix ix_tupH (pv 0) pe_int (fun _ _ => rfl)) pa_nil)))))))))), ?_⟩
    (try simp only [cxOf, Cx.nox, Cx.wish, tSeq, tAsg, tC, gName, tIfS, tTest, tOp, tUn, rU, rI0, rI, tVar, tNext, tRevT, tDNewK, tBreak, tChain, iStr, tRet, tRetN, tDrop, tLst, tTup, tCons, tNil, tCB, tB, tOr, tAnd, tNot, tIf, tCall, tFor_eq, tLc_eq, iRng1, iRng2, iList, iTup, gTup, gTupH, gUnlH, gCons, gNil, gSub, rSetL, rIxL, rIxT, rIxLH, rIxTH, rSlTS, rCatS, rTupS, rIsiH, rLenS, V.ty.injEq, tyS_non, tyS_bl, tyS_int, tyS_str, tyS_ref, tyO_l, tyO_t, tyO_d, tyO_dt, kit_ll, kit_tt, kit_bb, kit_ii, kit_ib, kit_bi, kit_nt, kit_it, kit_st, kit_bt, kit_lt, kit_dt, kit_ni, kit_si, kit_ti, kit_li, kit_di, kit_nb, kit_ns, kit_is, kit_bs, kit_ss, kit_ts, kit_ls, kit_ds, kit_dd, lenS_ref, lenO_l, lenO_t,  rAppend, tM1, rIxS, tSl, tPart, tNoPart, tBM, tBM0, tDGetS, sDPutS, tTruS, truO_l, truO_t, truS_ref, truS_non, truS_bl, truS_int, tFld, sFld, sFldAug, rAdd, tMeth, tProp, tMake, tMakeK, List.take_succ_cons, List.take_zero, List.drop_succ_cons, List.drop_zero, List.take_nil, tIsN, tNotN, tAndV, tOrV, tNotV, putF, List.lookup, List.any_cons, List.any_nil, Sum.inr.injEq, HO.ins.injEq, HO.dK.injEq, eq_self, beq_self_eq_true, beq_iff_eq, decide_true, decide_false, Bool.or_true, Bool.true_or, Bool.or_false, Bool.false_or, tYes, rEq, rNe, _root_.L2.start, wipe, List.map_cons, List.map_nil, List.length_cons, List.length_nil, List.append_nil, Nat.reduceAdd, Nat.reduceSub, List.replicate_succ, List.replicate_zero, List.cons_append, List.nil_append, List.getElem?_cons_zero, List.getElem?_cons_succ, List.set_cons_zero, List.set_cons_succ, Option.some.injEq, V.int.injEq, V.ref.injEq, V.bl.injEq, V.str.injEq, List.cons.injEq, HO.lst.injEq, HO.tup.injEq, and_assoc, and_true, true_and, exists_eq_left, exists_eq_left', exists_and_left, exists_eq, reduceCtorEq, false_and, and_false, or_false, false_or, exists_false, decide_eq_true_eq, CPow, CDivW, Int.reducePow, Int.reduceLT, Int.reduceLE, Int.reduceNeg, Int.reduceToNat, Int.reduceAbs, Nat.reducePow, Nat.reduceLT, Nat.reduceLeDiff, sizeLine_eq, Int.reduceMul, Int.reduceAdd, Int.reduceSub, Bool.not_eq_true', decide_eq_false_iff_not, scal, Bool.not_true, Bool.not_false, Bool.true_eq_false, Bool.false_eq_true, ite_false, ite_true, if_true, if_false, ite_self, forall_const, atI0, atI1, atI2, atI3, ixN20, ixN21, upd_same, upd_upd, Int.zero_add, CMul, Int.reduceSub, Nat.le_refl, Nat.zero_le, or_true, true_or, exists_const, Int.sub_zero, ov.ty])
    cases d with
    | tuple ds =>
      obtain ⟨q, xs, rfl, hq, hx⟩ := ov.tup
      have hl := hx.len
      simp only [dTy]
      rcases steps_or ds with ⟨a, k, rfl⟩ | ⟨a, k, i, rfl⟩ | hf | ⟨a, k, i, j, r, rfl⟩
      · obtain ⟨x, y, rfl, ox, oy⟩ := obs2 hx
        obtain ⟨ka, kb⟩ := okT2 hok
        (try simp only [cxOf, Cx.nox, Cx.wish, tSeq, tAsg, tC, gName, tIfS, tTest, tOp, tUn, rU, rI0, rI, tVar, tNext, tRevT, tDNewK, tBreak, tChain, iStr, tRet, tRetN, tDrop, tLst, tTup, tCons, tNil, tCB, tB, tOr, tAnd, tNot, tIf, tCall, tFor_eq, tLc_eq, iRng1, iRng2, iList, iTup, gTup, gTupH, gUnlH, gCons, gNil, gSub, rSetL, rIxL, rIxT, rIxLH, rIxTH, rSlTS, rCatS, rTupS, rIsiH, rLenS, V.ty.injEq, tyS_non, tyS_bl, tyS_int, tyS_str, tyS_ref, tyO_l, tyO_t, tyO_d, tyO_dt, kit_ll, kit_tt, kit_bb, kit_ii, kit_ib, kit_bi, kit_nt, kit_it, kit_st, kit_bt, kit_lt, kit_dt, kit_ni, kit_si, kit_ti, kit_li, kit_di, kit_nb, kit_ns, kit_is, kit_bs, kit_ss, kit_ts, kit_ls, kit_ds, kit_dd, lenS_ref, lenO_l, lenO_t,  rAppend, tM1, rIxS, tSl, tPart, tNoPart, tBM, tBM0, tDGetS, sDPutS, tTruS, truO_l, truO_t, truS_ref, truS_non, truS_bl, truS_int, tFld, sFld, sFldAug, rAdd, tMeth, tProp, tMake, tMakeK, List.take_succ_cons, List.take_zero, List.drop_succ_cons, List.drop_zero, List.take_nil, tIsN, tNotN, tAndV, tOrV, tNotV, putF, List.lookup, List.any_cons, List.any_nil, Sum.inr.injEq, HO.ins.injEq, HO.dK.injEq, eq_self, beq_self_eq_true, beq_iff_eq, decide_true, decide_false, Bool.or_true, Bool.true_or, Bool.or_false, Bool.false_or, tYes, rEq, rNe, _root_.L2.start, wipe, List.map_cons, List.map_nil, List.length_cons, List.length_nil, List.append_nil, Nat.reduceAdd, Nat.reduceSub, List.replicate_succ, List.replicate_zero, List.cons_append, List.nil_append, List.getElem?_cons_zero, List.getElem?_cons_succ, List.set_cons_zero, List.set_cons_succ, Option.some.injEq, V.int.injEq, V.ref.injEq, V.bl.injEq, V.str.injEq, List.cons.injEq, HO.lst.injEq, HO.tup.injEq, and_assoc, and_true, true_and, exists_eq_left, exists_eq_left', exists_and_left, exists_eq, reduceCtorEq, false_and, and_false, or_false, false_or, exists_false, decide_eq_true_eq, CPow, CDivW, Int.reducePow, Int.reduceLT, Int.reduceLE, Int.reduceNeg, Int.reduceToNat, Int.reduceAbs, Nat.reducePow, Nat.reduceLT, Nat.reduceLeDiff, sizeLine_eq, Int.reduceMul, Int.reduceAdd, Int.reduceSub, Bool.not_eq_true', decide_eq_false_iff_not, scal, Bool.not_true, Bool.not_false, Bool.true_eq_false, Bool.false_eq_true, ite_false, ite_true, if_true, if_false, ite_self, forall_const, atI0, atI1, atI2, atI3, ixN20, ixN21, upd_same, upd_upd, Int.zero_add, CMul, Int.reduceSub, Nat.le_refl, Nat.zero_le, or_true, true_or, exists_const, Int.sub_zero, hq, ox.ty])
        rw [if_pos (by decide), if_neg (by decide)]
        cases a with
        | str w =>
          have := ox.strE
          subst this
          simp only [dTy]
          (try simp only [cxOf, Cx.nox, Cx.wish, tSeq, tAsg, tC, gName, tIfS, tTest, tOp, tUn, rU, rI0, rI, tVar, tNext, tRevT, tDNewK, tBreak, tChain, iStr, tRet, tRetN, tDrop, tLst, tTup, tCons, tNil, tCB, tB, tOr, tAnd, tNot, tIf, tCall, tFor_eq, tLc_eq, iRng1, iRng2, iList, iTup, gTup, gTupH, gUnlH, gCons, gNil, gSub, rSetL, rIxL, rIxT, rIxLH, rIxTH, rSlTS, rCatS, rTupS, rIsiH, rLenS, V.ty.injEq, tyS_non, tyS_bl, tyS_int, tyS_str, tyS_ref, tyO_l, tyO_t, tyO_d, tyO_dt, kit_ll, kit_tt, kit_bb, kit_ii, kit_ib, kit_bi, kit_nt, kit_it, kit_st, kit_bt, kit_lt, kit_dt, kit_ni, kit_si, kit_ti, kit_li, kit_di, kit_nb, kit_ns, kit_is, kit_bs, kit_ss, kit_ts, kit_ls, kit_ds, kit_dd, lenS_ref, lenO_l, lenO_t,  rAppend, tM1, rIxS, tSl, tPart, tNoPart, tBM, tBM0, tDGetS, sDPutS, tTruS, truO_l, truO_t, truS_ref, truS_non, truS_bl, truS_int, tFld, sFld, sFldAug, rAdd, tMeth, tProp, tMake, tMakeK, List.take_succ_cons, List.take_zero, List.drop_succ_cons, List.drop_zero, List.take_nil, tIsN, tNotN, tAndV, tOrV, tNotV, putF, List.lookup, List.any_cons, List.any_nil, Sum.inr.injEq, HO.ins.injEq, HO.dK.injEq, eq_self, beq_self_eq_true, beq_iff_eq, decide_true, decide_false, Bool.or_true, Bool.true_or, Bool.or_false, Bool.false_or, tYes, rEq, rNe, _root_.L2.start, wipe, List.map_cons, List.map_nil, List.length_cons, List.length_nil, List.append_nil, Nat.reduceAdd, Nat.reduceSub, List.replicate_succ, List.replicate_zero, List.cons_append, List.nil_append, List.getElem?_cons_zero, List.getElem?_cons_succ, List.set_cons_zero, List.set_cons_succ, Option.some.injEq, V.int.injEq, V.ref.injEq, V.bl.injEq, V.str.injEq, List.cons.injEq, HO.lst.injEq, HO.tup.injEq, and_assoc, and_true, true_and, exists_eq_left, exists_eq_left', exists_and_left, exists_eq, reduceCtorEq, false_and, and_false, or_false, false_or, exists_false, decide_eq_true_eq, CPow, CDivW, Int.reducePow, Int.reduceLT, Int.reduceLE, Int.reduceNeg, Int.reduceToNat, Int.reduceAbs, Nat.reducePow, Nat.reduceLT, Nat.reduceLeDiff, sizeLine_eq, Int.reduceMul, Int.reduceAdd, Int.reduceSub, Bool.not_eq_true', decide_eq_false_iff_not, scal, Bool.not_true, Bool.not_false, Bool.true_eq_false, Bool.false_eq_true, ite_false, ite_true, if_true, if_false, ite_self, forall_const, atI0, atI1, atI2, atI3, ixN20, ixN21, upd_same, upd_upd, Int.zero_add, CMul, Int.reduceSub, Nat.le_refl, Nat.zero_le, or_true, true_or, exists_const, Int.sub_zero, sp_is_key, sp_is_integer])
          refine ⟨s, k, oy, kb, ?_⟩
          simp only [stepJ, isStr, Bool.true_and] at kk
          cases hK : keyJ k with
          | false => rw [hK] at kk; simp only [Bool.false_and] at kk; (try simp only [cxOf, Cx.nox, Cx.wish, tSeq, tAsg, tC, gName, tIfS, tTest, tOp, tUn, rU, rI0, rI, tVar, tNext, tRevT, tDNewK, tBreak, tChain, iStr, tRet, tRetN, tDrop, tLst, tTup, tCons, tNil, tCB, tB, tOr, tAnd, tNot, tIf, tCall, tFor_eq, tLc_eq, iRng1, iRng2, iList, iTup, gTup, gTupH, gUnlH, gCons, gNil, gSub, rSetL, rIxL, rIxT, rIxLH, rIxTH, rSlTS, rCatS, rTupS, rIsiH, rLenS, V.ty.injEq, tyS_non, tyS_bl, tyS_int, tyS_str, tyS_ref, tyO_l, tyO_t, tyO_d, tyO_dt, kit_ll, kit_tt, kit_bb, kit_ii, kit_ib, kit_bi, kit_nt, kit_it, kit_st, kit_bt, kit_lt, kit_dt, kit_ni, kit_si, kit_ti, kit_li, kit_di, kit_nb, kit_ns, kit_is, kit_bs, kit_ss, kit_ts, kit_ls, kit_ds, kit_dd, lenS_ref, lenO_l, lenO_t,  rAppend, tM1, rIxS, tSl, tPart, tNoPart, tBM, tBM0, tDGetS, sDPutS, tTruS, truO_l, truO_t, truS_ref, truS_non, truS_bl, truS_int, tFld, sFld, sFldAug, rAdd, tMeth, tProp, tMake, tMakeK, List.take_succ_cons, List.take_zero, List.drop_succ_cons, List.drop_zero, List.take_nil, tIsN, tNotN, tAndV, tOrV, tNotV, putF, List.lookup, List.any_cons, List.any_nil, Sum.inr.injEq, HO.ins.injEq, HO.dK.injEq, eq_self, beq_self_eq_true, beq_iff_eq, decide_true, decide_false, Bool.or_true, Bool.true_or, Bool.or_false, Bool.false_or, tYes, rEq, rNe, _root_.L2.start, wipe, List.map_cons, List.map_nil, List.length_cons, List.length_nil, List.append_nil, Nat.reduceAdd, Nat.reduceSub, List.replicate_succ, List.replicate_zero, List.cons_append, List.nil_append, List.getElem?_cons_zero, List.getElem?_cons_succ, List.set_cons_zero, List.set_cons_succ, Option.some.injEq, V.int.injEq, V.ref.injEq, V.bl.injEq, V.str.injEq, List.cons.injEq, HO.lst.injEq, HO.tup.injEq, and_assoc, and_true, true_and, exists_eq_left, exists_eq_left', exists_and_left, exists_eq, reduceCtorEq, false_and, and_false, or_false, false_or, exists_false, decide_eq_true_eq, CPow, CDivW, Int.reducePow, Int.reduceLT, Int.reduceLE, Int.reduceNeg, Int.reduceToNat, Int.reduceAbs, Nat.reducePow, Nat.reduceLT, Nat.reduceLeDiff, sizeLine_eq, Int.reduceMul, Int.reduceAdd, Int.reduceSub, Bool.not_eq_true', decide_eq_false_iff_not, scal, Bool.not_true, Bool.not_false, Bool.true_eq_false, Bool.false_eq_true, ite_false, ite_true, if_true, if_false, ite_self, forall_const, atI0, atI1, atI2, atI3, ixN20, ixN21, upd_same, upd_upd, Int.zero_add, CMul, Int.reduceSub, Nat.le_refl, Nat.zero_le, or_true, true_or, exists_const, Int.sub_zero]); exact kk
          | true =>
            rw [hK] at kk; simp only [Bool.true_and] at kk
            (try simp only [cxOf, Cx.nox, Cx.wish, tSeq, tAsg, tC, gName, tIfS, tTest, tOp, tUn, rU, rI0, rI, tVar, tNext, tRevT, tDNewK, tBreak, tChain, iStr, tRet, tRetN, tDrop, tLst, tTup, tCons, tNil, tCB, tB, tOr, tAnd, tNot, tIf, tCall, tFor_eq, tLc_eq, iRng1, iRng2, iList, iTup, gTup, gTupH, gUnlH, gCons, gNil, gSub, rSetL, rIxL, rIxT, rIxLH, rIxTH, rSlTS, rCatS, rTupS, rIsiH, rLenS, V.ty.injEq, tyS_non, tyS_bl, tyS_int, tyS_str, tyS_ref, tyO_l, tyO_t, tyO_d, tyO_dt, kit_ll, kit_tt, kit_bb, kit_ii, kit_ib, kit_bi, kit_nt, kit_it, kit_st, kit_bt, kit_lt, kit_dt, kit_ni, kit_si, kit_ti, kit_li, kit_di, kit_nb, kit_ns, kit_is, kit_bs, kit_ss, kit_ts, kit_ls, kit_ds, kit_dd, lenS_ref, lenO_l, lenO_t,  rAppend, tM1, rIxS, tSl, tPart, tNoPart, tBM, tBM0, tDGetS, sDPutS, tTruS, truO_l, truO_t, truS_ref, truS_non, truS_bl, truS_int, tFld, sFld, sFldAug, rAdd, tMeth, tProp, tMake, tMakeK, List.take_succ_cons, List.take_zero, List.drop_succ_cons, List.drop_zero, List.take_nil, tIsN, tNotN, tAndV, tOrV, tNotV, putF, List.lookup, List.any_cons, List.any_nil, Sum.inr.injEq, HO.ins.injEq, HO.dK.injEq, eq_self, beq_self_eq_true, beq_iff_eq, decide_true, decide_false, Bool.or_true, Bool.true_or, Bool.or_false, Bool.false_or, tYes, rEq, rNe, _root_.L2.start, wipe, List.map_cons, List.map_nil, List.length_cons, List.length_nil, List.append_nil, Nat.reduceAdd, Nat.reduceSub, List.replicate_succ, List.replicate_zero, List.cons_append, List.nil_append, List.getElem?_cons_zero, List.getElem?_cons_succ, List.set_cons_zero, List.set_cons_succ, Option.some.injEq, V.int.injEq, V.ref.injEq, V.bl.injEq, V.str.injEq, List.cons.injEq, HO.lst.injEq, HO.tup.injEq, and_assoc, and_true, true_and, exists_eq_left, exists_eq_left', exists_and_left, exists_eq, reduceCtorEq, false_and, and_false, or_false, false_or, exists_false, decide_eq_true_eq, CPow, CDivW, Int.reducePow, Int.reduceLT, Int.reduceLE, Int.reduceNeg, Int.reduceToNat, Int.reduceAbs, Nat.reducePow, Nat.reduceLT, Nat.reduceLeDiff, sizeLine_eq, Int.reduceMul, Int.reduceAdd, Int.reduceSub, Bool.not_eq_true', decide_eq_false_iff_not, scal, Bool.not_true, Bool.not_false, Bool.true_eq_false, Bool.false_eq_true, ite_false, ite_true, if_true, if_false, ite_self, forall_const, atI0, atI1, atI2, atI3, ixN20, ixN21, upd_same, upd_upd, Int.zero_add, CMul, Int.reduceSub, Nat.le_refl, Nat.zero_le, or_true, true_or, exists_const, Int.sub_zero, hq])
            refine inT_str (us := [Str.ofString "read", Str.ofString "store"]) (T.q_WITHOUT _) ka (by simp [ok_words.1, ok_words.2.1]) ?_
            (try simp only [cxOf, Cx.nox, Cx.wish, tSeq, tAsg, tC, gName, tIfS, tTest, tOp, tUn, rU, rI0, rI, tVar, tNext, tRevT, tDNewK, tBreak, tChain, iStr, tRet, tRetN, tDrop, tLst, tTup, tCons, tNil, tCB, tB, tOr, tAnd, tNot, tIf, tCall, tFor_eq, tLc_eq, iRng1, iRng2, iList, iTup, gTup, gTupH, gUnlH, gCons, gNil, gSub, rSetL, rIxL, rIxT, rIxLH, rIxTH, rSlTS, rCatS, rTupS, rIsiH, rLenS, V.ty.injEq, tyS_non, tyS_bl, tyS_int, tyS_str, tyS_ref, tyO_l, tyO_t, tyO_d, tyO_dt, kit_ll, kit_tt, kit_bb, kit_ii, kit_ib, kit_bi, kit_nt, kit_it, kit_st, kit_bt, kit_lt, kit_dt, kit_ni, kit_si, kit_ti, kit_li, kit_di, kit_nb, kit_ns, kit_is, kit_bs, kit_ss, kit_ts, kit_ls, kit_ds, kit_dd, lenS_ref, lenO_l, lenO_t,  rAppend, tM1, rIxS, tSl, tPart, tNoPart, tBM, tBM0, tDGetS, sDPutS, tTruS, truO_l, truO_t, truS_ref, truS_non, truS_bl, truS_int, tFld, sFld, sFldAug, rAdd, tMeth, tProp, tMake, tMakeK, List.take_succ_cons, List.take_zero, List.drop_succ_cons, List.drop_zero, List.take_nil, tIsN, tNotN, tAndV, tOrV, tNotV, putF, List.lookup, List.any_cons, List.any_nil, Sum.inr.injEq, HO.ins.injEq, HO.dK.injEq, eq_self, beq_self_eq_true, beq_iff_eq, decide_true, decide_false, Bool.or_true, Bool.true_or, Bool.or_false, Bool.false_or, tYes, rEq, rNe, _root_.L2.start, wipe, List.map_cons, List.map_nil, List.length_cons, List.length_nil, List.append_nil, Nat.reduceAdd, Nat.reduceSub, List.replicate_succ, List.replicate_zero, List.cons_append, List.nil_append, List.getElem?_cons_zero, List.getElem?_cons_succ, List.set_cons_zero, List.set_cons_succ, Option.some.injEq, V.int.injEq, V.ref.injEq, V.bl.injEq, V.str.injEq, List.cons.injEq, HO.lst.injEq, HO.tup.injEq, and_assoc, and_true, true_and, exists_eq_left, exists_eq_left', exists_and_left, exists_eq, reduceCtorEq, false_and, and_false, or_false, false_or, exists_false, decide_eq_true_eq, CPow, CDivW, Int.reducePow, Int.reduceLT, Int.reduceLE, Int.reduceNeg, Int.reduceToNat, Int.reduceAbs, Nat.reducePow, Nat.reduceLT, Nat.reduceLeDiff, sizeLine_eq, Int.reduceMul, Int.reduceAdd, Int.reduceSub, Bool.not_eq_true', decide_eq_false_iff_not, scal, Bool.not_true, Bool.not_false, Bool.true_eq_false, Bool.false_eq_true, ite_false, ite_true, if_true, if_false, ite_self, forall_const, atI0, atI1, atI2, atI3, ixN20, ixN21, upd_same, upd_upd, Int.zero_add, CMul, Int.reduceSub, Nat.le_refl, Nat.zero_le, or_true, true_or, exists_const, Int.sub_zero, hq])
            have eA : wordA (.str w) = (decide (PyData.str w = .str (Str.ofString "read")) || decide (PyData.str w = .str (Str.ofString "store"))) := by unfold wordA; rw [Bool.decide_or]
            rw [← eA]
            cases hA : wordA (.str w) with
            | true =>
              rw [if_pos rfl]
              rw [hA] at kk
              rw [show decide (((2 : Nat) : Int) = 2) = true from by decide]
              exact kk
            | false =>
              rw [if_neg (by simp)]
              rw [hA] at kk
              refine inT_str (us := [Str.ofString "put", Str.ofString "add", Str.ofString "need"]) (T.q_WITH_INTEGER _) ka (by simp [ok_words.2.2.1, ok_words.2.2.2.1, ok_words.2.2.2.2]) ?_
              have eB : wordB (.str w) = (decide (PyData.str w = .str (Str.ofString "put")) || (decide (PyData.str w = .str (Str.ofString "add")) || decide (PyData.str w = .str (Str.ofString "need")))) := by unfold wordB; rw [Bool.decide_or, Bool.decide_or]
              (try simp only [cxOf, Cx.nox, Cx.wish, tSeq, tAsg, tC, gName, tIfS, tTest, tOp, tUn, rU, rI0, rI, tVar, tNext, tRevT, tDNewK, tBreak, tChain, iStr, tRet, tRetN, tDrop, tLst, tTup, tCons, tNil, tCB, tB, tOr, tAnd, tNot, tIf, tCall, tFor_eq, tLc_eq, iRng1, iRng2, iList, iTup, gTup, gTupH, gUnlH, gCons, gNil, gSub, rSetL, rIxL, rIxT, rIxLH, rIxTH, rSlTS, rCatS, rTupS, rIsiH, rLenS, V.ty.injEq, tyS_non, tyS_bl, tyS_int, tyS_str, tyS_ref, tyO_l, tyO_t, tyO_d, tyO_dt, kit_ll, kit_tt, kit_bb, kit_ii, kit_ib, kit_bi, kit_nt, kit_it, kit_st, kit_bt, kit_lt, kit_dt, kit_ni, kit_si, kit_ti, kit_li, kit_di, kit_nb, kit_ns, kit_is, kit_bs, kit_ss, kit_ts, kit_ls, kit_ds, kit_dd, lenS_ref, lenO_l, lenO_t,  rAppend, tM1, rIxS, tSl, tPart, tNoPart, tBM, tBM0, tDGetS, sDPutS, tTruS, truO_l, truO_t, truS_ref, truS_non, truS_bl, truS_int, tFld, sFld, sFldAug, rAdd, tMeth, tProp, tMake, tMakeK, List.take_succ_cons, List.take_zero, List.drop_succ_cons, List.drop_zero, List.take_nil, tIsN, tNotN, tAndV, tOrV, tNotV, putF, List.lookup, List.any_cons, List.any_nil, Sum.inr.injEq, HO.ins.injEq, HO.dK.injEq, eq_self, beq_self_eq_true, beq_iff_eq, decide_true, decide_false, Bool.or_true, Bool.true_or, Bool.or_false, Bool.false_or, tYes, rEq, rNe, _root_.L2.start, wipe, List.map_cons, List.map_nil, List.length_cons, List.length_nil, List.append_nil, Nat.reduceAdd, Nat.reduceSub, List.replicate_succ, List.replicate_zero, List.cons_append, List.nil_append, List.getElem?_cons_zero, List.getElem?_cons_succ, List.set_cons_zero, List.set_cons_succ, Option.some.injEq, V.int.injEq, V.ref.injEq, V.bl.injEq, V.str.injEq, List.cons.injEq, HO.lst.injEq, HO.tup.injEq, and_assoc, and_true, true_and, exists_eq_left, exists_eq_left', exists_and_left, exists_eq, reduceCtorEq, false_and, and_false, or_false, false_or, exists_false, decide_eq_true_eq, CPow, CDivW, Int.reducePow, Int.reduceLT, Int.reduceLE, Int.reduceNeg, Int.reduceToNat, Int.reduceAbs, Nat.reducePow, Nat.reduceLT, Nat.reduceLeDiff, sizeLine_eq, Int.reduceMul, Int.reduceAdd, Int.reduceSub, Bool.not_eq_true', decide_eq_false_iff_not, scal, Bool.not_true, Bool.not_false, Bool.true_eq_false, Bool.false_eq_true, ite_false, ite_true, if_true, if_false, ite_self, forall_const, atI0, atI1, atI2, atI3, ixN20, ixN21, upd_same, upd_upd, Int.zero_add, CMul, Int.reduceSub, Nat.le_refl, Nat.zero_le, or_true, true_or, exists_const, Int.sub_zero, hq])
              split
              · split
                · exfalso; omega
                · exact kk
              · exact kk
        | _ => simp only [stepJ, isStr, Bool.false_and] at kk; simp only [dTy]; (try simp only [cxOf, Cx.nox, Cx.wish, tSeq, tAsg, tC, gName, tIfS, tTest, tOp, tUn, rU, rI0, rI, tVar, tNext, tRevT, tDNewK, tBreak, tChain, iStr, tRet, tRetN, tDrop, tLst, tTup, tCons, tNil, tCB, tB, tOr, tAnd, tNot, tIf, tCall, tFor_eq, tLc_eq, iRng1, iRng2, iList, iTup, gTup, gTupH, gUnlH, gCons, gNil, gSub, rSetL, rIxL, rIxT, rIxLH, rIxTH, rSlTS, rCatS, rTupS, rIsiH, rLenS, V.ty.injEq, tyS_non, tyS_bl, tyS_int, tyS_str, tyS_ref, tyO_l, tyO_t, tyO_d, tyO_dt, kit_ll, kit_tt, kit_bb, kit_ii, kit_ib, kit_bi, kit_nt, kit_it, kit_st, kit_bt, kit_lt, kit_dt, kit_ni, kit_si, kit_ti, kit_li, kit_di, kit_nb, kit_ns, kit_is, kit_bs, kit_ss, kit_ts, kit_ls, kit_ds, kit_dd, lenS_ref, lenO_l, lenO_t,  rAppend, tM1, rIxS, tSl, tPart, tNoPart, tBM, tBM0, tDGetS, sDPutS, tTruS, truO_l, truO_t, truS_ref, truS_non, truS_bl, truS_int, tFld, sFld, sFldAug, rAdd, tMeth, tProp, tMake, tMakeK, List.take_succ_cons, List.take_zero, List.drop_succ_cons, List.drop_zero, List.take_nil, tIsN, tNotN, tAndV, tOrV, tNotV, putF, List.lookup, List.any_cons, List.any_nil, Sum.inr.injEq, HO.ins.injEq, HO.dK.injEq, eq_self, beq_self_eq_true, beq_iff_eq, decide_true, decide_false, Bool.or_true, Bool.true_or, Bool.or_false, Bool.false_or, tYes, rEq, rNe, _root_.L2.start, wipe, List.map_cons, List.map_nil, List.length_cons, List.length_nil, List.append_nil, Nat.reduceAdd, Nat.reduceSub, List.replicate_succ, List.replicate_zero, List.cons_append, List.nil_append, List.getElem?_cons_zero, List.getElem?_cons_succ, List.set_cons_zero, List.set_cons_succ, Option.some.injEq, V.int.injEq, V.ref.injEq, V.bl.injEq, V.str.injEq, List.cons.injEq, HO.lst.injEq, HO.tup.injEq, and_assoc, and_true, true_and, exists_eq_left, exists_eq_left', exists_and_left, exists_eq, reduceCtorEq, false_and, and_false, or_false, false_or, exists_false, decide_eq_true_eq, CPow, CDivW, Int.reducePow, Int.reduceLT, Int.reduceLE, Int.reduceNeg, Int.reduceToNat, Int.reduceAbs, Nat.reducePow, Nat.reduceLT, Nat.reduceLeDiff, sizeLine_eq, Int.reduceMul, Int.reduceAdd, Int.reduceSub, Bool.not_eq_true', decide_eq_false_iff_not, scal, Bool.not_true, Bool.not_false, Bool.true_eq_false, Bool.false_eq_true, ite_false, ite_true, if_true, if_false, ite_self, forall_const, atI0, atI1, atI2, atI3, ixN20, ixN21, upd_same, upd_upd, Int.zero_add, CMul, Int.reduceSub, Nat.le_refl, Nat.zero_le, or_true, true_or, exists_const, Int.sub_zero]); exact kk
      · obtain ⟨x, y, z, rfl, ox, oy, oz⟩ := obs3 hx
        obtain ⟨ka, kb, kc⟩ := okT3 hok
        (try simp only [cxOf, Cx.nox, Cx.wish, tSeq, tAsg, tC, gName, tIfS, tTest, tOp, tUn, rU, rI0, rI, tVar, tNext, tRevT, tDNewK, tBreak, tChain, iStr, tRet, tRetN, tDrop, tLst, tTup, tCons, tNil, tCB, tB, tOr, tAnd, tNot, tIf, tCall, tFor_eq, tLc_eq, iRng1, iRng2, iList, iTup, gTup, gTupH, gUnlH, gCons, gNil, gSub, rSetL, rIxL, rIxT, rIxLH, rIxTH, rSlTS, rCatS, rTupS, rIsiH, rLenS, V.ty.injEq, tyS_non, tyS_bl, tyS_int, tyS_str, tyS_ref, tyO_l, tyO_t, tyO_d, tyO_dt, kit_ll, kit_tt, kit_bb, kit_ii, kit_ib, kit_bi, kit_nt, kit_it, kit_st, kit_bt, kit_lt, kit_dt, kit_ni, kit_si, kit_ti, kit_li, kit_di, kit_nb, kit_ns, kit_is, kit_bs, kit_ss, kit_ts, kit_ls, kit_ds, kit_dd, lenS_ref, lenO_l, lenO_t,  rAppend, tM1, rIxS, tSl, tPart, tNoPart, tBM, tBM0, tDGetS, sDPutS, tTruS, truO_l, truO_t, truS_ref, truS_non, truS_bl, truS_int, tFld, sFld, sFldAug, rAdd, tMeth, tProp, tMake, tMakeK, List.take_succ_cons, List.take_zero, List.drop_succ_cons, List.drop_zero, List.take_nil, tIsN, tNotN, tAndV, tOrV, tNotV, putF, List.lookup, List.any_cons, List.any_nil, Sum.inr.injEq, HO.ins.injEq, HO.dK.injEq, eq_self, beq_self_eq_true, beq_iff_eq, decide_true, decide_false, Bool.or_true, Bool.true_or, Bool.or_false, Bool.false_or, tYes, rEq, rNe, _root_.L2.start, wipe, List.map_cons, List.map_nil, List.length_cons, List.length_nil, List.append_nil, Nat.reduceAdd, Nat.reduceSub, List.replicate_succ, List.replicate_zero, List.cons_append, List.nil_append, List.getElem?_cons_zero, List.getElem?_cons_succ, List.set_cons_zero, List.set_cons_succ, Option.some.injEq, V.int.injEq, V.ref.injEq, V.bl.injEq, V.str.injEq, List.cons.injEq, HO.lst.injEq, HO.tup.injEq, and_assoc, and_true, true_and, exists_eq_left, exists_eq_left', exists_and_left, exists_eq, reduceCtorEq, false_and, and_false, or_false, false_or, exists_false, decide_eq_true_eq, CPow, CDivW, Int.reducePow, Int.reduceLT, Int.reduceLE, Int.reduceNeg, Int.reduceToNat, Int.reduceAbs, Nat.reducePow, Nat.reduceLT, Nat.reduceLeDiff, sizeLine_eq, Int.reduceMul, Int.reduceAdd, Int.reduceSub, Bool.not_eq_true', decide_eq_false_iff_not, scal, Bool.not_true, Bool.not_false, Bool.true_eq_false, Bool.false_eq_true, ite_false, ite_true, if_true, if_false, ite_self, forall_const, atI0, atI1, atI2, atI3, ixN20, ixN21, upd_same, upd_upd, Int.zero_add, CMul, Int.reduceSub, Nat.le_refl, Nat.zero_le, or_true, true_or, exists_const, Int.sub_zero, hq, ox.ty])
        rw [if_pos (by decide), if_neg (by decide)]
        cases a with
        | str w =>
          have := ox.strE
          subst this
          simp only [dTy]
          (try simp only [cxOf, Cx.nox, Cx.wish, tSeq, tAsg, tC, gName, tIfS, tTest, tOp, tUn, rU, rI0, rI, tVar, tNext, tRevT, tDNewK, tBreak, tChain, iStr, tRet, tRetN, tDrop, tLst, tTup, tCons, tNil, tCB, tB, tOr, tAnd, tNot, tIf, tCall, tFor_eq, tLc_eq, iRng1, iRng2, iList, iTup, gTup, gTupH, gUnlH, gCons, gNil, gSub, rSetL, rIxL, rIxT, rIxLH, rIxTH, rSlTS, rCatS, rTupS, rIsiH, rLenS, V.ty.injEq, tyS_non, tyS_bl, tyS_int, tyS_str, tyS_ref, tyO_l, tyO_t, tyO_d, tyO_dt, kit_ll, kit_tt, kit_bb, kit_ii, kit_ib, kit_bi, kit_nt, kit_it, kit_st, kit_bt, kit_lt, kit_dt, kit_ni, kit_si, kit_ti, kit_li, kit_di, kit_nb, kit_ns, kit_is, kit_bs, kit_ss, kit_ts, kit_ls, kit_ds, kit_dd, lenS_ref, lenO_l, lenO_t,  rAppend, tM1, rIxS, tSl, tPart, tNoPart, tBM, tBM0, tDGetS, sDPutS, tTruS, truO_l, truO_t, truS_ref, truS_non, truS_bl, truS_int, tFld, sFld, sFldAug, rAdd, tMeth, tProp, tMake, tMakeK, List.take_succ_cons, List.take_zero, List.drop_succ_cons, List.drop_zero, List.take_nil, tIsN, tNotN, tAndV, tOrV, tNotV, putF, List.lookup, List.any_cons, List.any_nil, Sum.inr.injEq, HO.ins.injEq, HO.dK.injEq, eq_self, beq_self_eq_true, beq_iff_eq, decide_true, decide_false, Bool.or_true, Bool.true_or, Bool.or_false, Bool.false_or, tYes, rEq, rNe, _root_.L2.start, wipe, List.map_cons, List.map_nil, List.length_cons, List.length_nil, List.append_nil, Nat.reduceAdd, Nat.reduceSub, List.replicate_succ, List.replicate_zero, List.cons_append, List.nil_append, List.getElem?_cons_zero, List.getElem?_cons_succ, List.set_cons_zero, List.set_cons_succ, Option.some.injEq, V.int.injEq, V.ref.injEq, V.bl.injEq, V.str.injEq, List.cons.injEq, HO.lst.injEq, HO.tup.injEq, and_assoc, and_true, true_and, exists_eq_left, exists_eq_left', exists_and_left, exists_eq, reduceCtorEq, false_and, and_false, or_false, false_or, exists_false, decide_eq_true_eq, CPow, CDivW, Int.reducePow, Int.reduceLT, Int.reduceLE, Int.reduceNeg, Int.reduceToNat, Int.reduceAbs, Nat.reducePow, Nat.reduceLT, Nat.reduceLeDiff, sizeLine_eq, Int.reduceMul, Int.reduceAdd, Int.reduceSub, Bool.not_eq_true', decide_eq_false_iff_not, scal, Bool.not_true, Bool.not_false, Bool.true_eq_false, Bool.false_eq_true, ite_false, ite_true, if_true, if_false, ite_self, forall_const, atI0, atI1, atI2, atI3, ixN20, ixN21, upd_same, upd_upd, Int.zero_add, CMul, Int.reduceSub, Nat.le_refl, Nat.zero_le, or_true, true_or, exists_const, Int.sub_zero, sp_is_key, sp_is_integer])
          refine ⟨s, k, oy, kb, ?_⟩
          simp only [stepJ, isStr, Bool.true_and] at kk
          cases hK : keyJ k with
          | false => rw [hK] at kk; simp only [Bool.false_and] at kk; (try simp only [cxOf, Cx.nox, Cx.wish, tSeq, tAsg, tC, gName, tIfS, tTest, tOp, tUn, rU, rI0, rI, tVar, tNext, tRevT, tDNewK, tBreak, tChain, iStr, tRet, tRetN, tDrop, tLst, tTup, tCons, tNil, tCB, tB, tOr, tAnd, tNot, tIf, tCall, tFor_eq, tLc_eq, iRng1, iRng2, iList, iTup, gTup, gTupH, gUnlH, gCons, gNil, gSub, rSetL, rIxL, rIxT, rIxLH, rIxTH, rSlTS, rCatS, rTupS, rIsiH, rLenS, V.ty.injEq, tyS_non, tyS_bl, tyS_int, tyS_str, tyS_ref, tyO_l, tyO_t, tyO_d, tyO_dt, kit_ll, kit_tt, kit_bb, kit_ii, kit_ib, kit_bi, kit_nt, kit_it, kit_st, kit_bt, kit_lt, kit_dt, kit_ni, kit_si, kit_ti, kit_li, kit_di, kit_nb, kit_ns, kit_is, kit_bs, kit_ss, kit_ts, kit_ls, kit_ds, kit_dd, lenS_ref, lenO_l, lenO_t,  rAppend, tM1, rIxS, tSl, tPart, tNoPart, tBM, tBM0, tDGetS, sDPutS, tTruS, truO_l, truO_t, truS_ref, truS_non, truS_bl, truS_int, tFld, sFld, sFldAug, rAdd, tMeth, tProp, tMake, tMakeK, List.take_succ_cons, List.take_zero, List.drop_succ_cons, List.drop_zero, List.take_nil, tIsN, tNotN, tAndV, tOrV, tNotV, putF, List.lookup, List.any_cons, List.any_nil, Sum.inr.injEq, HO.ins.injEq, HO.dK.injEq, eq_self, beq_self_eq_true, beq_iff_eq, decide_true, decide_false, Bool.or_true, Bool.true_or, Bool.or_false, Bool.false_or, tYes, rEq, rNe, _root_.L2.start, wipe, List.map_cons, List.map_nil, List.length_cons, List.length_nil, List.append_nil, Nat.reduceAdd, Nat.reduceSub, List.replicate_succ, List.replicate_zero, List.cons_append, List.nil_append, List.getElem?_cons_zero, List.getElem?_cons_succ, List.set_cons_zero, List.set_cons_succ, Option.some.injEq, V.int.injEq, V.ref.injEq, V.bl.injEq, V.str.injEq, List.cons.injEq, HO.lst.injEq, HO.tup.injEq, and_assoc, and_true, true_and, exists_eq_left, exists_eq_left', exists_and_left, exists_eq, reduceCtorEq, false_and, and_false, or_false, false_or, exists_false, decide_eq_true_eq, CPow, CDivW, Int.reducePow, Int.reduceLT, Int.reduceLE, Int.reduceNeg, Int.reduceToNat, Int.reduceAbs, Nat.reducePow, Nat.reduceLT, Nat.reduceLeDiff, sizeLine_eq, Int.reduceMul, Int.reduceAdd, Int.reduceSub, Bool.not_eq_true', decide_eq_false_iff_not, scal, Bool.not_true, Bool.not_false, Bool.true_eq_false, Bool.false_eq_true, ite_false, ite_true, if_true, if_false, ite_self, forall_const, atI0, atI1, atI2, atI3, ixN20, ixN21, upd_same, upd_upd, Int.zero_add, CMul, Int.reduceSub, Nat.le_refl, Nat.zero_le, or_true, true_or, exists_const, Int.sub_zero]); exact kk
          | true =>
            rw [hK] at kk; simp only [Bool.true_and] at kk
            (try simp only [cxOf, Cx.nox, Cx.wish, tSeq, tAsg, tC, gName, tIfS, tTest, tOp, tUn, rU, rI0, rI, tVar, tNext, tRevT, tDNewK, tBreak, tChain, iStr, tRet, tRetN, tDrop, tLst, tTup, tCons, tNil, tCB, tB, tOr, tAnd, tNot, tIf, tCall, tFor_eq, tLc_eq, iRng1, iRng2, iList, iTup, gTup, gTupH, gUnlH, gCons, gNil, gSub, rSetL, rIxL, rIxT, rIxLH, rIxTH, rSlTS, rCatS, rTupS, rIsiH, rLenS, V.ty.injEq, tyS_non, tyS_bl, tyS_int, tyS_str, tyS_ref, tyO_l, tyO_t, tyO_d, tyO_dt, kit_ll, kit_tt, kit_bb, kit_ii, kit_ib, kit_bi, kit_nt, kit_it, kit_st, kit_bt, kit_lt, kit_dt, kit_ni, kit_si, kit_ti, kit_li, kit_di, kit_nb, kit_ns, kit_is, kit_bs, kit_ss, kit_ts, kit_ls, kit_ds, kit_dd, lenS_ref, lenO_l, lenO_t,  rAppend, tM1, rIxS, tSl, tPart, tNoPart, tBM, tBM0, tDGetS, sDPutS, tTruS, truO_l, truO_t, truS_ref, truS_non, truS_bl, truS_int, tFld, sFld, sFldAug, rAdd, tMeth, tProp, tMake, tMakeK, List.take_succ_cons, List.take_zero, List.drop_succ_cons, List.drop_zero, List.take_nil, tIsN, tNotN, tAndV, tOrV, tNotV, putF, List.lookup, List.any_cons, List.any_nil, Sum.inr.injEq, HO.ins.injEq, HO.dK.injEq, eq_self, beq_self_eq_true, beq_iff_eq, decide_true, decide_false, Bool.or_true, Bool.true_or, Bool.or_false, Bool.false_or, tYes, rEq, rNe, _root_.L2.start, wipe, List.map_cons, List.map_nil, List.length_cons, List.length_nil, List.append_nil, Nat.reduceAdd, Nat.reduceSub, List.replicate_succ, List.replicate_zero, List.cons_append, List.nil_append, List.getElem?_cons_zero, List.getElem?_cons_succ, List.set_cons_zero, List.set_cons_succ, Option.some.injEq, V.int.injEq, V.ref.injEq, V.bl.injEq, V.str.injEq, List.cons.injEq, HO.lst.injEq, HO.tup.injEq, and_assoc, and_true, true_and, exists_eq_left, exists_eq_left', exists_and_left, exists_eq, reduceCtorEq, false_and, and_false, or_false, false_or, exists_false, decide_eq_true_eq, CPow, CDivW, Int.reducePow, Int.reduceLT, Int.reduceLE, Int.reduceNeg, Int.reduceToNat, Int.reduceAbs, Nat.reducePow, Nat.reduceLT, Nat.reduceLeDiff, sizeLine_eq, Int.reduceMul, Int.reduceAdd, Int.reduceSub, Bool.not_eq_true', decide_eq_false_iff_not, scal, Bool.not_true, Bool.not_false, Bool.true_eq_false, Bool.false_eq_true, ite_false, ite_true, if_true, if_false, ite_self, forall_const, atI0, atI1, atI2, atI3, ixN20, ixN21, upd_same, upd_upd, Int.zero_add, CMul, Int.reduceSub, Nat.le_refl, Nat.zero_le, or_true, true_or, exists_const, Int.sub_zero, hq])
            refine inT_str (us := [Str.ofString "read", Str.ofString "store"]) (T.q_WITHOUT _) ka (by simp [ok_words.1, ok_words.2.1]) ?_
            (try simp only [cxOf, Cx.nox, Cx.wish, tSeq, tAsg, tC, gName, tIfS, tTest, tOp, tUn, rU, rI0, rI, tVar, tNext, tRevT, tDNewK, tBreak, tChain, iStr, tRet, tRetN, tDrop, tLst, tTup, tCons, tNil, tCB, tB, tOr, tAnd, tNot, tIf, tCall, tFor_eq, tLc_eq, iRng1, iRng2, iList, iTup, gTup, gTupH, gUnlH, gCons, gNil, gSub, rSetL, rIxL, rIxT, rIxLH, rIxTH, rSlTS, rCatS, rTupS, rIsiH, rLenS, V.ty.injEq, tyS_non, tyS_bl, tyS_int, tyS_str, tyS_ref, tyO_l, tyO_t, tyO_d, tyO_dt, kit_ll, kit_tt, kit_bb, kit_ii, kit_ib, kit_bi, kit_nt, kit_it, kit_st, kit_bt, kit_lt, kit_dt, kit_ni, kit_si, kit_ti, kit_li, kit_di, kit_nb, kit_ns, kit_is, kit_bs, kit_ss, kit_ts, kit_ls, kit_ds, kit_dd, lenS_ref, lenO_l, lenO_t,  rAppend, tM1, rIxS, tSl, tPart, tNoPart, tBM, tBM0, tDGetS, sDPutS, tTruS, truO_l, truO_t, truS_ref, truS_non, truS_bl, truS_int, tFld, sFld, sFldAug, rAdd, tMeth, tProp, tMake, tMakeK, List.take_succ_cons, List.take_zero, List.drop_succ_cons, List.drop_zero, List.take_nil, tIsN, tNotN, tAndV, tOrV, tNotV, putF, List.lookup, List.any_cons, List.any_nil, Sum.inr.injEq, HO.ins.injEq, HO.dK.injEq, eq_self, beq_self_eq_true, beq_iff_eq, decide_true, decide_false, Bool.or_true, Bool.true_or, Bool.or_false, Bool.false_or, tYes, rEq, rNe, _root_.L2.start, wipe, List.map_cons, List.map_nil, List.length_cons, List.length_nil, List.append_nil, Nat.reduceAdd, Nat.reduceSub, List.replicate_succ, List.replicate_zero, List.cons_append, List.nil_append, List.getElem?_cons_zero, List.getElem?_cons_succ, List.set_cons_zero, List.set_cons_succ, Option.some.injEq, V.int.injEq, V.ref.injEq, V.bl.injEq, V.str.injEq, List.cons.injEq, HO.lst.injEq, HO.tup.injEq, and_assoc, and_true, true_and, exists_eq_left, exists_eq_left', exists_and_left, exists_eq, reduceCtorEq, false_and, and_false, or_false, false_or, exists_false, decide_eq_true_eq, CPow, CDivW, Int.reducePow, Int.reduceLT, Int.reduceLE, Int.reduceNeg, Int.reduceToNat, Int.reduceAbs, Nat.reducePow, Nat.reduceLT, Nat.reduceLeDiff, sizeLine_eq, Int.reduceMul, Int.reduceAdd, Int.reduceSub, Bool.not_eq_true', decide_eq_false_iff_not, scal, Bool.not_true, Bool.not_false, Bool.true_eq_false, Bool.false_eq_true, ite_false, ite_true, if_true, if_false, ite_self, forall_const, atI0, atI1, atI2, atI3, ixN20, ixN21, upd_same, upd_upd, Int.zero_add, CMul, Int.reduceSub, Nat.le_refl, Nat.zero_le, or_true, true_or, exists_const, Int.sub_zero, hq])
            have eA : wordA (.str w) = (decide (PyData.str w = .str (Str.ofString "read")) || decide (PyData.str w = .str (Str.ofString "store"))) := by unfold wordA; rw [Bool.decide_or]
            rw [← eA]
            cases hA : wordA (.str w) with
            | true =>
              rw [if_pos rfl]
              rw [hA] at kk
              rw [show decide (((3 : Nat) : Int) = 2) = false from by decide]
              simpa only [Bool.not_true, Bool.false_and] using kk
            | false =>
              rw [if_neg (by simp)]
              rw [hA] at kk
              refine inT_str (us := [Str.ofString "put", Str.ofString "add", Str.ofString "need"]) (T.q_WITH_INTEGER _) ka (by simp [ok_words.2.2.1, ok_words.2.2.2.1, ok_words.2.2.2.2]) ?_
              have eB : wordB (.str w) = (decide (PyData.str w = .str (Str.ofString "put")) || (decide (PyData.str w = .str (Str.ofString "add")) || decide (PyData.str w = .str (Str.ofString "need")))) := by unfold wordB; rw [Bool.decide_or, Bool.decide_or]
              (try simp only [cxOf, Cx.nox, Cx.wish, tSeq, tAsg, tC, gName, tIfS, tTest, tOp, tUn, rU, rI0, rI, tVar, tNext, tRevT, tDNewK, tBreak, tChain, iStr, tRet, tRetN, tDrop, tLst, tTup, tCons, tNil, tCB, tB, tOr, tAnd, tNot, tIf, tCall, tFor_eq, tLc_eq, iRng1, iRng2, iList, iTup, gTup, gTupH, gUnlH, gCons, gNil, gSub, rSetL, rIxL, rIxT, rIxLH, rIxTH, rSlTS, rCatS, rTupS, rIsiH, rLenS, V.ty.injEq, tyS_non, tyS_bl, tyS_int, tyS_str, tyS_ref, tyO_l, tyO_t, tyO_d, tyO_dt, kit_ll, kit_tt, kit_bb, kit_ii, kit_ib, kit_bi, kit_nt, kit_it, kit_st, kit_bt, kit_lt, kit_dt, kit_ni, kit_si, kit_ti, kit_li, kit_di, kit_nb, kit_ns, kit_is, kit_bs, kit_ss, kit_ts, kit_ls, kit_ds, kit_dd, lenS_ref, lenO_l, lenO_t,  rAppend, tM1, rIxS, tSl, tPart, tNoPart, tBM, tBM0, tDGetS, sDPutS, tTruS, truO_l, truO_t, truS_ref, truS_non, truS_bl, truS_int, tFld, sFld, sFldAug, rAdd, tMeth, tProp, tMake, tMakeK, List.take_succ_cons, List.take_zero, List.drop_succ_cons, List.drop_zero, List.take_nil, tIsN, tNotN, tAndV, tOrV, tNotV, putF, List.lookup, List.any_cons, List.any_nil, Sum.inr.injEq, HO.ins.injEq, HO.dK.injEq, eq_self, beq_self_eq_true, beq_iff_eq, decide_true, decide_false, Bool.or_true, Bool.true_or, Bool.or_false, Bool.false_or, tYes, rEq, rNe, _root_.L2.start, wipe, List.map_cons, List.map_nil, List.length_cons, List.length_nil, List.append_nil, Nat.reduceAdd, Nat.reduceSub, List.replicate_succ, List.replicate_zero, List.cons_append, List.nil_append, List.getElem?_cons_zero, List.getElem?_cons_succ, List.set_cons_zero, List.set_cons_succ, Option.some.injEq, V.int.injEq, V.ref.injEq, V.bl.injEq, V.str.injEq, List.cons.injEq, HO.lst.injEq, HO.tup.injEq, and_assoc, and_true, true_and, exists_eq_left, exists_eq_left', exists_and_left, exists_eq, reduceCtorEq, false_and, and_false, or_false, false_or, exists_false, decide_eq_true_eq, CPow, CDivW, Int.reducePow, Int.reduceLT, Int.reduceLE, Int.reduceNeg, Int.reduceToNat, Int.reduceAbs, Nat.reducePow, Nat.reduceLT, Nat.reduceLeDiff, sizeLine_eq, Int.reduceMul, Int.reduceAdd, Int.reduceSub, Bool.not_eq_true', decide_eq_false_iff_not, scal, Bool.not_true, Bool.not_false, Bool.true_eq_false, Bool.false_eq_true, ite_false, ite_true, if_true, if_false, ite_self, forall_const, atI0, atI1, atI2, atI3, ixN20, ixN21, upd_same, upd_upd, Int.zero_add, CMul, Int.reduceSub, Nat.le_refl, Nat.zero_le, or_true, true_or, exists_const, Int.sub_zero, hq])
              rw [← eB]
              cases hB : wordB (.str w) with
              | false => rw [hB] at kk; rw [if_neg (by simp)]; simpa only [Bool.not_false, Bool.true_and, Bool.false_and] using kk
              | true => rw [hB] at kk; rw [if_pos rfl, if_pos (by decide)]; exact ⟨s, i, oz, by simpa only [Bool.not_false, Bool.true_and] using kk⟩
        | _ => simp only [stepJ, isStr, Bool.false_and] at kk; simp only [dTy]; (try simp only [cxOf, Cx.nox, Cx.wish, tSeq, tAsg, tC, gName, tIfS, tTest, tOp, tUn, rU, rI0, rI, tVar, tNext, tRevT, tDNewK, tBreak, tChain, iStr, tRet, tRetN, tDrop, tLst, tTup, tCons, tNil, tCB, tB, tOr, tAnd, tNot, tIf, tCall, tFor_eq, tLc_eq, iRng1, iRng2, iList, iTup, gTup, gTupH, gUnlH, gCons, gNil, gSub, rSetL, rIxL, rIxT, rIxLH, rIxTH, rSlTS, rCatS, rTupS, rIsiH, rLenS, V.ty.injEq, tyS_non, tyS_bl, tyS_int, tyS_str, tyS_ref, tyO_l, tyO_t, tyO_d, tyO_dt, kit_ll, kit_tt, kit_bb, kit_ii, kit_ib, kit_bi, kit_nt, kit_it, kit_st, kit_bt, kit_lt, kit_dt, kit_ni, kit_si, kit_ti, kit_li, kit_di, kit_nb, kit_ns, kit_is, kit_bs, kit_ss, kit_ts, kit_ls, kit_ds, kit_dd, lenS_ref, lenO_l, lenO_t,  rAppend, tM1, rIxS, tSl, tPart, tNoPart, tBM, tBM0, tDGetS, sDPutS, tTruS, truO_l, truO_t, truS_ref, truS_non, truS_bl, truS_int, tFld, sFld, sFldAug, rAdd, tMeth, tProp, tMake, tMakeK, List.take_succ_cons, List.take_zero, List.drop_succ_cons, List.drop_zero, List.take_nil, tIsN, tNotN, tAndV, tOrV, tNotV, putF, List.lookup, List.any_cons, List.any_nil, Sum.inr.injEq, HO.ins.injEq, HO.dK.injEq, eq_self, beq_self_eq_true, beq_iff_eq, decide_true, decide_false, Bool.or_true, Bool.true_or, Bool.or_false, Bool.false_or, tYes, rEq, rNe, _root_.L2.start, wipe, List.map_cons, List.map_nil, List.length_cons, List.length_nil, List.append_nil, Nat.reduceAdd, Nat.reduceSub, List.replicate_succ, List.replicate_zero, List.cons_append, List.nil_append, List.getElem?_cons_zero, List.getElem?_cons_succ, List.set_cons_zero, List.set_cons_succ, Option.some.injEq, V.int.injEq, V.ref.injEq, V.bl.injEq, V.str.injEq, List.cons.injEq, HO.lst.injEq, HO.tup.injEq, and_assoc, and_true, true_and, exists_eq_left, exists_eq_left', exists_and_left, exists_eq, reduceCtorEq, false_and, and_false, or_false, false_or, exists_false, decide_eq_true_eq, CPow, CDivW, Int.reducePow, Int.reduceLT, Int.reduceLE, Int.reduceNeg, Int.reduceToNat, Int.reduceAbs, Nat.reducePow, Nat.reduceLT, Nat.reduceLeDiff, sizeLine_eq, Int.reduceMul, Int.reduceAdd, Int.reduceSub, Bool.not_eq_true', decide_eq_false_iff_not, scal, Bool.not_true, Bool.not_false, Bool.true_eq_false, Bool.false_eq_true, ite_false, ite_true, if_true, if_false, ite_self, forall_const, atI0, atI1, atI2, atI3, ixN20, ixN21, upd_same, upd_upd, Int.zero_add, CMul, Int.reduceSub, Nat.le_refl, Nat.zero_le, or_true, true_or, exists_const, Int.sub_zero]); exact kk
      · rw [stepJ_few hf] at kk
        (try simp only [cxOf, Cx.nox, Cx.wish, tSeq, tAsg, tC, gName, tIfS, tTest, tOp, tUn, rU, rI0, rI, tVar, tNext, tRevT, tDNewK, tBreak, tChain, iStr, tRet, tRetN, tDrop, tLst, tTup, tCons, tNil, tCB, tB, tOr, tAnd, tNot, tIf, tCall, tFor_eq, tLc_eq, iRng1, iRng2, iList, iTup, gTup, gTupH, gUnlH, gCons, gNil, gSub, rSetL, rIxL, rIxT, rIxLH, rIxTH, rSlTS, rCatS, rTupS, rIsiH, rLenS, V.ty.injEq, tyS_non, tyS_bl, tyS_int, tyS_str, tyS_ref, tyO_l, tyO_t, tyO_d, tyO_dt, kit_ll, kit_tt, kit_bb, kit_ii, kit_ib, kit_bi, kit_nt, kit_it, kit_st, kit_bt, kit_lt, kit_dt, kit_ni, kit_si, kit_ti, kit_li, kit_di, kit_nb, kit_ns, kit_is, kit_bs, kit_ss, kit_ts, kit_ls, kit_ds, kit_dd, lenS_ref, lenO_l, lenO_t,  rAppend, tM1, rIxS, tSl, tPart, tNoPart, tBM, tBM0, tDGetS, sDPutS, tTruS, truO_l, truO_t, truS_ref, truS_non, truS_bl, truS_int, tFld, sFld, sFldAug, rAdd, tMeth, tProp, tMake, tMakeK, List.take_succ_cons, List.take_zero, List.drop_succ_cons, List.drop_zero, List.take_nil, tIsN, tNotN, tAndV, tOrV, tNotV, putF, List.lookup, List.any_cons, List.any_nil, Sum.inr.injEq, HO.ins.injEq, HO.dK.injEq, eq_self, beq_self_eq_true, beq_iff_eq, decide_true, decide_false, Bool.or_true, Bool.true_or, Bool.or_false, Bool.false_or, tYes, rEq, rNe, _root_.L2.start, wipe, List.map_cons, List.map_nil, List.length_cons, List.length_nil, List.append_nil, Nat.reduceAdd, Nat.reduceSub, List.replicate_succ, List.replicate_zero, List.cons_append, List.nil_append, List.getElem?_cons_zero, List.getElem?_cons_succ, List.set_cons_zero, List.set_cons_succ, Option.some.injEq, V.int.injEq, V.ref.injEq, V.bl.injEq, V.str.injEq, List.cons.injEq, HO.lst.injEq, HO.tup.injEq, and_assoc, and_true, true_and, exists_eq_left, exists_eq_left', exists_and_left, exists_eq, reduceCtorEq, false_and, and_false, or_false, false_or, exists_false, decide_eq_true_eq, CPow, CDivW, Int.reducePow, Int.reduceLT, Int.reduceLE, Int.reduceNeg, Int.reduceToNat, Int.reduceAbs, Nat.reducePow, Nat.reduceLT, Nat.reduceLeDiff, sizeLine_eq, Int.reduceMul, Int.reduceAdd, Int.reduceSub, Bool.not_eq_true', decide_eq_false_iff_not, scal, Bool.not_true, Bool.not_false, Bool.true_eq_false, Bool.false_eq_true, ite_false, ite_true, if_true, if_false, ite_self, forall_const, atI0, atI1, atI2, atI3, ixN20, ixN21, upd_same, upd_upd, Int.zero_add, CMul, Int.reduceSub, Nat.le_refl, Nat.zero_le, or_true, true_or, exists_const, Int.sub_zero, hq])
        rw [if_neg (by omega)]
        exact kk
      · (try simp only [cxOf, Cx.nox, Cx.wish, tSeq, tAsg, tC, gName, tIfS, tTest, tOp, tUn, rU, rI0, rI, tVar, tNext, tRevT, tDNewK, tBreak, tChain, iStr, tRet, tRetN, tDrop, tLst, tTup, tCons, tNil, tCB, tB, tOr, tAnd, tNot, tIf, tCall, tFor_eq, tLc_eq, iRng1, iRng2, iList, iTup, gTup, gTupH, gUnlH, gCons, gNil, gSub, rSetL, rIxL, rIxT, rIxLH, rIxTH, rSlTS, rCatS, rTupS, rIsiH, rLenS, V.ty.injEq, tyS_non, tyS_bl, tyS_int, tyS_str, tyS_ref, tyO_l, tyO_t, tyO_d, tyO_dt, kit_ll, kit_tt, kit_bb, kit_ii, kit_ib, kit_bi, kit_nt, kit_it, kit_st, kit_bt, kit_lt, kit_dt, kit_ni, kit_si, kit_ti, kit_li, kit_di, kit_nb, kit_ns, kit_is, kit_bs, kit_ss, kit_ts, kit_ls, kit_ds, kit_dd, lenS_ref, lenO_l, lenO_t,  rAppend, tM1, rIxS, tSl, tPart, tNoPart, tBM, tBM0, tDGetS, sDPutS, tTruS, truO_l, truO_t, truS_ref, truS_non, truS_bl, truS_int, tFld, sFld, sFldAug, rAdd, tMeth, tProp, tMake, tMakeK, List.take_succ_cons, List.take_zero, List.drop_succ_cons, List.drop_zero, List.take_nil, tIsN, tNotN, tAndV, tOrV, tNotV, putF, List.lookup, List.any_cons, List.any_nil, Sum.inr.injEq, HO.ins.injEq, HO.dK.injEq, eq_self, beq_self_eq_true, beq_iff_eq, decide_true, decide_false, Bool.or_true, Bool.true_or, Bool.or_false, Bool.false_or, tYes, rEq, rNe, _root_.L2.start, wipe, List.map_cons, List.map_nil, List.length_cons, List.length_nil, List.append_nil, Nat.reduceAdd, Nat.reduceSub, List.replicate_succ, List.replicate_zero, List.cons_append, List.nil_append, List.getElem?_cons_zero, List.getElem?_cons_succ, List.set_cons_zero, List.set_cons_succ, Option.some.injEq, V.int.injEq, V.ref.injEq, V.bl.injEq, V.str.injEq, List.cons.injEq, HO.lst.injEq, HO.tup.injEq, and_assoc, and_true, true_and, exists_eq_left, exists_eq_left', exists_and_left, exists_eq, reduceCtorEq, false_and, and_false, or_false, false_or, exists_false, decide_eq_true_eq, CPow, CDivW, Int.reducePow, Int.reduceLT, Int.reduceLE, Int.reduceNeg, Int.reduceToNat, Int.reduceAbs, Nat.reducePow, Nat.reduceLT, Nat.reduceLeDiff, sizeLine_eq, Int.reduceMul, Int.reduceAdd, Int.reduceSub, Bool.not_eq_true', decide_eq_false_iff_not, scal, Bool.not_true, Bool.not_false, Bool.true_eq_false, Bool.false_eq_true, ite_false, ite_true, if_true, if_false, ite_self, forall_const, atI0, atI1, atI2, atI3, ixN20, ixN21, upd_same, upd_upd, Int.zero_add, CMul, Int.reduceSub, Nat.le_refl, Nat.zero_le, or_true, true_or, exists_const, Int.sub_zero, hq])
        rw [show stepJ (.tuple (a :: k :: i :: j :: r)) = false from rfl] at kk
        simp only [List.length_cons] at hl
        rw [if_pos (by omega), if_pos (by omega)]
        exact kk
    | _ => simp only [dTy]; (try simp only [cxOf, Cx.nox, Cx.wish, tSeq, tAsg, tC, gName, tIfS, tTest, tOp, tUn, rU, rI0, rI, tVar, tNext, tRevT, tDNewK, tBreak, tChain, iStr, tRet, tRetN, tDrop, tLst, tTup, tCons, tNil, tCB, tB, tOr, tAnd, tNot, tIf, tCall, tFor_eq, tLc_eq, iRng1, iRng2, iList, iTup, gTup, gTupH, gUnlH, gCons, gNil, gSub, rSetL, rIxL, rIxT, rIxLH, rIxTH, rSlTS, rCatS, rTupS, rIsiH, rLenS, V.ty.injEq, tyS_non, tyS_bl, tyS_int, tyS_str, tyS_ref, tyO_l, tyO_t, tyO_d, tyO_dt, kit_ll, kit_tt, kit_bb, kit_ii, kit_ib, kit_bi, kit_nt, kit_it, kit_st, kit_bt, kit_lt, kit_dt, kit_ni, kit_si, kit_ti, kit_li, kit_di, kit_nb, kit_ns, kit_is, kit_bs, kit_ss, kit_ts, kit_ls, kit_ds, kit_dd, lenS_ref, lenO_l, lenO_t,  rAppend, tM1, rIxS, tSl, tPart, tNoPart, tBM, tBM0, tDGetS, sDPutS, tTruS, truO_l, truO_t, truS_ref, truS_non, truS_bl, truS_int, tFld, sFld, sFldAug, rAdd, tMeth, tProp, tMake, tMakeK, List.take_succ_cons, List.take_zero, List.drop_succ_cons, List.drop_zero, List.take_nil, tIsN, tNotN, tAndV, tOrV, tNotV, putF, List.lookup, List.any_cons, List.any_nil, Sum.inr.injEq, HO.ins.injEq, HO.dK.injEq, eq_self, beq_self_eq_true, beq_iff_eq, decide_true, decide_false, Bool.or_true, Bool.true_or, Bool.or_false, Bool.false_or, tYes, rEq, rNe, _root_.L2.start, wipe, List.map_cons, List.map_nil, List.length_cons, List.length_nil, List.append_nil, Nat.reduceAdd, Nat.reduceSub, List.replicate_succ, List.replicate_zero, List.cons_append, List.nil_append, List.getElem?_cons_zero, List.getElem?_cons_succ, List.set_cons_zero, List.set_cons_succ, Option.some.injEq, V.int.injEq, V.ref.injEq, V.bl.injEq, V.str.injEq, List.cons.injEq, HO.lst.injEq, HO.tup.injEq, and_assoc, and_true, true_and, exists_eq_left, exists_eq_left', exists_and_left, exists_eq, reduceCtorEq, false_and, and_false, or_false, false_or, exists_false, decide_eq_true_eq, CPow, CDivW, Int.reducePow, Int.reduceLT, Int.reduceLE, Int.reduceNeg, Int.reduceToNat, Int.reduceAbs, Nat.reducePow, Nat.reduceLT, Nat.reduceLeDiff, sizeLine_eq, Int.reduceMul, Int.reduceAdd, Int.reduceSub, Bool.not_eq_true', decide_eq_false_iff_not, scal, Bool.not_true, Bool.not_false, Bool.true_eq_false, Bool.false_eq_true, ite_false, ite_true, if_true, if_false, ite_self, forall_const, atI0, atI1, atI2, atI3, ixN20, ixN21, upd_same, upd_upd, Int.zero_add, CMul, Int.reduceSub, Nat.le_refl, Nat.zero_le, or_true, true_or, exists_const, Int.sub_zero]); exact kk
def sp_law_step : Sp := fun vs H Q _ => ∃ (p : Addr), vs = [.ref p] ∧ St2 H p ∧ ∀ (v : V) (d : PyData) (H' : Hp), StepD d → Im H' d v → Gn p H H' → Q v H'
theorem ok_law_step (T : Txt K mg) : FnOk P w K mg base CX0 4 T.f_law_step T.d_law_step ["_law_stream_here"] (sp_law_step) := by
  refine Fun.ok T.F_law_step sc_law_step (fun vs H Q E h => ?_) (fun cdv A outer s H vs Q E hr h => ?_)
  · obtain ⟨p, rfl, hp, kk⟩ := h; rfl
  · obtain ⟨p, rfl, hp, kk⟩ := h
    have hu := hu_of hr
    refine ⟨_, (pss_cons (ps_set (i := 1) sc_law_step.nd rfl (Or.inl rfl) (pe_call (ok_law_next T) (hr.mono (by decide)) rfl T.g_law_next T.F_law_next.kp T.b_law_next .nil pass0 (pa_cons (pv 0) (pa_cons pe_int pa_nil))))
      (pss_cons (ps_if (pt_cmpR op_lt (pv 1) pe_int (nomark _)) (pss_one (ps_ret (pe_tup (pa_cons (pe_ix ix_tupH (pe_tup (pa_cons pe_str (pa_cons pe_str pa_nil))) (pv 1) (fun _ _ => rfl)) (pa_cons (pe_call (ok_law_key T) (hr.mono (by decide)) rfl T.g_law_key T.F_law_key.kp T.b_law_key .nil pass0 (pa_cons (pv 0) pa_nil)) pa_nil))))) pss_nil)
      (pss_one (ps_ret (pe_tup (pa_cons (pe_ix ix_tupH (pe_tup (pa_cons pe_str (pa_cons pe_str (pa_cons pe_str pa_nil)))) (pe_op op_sub (pv 1) pe_int) (fun _ _ => rfl)) (pa_cons (pe_call (ok_law_key T) (hr.mono (by decide)) rfl T.g_law_key T.F_law_key.kp T.b_law_key .nil pass0 (pa_cons (pv 0) pa_nil)) (pa_cons (pe_call (ok_law_integer T) (hr.mono (by decide)) rfl T.g_law_integer T.F_law_integer.kp T.b_law_integer .nil pass0 (pa_cons (pv 0) pa_nil)) pa_nil)))))))), ?_⟩
    (try simp only [cxOf, Cx.nox, Cx.wish, tSeq, tAsg, tC, gName, tIfS, tTest, tOp, tUn, rU, rI0, rI, tVar, tNext, tRevT, tDNewK, tBreak, tChain, iStr, tRet, tRetN, tDrop, tLst, tTup, tCons, tNil, tCB, tB, tOr, tAnd, tNot, tIf, tCall, tFor_eq, tLc_eq, iRng1, iRng2, iList, iTup, gTup, gTupH, gUnlH, gCons, gNil, gSub, rSetL, rIxL, rIxT, rIxLH, rIxTH, rSlTS, rCatS, rTupS, rIsiH, rLenS, V.ty.injEq, tyS_non, tyS_bl, tyS_int, tyS_str, tyS_ref, tyO_l, tyO_t, tyO_d, tyO_dt, kit_ll, kit_tt, kit_bb, kit_ii, kit_ib, kit_bi, kit_nt, kit_it, kit_st, kit_bt, kit_lt, kit_dt, kit_ni, kit_si, kit_ti, kit_li, kit_di, kit_nb, kit_ns, kit_is, kit_bs, kit_ss, kit_ts, kit_ls, kit_ds, kit_dd, lenS_ref, lenO_l, lenO_t,  rAppend, tM1, rIxS, tSl, tPart, tNoPart, tBM, tBM0, tDGetS, sDPutS, tTruS, truO_l, truO_t, truS_ref, truS_non, truS_bl, truS_int, tFld, sFld, sFldAug, rAdd, tMeth, tProp, tMake, tMakeK, List.take_succ_cons, List.take_zero, List.drop_succ_cons, List.drop_zero, List.take_nil, tIsN, tNotN, tAndV, tOrV, tNotV, putF, List.lookup, List.any_cons, List.any_nil, Sum.inr.injEq, HO.ins.injEq, HO.dK.injEq, eq_self, beq_self_eq_true, beq_iff_eq, decide_true, decide_false, Bool.or_true, Bool.true_or, Bool.or_false, Bool.false_or, tYes, rEq, rNe, _root_.L2.start, wipe, List.map_cons, List.map_nil, List.length_cons, List.length_nil, List.append_nil, Nat.reduceAdd, Nat.reduceSub, List.replicate_succ, List.replicate_zero, List.cons_append, List.nil_append, List.getElem?_cons_zero, List.getElem?_cons_succ, List.set_cons_zero, List.set_cons_succ, Option.some.injEq, V.int.injEq, V.ref.injEq, V.bl.injEq, V.str.injEq, List.cons.injEq, HO.lst.injEq, HO.tup.injEq, and_assoc, and_true, true_and, exists_eq_left, exists_eq_left', exists_and_left, exists_eq, reduceCtorEq, false_and, and_false, or_false, false_or, exists_false, decide_eq_true_eq, CPow, CDivW, Int.reducePow, Int.reduceLT, Int.reduceLE, Int.reduceNeg, Int.reduceToNat, Int.reduceAbs, Nat.reducePow, Nat.reduceLT, Nat.reduceLeDiff, sizeLine_eq, Int.reduceMul, Int.reduceAdd, Int.reduceSub, Bool.not_eq_true', decide_eq_false_iff_not, scal, Bool.not_true, Bool.not_false, Bool.true_eq_false, Bool.false_eq_true, ite_false, ite_true, if_true, if_false, ite_self, forall_const, atI0, atI1, atI2, atI3, ixN20, ixN21, upd_same, upd_upd, Int.zero_add, CMul, Int.reduceSub, Nat.le_refl, Nat.zero_le, or_true, true_or, exists_const, Int.sub_zero, sp_law_next, sp_law_key, sp_law_integer])
    refine ⟨hp, fun v H1 v0 v1 g1 => ?_⟩
    split
    · intro q hq
      obtain ⟨x, hx, hm⟩ := atI_mem (xs := [V.str (Str.ofString "read"), V.str (Str.ofString "store")]) v0 (by simpa using ‹v < 2›)
      refine ⟨x, hx, g1.st.new hq, fun kv k H2 hk ik g2 r hr2 => ?_⟩
      have g := ((g1.new hq).trans g2).new hr2 (o := .tup [x, kv])
      simp only [List.mem_cons, List.not_mem_nil, or_false] at hm
      rcases hm with rfl | rfl
      · exact kk _ (.tuple [.str (Str.ofString "read"), k]) _ ⟨k, hk, .inl ⟨_, rfl, .inl rfl⟩⟩ (by walk_at "im") g
      · exact kk _ (.tuple [.str (Str.ofString "store"), k]) _ ⟨k, hk, .inl ⟨_, rfl, .inr rfl⟩⟩ (by walk_at "im") g
    · intro q hq
      obtain ⟨x, hx, hm⟩ := atI_mem (xs := [V.str (Str.ofString "put"), V.str (Str.ofString "add"), V.str (Str.ofString "need")]) (i := v - 2) (by omega) (by simp; omega)
      refine ⟨x, hx, g1.st.new hq, fun kv k H2 hk ik g2 => ⟨g2.st, fun i H3 i0 i1 g3 r hr2 => ?_⟩⟩
      have g := (((g1.new hq).trans g2).trans g3).new hr2 (o := .tup [x, kv, .int i])
      simp only [List.mem_cons, List.not_mem_nil, or_false] at hm
      rcases hm with rfl | rfl | rfl
      · exact kk _ (.tuple [.str (Str.ofString "put"), k, .int i]) _ ⟨k, hk, .inr ⟨_, i, rfl, .inl rfl, i0, i1⟩⟩ (by walk_at "im") g
      · exact kk _ (.tuple [.str (Str.ofString "add"), k, .int i]) _ ⟨k, hk, .inr ⟨_, i, rfl, .inr (.inl rfl), i0, i1⟩⟩ (by walk_at "im") g
      · exact kk _ (.tuple [.str (Str.ofString "need"), k, .int i]) _ ⟨k, hk, .inr ⟨_, i, rfl, .inr (.inr rfl), i0, i1⟩⟩ (by walk_at "im") g
def sp_law_is_program : Sp := fun vs H Q _ => ∃ (s : Addr) (d : PyData) (v : V), vs = [v] ∧ Ob s H d v ∧ okT d = true ∧ ∀ H', Same H H' → Q (.bl (progJ d)) H'
theorem ok_law_is_program (T : Txt K mg) : FnOk P w K mg base CX0 4 T.f_law_is_program T.d_law_is_program ["_law_thing"] (sp_law_is_program) := by
  refine Fun.ok T.F_law_is_program sc_law_is_program (fun vs H Q E h => ?_) (fun cdv A outer s H vs Q E hr h => ?_)
  · obtain ⟨s, d, v, rfl, ov, hok, kk⟩ := h; rfl
  · obtain ⟨s, d, v, rfl, ov, hok, kk⟩ := h
    have hu := hu_of hr
    refine ⟨_, (pss_cons (ps_if (PW.pt (pw_or (pt_not (pt_val (pe_callB call_isiH (by rfl) T.z_isinstance (by decide +kernel) (pa_cons (pv 0) (pa_cons (pe_bltn (v := .ty "tuple") (by rfl) T.z_tuple (by decide +kernel) rfl) pa_nil))))) (pw_or (pt_cmpR op_lt (pe_callB call_lenS (by rfl) T.z_len (by decide +kernel) (pa_cons (pv 0) pa_nil)) pe_int (nomark _)) (pw_or1 (pt_cmpR op_gt (pe_callB call_lenS (by rfl) T.z_len (by decide +kernel) (pa_cons (pv 0) pa_nil)) pe_int (nomark _)))))) (pss_one (ps_ret pe_bl)) pss_nil)
      (pss_one (ps_ret (pe_cmpR (op_eqE hr.units) (pe_lc (own := [("_law_step_here", 1)]) (g := gName 1) rfl sc_law_is_program.nd (pi_tup (pv 0)) (blkOk_by (N := N_law_is_program) (sc := defScope s_law_is_program) (by decide +kernel)) (fun _ _ _ _ _ => (pg_name (i := 1) sc_law_is_program.nd rfl (Or.inl rfl))) (fun _ _ _ _ _ => (pts_one (pt_not (pt_val (pe_call (ok_law_is_step T) (hr.mono (by decide)) rfl T.g_law_is_step T.F_law_is_step.kp T.b_law_is_step .nil pass0 (pa_cons (pv 1) pa_nil)))))) (fun _ _ _ _ _ => (pv 1))) (pe_lst pa_nil) (nomark _))))), ?_⟩
    (try simp only [cxOf, Cx.nox, Cx.wish, tSeq, tAsg, tC, gName, tIfS, tTest, tOp, tUn, rU, rI0, rI, tVar, tNext, tRevT, tDNewK, tBreak, tChain, iStr, tRet, tRetN, tDrop, tLst, tTup, tCons, tNil, tCB, tB, tOr, tAnd, tNot, tIf, tCall, tFor_eq, tLc_eq, iRng1, iRng2, iList, iTup, gTup, gTupH, gUnlH, gCons, gNil, gSub, rSetL, rIxL, rIxT, rIxLH, rIxTH, rSlTS, rCatS, rTupS, rIsiH, rLenS, V.ty.injEq, tyS_non, tyS_bl, tyS_int, tyS_str, tyS_ref, tyO_l, tyO_t, tyO_d, tyO_dt, kit_ll, kit_tt, kit_bb, kit_ii, kit_ib, kit_bi, kit_nt, kit_it, kit_st, kit_bt, kit_lt, kit_dt, kit_ni, kit_si, kit_ti, kit_li, kit_di, kit_nb, kit_ns, kit_is, kit_bs, kit_ss, kit_ts, kit_ls, kit_ds, kit_dd, lenS_ref, lenO_l, lenO_t,  rAppend, tM1, rIxS, tSl, tPart, tNoPart, tBM, tBM0, tDGetS, sDPutS, tTruS, truO_l, truO_t, truS_ref, truS_non, truS_bl, truS_int, tFld, sFld, sFldAug, rAdd, tMeth, tProp, tMake, tMakeK, List.take_succ_cons, List.take_zero, List.drop_succ_cons, List.drop_zero, List.take_nil, tIsN, tNotN, tAndV, tOrV, tNotV, putF, List.lookup, List.any_cons, List.any_nil, Sum.inr.injEq, HO.ins.injEq, HO.dK.injEq, eq_self, beq_self_eq_true, beq_iff_eq, decide_true, decide_false, Bool.or_true, Bool.true_or, Bool.or_false, Bool.false_or, tYes, rEq, rNe, _root_.L2.start, wipe, List.map_cons, List.map_nil, List.length_cons, List.length_nil, List.append_nil, Nat.reduceAdd, Nat.reduceSub, List.replicate_succ, List.replicate_zero, List.cons_append, List.nil_append, List.getElem?_cons_zero, List.getElem?_cons_succ, List.set_cons_zero, List.set_cons_succ, Option.some.injEq, V.int.injEq, V.ref.injEq, V.bl.injEq, V.str.injEq, List.cons.injEq, HO.lst.injEq, HO.tup.injEq, and_assoc, and_true, true_and, exists_eq_left, exists_eq_left', exists_and_left, exists_eq, reduceCtorEq, false_and, and_false, or_false, false_or, exists_false, decide_eq_true_eq, CPow, CDivW, Int.reducePow, Int.reduceLT, Int.reduceLE, Int.reduceNeg, Int.reduceToNat, Int.reduceAbs, Nat.reducePow, Nat.reduceLT, Nat.reduceLeDiff, sizeLine_eq, Int.reduceMul, Int.reduceAdd, Int.reduceSub, Bool.not_eq_true', decide_eq_false_iff_not, scal, Bool.not_true, Bool.not_false, Bool.true_eq_false, Bool.false_eq_true, ite_false, ite_true, if_true, if_false, ite_self, forall_const, atI0, atI1, atI2, atI3, ixN20, ixN21, upd_same, upd_upd, Int.zero_add, CMul, Int.reduceSub, Nat.le_refl, Nat.zero_le, or_true, true_or, exists_const, Int.sub_zero, ov.ty])
    cases d with
    | tuple ds =>
      obtain ⟨q, xs, rfl, hq, hx⟩ := ov.tup
      have hl := hx.len
      simp only [dTy]
      (try simp only [cxOf, Cx.nox, Cx.wish, tSeq, tAsg, tC, gName, tIfS, tTest, tOp, tUn, rU, rI0, rI, tVar, tNext, tRevT, tDNewK, tBreak, tChain, iStr, tRet, tRetN, tDrop, tLst, tTup, tCons, tNil, tCB, tB, tOr, tAnd, tNot, tIf, tCall, tFor_eq, tLc_eq, iRng1, iRng2, iList, iTup, gTup, gTupH, gUnlH, gCons, gNil, gSub, rSetL, rIxL, rIxT, rIxLH, rIxTH, rSlTS, rCatS, rTupS, rIsiH, rLenS, V.ty.injEq, tyS_non, tyS_bl, tyS_int, tyS_str, tyS_ref, tyO_l, tyO_t, tyO_d, tyO_dt, kit_ll, kit_tt, kit_bb, kit_ii, kit_ib, kit_bi, kit_nt, kit_it, kit_st, kit_bt, kit_lt, kit_dt, kit_ni, kit_si, kit_ti, kit_li, kit_di, kit_nb, kit_ns, kit_is, kit_bs, kit_ss, kit_ts, kit_ls, kit_ds, kit_dd, lenS_ref, lenO_l, lenO_t,  rAppend, tM1, rIxS, tSl, tPart, tNoPart, tBM, tBM0, tDGetS, sDPutS, tTruS, truO_l, truO_t, truS_ref, truS_non, truS_bl, truS_int, tFld, sFld, sFldAug, rAdd, tMeth, tProp, tMake, tMakeK, List.take_succ_cons, List.take_zero, List.drop_succ_cons, List.drop_zero, List.take_nil, tIsN, tNotN, tAndV, tOrV, tNotV, putF, List.lookup, List.any_cons, List.any_nil, Sum.inr.injEq, HO.ins.injEq, HO.dK.injEq, eq_self, beq_self_eq_true, beq_iff_eq, decide_true, decide_false, Bool.or_true, Bool.true_or, Bool.or_false, Bool.false_or, tYes, rEq, rNe, _root_.L2.start, wipe, List.map_cons, List.map_nil, List.length_cons, List.length_nil, List.append_nil, Nat.reduceAdd, Nat.reduceSub, List.replicate_succ, List.replicate_zero, List.cons_append, List.nil_append, List.getElem?_cons_zero, List.getElem?_cons_succ, List.set_cons_zero, List.set_cons_succ, Option.some.injEq, V.int.injEq, V.ref.injEq, V.bl.injEq, V.str.injEq, List.cons.injEq, HO.lst.injEq, HO.tup.injEq, and_assoc, and_true, true_and, exists_eq_left, exists_eq_left', exists_and_left, exists_eq, reduceCtorEq, false_and, and_false, or_false, false_or, exists_false, decide_eq_true_eq, CPow, CDivW, Int.reducePow, Int.reduceLT, Int.reduceLE, Int.reduceNeg, Int.reduceToNat, Int.reduceAbs, Nat.reducePow, Nat.reduceLT, Nat.reduceLeDiff, sizeLine_eq, Int.reduceMul, Int.reduceAdd, Int.reduceSub, Bool.not_eq_true', decide_eq_false_iff_not, scal, Bool.not_true, Bool.not_false, Bool.true_eq_false, Bool.false_eq_true, ite_false, ite_true, if_true, if_false, ite_self, forall_const, atI0, atI1, atI2, atI3, ixN20, ixN21, upd_same, upd_upd, Int.zero_add, CMul, Int.reduceSub, Nat.le_refl, Nat.zero_le, or_true, true_or, exists_const, Int.sub_zero, hq])
      by_cases hn : 1 ≤ ds.length ∧ ds.length ≤ 12
      · rw [if_neg (by omega), if_neg (by omega)]
        have hj : progJ (.tuple ds) = ds.all stepJ := by simp only [progJ, decide_eq_true hn, Bool.true_and]
        rw [hj] at kk
        refine ⟨⟨_, SqT.of hq⟩, fun D hD => ?_⟩
        refine Lcl.tup xs (fun j H' => ∃ acc, H' D = some (.lst acc) ∧ acc.length ≤ j ∧ acc.isEmpty = (ds.take j).all stepJ ∧ Same H H') ⟨[], upd_same, Nat.le_refl _, rfl, same_new hD⟩ (fun j H' _ h => by obtain ⟨_, _, _, _, s⟩ := h; exact SqT.of (s _ _ hq)) ?_ ?_
        · rintro j x H1 hxj ⟨acc, h1, h2, h3, s1⟩
          obtain ⟨d, hd, od⟩ := (Obs.same s1 hx).get hxj
          have hj : j < xs.length := (List.getElem?_eq_some_iff.mp hxj).1
          (try simp only [cxOf, Cx.nox, Cx.wish, tSeq, tAsg, tC, gName, tIfS, tTest, tOp, tUn, rU, rI0, rI, tVar, tNext, tRevT, tDNewK, tBreak, tChain, iStr, tRet, tRetN, tDrop, tLst, tTup, tCons, tNil, tCB, tB, tOr, tAnd, tNot, tIf, tCall, tFor_eq, tLc_eq, iRng1, iRng2, iList, iTup, gTup, gTupH, gUnlH, gCons, gNil, gSub, rSetL, rIxL, rIxT, rIxLH, rIxTH, rSlTS, rCatS, rTupS, rIsiH, rLenS, V.ty.injEq, tyS_non, tyS_bl, tyS_int, tyS_str, tyS_ref, tyO_l, tyO_t, tyO_d, tyO_dt, kit_ll, kit_tt, kit_bb, kit_ii, kit_ib, kit_bi, kit_nt, kit_it, kit_st, kit_bt, kit_lt, kit_dt, kit_ni, kit_si, kit_ti, kit_li, kit_di, kit_nb, kit_ns, kit_is, kit_bs, kit_ss, kit_ts, kit_ls, kit_ds, kit_dd, lenS_ref, lenO_l, lenO_t,  rAppend, tM1, rIxS, tSl, tPart, tNoPart, tBM, tBM0, tDGetS, sDPutS, tTruS, truO_l, truO_t, truS_ref, truS_non, truS_bl, truS_int, tFld, sFld, sFldAug, rAdd, tMeth, tProp, tMake, tMakeK, List.take_succ_cons, List.take_zero, List.drop_succ_cons, List.drop_zero, List.take_nil, tIsN, tNotN, tAndV, tOrV, tNotV, putF, List.lookup, List.any_cons, List.any_nil, Sum.inr.injEq, HO.ins.injEq, HO.dK.injEq, eq_self, beq_self_eq_true, beq_iff_eq, decide_true, decide_false, Bool.or_true, Bool.true_or, Bool.or_false, Bool.false_or, tYes, rEq, rNe, _root_.L2.start, wipe, List.map_cons, List.map_nil, List.length_cons, List.length_nil, List.append_nil, Nat.reduceAdd, Nat.reduceSub, List.replicate_succ, List.replicate_zero, List.cons_append, List.nil_append, List.getElem?_cons_zero, List.getElem?_cons_succ, List.set_cons_zero, List.set_cons_succ, Option.some.injEq, V.int.injEq, V.ref.injEq, V.bl.injEq, V.str.injEq, List.cons.injEq, HO.lst.injEq, HO.tup.injEq, and_assoc, and_true, true_and, exists_eq_left, exists_eq_left', exists_and_left, exists_eq, reduceCtorEq, false_and, and_false, or_false, false_or, exists_false, decide_eq_true_eq, CPow, CDivW, Int.reducePow, Int.reduceLT, Int.reduceLE, Int.reduceNeg, Int.reduceToNat, Int.reduceAbs, Nat.reducePow, Nat.reduceLT, Nat.reduceLeDiff, sizeLine_eq, Int.reduceMul, Int.reduceAdd, Int.reduceSub, Bool.not_eq_true', decide_eq_false_iff_not, scal, Bool.not_true, Bool.not_false, Bool.true_eq_false, Bool.false_eq_true, ite_false, ite_true, if_true, if_false, ite_self, forall_const, atI0, atI1, atI2, atI3, ixN20, ixN21, upd_same, upd_upd, Int.zero_add, CMul, Int.reduceSub, Nat.le_refl, Nat.zero_le, or_true, true_or, exists_const, Int.sub_zero, sp_law_is_step])
          refine ⟨s, d, od, okTs_mem.mp hok d (List.mem_of_getElem? hd), fun H2 s2 => ?_⟩
          rw [take_snoc hd, List.all_append, ← h3]
          have h12 := s2 _ _ h1
          cases hJ : stepJ d with
          | false =>
            rw [if_pos rfl]
            exact ⟨acc, h12, by omega, by rw [List.length_append]; simp; omega, by simp [hJ], fun b o e => get_ne (ne_of_none e hD) (s2 _ _ (s1 b o e))⟩
          | true =>
            rw [if_neg (by simp)]
            exact ⟨acc, h12, by omega, by simp [hJ], s1.trans s2⟩
        · rintro H1 ⟨acc, h1, h2, h3, s1⟩
          rw [List.take_of_length_le (by omega)] at h3
          intro p hp
          refine ⟨D, p, acc, rfl, rfl, get_new hp h1, upd_same, ?_⟩
          rw [h3]
          exact kk _ (s1.trans (same_new hp))
      · have hj : progJ (.tuple ds) = false := by simp only [progJ, decide_eq_false hn, Bool.false_and]
        rw [hj] at kk
        by_cases h1 : ds.length < 1
        · rw [if_pos (by omega)]
          exact kk _ (Same.refl _)
        · rw [if_neg (by omega), if_pos (by omega)]
          exact kk _ (Same.refl _)
    | _ => simp only [dTy]; (try simp only [cxOf, Cx.nox, Cx.wish, tSeq, tAsg, tC, gName, tIfS, tTest, tOp, tUn, rU, rI0, rI, tVar, tNext, tRevT, tDNewK, tBreak, tChain, iStr, tRet, tRetN, tDrop, tLst, tTup, tCons, tNil, tCB, tB, tOr, tAnd, tNot, tIf, tCall, tFor_eq, tLc_eq, iRng1, iRng2, iList, iTup, gTup, gTupH, gUnlH, gCons, gNil, gSub, rSetL, rIxL, rIxT, rIxLH, rIxTH, rSlTS, rCatS, rTupS, rIsiH, rLenS, V.ty.injEq, tyS_non, tyS_bl, tyS_int, tyS_str, tyS_ref, tyO_l, tyO_t, tyO_d, tyO_dt, kit_ll, kit_tt, kit_bb, kit_ii, kit_ib, kit_bi, kit_nt, kit_it, kit_st, kit_bt, kit_lt, kit_dt, kit_ni, kit_si, kit_ti, kit_li, kit_di, kit_nb, kit_ns, kit_is, kit_bs, kit_ss, kit_ts, kit_ls, kit_ds, kit_dd, lenS_ref, lenO_l, lenO_t,  rAppend, tM1, rIxS, tSl, tPart, tNoPart, tBM, tBM0, tDGetS, sDPutS, tTruS, truO_l, truO_t, truS_ref, truS_non, truS_bl, truS_int, tFld, sFld, sFldAug, rAdd, tMeth, tProp, tMake, tMakeK, List.take_succ_cons, List.take_zero, List.drop_succ_cons, List.drop_zero, List.take_nil, tIsN, tNotN, tAndV, tOrV, tNotV, putF, List.lookup, List.any_cons, List.any_nil, Sum.inr.injEq, HO.ins.injEq, HO.dK.injEq, eq_self, beq_self_eq_true, beq_iff_eq, decide_true, decide_false, Bool.or_true, Bool.true_or, Bool.or_false, Bool.false_or, tYes, rEq, rNe, _root_.L2.start, wipe, List.map_cons, List.map_nil, List.length_cons, List.length_nil, List.append_nil, Nat.reduceAdd, Nat.reduceSub, List.replicate_succ, List.replicate_zero, List.cons_append, List.nil_append, List.getElem?_cons_zero, List.getElem?_cons_succ, List.set_cons_zero, List.set_cons_succ, Option.some.injEq, V.int.injEq, V.ref.injEq, V.bl.injEq, V.str.injEq, List.cons.injEq, HO.lst.injEq, HO.tup.injEq, and_assoc, and_true, true_and, exists_eq_left, exists_eq_left', exists_and_left, exists_eq, reduceCtorEq, false_and, and_false, or_false, false_or, exists_false, decide_eq_true_eq, CPow, CDivW, Int.reducePow, Int.reduceLT, Int.reduceLE, Int.reduceNeg, Int.reduceToNat, Int.reduceAbs, Nat.reducePow, Nat.reduceLT, Nat.reduceLeDiff, sizeLine_eq, Int.reduceMul, Int.reduceAdd, Int.reduceSub, Bool.not_eq_true', decide_eq_false_iff_not, scal, Bool.not_true, Bool.not_false, Bool.true_eq_false, Bool.false_eq_true, ite_false, ite_true, if_true, if_false, ite_self, forall_const, atI0, atI1, atI2, atI3, ixN20, ixN21, upd_same, upd_upd, Int.zero_add, CMul, Int.reduceSub, Nat.le_refl, Nat.zero_le, or_true, true_or, exists_const, Int.sub_zero]); exact kk _ (Same.refl _)
def sp_law_changed_step : Sp := fun vs H Q _ => ∃ (q p : Addr) (xs : List V) (ds : List PyData), vs = [.ref q, .ref p] ∧ H q = some (.tup xs) ∧ ObAll p H ds xs ∧ okTs ds = true ∧ 0 < ds.length ∧ ds.length ≤ 4 ∧ St2 H p ∧ ∀ (v : V) (d : PyData) (H' : Hp), Ob p H' d v → okT d = true → Gn p H H' → Q v H'
theorem ok_law_changed_step (T : Txt K mg) : FnOk P w K mg base CX0 4 T.f_law_changed_step T.d_law_changed_step ["_law_step_here", "_law_stream_here"] (sp_law_changed_step) := by
  refine Fun.ok T.F_law_changed_step sc_law_changed_step (fun vs H Q E h => ?_) (fun cdv A outer s H vs Q E hr h => ?_)
  · obtain ⟨q, p, xs, ds, rfl, hq, hx, hok, hl, hl2, hp, kk⟩ := h; rfl
  · obtain ⟨q, p, xs, ds, rfl, hq, hx, hok, hl, hl2, hp, kk⟩ := h
    have hu := hu_of hr
    refine ⟨_, (pss_cons (ps_set (i := 2) sc_law_changed_step.nd rfl (Or.inl rfl) (pe_call (ok_law_next T) (hr.mono (by decide)) rfl T.g_law_next T.F_law_next.kp T.b_law_next .nil pass0 (pa_cons (pv 1) (pa_cons pe_int pa_nil))))
      (pss_cons (ps_if (pt_cmpR op_eq (pv 2) pe_int (nomark _)) (pss_one (ps_ret (pe_callTy call_list_of (by rfl) T.z_list (by decide +kernel) (pa_cons (pv 0) pa_nil)))) pss_nil)
      (pss_cons (ps_if (pt_cmpR op_eq (pv 2) pe_int (nomark _)) (pss_one (ps_ret (pe_slice sl_tupS (pv 0) po_none (po_some (pe_un un_neg pe_int))))) pss_nil)
      (pss_cons (ps_if (pt_cmpR op_eq (pv 2) pe_int (nomark _)) (pss_one (ps_ret (pe_op op_catS (pv 0) (pe_tup (pa_cons (pe_call (ok_law_integer T) (hr.mono (by decide)) rfl T.g_law_integer T.F_law_integer.kp T.b_law_integer .nil pass0 (pa_cons (pv 1) pa_nil)) pa_nil))))) pss_nil)
      (pss_cons (ps_if (pt_cmpR op_eq (pv 2) pe_int (nomark _)) (pss_one (ps_ret (pe_op op_catS (pe_tup (pa_cons (pe_ix ix_tupH (pe_tup (pa_cons pe_str (pa_cons pe_str (pa_cons pe_str (pa_cons pe_str (pa_cons pe_str (pa_cons pe_str (pa_cons pe_str (pa_cons pe_non (pa_cons pe_int pa_nil)))))))))) (pe_call (ok_law_next T) (hr.mono (by decide)) rfl T.g_law_next T.F_law_next.kp T.b_law_next .nil pass0 (pa_cons (pv 1) (pa_cons pe_int pa_nil))) (fun _ _ => rfl)) pa_nil)) (pe_slice sl_tupS (pv 0) (po_some pe_int) po_none)))) pss_nil)
      (pss_cons (ps_set (i := 3) sc_law_changed_step.nd rfl (Or.inl rfl) (pe_call (ok_law_next T) (hr.mono (by decide)) rfl T.g_law_next T.F_law_next.kp T.b_law_next .nil pass0 (pa_cons (pv 1) (pa_cons (pe_callB call_lenS (by rfl) T.z_len (by decide +kernel) (pa_cons (pv 0) pa_nil)) pa_nil))))
      (pss_one (ps_ret (pe_op op_catS (pe_op op_catS (pe_slice sl_tupS (pv 0) po_none (po_some (pv 3))) (pe_tup (pa_cons (pe_call (ok_law_odd T) (hr.mono (by decide)) rfl T.g_law_odd T.F_law_odd.kp T.b_law_odd .nil pass0 (pa_cons (pv 1) pa_nil)) pa_nil))) (pe_slice sl_tupS (pv 0) (po_some (pe_op op_add (pv 3) pe_int)) po_none)))))))))), ?_⟩
    (try simp only [cxOf, Cx.nox, Cx.wish, tSeq, tAsg, tC, gName, tIfS, tTest, tOp, tUn, rU, rI0, rI, tVar, tNext, tRevT, tDNewK, tBreak, tChain, iStr, tRet, tRetN, tDrop, tLst, tTup, tCons, tNil, tCB, tB, tOr, tAnd, tNot, tIf, tCall, tFor_eq, tLc_eq, iRng1, iRng2, iList, iTup, gTup, gTupH, gUnlH, gCons, gNil, gSub, rSetL, rIxL, rIxT, rIxLH, rIxTH, rSlTS, rCatS, rTupS, rIsiH, rLenS, V.ty.injEq, tyS_non, tyS_bl, tyS_int, tyS_str, tyS_ref, tyO_l, tyO_t, tyO_d, tyO_dt, kit_ll, kit_tt, kit_bb, kit_ii, kit_ib, kit_bi, kit_nt, kit_it, kit_st, kit_bt, kit_lt, kit_dt, kit_ni, kit_si, kit_ti, kit_li, kit_di, kit_nb, kit_ns, kit_is, kit_bs, kit_ss, kit_ts, kit_ls, kit_ds, kit_dd, lenS_ref, lenO_l, lenO_t,  rAppend, tM1, rIxS, tSl, tPart, tNoPart, tBM, tBM0, tDGetS, sDPutS, tTruS, truO_l, truO_t, truS_ref, truS_non, truS_bl, truS_int, tFld, sFld, sFldAug, rAdd, tMeth, tProp, tMake, tMakeK, List.take_succ_cons, List.take_zero, List.drop_succ_cons, List.drop_zero, List.take_nil, tIsN, tNotN, tAndV, tOrV, tNotV, putF, List.lookup, List.any_cons, List.any_nil, Sum.inr.injEq, HO.ins.injEq, HO.dK.injEq, eq_self, beq_self_eq_true, beq_iff_eq, decide_true, decide_false, Bool.or_true, Bool.true_or, Bool.or_false, Bool.false_or, tYes, rEq, rNe, _root_.L2.start, wipe, List.map_cons, List.map_nil, List.length_cons, List.length_nil, List.append_nil, Nat.reduceAdd, Nat.reduceSub, List.replicate_succ, List.replicate_zero, List.cons_append, List.nil_append, List.getElem?_cons_zero, List.getElem?_cons_succ, List.set_cons_zero, List.set_cons_succ, Option.some.injEq, V.int.injEq, V.ref.injEq, V.bl.injEq, V.str.injEq, List.cons.injEq, HO.lst.injEq, HO.tup.injEq, and_assoc, and_true, true_and, exists_eq_left, exists_eq_left', exists_and_left, exists_eq, reduceCtorEq, false_and, and_false, or_false, false_or, exists_false, decide_eq_true_eq, CPow, CDivW, Int.reducePow, Int.reduceLT, Int.reduceLE, Int.reduceNeg, Int.reduceToNat, Int.reduceAbs, Nat.reducePow, Nat.reduceLT, Nat.reduceLeDiff, sizeLine_eq, Int.reduceMul, Int.reduceAdd, Int.reduceSub, Bool.not_eq_true', decide_eq_false_iff_not, scal, Bool.not_true, Bool.not_false, Bool.true_eq_false, Bool.false_eq_true, ite_false, ite_true, if_true, if_false, ite_self, forall_const, atI0, atI1, atI2, atI3, ixN20, ixN21, upd_same, upd_upd, Int.zero_add, CMul, Int.reduceSub, Nat.le_refl, Nat.zero_le, or_true, true_or, exists_const, Int.sub_zero, sp_law_next, sp_law_odd, sp_law_integer])
    refine ⟨hp, fun v H1 v0 v1 g1 => ?_⟩
    have hq1 := g1.tk _ _ hq
    have hxl := hx.len
    have hx1 : ObAll p H1 ds xs := Obs.gn g1 hx
    split
    · exact ⟨xs, .inr (SqT.of hq1), fun l hl => kk _ (.list ds) _ (ob_lst (St2.nn g1.st hl) upd_same (Obs.new hl hx1)) hok (g1.new hl)⟩
    split
    · (try simp only [cxOf, Cx.nox, Cx.wish, tSeq, tAsg, tC, gName, tIfS, tTest, tOp, tUn, rU, rI0, rI, tVar, tNext, tRevT, tDNewK, tBreak, tChain, iStr, tRet, tRetN, tDrop, tLst, tTup, tCons, tNil, tCB, tB, tOr, tAnd, tNot, tIf, tCall, tFor_eq, tLc_eq, iRng1, iRng2, iList, iTup, gTup, gTupH, gUnlH, gCons, gNil, gSub, rSetL, rIxL, rIxT, rIxLH, rIxTH, rSlTS, rCatS, rTupS, rIsiH, rLenS, V.ty.injEq, tyS_non, tyS_bl, tyS_int, tyS_str, tyS_ref, tyO_l, tyO_t, tyO_d, tyO_dt, kit_ll, kit_tt, kit_bb, kit_ii, kit_ib, kit_bi, kit_nt, kit_it, kit_st, kit_bt, kit_lt, kit_dt, kit_ni, kit_si, kit_ti, kit_li, kit_di, kit_nb, kit_ns, kit_is, kit_bs, kit_ss, kit_ts, kit_ls, kit_ds, kit_dd, lenS_ref, lenO_l, lenO_t,  rAppend, tM1, rIxS, tSl, tPart, tNoPart, tBM, tBM0, tDGetS, sDPutS, tTruS, truO_l, truO_t, truS_ref, truS_non, truS_bl, truS_int, tFld, sFld, sFldAug, rAdd, tMeth, tProp, tMake, tMakeK, List.take_succ_cons, List.take_zero, List.drop_succ_cons, List.drop_zero, List.take_nil, tIsN, tNotN, tAndV, tOrV, tNotV, putF, List.lookup, List.any_cons, List.any_nil, Sum.inr.injEq, HO.ins.injEq, HO.dK.injEq, eq_self, beq_self_eq_true, beq_iff_eq, decide_true, decide_false, Bool.or_true, Bool.true_or, Bool.or_false, Bool.false_or, tYes, rEq, rNe, _root_.L2.start, wipe, List.map_cons, List.map_nil, List.length_cons, List.length_nil, List.append_nil, Nat.reduceAdd, Nat.reduceSub, List.replicate_succ, List.replicate_zero, List.cons_append, List.nil_append, List.getElem?_cons_zero, List.getElem?_cons_succ, List.set_cons_zero, List.set_cons_succ, Option.some.injEq, V.int.injEq, V.ref.injEq, V.bl.injEq, V.str.injEq, List.cons.injEq, HO.lst.injEq, HO.tup.injEq, and_assoc, and_true, true_and, exists_eq_left, exists_eq_left', exists_and_left, exists_eq, reduceCtorEq, false_and, and_false, or_false, false_or, exists_false, decide_eq_true_eq, CPow, CDivW, Int.reducePow, Int.reduceLT, Int.reduceLE, Int.reduceNeg, Int.reduceToNat, Int.reduceAbs, Nat.reducePow, Nat.reduceLT, Nat.reduceLeDiff, sizeLine_eq, Int.reduceMul, Int.reduceAdd, Int.reduceSub, Bool.not_eq_true', decide_eq_false_iff_not, scal, Bool.not_true, Bool.not_false, Bool.true_eq_false, Bool.false_eq_true, ite_false, ite_true, if_true, if_false, ite_self, forall_const, atI0, atI1, atI2, atI3, ixN20, ixN21, upd_same, upd_upd, Int.zero_add, CMul, Int.reduceSub, Nat.le_refl, Nat.zero_le, or_true, true_or, exists_const, Int.sub_zero, hq1])
      intro p1 H2 s2 h1
      obtain ⟨es, oe, he, _⟩ := hx1.cut none (some (-1))
      exact kk _ (.tuple es) _ (ob_tup h1 (Obs.same s2 oe)) (okTs_sub hok he) (g1.same s2)
    split
    · refine ⟨g1.st, fun i H2 i0 i1 g2 p1 hp1 => ?_⟩
      have gg := g1.trans g2
      (try simp only [cxOf, Cx.nox, Cx.wish, tSeq, tAsg, tC, gName, tIfS, tTest, tOp, tUn, rU, rI0, rI, tVar, tNext, tRevT, tDNewK, tBreak, tChain, iStr, tRet, tRetN, tDrop, tLst, tTup, tCons, tNil, tCB, tB, tOr, tAnd, tNot, tIf, tCall, tFor_eq, tLc_eq, iRng1, iRng2, iList, iTup, gTup, gTupH, gUnlH, gCons, gNil, gSub, rSetL, rIxL, rIxT, rIxLH, rIxTH, rSlTS, rCatS, rTupS, rIsiH, rLenS, V.ty.injEq, tyS_non, tyS_bl, tyS_int, tyS_str, tyS_ref, tyO_l, tyO_t, tyO_d, tyO_dt, kit_ll, kit_tt, kit_bb, kit_ii, kit_ib, kit_bi, kit_nt, kit_it, kit_st, kit_bt, kit_lt, kit_dt, kit_ni, kit_si, kit_ti, kit_li, kit_di, kit_nb, kit_ns, kit_is, kit_bs, kit_ss, kit_ts, kit_ls, kit_ds, kit_dd, lenS_ref, lenO_l, lenO_t,  rAppend, tM1, rIxS, tSl, tPart, tNoPart, tBM, tBM0, tDGetS, sDPutS, tTruS, truO_l, truO_t, truS_ref, truS_non, truS_bl, truS_int, tFld, sFld, sFldAug, rAdd, tMeth, tProp, tMake, tMakeK, List.take_succ_cons, List.take_zero, List.drop_succ_cons, List.drop_zero, List.take_nil, tIsN, tNotN, tAndV, tOrV, tNotV, putF, List.lookup, List.any_cons, List.any_nil, Sum.inr.injEq, HO.ins.injEq, HO.dK.injEq, eq_self, beq_self_eq_true, beq_iff_eq, decide_true, decide_false, Bool.or_true, Bool.true_or, Bool.or_false, Bool.false_or, tYes, rEq, rNe, _root_.L2.start, wipe, List.map_cons, List.map_nil, List.length_cons, List.length_nil, List.append_nil, Nat.reduceAdd, Nat.reduceSub, List.replicate_succ, List.replicate_zero, List.cons_append, List.nil_append, List.getElem?_cons_zero, List.getElem?_cons_succ, List.set_cons_zero, List.set_cons_succ, Option.some.injEq, V.int.injEq, V.ref.injEq, V.bl.injEq, V.str.injEq, List.cons.injEq, HO.lst.injEq, HO.tup.injEq, and_assoc, and_true, true_and, exists_eq_left, exists_eq_left', exists_and_left, exists_eq, reduceCtorEq, false_and, and_false, or_false, false_or, exists_false, decide_eq_true_eq, CPow, CDivW, Int.reducePow, Int.reduceLT, Int.reduceLE, Int.reduceNeg, Int.reduceToNat, Int.reduceAbs, Nat.reducePow, Nat.reduceLT, Nat.reduceLeDiff, sizeLine_eq, Int.reduceMul, Int.reduceAdd, Int.reduceSub, Bool.not_eq_true', decide_eq_false_iff_not, scal, Bool.not_true, Bool.not_false, Bool.true_eq_false, Bool.false_eq_true, ite_false, ite_true, if_true, if_false, ite_self, forall_const, atI0, atI1, atI2, atI3, ixN20, ixN21, upd_same, upd_upd, Int.zero_add, CMul, Int.reduceSub, Nat.le_refl, Nat.zero_le, or_true, true_or, exists_const, Int.sub_zero, get_new hp1 (gg.tk _ _ hq)])
      refine ⟨by omega, fun p2 H3 s3 h2 => kk _ (.tuple (ds ++ [.int i])) _ (ob_tup h2 ?_) (okTs_app hok rfl) ((gg.new hp1).same s3)⟩
      exact Obs.same s3 (Obs.new hp1 ((Obs.gn g2 hx1).app (obs_cons ob_int obs_nil)))
    split
    · intro q1 hq2
      refine ⟨g1.st.new hq2, fun i H2 i0 i1 g2 => ?_⟩
      have hw := g2.at upd_same (St2.nn g1.st hq2)
      obtain ⟨x, hx2, hm⟩ := atI_mem (xs := [V.str (Str.ofString "Read"), V.str (Str.ofString ""), V.str (Str.ofString "read"), V.str (Str.ofString "store"), V.str (Str.ofString "put"), V.str (Str.ofString "add"), V.str (Str.ofString "need"), V.non, V.int 5]) i0 (by simpa using i1)
      refine ⟨_, hw, x, hx2, fun p1 hp1 => ?_⟩
      have all : ∀ x ∈ [V.str (Str.ofString "Read"), V.str (Str.ofString ""), V.str (Str.ofString "read"), V.str (Str.ofString "store"), V.str (Str.ofString "put"), V.str (Str.ofString "add"), V.str (Str.ofString "need"), V.non, V.int 5], ∃ d, (∀ H', Ob p H' d x) ∧ okT d = true := by
        simp only [List.forall_mem_cons]
        exact ⟨⟨.str _, fun _ => ob_str, by decide +kernel⟩, ⟨.str _, fun _ => ob_str, by decide +kernel⟩, ⟨.str _, fun _ => ob_str, by decide +kernel⟩, ⟨.str _, fun _ => ob_str, by decide +kernel⟩, ⟨.str _, fun _ => ob_str, by decide +kernel⟩, ⟨.str _, fun _ => ob_str, by decide +kernel⟩, ⟨.str _, fun _ => ob_str, by decide +kernel⟩, ⟨.none, fun _ => ob_non, rfl⟩, ⟨.int _, fun _ => ob_int, rfl⟩, fun _ h => by simp at h⟩
      obtain ⟨d, od, hd⟩ := all x hm
      have gg := (g1.new hq2).trans g2
      (try simp only [cxOf, Cx.nox, Cx.wish, tSeq, tAsg, tC, gName, tIfS, tTest, tOp, tUn, rU, rI0, rI, tVar, tNext, tRevT, tDNewK, tBreak, tChain, iStr, tRet, tRetN, tDrop, tLst, tTup, tCons, tNil, tCB, tB, tOr, tAnd, tNot, tIf, tCall, tFor_eq, tLc_eq, iRng1, iRng2, iList, iTup, gTup, gTupH, gUnlH, gCons, gNil, gSub, rSetL, rIxL, rIxT, rIxLH, rIxTH, rSlTS, rCatS, rTupS, rIsiH, rLenS, V.ty.injEq, tyS_non, tyS_bl, tyS_int, tyS_str, tyS_ref, tyO_l, tyO_t, tyO_d, tyO_dt, kit_ll, kit_tt, kit_bb, kit_ii, kit_ib, kit_bi, kit_nt, kit_it, kit_st, kit_bt, kit_lt, kit_dt, kit_ni, kit_si, kit_ti, kit_li, kit_di, kit_nb, kit_ns, kit_is, kit_bs, kit_ss, kit_ts, kit_ls, kit_ds, kit_dd, lenS_ref, lenO_l, lenO_t,  rAppend, tM1, rIxS, tSl, tPart, tNoPart, tBM, tBM0, tDGetS, sDPutS, tTruS, truO_l, truO_t, truS_ref, truS_non, truS_bl, truS_int, tFld, sFld, sFldAug, rAdd, tMeth, tProp, tMake, tMakeK, List.take_succ_cons, List.take_zero, List.drop_succ_cons, List.drop_zero, List.take_nil, tIsN, tNotN, tAndV, tOrV, tNotV, putF, List.lookup, List.any_cons, List.any_nil, Sum.inr.injEq, HO.ins.injEq, HO.dK.injEq, eq_self, beq_self_eq_true, beq_iff_eq, decide_true, decide_false, Bool.or_true, Bool.true_or, Bool.or_false, Bool.false_or, tYes, rEq, rNe, _root_.L2.start, wipe, List.map_cons, List.map_nil, List.length_cons, List.length_nil, List.append_nil, Nat.reduceAdd, Nat.reduceSub, List.replicate_succ, List.replicate_zero, List.cons_append, List.nil_append, List.getElem?_cons_zero, List.getElem?_cons_succ, List.set_cons_zero, List.set_cons_succ, Option.some.injEq, V.int.injEq, V.ref.injEq, V.bl.injEq, V.str.injEq, List.cons.injEq, HO.lst.injEq, HO.tup.injEq, and_assoc, and_true, true_and, exists_eq_left, exists_eq_left', exists_and_left, exists_eq, reduceCtorEq, false_and, and_false, or_false, false_or, exists_false, decide_eq_true_eq, CPow, CDivW, Int.reducePow, Int.reduceLT, Int.reduceLE, Int.reduceNeg, Int.reduceToNat, Int.reduceAbs, Nat.reducePow, Nat.reduceLT, Nat.reduceLeDiff, sizeLine_eq, Int.reduceMul, Int.reduceAdd, Int.reduceSub, Bool.not_eq_true', decide_eq_false_iff_not, scal, Bool.not_true, Bool.not_false, Bool.true_eq_false, Bool.false_eq_true, ite_false, ite_true, if_true, if_false, ite_self, forall_const, atI0, atI1, atI2, atI3, ixN20, ixN21, upd_same, upd_upd, Int.zero_add, CMul, Int.reduceSub, Nat.le_refl, Nat.zero_le, or_true, true_or, exists_const, Int.sub_zero, get_new hp1 (gg.tk _ _ hq)])
      intro p2 H3 s3 h2
      have h1s := s3 _ _ (upd_same (H := H2) (a := p1) (o := .tup [x]))
      (try simp only [cxOf, Cx.nox, Cx.wish, tSeq, tAsg, tC, gName, tIfS, tTest, tOp, tUn, rU, rI0, rI, tVar, tNext, tRevT, tDNewK, tBreak, tChain, iStr, tRet, tRetN, tDrop, tLst, tTup, tCons, tNil, tCB, tB, tOr, tAnd, tNot, tIf, tCall, tFor_eq, tLc_eq, iRng1, iRng2, iList, iTup, gTup, gTupH, gUnlH, gCons, gNil, gSub, rSetL, rIxL, rIxT, rIxLH, rIxTH, rSlTS, rCatS, rTupS, rIsiH, rLenS, V.ty.injEq, tyS_non, tyS_bl, tyS_int, tyS_str, tyS_ref, tyO_l, tyO_t, tyO_d, tyO_dt, kit_ll, kit_tt, kit_bb, kit_ii, kit_ib, kit_bi, kit_nt, kit_it, kit_st, kit_bt, kit_lt, kit_dt, kit_ni, kit_si, kit_ti, kit_li, kit_di, kit_nb, kit_ns, kit_is, kit_bs, kit_ss, kit_ts, kit_ls, kit_ds, kit_dd, lenS_ref, lenO_l, lenO_t,  rAppend, tM1, rIxS, tSl, tPart, tNoPart, tBM, tBM0, tDGetS, sDPutS, tTruS, truO_l, truO_t, truS_ref, truS_non, truS_bl, truS_int, tFld, sFld, sFldAug, rAdd, tMeth, tProp, tMake, tMakeK, List.take_succ_cons, List.take_zero, List.drop_succ_cons, List.drop_zero, List.take_nil, tIsN, tNotN, tAndV, tOrV, tNotV, putF, List.lookup, List.any_cons, List.any_nil, Sum.inr.injEq, HO.ins.injEq, HO.dK.injEq, eq_self, beq_self_eq_true, beq_iff_eq, decide_true, decide_false, Bool.or_true, Bool.true_or, Bool.or_false, Bool.false_or, tYes, rEq, rNe, _root_.L2.start, wipe, List.map_cons, List.map_nil, List.length_cons, List.length_nil, List.append_nil, Nat.reduceAdd, Nat.reduceSub, List.replicate_succ, List.replicate_zero, List.cons_append, List.nil_append, List.getElem?_cons_zero, List.getElem?_cons_succ, List.set_cons_zero, List.set_cons_succ, Option.some.injEq, V.int.injEq, V.ref.injEq, V.bl.injEq, V.str.injEq, List.cons.injEq, HO.lst.injEq, HO.tup.injEq, and_assoc, and_true, true_and, exists_eq_left, exists_eq_left', exists_and_left, exists_eq, reduceCtorEq, false_and, and_false, or_false, false_or, exists_false, decide_eq_true_eq, CPow, CDivW, Int.reducePow, Int.reduceLT, Int.reduceLE, Int.reduceNeg, Int.reduceToNat, Int.reduceAbs, Nat.reducePow, Nat.reduceLT, Nat.reduceLeDiff, sizeLine_eq, Int.reduceMul, Int.reduceAdd, Int.reduceSub, Bool.not_eq_true', decide_eq_false_iff_not, scal, Bool.not_true, Bool.not_false, Bool.true_eq_false, Bool.false_eq_true, ite_false, ite_true, if_true, if_false, ite_self, forall_const, atI0, atI1, atI2, atI3, ixN20, ixN21, upd_same, upd_upd, Int.zero_add, CMul, Int.reduceSub, Nat.le_refl, Nat.zero_le, or_true, true_or, exists_const, Int.sub_zero, h1s, h2])
      obtain ⟨es, oe, he, hle⟩ := (Obs.same s3 (Obs.new hp1 (o := .tup [x]) (Obs.gn gg hx))).cut (some 1) none
      refine ⟨by omega, fun p3 H4 s4 h3 => kk _ (.tuple (d :: es)) _ (ob_tup h3 (obs_cons (od _) (Obs.same s4 oe))) ?_ (((gg.new hp1).same s3).same s4)⟩
      simp only [okT, okTs, hd, Bool.true_and]
      exact okTs_sub hok he
    · (try simp only [cxOf, Cx.nox, Cx.wish, tSeq, tAsg, tC, gName, tIfS, tTest, tOp, tUn, rU, rI0, rI, tVar, tNext, tRevT, tDNewK, tBreak, tChain, iStr, tRet, tRetN, tDrop, tLst, tTup, tCons, tNil, tCB, tB, tOr, tAnd, tNot, tIf, tCall, tFor_eq, tLc_eq, iRng1, iRng2, iList, iTup, gTup, gTupH, gUnlH, gCons, gNil, gSub, rSetL, rIxL, rIxT, rIxLH, rIxTH, rSlTS, rCatS, rTupS, rIsiH, rLenS, V.ty.injEq, tyS_non, tyS_bl, tyS_int, tyS_str, tyS_ref, tyO_l, tyO_t, tyO_d, tyO_dt, kit_ll, kit_tt, kit_bb, kit_ii, kit_ib, kit_bi, kit_nt, kit_it, kit_st, kit_bt, kit_lt, kit_dt, kit_ni, kit_si, kit_ti, kit_li, kit_di, kit_nb, kit_ns, kit_is, kit_bs, kit_ss, kit_ts, kit_ls, kit_ds, kit_dd, lenS_ref, lenO_l, lenO_t,  rAppend, tM1, rIxS, tSl, tPart, tNoPart, tBM, tBM0, tDGetS, sDPutS, tTruS, truO_l, truO_t, truS_ref, truS_non, truS_bl, truS_int, tFld, sFld, sFldAug, rAdd, tMeth, tProp, tMake, tMakeK, List.take_succ_cons, List.take_zero, List.drop_succ_cons, List.drop_zero, List.take_nil, tIsN, tNotN, tAndV, tOrV, tNotV, putF, List.lookup, List.any_cons, List.any_nil, Sum.inr.injEq, HO.ins.injEq, HO.dK.injEq, eq_self, beq_self_eq_true, beq_iff_eq, decide_true, decide_false, Bool.or_true, Bool.true_or, Bool.or_false, Bool.false_or, tYes, rEq, rNe, _root_.L2.start, wipe, List.map_cons, List.map_nil, List.length_cons, List.length_nil, List.append_nil, Nat.reduceAdd, Nat.reduceSub, List.replicate_succ, List.replicate_zero, List.cons_append, List.nil_append, List.getElem?_cons_zero, List.getElem?_cons_succ, List.set_cons_zero, List.set_cons_succ, Option.some.injEq, V.int.injEq, V.ref.injEq, V.bl.injEq, V.str.injEq, List.cons.injEq, HO.lst.injEq, HO.tup.injEq, and_assoc, and_true, true_and, exists_eq_left, exists_eq_left', exists_and_left, exists_eq, reduceCtorEq, false_and, and_false, or_false, false_or, exists_false, decide_eq_true_eq, CPow, CDivW, Int.reducePow, Int.reduceLT, Int.reduceLE, Int.reduceNeg, Int.reduceToNat, Int.reduceAbs, Nat.reducePow, Nat.reduceLT, Nat.reduceLeDiff, sizeLine_eq, Int.reduceMul, Int.reduceAdd, Int.reduceSub, Bool.not_eq_true', decide_eq_false_iff_not, scal, Bool.not_true, Bool.not_false, Bool.true_eq_false, Bool.false_eq_true, ite_false, ite_true, if_true, if_false, ite_self, forall_const, atI0, atI1, atI2, atI3, ixN20, ixN21, upd_same, upd_upd, Int.zero_add, CMul, Int.reduceSub, Nat.le_refl, Nat.zero_le, or_true, true_or, exists_const, Int.sub_zero, hq1])
      refine ⟨g1.st, by omega, by omega, fun at0 H2 a0 a1 g2 => ?_⟩
      have gg := g1.trans g2
      have hq2 := gg.tk _ _ hq
      have hx2 : ObAll p H2 ds xs := Obs.gn gg hx
      (try simp only [cxOf, Cx.nox, Cx.wish, tSeq, tAsg, tC, gName, tIfS, tTest, tOp, tUn, rU, rI0, rI, tVar, tNext, tRevT, tDNewK, tBreak, tChain, iStr, tRet, tRetN, tDrop, tLst, tTup, tCons, tNil, tCB, tB, tOr, tAnd, tNot, tIf, tCall, tFor_eq, tLc_eq, iRng1, iRng2, iList, iTup, gTup, gTupH, gUnlH, gCons, gNil, gSub, rSetL, rIxL, rIxT, rIxLH, rIxTH, rSlTS, rCatS, rTupS, rIsiH, rLenS, V.ty.injEq, tyS_non, tyS_bl, tyS_int, tyS_str, tyS_ref, tyO_l, tyO_t, tyO_d, tyO_dt, kit_ll, kit_tt, kit_bb, kit_ii, kit_ib, kit_bi, kit_nt, kit_it, kit_st, kit_bt, kit_lt, kit_dt, kit_ni, kit_si, kit_ti, kit_li, kit_di, kit_nb, kit_ns, kit_is, kit_bs, kit_ss, kit_ts, kit_ls, kit_ds, kit_dd, lenS_ref, lenO_l, lenO_t,  rAppend, tM1, rIxS, tSl, tPart, tNoPart, tBM, tBM0, tDGetS, sDPutS, tTruS, truO_l, truO_t, truS_ref, truS_non, truS_bl, truS_int, tFld, sFld, sFldAug, rAdd, tMeth, tProp, tMake, tMakeK, List.take_succ_cons, List.take_zero, List.drop_succ_cons, List.drop_zero, List.take_nil, tIsN, tNotN, tAndV, tOrV, tNotV, putF, List.lookup, List.any_cons, List.any_nil, Sum.inr.injEq, HO.ins.injEq, HO.dK.injEq, eq_self, beq_self_eq_true, beq_iff_eq, decide_true, decide_false, Bool.or_true, Bool.true_or, Bool.or_false, Bool.false_or, tYes, rEq, rNe, _root_.L2.start, wipe, List.map_cons, List.map_nil, List.length_cons, List.length_nil, List.append_nil, Nat.reduceAdd, Nat.reduceSub, List.replicate_succ, List.replicate_zero, List.cons_append, List.nil_append, List.getElem?_cons_zero, List.getElem?_cons_succ, List.set_cons_zero, List.set_cons_succ, Option.some.injEq, V.int.injEq, V.ref.injEq, V.bl.injEq, V.str.injEq, List.cons.injEq, HO.lst.injEq, HO.tup.injEq, and_assoc, and_true, true_and, exists_eq_left, exists_eq_left', exists_and_left, exists_eq, reduceCtorEq, false_and, and_false, or_false, false_or, exists_false, decide_eq_true_eq, CPow, CDivW, Int.reducePow, Int.reduceLT, Int.reduceLE, Int.reduceNeg, Int.reduceToNat, Int.reduceAbs, Nat.reducePow, Nat.reduceLT, Nat.reduceLeDiff, sizeLine_eq, Int.reduceMul, Int.reduceAdd, Int.reduceSub, Bool.not_eq_true', decide_eq_false_iff_not, scal, Bool.not_true, Bool.not_false, Bool.true_eq_false, Bool.false_eq_true, ite_false, ite_true, if_true, if_false, ite_self, forall_const, atI0, atI1, atI2, atI3, ixN20, ixN21, upd_same, upd_upd, Int.zero_add, CMul, Int.reduceSub, Nat.le_refl, Nat.zero_le, or_true, true_or, exists_const, Int.sub_zero, hq2])
      intro p1 H3 s3 h1
      obtain ⟨es, oe, he, hle⟩ := (Obs.same s3 hx2).cut none (some at0)
      refine ⟨g2.st.same s3, fun x d H4 od hd _ g4 p2 hp2 => ?_⟩
      have h14 := g4.tk _ _ h1
      (try simp only [cxOf, Cx.nox, Cx.wish, tSeq, tAsg, tC, gName, tIfS, tTest, tOp, tUn, rU, rI0, rI, tVar, tNext, tRevT, tDNewK, tBreak, tChain, iStr, tRet, tRetN, tDrop, tLst, tTup, tCons, tNil, tCB, tB, tOr, tAnd, tNot, tIf, tCall, tFor_eq, tLc_eq, iRng1, iRng2, iList, iTup, gTup, gTupH, gUnlH, gCons, gNil, gSub, rSetL, rIxL, rIxT, rIxLH, rIxTH, rSlTS, rCatS, rTupS, rIsiH, rLenS, V.ty.injEq, tyS_non, tyS_bl, tyS_int, tyS_str, tyS_ref, tyO_l, tyO_t, tyO_d, tyO_dt, kit_ll, kit_tt, kit_bb, kit_ii, kit_ib, kit_bi, kit_nt, kit_it, kit_st, kit_bt, kit_lt, kit_dt, kit_ni, kit_si, kit_ti, kit_li, kit_di, kit_nb, kit_ns, kit_is, kit_bs, kit_ss, kit_ts, kit_ls, kit_ds, kit_dd, lenS_ref, lenO_l, lenO_t,  rAppend, tM1, rIxS, tSl, tPart, tNoPart, tBM, tBM0, tDGetS, sDPutS, tTruS, truO_l, truO_t, truS_ref, truS_non, truS_bl, truS_int, tFld, sFld, sFldAug, rAdd, tMeth, tProp, tMake, tMakeK, List.take_succ_cons, List.take_zero, List.drop_succ_cons, List.drop_zero, List.take_nil, tIsN, tNotN, tAndV, tOrV, tNotV, putF, List.lookup, List.any_cons, List.any_nil, Sum.inr.injEq, HO.ins.injEq, HO.dK.injEq, eq_self, beq_self_eq_true, beq_iff_eq, decide_true, decide_false, Bool.or_true, Bool.true_or, Bool.or_false, Bool.false_or, tYes, rEq, rNe, _root_.L2.start, wipe, List.map_cons, List.map_nil, List.length_cons, List.length_nil, List.append_nil, Nat.reduceAdd, Nat.reduceSub, List.replicate_succ, List.replicate_zero, List.cons_append, List.nil_append, List.getElem?_cons_zero, List.getElem?_cons_succ, List.set_cons_zero, List.set_cons_succ, Option.some.injEq, V.int.injEq, V.ref.injEq, V.bl.injEq, V.str.injEq, List.cons.injEq, HO.lst.injEq, HO.tup.injEq, and_assoc, and_true, true_and, exists_eq_left, exists_eq_left', exists_and_left, exists_eq, reduceCtorEq, false_and, and_false, or_false, false_or, exists_false, decide_eq_true_eq, CPow, CDivW, Int.reducePow, Int.reduceLT, Int.reduceLE, Int.reduceNeg, Int.reduceToNat, Int.reduceAbs, Nat.reducePow, Nat.reduceLT, Nat.reduceLeDiff, sizeLine_eq, Int.reduceMul, Int.reduceAdd, Int.reduceSub, Bool.not_eq_true', decide_eq_false_iff_not, scal, Bool.not_true, Bool.not_false, Bool.true_eq_false, Bool.false_eq_true, ite_false, ite_true, if_true, if_false, ite_self, forall_const, atI0, atI1, atI2, atI3, ixN20, ixN21, upd_same, upd_upd, Int.zero_add, CMul, Int.reduceSub, Nat.le_refl, Nat.zero_le, or_true, true_or, exists_const, Int.sub_zero, get_new hp2 h14])
      refine ⟨by omega, fun p3 H5 s5 h3 => ?_⟩
      have hq5 := s5 _ _ (get_new hp2 (g4.tk _ _ (s3 _ _ hq2)) (o := .tup [x]))
      (try simp only [cxOf, Cx.nox, Cx.wish, tSeq, tAsg, tC, gName, tIfS, tTest, tOp, tUn, rU, rI0, rI, tVar, tNext, tRevT, tDNewK, tBreak, tChain, iStr, tRet, tRetN, tDrop, tLst, tTup, tCons, tNil, tCB, tB, tOr, tAnd, tNot, tIf, tCall, tFor_eq, tLc_eq, iRng1, iRng2, iList, iTup, gTup, gTupH, gUnlH, gCons, gNil, gSub, rSetL, rIxL, rIxT, rIxLH, rIxTH, rSlTS, rCatS, rTupS, rIsiH, rLenS, V.ty.injEq, tyS_non, tyS_bl, tyS_int, tyS_str, tyS_ref, tyO_l, tyO_t, tyO_d, tyO_dt, kit_ll, kit_tt, kit_bb, kit_ii, kit_ib, kit_bi, kit_nt, kit_it, kit_st, kit_bt, kit_lt, kit_dt, kit_ni, kit_si, kit_ti, kit_li, kit_di, kit_nb, kit_ns, kit_is, kit_bs, kit_ss, kit_ts, kit_ls, kit_ds, kit_dd, lenS_ref, lenO_l, lenO_t,  rAppend, tM1, rIxS, tSl, tPart, tNoPart, tBM, tBM0, tDGetS, sDPutS, tTruS, truO_l, truO_t, truS_ref, truS_non, truS_bl, truS_int, tFld, sFld, sFldAug, rAdd, tMeth, tProp, tMake, tMakeK, List.take_succ_cons, List.take_zero, List.drop_succ_cons, List.drop_zero, List.take_nil, tIsN, tNotN, tAndV, tOrV, tNotV, putF, List.lookup, List.any_cons, List.any_nil, Sum.inr.injEq, HO.ins.injEq, HO.dK.injEq, eq_self, beq_self_eq_true, beq_iff_eq, decide_true, decide_false, Bool.or_true, Bool.true_or, Bool.or_false, Bool.false_or, tYes, rEq, rNe, _root_.L2.start, wipe, List.map_cons, List.map_nil, List.length_cons, List.length_nil, List.append_nil, Nat.reduceAdd, Nat.reduceSub, List.replicate_succ, List.replicate_zero, List.cons_append, List.nil_append, List.getElem?_cons_zero, List.getElem?_cons_succ, List.set_cons_zero, List.set_cons_succ, Option.some.injEq, V.int.injEq, V.ref.injEq, V.bl.injEq, V.str.injEq, List.cons.injEq, HO.lst.injEq, HO.tup.injEq, and_assoc, and_true, true_and, exists_eq_left, exists_eq_left', exists_and_left, exists_eq, reduceCtorEq, false_and, and_false, or_false, false_or, exists_false, decide_eq_true_eq, CPow, CDivW, Int.reducePow, Int.reduceLT, Int.reduceLE, Int.reduceNeg, Int.reduceToNat, Int.reduceAbs, Nat.reducePow, Nat.reduceLT, Nat.reduceLeDiff, sizeLine_eq, Int.reduceMul, Int.reduceAdd, Int.reduceSub, Bool.not_eq_true', decide_eq_false_iff_not, scal, Bool.not_true, Bool.not_false, Bool.true_eq_false, Bool.false_eq_true, ite_false, ite_true, if_true, if_false, ite_self, forall_const, atI0, atI1, atI2, atI3, ixN20, ixN21, upd_same, upd_upd, Int.zero_add, CMul, Int.reduceSub, Nat.le_refl, Nat.zero_le, or_true, true_or, exists_const, Int.sub_zero, hq5])
      intro p4 H6 s6 h4
      have h36 := s6 _ _ h3
      (try simp only [cxOf, Cx.nox, Cx.wish, tSeq, tAsg, tC, gName, tIfS, tTest, tOp, tUn, rU, rI0, rI, tVar, tNext, tRevT, tDNewK, tBreak, tChain, iStr, tRet, tRetN, tDrop, tLst, tTup, tCons, tNil, tCB, tB, tOr, tAnd, tNot, tIf, tCall, tFor_eq, tLc_eq, iRng1, iRng2, iList, iTup, gTup, gTupH, gUnlH, gCons, gNil, gSub, rSetL, rIxL, rIxT, rIxLH, rIxTH, rSlTS, rCatS, rTupS, rIsiH, rLenS, V.ty.injEq, tyS_non, tyS_bl, tyS_int, tyS_str, tyS_ref, tyO_l, tyO_t, tyO_d, tyO_dt, kit_ll, kit_tt, kit_bb, kit_ii, kit_ib, kit_bi, kit_nt, kit_it, kit_st, kit_bt, kit_lt, kit_dt, kit_ni, kit_si, kit_ti, kit_li, kit_di, kit_nb, kit_ns, kit_is, kit_bs, kit_ss, kit_ts, kit_ls, kit_ds, kit_dd, lenS_ref, lenO_l, lenO_t,  rAppend, tM1, rIxS, tSl, tPart, tNoPart, tBM, tBM0, tDGetS, sDPutS, tTruS, truO_l, truO_t, truS_ref, truS_non, truS_bl, truS_int, tFld, sFld, sFldAug, rAdd, tMeth, tProp, tMake, tMakeK, List.take_succ_cons, List.take_zero, List.drop_succ_cons, List.drop_zero, List.take_nil, tIsN, tNotN, tAndV, tOrV, tNotV, putF, List.lookup, List.any_cons, List.any_nil, Sum.inr.injEq, HO.ins.injEq, HO.dK.injEq, eq_self, beq_self_eq_true, beq_iff_eq, decide_true, decide_false, Bool.or_true, Bool.true_or, Bool.or_false, Bool.false_or, tYes, rEq, rNe, _root_.L2.start, wipe, List.map_cons, List.map_nil, List.length_cons, List.length_nil, List.append_nil, Nat.reduceAdd, Nat.reduceSub, List.replicate_succ, List.replicate_zero, List.cons_append, List.nil_append, List.getElem?_cons_zero, List.getElem?_cons_succ, List.set_cons_zero, List.set_cons_succ, Option.some.injEq, V.int.injEq, V.ref.injEq, V.bl.injEq, V.str.injEq, List.cons.injEq, HO.lst.injEq, HO.tup.injEq, and_assoc, and_true, true_and, exists_eq_left, exists_eq_left', exists_and_left, exists_eq, reduceCtorEq, false_and, and_false, or_false, false_or, exists_false, decide_eq_true_eq, CPow, CDivW, Int.reducePow, Int.reduceLT, Int.reduceLE, Int.reduceNeg, Int.reduceToNat, Int.reduceAbs, Nat.reducePow, Nat.reduceLT, Nat.reduceLeDiff, sizeLine_eq, Int.reduceMul, Int.reduceAdd, Int.reduceSub, Bool.not_eq_true', decide_eq_false_iff_not, scal, Bool.not_true, Bool.not_false, Bool.true_eq_false, Bool.false_eq_true, ite_false, ite_true, if_true, if_false, ite_self, forall_const, atI0, atI1, atI2, atI3, ixN20, ixN21, upd_same, upd_upd, Int.zero_add, CMul, Int.reduceSub, Nat.le_refl, Nat.zero_le, or_true, true_or, exists_const, Int.sub_zero, h36, h4])
      have s46 := (same_new hp2 (o := .tup [x])).trans (s5.trans s6)
      obtain ⟨fs, of, hf, hlf⟩ := (Obs.same s46 (Obs.gn g4 (Obs.same s3 hx2))).cut (some (at0 + 1)) none
      refine ⟨by simp only [List.length_append, List.length_cons, List.length_nil]; omega, fun p5 H7 s7 h5 => kk _ (.tuple (es ++ [d] ++ fs)) H7 (ob_tup h5 ?_) ?_ (((gg.same s3).trans g4).same (s46.trans s7))⟩
      · exact Obs.same s7 (((Obs.same s46 (Obs.gn g4 oe)).app (obs_cons (od.same s46) obs_nil)).app of)
      · exact okTs_app (okTs_app (okTs_sub hok he) (by simp [okTs, hd])) (okTs_sub hok hf)
def sp_is_program : Sp := fun vs H Q _ => ∃ (s : Addr) (d : PyData) (v : V), vs = [v] ∧ Ob s H d v ∧ okT d = true ∧ ∀ H', Same H H' → Q (.bl (progJ d)) H'
theorem ok_is_program (T : Txt K mg) : FnOk P w K mg base CX0 5 T.f_is_program T.d_is_program ["thing"] (sp_is_program) := by
  refine Fun.ok T.F_is_program sc_is_program (fun vs H Q E h => ?_) (fun cdv A outer s H vs Q E hr h => ?_)
  · obtain ⟨s, d, v, rfl, ov, hok, kk⟩ := h; rfl
  · obtain ⟨s, d, v, rfl, ov, hok, kk⟩ := h
    have hu := hu_of hr
    refine ⟨_, (pss_cons (ps_if (PW.pt (pw_or (pt_not (pt_val (pe_callB call_isiH (by rfl) T.z_isinstance (by decide +kernel) (pa_cons (pv 0) (pa_cons (pe_bltn (v := .ty "tuple") (by rfl) T.z_tuple (by decide +kernel) rfl) pa_nil))))) (pw_or1 (pt_not (pt_chain op_le op_le pe_int (pe_callB call_lenS (by rfl) T.z_len (by decide +kernel) (pa_cons (pv 0) pa_nil)) (pe_glob rfl T.g_LONGEST_PROGRAM T.r_LONGEST_PROGRAM)))))) (pss_one (ps_ret pe_bl)) pss_nil)
      (pss_one (ps_ret (pe_callB (cr_all rfl) (by rfl) T.z_all (by decide +kernel) (pa_cons (pe_lc (own := [("step", 1)]) (g := gName 1) (tt := tYes) rfl sc_is_program.nd (pi_tup (pv 0)) (blkOk_by (N := N_is_program) (sc := defScope s_is_program) (by decide +kernel)) (fun _ _ _ _ _ => (pg_name (i := 1) sc_is_program.nd rfl (Or.inl rfl))) (fun _ _ _ _ _ => pts_nil) (fun _ _ _ _ _ => (pe_call (ok_is_step T) (hr.mono (by decide)) rfl T.g_is_step T.F_is_step.kp T.b_is_step .nil pass0 (pa_cons (pv 1) pa_nil)))) pa_nil))))), ?_⟩
    (try simp only [cxOf, Cx.nox, Cx.wish, tSeq, tAsg, tC, gName, tIfS, tTest, tOp, tUn, rU, rI0, rI, tVar, tNext, tRevT, tDNewK, tBreak, tChain, iStr, tRet, tRetN, tDrop, tLst, tTup, tCons, tNil, tCB, tB, tOr, tAnd, tNot, tIf, tCall, tFor_eq, tLc_eq, iRng1, iRng2, iList, iTup, gTup, gTupH, gUnlH, gCons, gNil, gSub, rSetL, rIxL, rIxT, rIxLH, rIxTH, rSlTS, rCatS, rTupS, rIsiH, rLenS, V.ty.injEq, tyS_non, tyS_bl, tyS_int, tyS_str, tyS_ref, tyO_l, tyO_t, tyO_d, tyO_dt, kit_ll, kit_tt, kit_bb, kit_ii, kit_ib, kit_bi, kit_nt, kit_it, kit_st, kit_bt, kit_lt, kit_dt, kit_ni, kit_si, kit_ti, kit_li, kit_di, kit_nb, kit_ns, kit_is, kit_bs, kit_ss, kit_ts, kit_ls, kit_ds, kit_dd, lenS_ref, lenO_l, lenO_t,  rAppend, tM1, rIxS, tSl, tPart, tNoPart, tBM, tBM0, tDGetS, sDPutS, tTruS, truO_l, truO_t, truS_ref, truS_non, truS_bl, truS_int, tFld, sFld, sFldAug, rAdd, tMeth, tProp, tMake, tMakeK, List.take_succ_cons, List.take_zero, List.drop_succ_cons, List.drop_zero, List.take_nil, tIsN, tNotN, tAndV, tOrV, tNotV, putF, List.lookup, List.any_cons, List.any_nil, Sum.inr.injEq, HO.ins.injEq, HO.dK.injEq, eq_self, beq_self_eq_true, beq_iff_eq, decide_true, decide_false, Bool.or_true, Bool.true_or, Bool.or_false, Bool.false_or, tYes, rEq, rNe, _root_.L2.start, wipe, List.map_cons, List.map_nil, List.length_cons, List.length_nil, List.append_nil, Nat.reduceAdd, Nat.reduceSub, List.replicate_succ, List.replicate_zero, List.cons_append, List.nil_append, List.getElem?_cons_zero, List.getElem?_cons_succ, List.set_cons_zero, List.set_cons_succ, Option.some.injEq, V.int.injEq, V.ref.injEq, V.bl.injEq, V.str.injEq, List.cons.injEq, HO.lst.injEq, HO.tup.injEq, and_assoc, and_true, true_and, exists_eq_left, exists_eq_left', exists_and_left, exists_eq, reduceCtorEq, false_and, and_false, or_false, false_or, exists_false, decide_eq_true_eq, CPow, CDivW, Int.reducePow, Int.reduceLT, Int.reduceLE, Int.reduceNeg, Int.reduceToNat, Int.reduceAbs, Nat.reducePow, Nat.reduceLT, Nat.reduceLeDiff, sizeLine_eq, Int.reduceMul, Int.reduceAdd, Int.reduceSub, Bool.not_eq_true', decide_eq_false_iff_not, scal, Bool.not_true, Bool.not_false, Bool.true_eq_false, Bool.false_eq_true, ite_false, ite_true, if_true, if_false, ite_self, forall_const, atI0, atI1, atI2, atI3, ixN20, ixN21, upd_same, upd_upd, Int.zero_add, CMul, Int.reduceSub, Nat.le_refl, Nat.zero_le, or_true, true_or, exists_const, Int.sub_zero, ov.ty])
    cases d with
    | tuple ds =>
      obtain ⟨q, xs, rfl, hq, hx⟩ := ov.tup
      have hl := hx.len
      simp only [dTy]
      (try simp only [cxOf, Cx.nox, Cx.wish, tSeq, tAsg, tC, gName, tIfS, tTest, tOp, tUn, rU, rI0, rI, tVar, tNext, tRevT, tDNewK, tBreak, tChain, iStr, tRet, tRetN, tDrop, tLst, tTup, tCons, tNil, tCB, tB, tOr, tAnd, tNot, tIf, tCall, tFor_eq, tLc_eq, iRng1, iRng2, iList, iTup, gTup, gTupH, gUnlH, gCons, gNil, gSub, rSetL, rIxL, rIxT, rIxLH, rIxTH, rSlTS, rCatS, rTupS, rIsiH, rLenS, V.ty.injEq, tyS_non, tyS_bl, tyS_int, tyS_str, tyS_ref, tyO_l, tyO_t, tyO_d, tyO_dt, kit_ll, kit_tt, kit_bb, kit_ii, kit_ib, kit_bi, kit_nt, kit_it, kit_st, kit_bt, kit_lt, kit_dt, kit_ni, kit_si, kit_ti, kit_li, kit_di, kit_nb, kit_ns, kit_is, kit_bs, kit_ss, kit_ts, kit_ls, kit_ds, kit_dd, lenS_ref, lenO_l, lenO_t,  rAppend, tM1, rIxS, tSl, tPart, tNoPart, tBM, tBM0, tDGetS, sDPutS, tTruS, truO_l, truO_t, truS_ref, truS_non, truS_bl, truS_int, tFld, sFld, sFldAug, rAdd, tMeth, tProp, tMake, tMakeK, List.take_succ_cons, List.take_zero, List.drop_succ_cons, List.drop_zero, List.take_nil, tIsN, tNotN, tAndV, tOrV, tNotV, putF, List.lookup, List.any_cons, List.any_nil, Sum.inr.injEq, HO.ins.injEq, HO.dK.injEq, eq_self, beq_self_eq_true, beq_iff_eq, decide_true, decide_false, Bool.or_true, Bool.true_or, Bool.or_false, Bool.false_or, tYes, rEq, rNe, _root_.L2.start, wipe, List.map_cons, List.map_nil, List.length_cons, List.length_nil, List.append_nil, Nat.reduceAdd, Nat.reduceSub, List.replicate_succ, List.replicate_zero, List.cons_append, List.nil_append, List.getElem?_cons_zero, List.getElem?_cons_succ, List.set_cons_zero, List.set_cons_succ, Option.some.injEq, V.int.injEq, V.ref.injEq, V.bl.injEq, V.str.injEq, List.cons.injEq, HO.lst.injEq, HO.tup.injEq, and_assoc, and_true, true_and, exists_eq_left, exists_eq_left', exists_and_left, exists_eq, reduceCtorEq, false_and, and_false, or_false, false_or, exists_false, decide_eq_true_eq, CPow, CDivW, Int.reducePow, Int.reduceLT, Int.reduceLE, Int.reduceNeg, Int.reduceToNat, Int.reduceAbs, Nat.reducePow, Nat.reduceLT, Nat.reduceLeDiff, sizeLine_eq, Int.reduceMul, Int.reduceAdd, Int.reduceSub, Bool.not_eq_true', decide_eq_false_iff_not, scal, Bool.not_true, Bool.not_false, Bool.true_eq_false, Bool.false_eq_true, ite_false, ite_true, if_true, if_false, ite_self, forall_const, atI0, atI1, atI2, atI3, ixN20, ixN21, upd_same, upd_upd, Int.zero_add, CMul, Int.reduceSub, Nat.le_refl, Nat.zero_le, or_true, true_or, exists_const, Int.sub_zero, hq])
      by_cases hn : 1 ≤ ds.length ∧ ds.length ≤ 12
      · rw [if_pos (by omega), if_neg (by omega)]
        have hj : progJ (.tuple ds) = ds.all stepJ := by simp only [progJ, decide_eq_true hn, Bool.true_and]
        rw [hj] at kk
        refine ⟨⟨_, SqT.of hq⟩, fun D hD => ?_⟩
        refine Lcl.tup xs (fun j H' => H' D = some (.lst (((ds.take j).map stepJ).map V.bl)) ∧ Same H H') ⟨upd_same, same_new hD⟩ (fun j H' _ h => SqT.of (h.2 _ _ hq)) ?_ ?_
        · rintro j x H1 hxj ⟨h1, s1⟩
          obtain ⟨d, hd, od⟩ := (Obs.same s1 hx).get hxj
          have hj : j < xs.length := (List.getElem?_eq_some_iff.mp hxj).1
          (try simp only [cxOf, Cx.nox, Cx.wish, tSeq, tAsg, tC, gName, tIfS, tTest, tOp, tUn, rU, rI0, rI, tVar, tNext, tRevT, tDNewK, tBreak, tChain, iStr, tRet, tRetN, tDrop, tLst, tTup, tCons, tNil, tCB, tB, tOr, tAnd, tNot, tIf, tCall, tFor_eq, tLc_eq, iRng1, iRng2, iList, iTup, gTup, gTupH, gUnlH, gCons, gNil, gSub, rSetL, rIxL, rIxT, rIxLH, rIxTH, rSlTS, rCatS, rTupS, rIsiH, rLenS, V.ty.injEq, tyS_non, tyS_bl, tyS_int, tyS_str, tyS_ref, tyO_l, tyO_t, tyO_d, tyO_dt, kit_ll, kit_tt, kit_bb, kit_ii, kit_ib, kit_bi, kit_nt, kit_it, kit_st, kit_bt, kit_lt, kit_dt, kit_ni, kit_si, kit_ti, kit_li, kit_di, kit_nb, kit_ns, kit_is, kit_bs, kit_ss, kit_ts, kit_ls, kit_ds, kit_dd, lenS_ref, lenO_l, lenO_t,  rAppend, tM1, rIxS, tSl, tPart, tNoPart, tBM, tBM0, tDGetS, sDPutS, tTruS, truO_l, truO_t, truS_ref, truS_non, truS_bl, truS_int, tFld, sFld, sFldAug, rAdd, tMeth, tProp, tMake, tMakeK, List.take_succ_cons, List.take_zero, List.drop_succ_cons, List.drop_zero, List.take_nil, tIsN, tNotN, tAndV, tOrV, tNotV, putF, List.lookup, List.any_cons, List.any_nil, Sum.inr.injEq, HO.ins.injEq, HO.dK.injEq, eq_self, beq_self_eq_true, beq_iff_eq, decide_true, decide_false, Bool.or_true, Bool.true_or, Bool.or_false, Bool.false_or, tYes, rEq, rNe, _root_.L2.start, wipe, List.map_cons, List.map_nil, List.length_cons, List.length_nil, List.append_nil, Nat.reduceAdd, Nat.reduceSub, List.replicate_succ, List.replicate_zero, List.cons_append, List.nil_append, List.getElem?_cons_zero, List.getElem?_cons_succ, List.set_cons_zero, List.set_cons_succ, Option.some.injEq, V.int.injEq, V.ref.injEq, V.bl.injEq, V.str.injEq, List.cons.injEq, HO.lst.injEq, HO.tup.injEq, and_assoc, and_true, true_and, exists_eq_left, exists_eq_left', exists_and_left, exists_eq, reduceCtorEq, false_and, and_false, or_false, false_or, exists_false, decide_eq_true_eq, CPow, CDivW, Int.reducePow, Int.reduceLT, Int.reduceLE, Int.reduceNeg, Int.reduceToNat, Int.reduceAbs, Nat.reducePow, Nat.reduceLT, Nat.reduceLeDiff, sizeLine_eq, Int.reduceMul, Int.reduceAdd, Int.reduceSub, Bool.not_eq_true', decide_eq_false_iff_not, scal, Bool.not_true, Bool.not_false, Bool.true_eq_false, Bool.false_eq_true, ite_false, ite_true, if_true, if_false, ite_self, forall_const, atI0, atI1, atI2, atI3, ixN20, ixN21, upd_same, upd_upd, Int.zero_add, CMul, Int.reduceSub, Nat.le_refl, Nat.zero_le, or_true, true_or, exists_const, Int.sub_zero, sp_is_step])
          refine ⟨s, d, od, okTs_mem.mp hok d (List.mem_of_getElem? hd), _, h1, ?_, ?_, fun b o e => get_ne (ne_of_none e hD) (s1 b o e)⟩
          · simp only [List.length_map, List.length_take]; omega
          · rw [take_snoc hd]; simp
        · rintro H1 ⟨h1, s1⟩
          rw [List.take_of_length_le (by omega)] at h1
          refine ⟨D, ds.map stepJ, rfl, SqL.of h1, ?_⟩
          rw [List.all_map, show (id ∘ stepJ) = stepJ from rfl]
          exact kk _ s1
      · have hj : progJ (.tuple ds) = false := by simp only [progJ, decide_eq_false hn, Bool.false_and]
        rw [hj] at kk
        by_cases h1 : 1 ≤ ds.length
        · rw [if_pos (by omega), if_pos (by omega)]
          exact kk _ (Same.refl _)
        · rw [if_neg (by omega)]
          exact kk _ (Same.refl _)
    | _ => simp only [dTy]; (try simp only [cxOf, Cx.nox, Cx.wish, tSeq, tAsg, tC, gName, tIfS, tTest, tOp, tUn, rU, rI0, rI, tVar, tNext, tRevT, tDNewK, tBreak, tChain, iStr, tRet, tRetN, tDrop, tLst, tTup, tCons, tNil, tCB, tB, tOr, tAnd, tNot, tIf, tCall, tFor_eq, tLc_eq, iRng1, iRng2, iList, iTup, gTup, gTupH, gUnlH, gCons, gNil, gSub, rSetL, rIxL, rIxT, rIxLH, rIxTH, rSlTS, rCatS, rTupS, rIsiH, rLenS, V.ty.injEq, tyS_non, tyS_bl, tyS_int, tyS_str, tyS_ref, tyO_l, tyO_t, tyO_d, tyO_dt, kit_ll, kit_tt, kit_bb, kit_ii, kit_ib, kit_bi, kit_nt, kit_it, kit_st, kit_bt, kit_lt, kit_dt, kit_ni, kit_si, kit_ti, kit_li, kit_di, kit_nb, kit_ns, kit_is, kit_bs, kit_ss, kit_ts, kit_ls, kit_ds, kit_dd, lenS_ref, lenO_l, lenO_t,  rAppend, tM1, rIxS, tSl, tPart, tNoPart, tBM, tBM0, tDGetS, sDPutS, tTruS, truO_l, truO_t, truS_ref, truS_non, truS_bl, truS_int, tFld, sFld, sFldAug, rAdd, tMeth, tProp, tMake, tMakeK, List.take_succ_cons, List.take_zero, List.drop_succ_cons, List.drop_zero, List.take_nil, tIsN, tNotN, tAndV, tOrV, tNotV, putF, List.lookup, List.any_cons, List.any_nil, Sum.inr.injEq, HO.ins.injEq, HO.dK.injEq, eq_self, beq_self_eq_true, beq_iff_eq, decide_true, decide_false, Bool.or_true, Bool.true_or, Bool.or_false, Bool.false_or, tYes, rEq, rNe, _root_.L2.start, wipe, List.map_cons, List.map_nil, List.length_cons, List.length_nil, List.append_nil, Nat.reduceAdd, Nat.reduceSub, List.replicate_succ, List.replicate_zero, List.cons_append, List.nil_append, List.getElem?_cons_zero, List.getElem?_cons_succ, List.set_cons_zero, List.set_cons_succ, Option.some.injEq, V.int.injEq, V.ref.injEq, V.bl.injEq, V.str.injEq, List.cons.injEq, HO.lst.injEq, HO.tup.injEq, and_assoc, and_true, true_and, exists_eq_left, exists_eq_left', exists_and_left, exists_eq, reduceCtorEq, false_and, and_false, or_false, false_or, exists_false, decide_eq_true_eq, CPow, CDivW, Int.reducePow, Int.reduceLT, Int.reduceLE, Int.reduceNeg, Int.reduceToNat, Int.reduceAbs, Nat.reducePow, Nat.reduceLT, Nat.reduceLeDiff, sizeLine_eq, Int.reduceMul, Int.reduceAdd, Int.reduceSub, Bool.not_eq_true', decide_eq_false_iff_not, scal, Bool.not_true, Bool.not_false, Bool.true_eq_false, Bool.false_eq_true, ite_false, ite_true, if_true, if_false, ite_self, forall_const, atI0, atI1, atI2, atI3, ixN20, ixN21, upd_same, upd_upd, Int.zero_add, CMul, Int.reduceSub, Nat.le_refl, Nat.zero_le, or_true, true_or, exists_const, Int.sub_zero]); exact kk _ (Same.refl _)
def sp_law_changed : Sp := fun vs H Q _ => ∃ (q p : Addr) (xs : List V) (ds : List PyData), vs = [.ref q, .ref p] ∧ H q = some (.tup xs) ∧ ObAll p H ds xs ∧ okTs ds = true ∧ (∀ d ∈ ds, small d = true ∧ ∃ es, d = .tuple es ∧ 2 ≤ es.length) ∧ 0 < ds.length ∧ ds.length ≤ 12 ∧ St2 H p ∧ ∀ (v : V) (d : PyData) (H' : Hp), Ob p H' d v → okT d = true → Gn p H H' → Q v H'
theorem ok_law_changed (T : Txt K mg) : FnOk P w K mg base CX0 5 T.f_law_changed T.d_law_changed ["_law_program", "_law_stream_here"] (sp_law_changed) := by
  refine Fun.ok T.F_law_changed sc_law_changed (fun vs H Q E h => ?_) (fun cdv A outer s H vs Q E hr h => ?_)
  · obtain ⟨q, p, xs, ds, rfl, hq, hx, hok, hds, hl, hl2, hp, kk⟩ := h; rfl
  · obtain ⟨q, p, xs, ds, rfl, hq, hx, hok, hds, hl, hl2, hp, kk⟩ := h
    have hu := hu_of hr
    refine ⟨_, (pss_cons (ps_set (i := 2) sc_law_changed.nd rfl (Or.inl rfl) (pe_call (ok_law_next T) (hr.mono (by decide)) rfl T.g_law_next T.F_law_next.kp T.b_law_next .nil pass0 (pa_cons (pv 1) (pa_cons pe_int pa_nil))))
      (pss_cons (ps_if (pt_cmpR op_eq (pv 2) pe_int (nomark _)) (pss_one (ps_ret (pe_slice sl_tupS (pe_op op_repT (pv 0) pe_int) po_none (po_some pe_int)))) pss_nil)
      (pss_cons (ps_if (pt_cmpR op_eq (pv 2) pe_int (nomark _)) (pss_one (ps_ret (pe_callTy call_list_of (by rfl) T.z_list (by decide +kernel) (pa_cons (pv 0) pa_nil)))) pss_nil)
      (pss_cons (ps_if (pt_cmpR op_eq (pv 2) pe_int (nomark _)) (pss_one (ps_ret (pe_tup pa_nil))) pss_nil)
      (pss_cons (ps_set (i := 3) sc_law_changed.nd rfl (Or.inl rfl) (pe_call (ok_law_next T) (hr.mono (by decide)) rfl T.g_law_next T.F_law_next.kp T.b_law_next .nil pass0 (pa_cons (pv 1) (pa_cons (pe_callB call_lenS (by rfl) T.z_len (by decide +kernel) (pa_cons (pv 0) pa_nil)) pa_nil))))
      (pss_one (ps_ret (pe_op op_catS (pe_op op_catS (pe_slice sl_tupS (pv 0) po_none (po_some (pv 3))) (pe_tup (pa_cons (pe_call (ok_law_changed_step T) (hr.mono (by decide)) rfl T.g_law_changed_step T.F_law_changed_step.kp T.b_law_changed_step .nil pass0 (pa_cons (pe_ix ix_tupH (pv 0) (pv 3) (fun _ _ => rfl)) (pa_cons (pv 1) pa_nil))) pa_nil))) (pe_slice sl_tupS (pv 0) (po_some (pe_op op_add (pv 3) pe_int)) po_none))))))))), ?_⟩
    (try simp only [cxOf, Cx.nox, Cx.wish, tSeq, tAsg, tC, gName, tIfS, tTest, tOp, tUn, rU, rI0, rI, tVar, tNext, tRevT, tDNewK, tBreak, tChain, iStr, tRet, tRetN, tDrop, tLst, tTup, tCons, tNil, tCB, tB, tOr, tAnd, tNot, tIf, tCall, tFor_eq, tLc_eq, iRng1, iRng2, iList, iTup, gTup, gTupH, gUnlH, gCons, gNil, gSub, rSetL, rIxL, rIxT, rIxLH, rIxTH, rSlTS, rCatS, rTupS, rIsiH, rLenS, V.ty.injEq, tyS_non, tyS_bl, tyS_int, tyS_str, tyS_ref, tyO_l, tyO_t, tyO_d, tyO_dt, kit_ll, kit_tt, kit_bb, kit_ii, kit_ib, kit_bi, kit_nt, kit_it, kit_st, kit_bt, kit_lt, kit_dt, kit_ni, kit_si, kit_ti, kit_li, kit_di, kit_nb, kit_ns, kit_is, kit_bs, kit_ss, kit_ts, kit_ls, kit_ds, kit_dd, lenS_ref, lenO_l, lenO_t,  rAppend, tM1, rIxS, tSl, tPart, tNoPart, tBM, tBM0, tDGetS, sDPutS, tTruS, truO_l, truO_t, truS_ref, truS_non, truS_bl, truS_int, tFld, sFld, sFldAug, rAdd, tMeth, tProp, tMake, tMakeK, List.take_succ_cons, List.take_zero, List.drop_succ_cons, List.drop_zero, List.take_nil, tIsN, tNotN, tAndV, tOrV, tNotV, putF, List.lookup, List.any_cons, List.any_nil, Sum.inr.injEq, HO.ins.injEq, HO.dK.injEq, eq_self, beq_self_eq_true, beq_iff_eq, decide_true, decide_false, Bool.or_true, Bool.true_or, Bool.or_false, Bool.false_or, tYes, rEq, rNe, _root_.L2.start, wipe, List.map_cons, List.map_nil, List.length_cons, List.length_nil, List.append_nil, Nat.reduceAdd, Nat.reduceSub, List.replicate_succ, List.replicate_zero, List.cons_append, List.nil_append, List.getElem?_cons_zero, List.getElem?_cons_succ, List.set_cons_zero, List.set_cons_succ, Option.some.injEq, V.int.injEq, V.ref.injEq, V.bl.injEq, V.str.injEq, List.cons.injEq, HO.lst.injEq, HO.tup.injEq, and_assoc, and_true, true_and, exists_eq_left, exists_eq_left', exists_and_left, exists_eq, reduceCtorEq, false_and, and_false, or_false, false_or, exists_false, decide_eq_true_eq, CPow, CDivW, Int.reducePow, Int.reduceLT, Int.reduceLE, Int.reduceNeg, Int.reduceToNat, Int.reduceAbs, Nat.reducePow, Nat.reduceLT, Nat.reduceLeDiff, sizeLine_eq, Int.reduceMul, Int.reduceAdd, Int.reduceSub, Bool.not_eq_true', decide_eq_false_iff_not, scal, Bool.not_true, Bool.not_false, Bool.true_eq_false, Bool.false_eq_true, ite_false, ite_true, if_true, if_false, ite_self, forall_const, atI0, atI1, atI2, atI3, ixN20, ixN21, upd_same, upd_upd, Int.zero_add, CMul, Int.reduceSub, Nat.le_refl, Nat.zero_le, or_true, true_or, exists_const, Int.sub_zero, sp_law_next, sp_law_changed_step, rRepT])
    refine ⟨hp, fun v H1 v0 v1 g1 => ?_⟩
    have hq1 := g1.tk _ _ hq
    have hxl := hx.len
    have hx1 : ObAll p H1 ds xs := Obs.gn g1 hx
    split
    · refine ⟨xs, SqT.of hq1, fun z => by subst z; simp at hxl; omega, by omega, fun p1 hp1 p2 H2 s2 h2 => ?_⟩
      have o13 : ObAll p (upd H1 p1 (.tup (List.replicate 13 xs).flatten)) (List.replicate 13 ds).flatten (List.replicate 13 xs).flatten := Obs.new hp1 (hx1.rep 13)
      obtain ⟨es, oe, he, hle⟩ := (Obs.same s2 o13).cut none (some 13)
      exact kk _ (.tuple es) _ (ob_tup h2 oe) (okTs_sub hok fun d hd => mem_rep (he d hd)) ((g1.new hp1).same s2)
    split
    · exact ⟨xs, .inr (SqT.of hq1), fun l hl => kk _ (.list ds) _ (ob_lst (St2.nn g1.st hl) upd_same (Obs.new hl hx1)) hok (g1.new hl)⟩
    split
    · exact fun l hl => kk _ (.tuple []) _ (ob_tup upd_same obs_nil) rfl (g1.new hl)
    (try simp only [cxOf, Cx.nox, Cx.wish, tSeq, tAsg, tC, gName, tIfS, tTest, tOp, tUn, rU, rI0, rI, tVar, tNext, tRevT, tDNewK, tBreak, tChain, iStr, tRet, tRetN, tDrop, tLst, tTup, tCons, tNil, tCB, tB, tOr, tAnd, tNot, tIf, tCall, tFor_eq, tLc_eq, iRng1, iRng2, iList, iTup, gTup, gTupH, gUnlH, gCons, gNil, gSub, rSetL, rIxL, rIxT, rIxLH, rIxTH, rSlTS, rCatS, rTupS, rIsiH, rLenS, V.ty.injEq, tyS_non, tyS_bl, tyS_int, tyS_str, tyS_ref, tyO_l, tyO_t, tyO_d, tyO_dt, kit_ll, kit_tt, kit_bb, kit_ii, kit_ib, kit_bi, kit_nt, kit_it, kit_st, kit_bt, kit_lt, kit_dt, kit_ni, kit_si, kit_ti, kit_li, kit_di, kit_nb, kit_ns, kit_is, kit_bs, kit_ss, kit_ts, kit_ls, kit_ds, kit_dd, lenS_ref, lenO_l, lenO_t,  rAppend, tM1, rIxS, tSl, tPart, tNoPart, tBM, tBM0, tDGetS, sDPutS, tTruS, truO_l, truO_t, truS_ref, truS_non, truS_bl, truS_int, tFld, sFld, sFldAug, rAdd, tMeth, tProp, tMake, tMakeK, List.take_succ_cons, List.take_zero, List.drop_succ_cons, List.drop_zero, List.take_nil, tIsN, tNotN, tAndV, tOrV, tNotV, putF, List.lookup, List.any_cons, List.any_nil, Sum.inr.injEq, HO.ins.injEq, HO.dK.injEq, eq_self, beq_self_eq_true, beq_iff_eq, decide_true, decide_false, Bool.or_true, Bool.true_or, Bool.or_false, Bool.false_or, tYes, rEq, rNe, _root_.L2.start, wipe, List.map_cons, List.map_nil, List.length_cons, List.length_nil, List.append_nil, Nat.reduceAdd, Nat.reduceSub, List.replicate_succ, List.replicate_zero, List.cons_append, List.nil_append, List.getElem?_cons_zero, List.getElem?_cons_succ, List.set_cons_zero, List.set_cons_succ, Option.some.injEq, V.int.injEq, V.ref.injEq, V.bl.injEq, V.str.injEq, List.cons.injEq, HO.lst.injEq, HO.tup.injEq, and_assoc, and_true, true_and, exists_eq_left, exists_eq_left', exists_and_left, exists_eq, reduceCtorEq, false_and, and_false, or_false, false_or, exists_false, decide_eq_true_eq, CPow, CDivW, Int.reducePow, Int.reduceLT, Int.reduceLE, Int.reduceNeg, Int.reduceToNat, Int.reduceAbs, Nat.reducePow, Nat.reduceLT, Nat.reduceLeDiff, sizeLine_eq, Int.reduceMul, Int.reduceAdd, Int.reduceSub, Bool.not_eq_true', decide_eq_false_iff_not, scal, Bool.not_true, Bool.not_false, Bool.true_eq_false, Bool.false_eq_true, ite_false, ite_true, if_true, if_false, ite_self, forall_const, atI0, atI1, atI2, atI3, ixN20, ixN21, upd_same, upd_upd, Int.zero_add, CMul, Int.reduceSub, Nat.le_refl, Nat.zero_le, or_true, true_or, exists_const, Int.sub_zero, hq1])
    refine ⟨g1.st, by omega, by omega, fun at0 H2 a0 a1 g2 => ?_⟩
    have gg := g1.trans g2
    have hq2 := gg.tk _ _ hq
    have hx2 : ObAll p H2 ds xs := Obs.gn gg hx
    (try simp only [cxOf, Cx.nox, Cx.wish, tSeq, tAsg, tC, gName, tIfS, tTest, tOp, tUn, rU, rI0, rI, tVar, tNext, tRevT, tDNewK, tBreak, tChain, iStr, tRet, tRetN, tDrop, tLst, tTup, tCons, tNil, tCB, tB, tOr, tAnd, tNot, tIf, tCall, tFor_eq, tLc_eq, iRng1, iRng2, iList, iTup, gTup, gTupH, gUnlH, gCons, gNil, gSub, rSetL, rIxL, rIxT, rIxLH, rIxTH, rSlTS, rCatS, rTupS, rIsiH, rLenS, V.ty.injEq, tyS_non, tyS_bl, tyS_int, tyS_str, tyS_ref, tyO_l, tyO_t, tyO_d, tyO_dt, kit_ll, kit_tt, kit_bb, kit_ii, kit_ib, kit_bi, kit_nt, kit_it, kit_st, kit_bt, kit_lt, kit_dt, kit_ni, kit_si, kit_ti, kit_li, kit_di, kit_nb, kit_ns, kit_is, kit_bs, kit_ss, kit_ts, kit_ls, kit_ds, kit_dd, lenS_ref, lenO_l, lenO_t,  rAppend, tM1, rIxS, tSl, tPart, tNoPart, tBM, tBM0, tDGetS, sDPutS, tTruS, truO_l, truO_t, truS_ref, truS_non, truS_bl, truS_int, tFld, sFld, sFldAug, rAdd, tMeth, tProp, tMake, tMakeK, List.take_succ_cons, List.take_zero, List.drop_succ_cons, List.drop_zero, List.take_nil, tIsN, tNotN, tAndV, tOrV, tNotV, putF, List.lookup, List.any_cons, List.any_nil, Sum.inr.injEq, HO.ins.injEq, HO.dK.injEq, eq_self, beq_self_eq_true, beq_iff_eq, decide_true, decide_false, Bool.or_true, Bool.true_or, Bool.or_false, Bool.false_or, tYes, rEq, rNe, _root_.L2.start, wipe, List.map_cons, List.map_nil, List.length_cons, List.length_nil, List.append_nil, Nat.reduceAdd, Nat.reduceSub, List.replicate_succ, List.replicate_zero, List.cons_append, List.nil_append, List.getElem?_cons_zero, List.getElem?_cons_succ, List.set_cons_zero, List.set_cons_succ, Option.some.injEq, V.int.injEq, V.ref.injEq, V.bl.injEq, V.str.injEq, List.cons.injEq, HO.lst.injEq, HO.tup.injEq, and_assoc, and_true, true_and, exists_eq_left, exists_eq_left', exists_and_left, exists_eq, reduceCtorEq, false_and, and_false, or_false, false_or, exists_false, decide_eq_true_eq, CPow, CDivW, Int.reducePow, Int.reduceLT, Int.reduceLE, Int.reduceNeg, Int.reduceToNat, Int.reduceAbs, Nat.reducePow, Nat.reduceLT, Nat.reduceLeDiff, sizeLine_eq, Int.reduceMul, Int.reduceAdd, Int.reduceSub, Bool.not_eq_true', decide_eq_false_iff_not, scal, Bool.not_true, Bool.not_false, Bool.true_eq_false, Bool.false_eq_true, ite_false, ite_true, if_true, if_false, ite_self, forall_const, atI0, atI1, atI2, atI3, ixN20, ixN21, upd_same, upd_upd, Int.zero_add, CMul, Int.reduceSub, Nat.le_refl, Nat.zero_le, or_true, true_or, exists_const, Int.sub_zero, hq2])
    intro p1 H3 s3 h1
    obtain ⟨es, oe, he, hle⟩ := (Obs.same s3 hx2).cut none (some at0)
    obtain ⟨k0, rfl⟩ : ∃ k : Nat, at0 = k := ⟨at0.toNat, by omega⟩
    have hk : k0 < xs.length := by omega
    obtain ⟨d0, hg, hd0, od0⟩ := (Obs.same s3 hx2).mem hk
    obtain ⟨hsm, es0, rfl, hes0⟩ := hds d0 hd0
    obtain ⟨q0, ys, e0, hq0, oy⟩ := od0.tup
    rw [e0] at hg
    (try simp only [cxOf, Cx.nox, Cx.wish, tSeq, tAsg, tC, gName, tIfS, tTest, tOp, tUn, rU, rI0, rI, tVar, tNext, tRevT, tDNewK, tBreak, tChain, iStr, tRet, tRetN, tDrop, tLst, tTup, tCons, tNil, tCB, tB, tOr, tAnd, tNot, tIf, tCall, tFor_eq, tLc_eq, iRng1, iRng2, iList, iTup, gTup, gTupH, gUnlH, gCons, gNil, gSub, rSetL, rIxL, rIxT, rIxLH, rIxTH, rSlTS, rCatS, rTupS, rIsiH, rLenS, V.ty.injEq, tyS_non, tyS_bl, tyS_int, tyS_str, tyS_ref, tyO_l, tyO_t, tyO_d, tyO_dt, kit_ll, kit_tt, kit_bb, kit_ii, kit_ib, kit_bi, kit_nt, kit_it, kit_st, kit_bt, kit_lt, kit_dt, kit_ni, kit_si, kit_ti, kit_li, kit_di, kit_nb, kit_ns, kit_is, kit_bs, kit_ss, kit_ts, kit_ls, kit_ds, kit_dd, lenS_ref, lenO_l, lenO_t,  rAppend, tM1, rIxS, tSl, tPart, tNoPart, tBM, tBM0, tDGetS, sDPutS, tTruS, truO_l, truO_t, truS_ref, truS_non, truS_bl, truS_int, tFld, sFld, sFldAug, rAdd, tMeth, tProp, tMake, tMakeK, List.take_succ_cons, List.take_zero, List.drop_succ_cons, List.drop_zero, List.take_nil, tIsN, tNotN, tAndV, tOrV, tNotV, putF, List.lookup, List.any_cons, List.any_nil, Sum.inr.injEq, HO.ins.injEq, HO.dK.injEq, eq_self, beq_self_eq_true, beq_iff_eq, decide_true, decide_false, Bool.or_true, Bool.true_or, Bool.or_false, Bool.false_or, tYes, rEq, rNe, _root_.L2.start, wipe, List.map_cons, List.map_nil, List.length_cons, List.length_nil, List.append_nil, Nat.reduceAdd, Nat.reduceSub, List.replicate_succ, List.replicate_zero, List.cons_append, List.nil_append, List.getElem?_cons_zero, List.getElem?_cons_succ, List.set_cons_zero, List.set_cons_succ, Option.some.injEq, V.int.injEq, V.ref.injEq, V.bl.injEq, V.str.injEq, List.cons.injEq, HO.lst.injEq, HO.tup.injEq, and_assoc, and_true, true_and, exists_eq_left, exists_eq_left', exists_and_left, exists_eq, reduceCtorEq, false_and, and_false, or_false, false_or, exists_false, decide_eq_true_eq, CPow, CDivW, Int.reducePow, Int.reduceLT, Int.reduceLE, Int.reduceNeg, Int.reduceToNat, Int.reduceAbs, Nat.reducePow, Nat.reduceLT, Nat.reduceLeDiff, sizeLine_eq, Int.reduceMul, Int.reduceAdd, Int.reduceSub, Bool.not_eq_true', decide_eq_false_iff_not, scal, Bool.not_true, Bool.not_false, Bool.true_eq_false, Bool.false_eq_true, ite_false, ite_true, if_true, if_false, ite_self, forall_const, atI0, atI1, atI2, atI3, ixN20, ixN21, upd_same, upd_upd, Int.zero_add, CMul, Int.reduceSub, Nat.le_refl, Nat.zero_le, or_true, true_or, exists_const, Int.sub_zero, s3 _ _ hq2])
    refine ⟨_, atI_nat hg, q0, rfl, ys, hq0, es0, oy, by have := okTs_mem.mp hok _ hd0; simpa only [okT] using this, by omega, of_decide_eq_true hsm, g2.st.same s3, fun x d H4 od hd g4 p2 hp2 => ?_⟩
    have h14 := g4.tk _ _ h1
    (try simp only [cxOf, Cx.nox, Cx.wish, tSeq, tAsg, tC, gName, tIfS, tTest, tOp, tUn, rU, rI0, rI, tVar, tNext, tRevT, tDNewK, tBreak, tChain, iStr, tRet, tRetN, tDrop, tLst, tTup, tCons, tNil, tCB, tB, tOr, tAnd, tNot, tIf, tCall, tFor_eq, tLc_eq, iRng1, iRng2, iList, iTup, gTup, gTupH, gUnlH, gCons, gNil, gSub, rSetL, rIxL, rIxT, rIxLH, rIxTH, rSlTS, rCatS, rTupS, rIsiH, rLenS, V.ty.injEq, tyS_non, tyS_bl, tyS_int, tyS_str, tyS_ref, tyO_l, tyO_t, tyO_d, tyO_dt, kit_ll, kit_tt, kit_bb, kit_ii, kit_ib, kit_bi, kit_nt, kit_it, kit_st, kit_bt, kit_lt, kit_dt, kit_ni, kit_si, kit_ti, kit_li, kit_di, kit_nb, kit_ns, kit_is, kit_bs, kit_ss, kit_ts, kit_ls, kit_ds, kit_dd, lenS_ref, lenO_l, lenO_t,  rAppend, tM1, rIxS, tSl, tPart, tNoPart, tBM, tBM0, tDGetS, sDPutS, tTruS, truO_l, truO_t, truS_ref, truS_non, truS_bl, truS_int, tFld, sFld, sFldAug, rAdd, tMeth, tProp, tMake, tMakeK, List.take_succ_cons, List.take_zero, List.drop_succ_cons, List.drop_zero, List.take_nil, tIsN, tNotN, tAndV, tOrV, tNotV, putF, List.lookup, List.any_cons, List.any_nil, Sum.inr.injEq, HO.ins.injEq, HO.dK.injEq, eq_self, beq_self_eq_true, beq_iff_eq, decide_true, decide_false, Bool.or_true, Bool.true_or, Bool.or_false, Bool.false_or, tYes, rEq, rNe, _root_.L2.start, wipe, List.map_cons, List.map_nil, List.length_cons, List.length_nil, List.append_nil, Nat.reduceAdd, Nat.reduceSub, List.replicate_succ, List.replicate_zero, List.cons_append, List.nil_append, List.getElem?_cons_zero, List.getElem?_cons_succ, List.set_cons_zero, List.set_cons_succ, Option.some.injEq, V.int.injEq, V.ref.injEq, V.bl.injEq, V.str.injEq, List.cons.injEq, HO.lst.injEq, HO.tup.injEq, and_assoc, and_true, true_and, exists_eq_left, exists_eq_left', exists_and_left, exists_eq, reduceCtorEq, false_and, and_false, or_false, false_or, exists_false, decide_eq_true_eq, CPow, CDivW, Int.reducePow, Int.reduceLT, Int.reduceLE, Int.reduceNeg, Int.reduceToNat, Int.reduceAbs, Nat.reducePow, Nat.reduceLT, Nat.reduceLeDiff, sizeLine_eq, Int.reduceMul, Int.reduceAdd, Int.reduceSub, Bool.not_eq_true', decide_eq_false_iff_not, scal, Bool.not_true, Bool.not_false, Bool.true_eq_false, Bool.false_eq_true, ite_false, ite_true, if_true, if_false, ite_self, forall_const, atI0, atI1, atI2, atI3, ixN20, ixN21, upd_same, upd_upd, Int.zero_add, CMul, Int.reduceSub, Nat.le_refl, Nat.zero_le, or_true, true_or, exists_const, Int.sub_zero, get_new hp2 h14])
    refine ⟨by omega, fun p3 H5 s5 h3 => ?_⟩
    have hq5 := s5 _ _ (get_new hp2 (g4.tk _ _ (s3 _ _ hq2)) (o := .tup [x]))
    (try simp only [cxOf, Cx.nox, Cx.wish, tSeq, tAsg, tC, gName, tIfS, tTest, tOp, tUn, rU, rI0, rI, tVar, tNext, tRevT, tDNewK, tBreak, tChain, iStr, tRet, tRetN, tDrop, tLst, tTup, tCons, tNil, tCB, tB, tOr, tAnd, tNot, tIf, tCall, tFor_eq, tLc_eq, iRng1, iRng2, iList, iTup, gTup, gTupH, gUnlH, gCons, gNil, gSub, rSetL, rIxL, rIxT, rIxLH, rIxTH, rSlTS, rCatS, rTupS, rIsiH, rLenS, V.ty.injEq, tyS_non, tyS_bl, tyS_int, tyS_str, tyS_ref, tyO_l, tyO_t, tyO_d, tyO_dt, kit_ll, kit_tt, kit_bb, kit_ii, kit_ib, kit_bi, kit_nt, kit_it, kit_st, kit_bt, kit_lt, kit_dt, kit_ni, kit_si, kit_ti, kit_li, kit_di, kit_nb, kit_ns, kit_is, kit_bs, kit_ss, kit_ts, kit_ls, kit_ds, kit_dd, lenS_ref, lenO_l, lenO_t,  rAppend, tM1, rIxS, tSl, tPart, tNoPart, tBM, tBM0, tDGetS, sDPutS, tTruS, truO_l, truO_t, truS_ref, truS_non, truS_bl, truS_int, tFld, sFld, sFldAug, rAdd, tMeth, tProp, tMake, tMakeK, List.take_succ_cons, List.take_zero, List.drop_succ_cons, List.drop_zero, List.take_nil, tIsN, tNotN, tAndV, tOrV, tNotV, putF, List.lookup, List.any_cons, List.any_nil, Sum.inr.injEq, HO.ins.injEq, HO.dK.injEq, eq_self, beq_self_eq_true, beq_iff_eq, decide_true, decide_false, Bool.or_true, Bool.true_or, Bool.or_false, Bool.false_or, tYes, rEq, rNe, _root_.L2.start, wipe, List.map_cons, List.map_nil, List.length_cons, List.length_nil, List.append_nil, Nat.reduceAdd, Nat.reduceSub, List.replicate_succ, List.replicate_zero, List.cons_append, List.nil_append, List.getElem?_cons_zero, List.getElem?_cons_succ, List.set_cons_zero, List.set_cons_succ, Option.some.injEq, V.int.injEq, V.ref.injEq, V.bl.injEq, V.str.injEq, List.cons.injEq, HO.lst.injEq, HO.tup.injEq, and_assoc, and_true, true_and, exists_eq_left, exists_eq_left', exists_and_left, exists_eq, reduceCtorEq, false_and, and_false, or_false, false_or, exists_false, decide_eq_true_eq, CPow, CDivW, Int.reducePow, Int.reduceLT, Int.reduceLE, Int.reduceNeg, Int.reduceToNat, Int.reduceAbs, Nat.reducePow, Nat.reduceLT, Nat.reduceLeDiff, sizeLine_eq, Int.reduceMul, Int.reduceAdd, Int.reduceSub, Bool.not_eq_true', decide_eq_false_iff_not, scal, Bool.not_true, Bool.not_false, Bool.true_eq_false, Bool.false_eq_true, ite_false, ite_true, if_true, if_false, ite_self, forall_const, atI0, atI1, atI2, atI3, ixN20, ixN21, upd_same, upd_upd, Int.zero_add, CMul, Int.reduceSub, Nat.le_refl, Nat.zero_le, or_true, true_or, exists_const, Int.sub_zero, hq5])
    intro p4 H6 s6 h4
    have h36 := s6 _ _ h3
    (try simp only [cxOf, Cx.nox, Cx.wish, tSeq, tAsg, tC, gName, tIfS, tTest, tOp, tUn, rU, rI0, rI, tVar, tNext, tRevT, tDNewK, tBreak, tChain, iStr, tRet, tRetN, tDrop, tLst, tTup, tCons, tNil, tCB, tB, tOr, tAnd, tNot, tIf, tCall, tFor_eq, tLc_eq, iRng1, iRng2, iList, iTup, gTup, gTupH, gUnlH, gCons, gNil, gSub, rSetL, rIxL, rIxT, rIxLH, rIxTH, rSlTS, rCatS, rTupS, rIsiH, rLenS, V.ty.injEq, tyS_non, tyS_bl, tyS_int, tyS_str, tyS_ref, tyO_l, tyO_t, tyO_d, tyO_dt, kit_ll, kit_tt, kit_bb, kit_ii, kit_ib, kit_bi, kit_nt, kit_it, kit_st, kit_bt, kit_lt, kit_dt, kit_ni, kit_si, kit_ti, kit_li, kit_di, kit_nb, kit_ns, kit_is, kit_bs, kit_ss, kit_ts, kit_ls, kit_ds, kit_dd, lenS_ref, lenO_l, lenO_t,  rAppend, tM1, rIxS, tSl, tPart, tNoPart, tBM, tBM0, tDGetS, sDPutS, tTruS, truO_l, truO_t, truS_ref, truS_non, truS_bl, truS_int, tFld, sFld, sFldAug, rAdd, tMeth, tProp, tMake, tMakeK, List.take_succ_cons, List.take_zero, List.drop_succ_cons, List.drop_zero, List.take_nil, tIsN, tNotN, tAndV, tOrV, tNotV, putF, List.lookup, List.any_cons, List.any_nil, Sum.inr.injEq, HO.ins.injEq, HO.dK.injEq, eq_self, beq_self_eq_true, beq_iff_eq, decide_true, decide_false, Bool.or_true, Bool.true_or, Bool.or_false, Bool.false_or, tYes, rEq, rNe, _root_.L2.start, wipe, List.map_cons, List.map_nil, List.length_cons, List.length_nil, List.append_nil, Nat.reduceAdd, Nat.reduceSub, List.replicate_succ, List.replicate_zero, List.cons_append, List.nil_append, List.getElem?_cons_zero, List.getElem?_cons_succ, List.set_cons_zero, List.set_cons_succ, Option.some.injEq, V.int.injEq, V.ref.injEq, V.bl.injEq, V.str.injEq, List.cons.injEq, HO.lst.injEq, HO.tup.injEq, and_assoc, and_true, true_and, exists_eq_left, exists_eq_left', exists_and_left, exists_eq, reduceCtorEq, false_and, and_false, or_false, false_or, exists_false, decide_eq_true_eq, CPow, CDivW, Int.reducePow, Int.reduceLT, Int.reduceLE, Int.reduceNeg, Int.reduceToNat, Int.reduceAbs, Nat.reducePow, Nat.reduceLT, Nat.reduceLeDiff, sizeLine_eq, Int.reduceMul, Int.reduceAdd, Int.reduceSub, Bool.not_eq_true', decide_eq_false_iff_not, scal, Bool.not_true, Bool.not_false, Bool.true_eq_false, Bool.false_eq_true, ite_false, ite_true, if_true, if_false, ite_self, forall_const, atI0, atI1, atI2, atI3, ixN20, ixN21, upd_same, upd_upd, Int.zero_add, CMul, Int.reduceSub, Nat.le_refl, Nat.zero_le, or_true, true_or, exists_const, Int.sub_zero, h36, h4])
    have s46 := (same_new hp2 (o := .tup [x])).trans (s5.trans s6)
    obtain ⟨fs, of, hf, hlf⟩ := (Obs.same s46 (Obs.gn g4 (Obs.same s3 hx2))).cut (some ((k0 : Int) + 1)) none
    refine ⟨by simp only [List.length_append, List.length_cons, List.length_nil]; omega, fun p5 H7 s7 h5 => kk _ (.tuple (es ++ [d] ++ fs)) H7 (ob_tup h5 ?_) ?_ (((gg.same s3).trans g4).same (s46.trans s7))⟩
    · exact Obs.same s7 (((Obs.same s46 (Obs.gn g4 oe)).app (obs_cons (od.same s46) obs_nil)).app of)
    · exact okTs_app (okTs_app (okTs_sub hok he) (by simp [okTs, hd])) (okTs_sub hok hf)

theorem ok_law (T : Txt K mg) : FnOk P w K mg base CX0 6 T.f_law T.d_law ["_law_script"] (spLaw K) := by
  refine Fun.ok T.F_law sc_law (fun vs H Q E h => ?_) (fun cdv A outer s H vs Q E hr h => ?_)
  · obtain ⟨a, ns, rfl, hS, hlen, kk⟩ := h; rfl
  · obtain ⟨a, ns, rfl, hS, hlen, kk⟩ := h
    have hu := hu_of hr
    refine ⟨_, (pss_cons (ps_for PassesOwn.never rfl (pi_range1 (by rfl) T.z_range (pa_cons (pe_callB (call_min2 rfl) (by rfl) T.z_min (by decide +kernel) (pa_cons (pe_callB call_len (by rfl) T.z_len (by decide +kernel) (pa_cons (pv 0) pa_nil)) (pa_cons pe_int pa_nil))) pa_nil)) (pg_name (i := 1) sc_law.nd rfl (Or.inl rfl))
      (pss_cons (ps_set (i := 2) sc_law.nd rfl (Or.inr rfl) (pe_call (ok_law_stream T) (hr.mono (by decide)) rfl T.g_law_stream T.F_law_stream.kp T.b_law_stream .nil pass0 (pa_cons (pe_ix ix_list (pv 0) (pv 1) (fun _ _ => rfl)) (pa_cons (pv 1) pa_nil))))
      (pss_cons (ps_set (i := 3) sc_law.nd rfl (Or.inl rfl) (pe_callTy call_tupS (by rfl) T.z_tuple (by decide +kernel) (pa_cons (pe_lc (own := [("_law_j", 5)]) (g := gName 5) (tt := tYes) rfl sc_law.nd (pi_range1 (by rfl) T.z_range (pa_cons (pe_op op_add pe_int (pe_call (ok_law_next T) (hr.mono (by decide)) rfl T.g_law_next T.F_law_next.kp T.b_law_next .nil pass0 (pa_cons (pv 2) (pa_cons pe_int pa_nil)))) pa_nil)) (blkOk_by (N := N_law) (sc := defScope s_law) (by decide +kernel)) (fun _ _ _ _ _ => (pg_name (i := 5) sc_law.nd rfl (Or.inl rfl))) (fun _ _ _ _ _ => pts_nil) (fun _ _ _ _ _ => (pe_call (ok_law_step T) (hr.mono (by decide)) rfl T.g_law_step T.F_law_step.kp T.b_law_step .nil pass0 (pa_cons (pv 2) pa_nil)))) pa_nil)))
      (pss_cons (ps_for PassesOwn.never rfl (pi_list (pe_lst (pa_cons (pv 3) (pa_cons (pe_call (ok_law_changed T) (hr.mono (by decide)) rfl T.g_law_changed T.F_law_changed.kp T.b_law_changed .nil pass0 (pa_cons (pv 3) (pa_cons (pv 2) pa_nil))) (pa_cons (pe_slice sl_tupS (pe_op op_repT (pv 3) pe_int) po_none (po_some pe_int)) (pa_cons (pe_call (ok_law_odd T) (hr.mono (by decide)) rfl T.g_law_odd T.F_law_odd.kp T.b_law_odd .nil pass0 (pa_cons (pv 2) pa_nil)) (pa_cons (pe_tup (pa_cons (pv 3) pa_nil)) pa_nil))))))) (pg_name (i := 4) sc_law.nd rfl (Or.inl rfl))
      (pss_one (ps_if (pt_not (pt_val (pe_call (ok_law_flag T) (hr.mono (by decide)) rfl T.g_law_flag T.F_law_flag.kp T.b_law_flag .nil pass0 (pa_cons (pe_call (ok_is_program T) (hr.mono (by decide)) rfl T.g_is_program T.F_is_program.kp T.b_is_program .nil pass0 (pa_cons (pv 4) pa_nil)) (pa_cons (pe_call (ok_law_is_program T) (hr.mono (by decide)) rfl T.g_law_is_program T.F_law_is_program.kp T.b_law_is_program .nil pass0 (pa_cons (pv 4) pa_nil)) pa_nil))))) (pss_one (ps_ret pe_bl)) pss_nil)))
      (pss_one (ps_for PassesOwn.never rfl (pi_list (pe_lst (pa_cons (pe_ix ix_tupH (pv 3) pe_int (fun _ _ => rfl)) (pa_cons (pe_call (ok_law_changed_step T) (hr.mono (by decide)) rfl T.g_law_changed_step T.F_law_changed_step.kp T.b_law_changed_step .nil pass0 (pa_cons (pe_ix ix_tupH (pv 3) pe_int (fun _ _ => rfl)) (pa_cons (pv 2) pa_nil))) (pa_cons (pe_call (ok_law_odd T) (hr.mono (by decide)) rfl T.g_law_odd T.F_law_odd.kp T.b_law_odd .nil pass0 (pa_cons (pv 2) pa_nil)) pa_nil))))) (pg_name (i := 4) sc_law.nd rfl (Or.inl rfl))
      (pss_one (ps_if (pt_not (pt_val (pe_call (ok_law_flag T) (hr.mono (by decide)) rfl T.g_law_flag T.F_law_flag.kp T.b_law_flag .nil pass0 (pa_cons (pe_call (ok_is_step T) (hr.mono (by decide)) rfl T.g_is_step T.F_is_step.kp T.b_is_step .nil pass0 (pa_cons (pv 4) pa_nil)) (pa_cons (pe_call (ok_law_is_step T) (hr.mono (by decide)) rfl T.g_law_is_step T.F_law_is_step.kp T.b_law_is_step .nil pass0 (pa_cons (pv 4) pa_nil)) pa_nil))))) (pss_one (ps_ret pe_bl)) pss_nil))))))))
      (pss_one (ps_ret (pe_cmpR op_is_bl (pe_call (ok_is_program T) (hr.mono (by decide)) rfl T.g_is_program T.F_is_program.kp T.b_is_program .nil pass0 (pa_cons (pe_tup (pa_cons (pe_tup (pa_cons pe_str (pa_cons (pe_tup (pa_cons pe_int (pa_cons pe_str pa_nil))) pa_nil))) pa_nil)) pa_nil)) pe_bl (nomark _))))), ?_⟩
    (try simp only [cxOf, Cx.nox, Cx.wish, tSeq, tAsg, tC, gName, tIfS, tTest, tOp, tUn, rU, rI0, rI, tVar, tNext, tRevT, tDNewK, tBreak, tChain, iStr, tRet, tRetN, tDrop, tLst, tTup, tCons, tNil, tCB, tB, tOr, tAnd, tNot, tIf, tCall, tFor_eq, tLc_eq, iRng1, iRng2, iList, iTup, gTup, gTupH, gUnlH, gCons, gNil, gSub, rSetL, rIxL, rIxT, rIxLH, rIxTH, rSlTS, rCatS, rTupS, rIsiH, rLenS, V.ty.injEq, tyS_non, tyS_bl, tyS_int, tyS_str, tyS_ref, tyO_l, tyO_t, tyO_d, tyO_dt, kit_ll, kit_tt, kit_bb, kit_ii, kit_ib, kit_bi, kit_nt, kit_it, kit_st, kit_bt, kit_lt, kit_dt, kit_ni, kit_si, kit_ti, kit_li, kit_di, kit_nb, kit_ns, kit_is, kit_bs, kit_ss, kit_ts, kit_ls, kit_ds, kit_dd, lenS_ref, lenO_l, lenO_t,  rAppend, tM1, rIxS, tSl, tPart, tNoPart, tBM, tBM0, tDGetS, sDPutS, tTruS, truO_l, truO_t, truS_ref, truS_non, truS_bl, truS_int, tFld, sFld, sFldAug, rAdd, tMeth, tProp, tMake, tMakeK, List.take_succ_cons, List.take_zero, List.drop_succ_cons, List.drop_zero, List.take_nil, tIsN, tNotN, tAndV, tOrV, tNotV, putF, List.lookup, List.any_cons, List.any_nil, Sum.inr.injEq, HO.ins.injEq, HO.dK.injEq, eq_self, beq_self_eq_true, beq_iff_eq, decide_true, decide_false, Bool.or_true, Bool.true_or, Bool.or_false, Bool.false_or, tYes, rEq, rNe, _root_.L2.start, wipe, List.map_cons, List.map_nil, List.length_cons, List.length_nil, List.append_nil, Nat.reduceAdd, Nat.reduceSub, List.replicate_succ, List.replicate_zero, List.cons_append, List.nil_append, List.getElem?_cons_zero, List.getElem?_cons_succ, List.set_cons_zero, List.set_cons_succ, Option.some.injEq, V.int.injEq, V.ref.injEq, V.bl.injEq, V.str.injEq, List.cons.injEq, HO.lst.injEq, HO.tup.injEq, and_assoc, and_true, true_and, exists_eq_left, exists_eq_left', exists_and_left, exists_eq, reduceCtorEq, false_and, and_false, or_false, false_or, exists_false, decide_eq_true_eq, CPow, CDivW, Int.reducePow, Int.reduceLT, Int.reduceLE, Int.reduceNeg, Int.reduceToNat, Int.reduceAbs, Nat.reducePow, Nat.reduceLT, Nat.reduceLeDiff, sizeLine_eq, Int.reduceMul, Int.reduceAdd, Int.reduceSub, Bool.not_eq_true', decide_eq_false_iff_not, scal, Bool.not_true, Bool.not_false, Bool.true_eq_false, Bool.false_eq_true, ite_false, ite_true, if_true, if_false, ite_self, forall_const, atI0, atI1, atI2, atI3, ixN20, ixN21, upd_same, upd_upd, Int.zero_add, CMul, Int.reduceSub, Nat.le_refl, Nat.zero_le, or_true, true_or, exists_const, Int.sub_zero])
    refine ⟨ns.length, .inl ⟨_, hS, by simp⟩, ?_⟩
    have hm : (if (30 : Int) < (ns.length : Int) then (30 : Int) else (ns.length : Int)) = ((min 30 ns.length : Nat) : Int) := by split <;> omega
    rw [hm]
    refine ⟨by omega, by omega, Loop.range (fun i σ H' => ∃ (b1 b2 b3 b4 b5 : Option V), σ = [some (.ref a), b1, b2, b3, b4, b5] ∧ Same H H') ⟨none, none, none, none, none, rfl, Same.refl H⟩ ?_ ?_⟩
    · rintro i σ H1 hi ⟨b1, b2, b3, b4, b5, rfl, s1⟩
      have hi2 : i < ns.length := by omega
      have hx : (ns.map V.int)[i]? = some (.int ns[i]) := by simp [hi2]
      (try simp only [cxOf, Cx.nox, Cx.wish, tSeq, tAsg, tC, gName, tIfS, tTest, tOp, tUn, rU, rI0, rI, tVar, tNext, tRevT, tDNewK, tBreak, tChain, iStr, tRet, tRetN, tDrop, tLst, tTup, tCons, tNil, tCB, tB, tOr, tAnd, tNot, tIf, tCall, tFor_eq, tLc_eq, iRng1, iRng2, iList, iTup, gTup, gTupH, gUnlH, gCons, gNil, gSub, rSetL, rIxL, rIxT, rIxLH, rIxTH, rSlTS, rCatS, rTupS, rIsiH, rLenS, V.ty.injEq, tyS_non, tyS_bl, tyS_int, tyS_str, tyS_ref, tyO_l, tyO_t, tyO_d, tyO_dt, kit_ll, kit_tt, kit_bb, kit_ii, kit_ib, kit_bi, kit_nt, kit_it, kit_st, kit_bt, kit_lt, kit_dt, kit_ni, kit_si, kit_ti, kit_li, kit_di, kit_nb, kit_ns, kit_is, kit_bs, kit_ss, kit_ts, kit_ls, kit_ds, kit_dd, lenS_ref, lenO_l, lenO_t,  rAppend, tM1, rIxS, tSl, tPart, tNoPart, tBM, tBM0, tDGetS, sDPutS, tTruS, truO_l, truO_t, truS_ref, truS_non, truS_bl, truS_int, tFld, sFld, sFldAug, rAdd, tMeth, tProp, tMake, tMakeK, List.take_succ_cons, List.take_zero, List.drop_succ_cons, List.drop_zero, List.take_nil, tIsN, tNotN, tAndV, tOrV, tNotV, putF, List.lookup, List.any_cons, List.any_nil, Sum.inr.injEq, HO.ins.injEq, HO.dK.injEq, eq_self, beq_self_eq_true, beq_iff_eq, decide_true, decide_false, Bool.or_true, Bool.true_or, Bool.or_false, Bool.false_or, tYes, rEq, rNe, _root_.L2.start, wipe, List.map_cons, List.map_nil, List.length_cons, List.length_nil, List.append_nil, Nat.reduceAdd, Nat.reduceSub, List.replicate_succ, List.replicate_zero, List.cons_append, List.nil_append, List.getElem?_cons_zero, List.getElem?_cons_succ, List.set_cons_zero, List.set_cons_succ, Option.some.injEq, V.int.injEq, V.ref.injEq, V.bl.injEq, V.str.injEq, List.cons.injEq, HO.lst.injEq, HO.tup.injEq, and_assoc, and_true, true_and, exists_eq_left, exists_eq_left', exists_and_left, exists_eq, reduceCtorEq, false_and, and_false, or_false, false_or, exists_false, decide_eq_true_eq, CPow, CDivW, Int.reducePow, Int.reduceLT, Int.reduceLE, Int.reduceNeg, Int.reduceToNat, Int.reduceAbs, Nat.reducePow, Nat.reduceLT, Nat.reduceLeDiff, sizeLine_eq, Int.reduceMul, Int.reduceAdd, Int.reduceSub, Bool.not_eq_true', decide_eq_false_iff_not, scal, Bool.not_true, Bool.not_false, Bool.true_eq_false, Bool.false_eq_true, ite_false, ite_true, if_true, if_false, ite_self, forall_const, atI0, atI1, atI2, atI3, ixN20, ixN21, upd_same, upd_upd, Int.zero_add, CMul, Int.reduceSub, Nat.le_refl, Nat.zero_le, or_true, true_or, exists_const, Int.sub_zero, sp_law_stream, sp_law_next])
      refine ⟨_, s1.seq hS, _, atI_nat hx, ns[i], rfl, fun p H2 hp st2 s2 _ => ⟨st2, fun n H3 n0 n1 g3 => ?_⟩⟩
      refine ⟨by omega, by omega, fun D hD => ?_⟩
      have hpn : H p = none := Same.non s1 hp
      have nDp : D ≠ p := St2.nn g3.st hD
      refine Lcl.range (fun j H' => ∃ (acc : List V) (ds : List PyData), H' D = some (.lst acc) ∧ ImAll H' ds acc ∧ ds.length = j ∧ (∀ d ∈ ds, StepD d) ∧ Gn p H3 H') ⟨[], [], upd_same, im_nil, rfl, by simp, (Gn.refl g3.st).new hD⟩ ?_ ?_
      · rintro j H4 hj ⟨acc, ds, h1, h2, h3, h4, g4⟩
        have hl2 := h2.len
        (try simp only [cxOf, Cx.nox, Cx.wish, tSeq, tAsg, tC, gName, tIfS, tTest, tOp, tUn, rU, rI0, rI, tVar, tNext, tRevT, tDNewK, tBreak, tChain, iStr, tRet, tRetN, tDrop, tLst, tTup, tCons, tNil, tCB, tB, tOr, tAnd, tNot, tIf, tCall, tFor_eq, tLc_eq, iRng1, iRng2, iList, iTup, gTup, gTupH, gUnlH, gCons, gNil, gSub, rSetL, rIxL, rIxT, rIxLH, rIxTH, rSlTS, rCatS, rTupS, rIsiH, rLenS, V.ty.injEq, tyS_non, tyS_bl, tyS_int, tyS_str, tyS_ref, tyO_l, tyO_t, tyO_d, tyO_dt, kit_ll, kit_tt, kit_bb, kit_ii, kit_ib, kit_bi, kit_nt, kit_it, kit_st, kit_bt, kit_lt, kit_dt, kit_ni, kit_si, kit_ti, kit_li, kit_di, kit_nb, kit_ns, kit_is, kit_bs, kit_ss, kit_ts, kit_ls, kit_ds, kit_dd, lenS_ref, lenO_l, lenO_t,  rAppend, tM1, rIxS, tSl, tPart, tNoPart, tBM, tBM0, tDGetS, sDPutS, tTruS, truO_l, truO_t, truS_ref, truS_non, truS_bl, truS_int, tFld, sFld, sFldAug, rAdd, tMeth, tProp, tMake, tMakeK, List.take_succ_cons, List.take_zero, List.drop_succ_cons, List.drop_zero, List.take_nil, tIsN, tNotN, tAndV, tOrV, tNotV, putF, List.lookup, List.any_cons, List.any_nil, Sum.inr.injEq, HO.ins.injEq, HO.dK.injEq, eq_self, beq_self_eq_true, beq_iff_eq, decide_true, decide_false, Bool.or_true, Bool.true_or, Bool.or_false, Bool.false_or, tYes, rEq, rNe, _root_.L2.start, wipe, List.map_cons, List.map_nil, List.length_cons, List.length_nil, List.append_nil, Nat.reduceAdd, Nat.reduceSub, List.replicate_succ, List.replicate_zero, List.cons_append, List.nil_append, List.getElem?_cons_zero, List.getElem?_cons_succ, List.set_cons_zero, List.set_cons_succ, Option.some.injEq, V.int.injEq, V.ref.injEq, V.bl.injEq, V.str.injEq, List.cons.injEq, HO.lst.injEq, HO.tup.injEq, and_assoc, and_true, true_and, exists_eq_left, exists_eq_left', exists_and_left, exists_eq, reduceCtorEq, false_and, and_false, or_false, false_or, exists_false, decide_eq_true_eq, CPow, CDivW, Int.reducePow, Int.reduceLT, Int.reduceLE, Int.reduceNeg, Int.reduceToNat, Int.reduceAbs, Nat.reducePow, Nat.reduceLT, Nat.reduceLeDiff, sizeLine_eq, Int.reduceMul, Int.reduceAdd, Int.reduceSub, Bool.not_eq_true', decide_eq_false_iff_not, scal, Bool.not_true, Bool.not_false, Bool.true_eq_false, Bool.false_eq_true, ite_false, ite_true, if_true, if_false, ite_self, forall_const, atI0, atI1, atI2, atI3, ixN20, ixN21, upd_same, upd_upd, Int.zero_add, CMul, Int.reduceSub, Nat.le_refl, Nat.zero_le, or_true, true_or, exists_const, Int.sub_zero, sp_law_step])
        refine ⟨g4.st, fun v d H5 hd iv g5 => ?_⟩
        have h1' := g5.at h1 nDp
        exact ⟨acc, h1', by omega, ds ++ [d], ims_app h1' (g5.ims h2) iv, by simp [h3], all_snoc h4 hd, (g4.trans g5).put hD nDp⟩
      rintro H4 ⟨xs, ds, h1, h2, h3, h4, g4⟩
      have hxl := h2.len
      refine ⟨xs, .inl h1, fun l H5 s5 hl => ?_⟩
      have g5 := (g3.trans g4).same s5
      have ok : okTs ds = true := okTs_mem.mpr fun d hd => (h4 d hd).okT.1
      have op : ObAll p H5 ds xs := ImAll.ob (Same.ims s5 h2)
      have hsm : ∀ d ∈ ds, small d = true ∧ ∃ es, d = .tuple es ∧ 2 ≤ es.length := fun d hd => (h4 d hd).okT.2
      have hd1 : 1 ≤ ds.length ∧ ds.length ≤ 12 := by omega
      (try simp only [cxOf, Cx.nox, Cx.wish, tSeq, tAsg, tC, gName, tIfS, tTest, tOp, tUn, rU, rI0, rI, tVar, tNext, tRevT, tDNewK, tBreak, tChain, iStr, tRet, tRetN, tDrop, tLst, tTup, tCons, tNil, tCB, tB, tOr, tAnd, tNot, tIf, tCall, tFor_eq, tLc_eq, iRng1, iRng2, iList, iTup, gTup, gTupH, gUnlH, gCons, gNil, gSub, rSetL, rIxL, rIxT, rIxLH, rIxTH, rSlTS, rCatS, rTupS, rIsiH, rLenS, V.ty.injEq, tyS_non, tyS_bl, tyS_int, tyS_str, tyS_ref, tyO_l, tyO_t, tyO_d, tyO_dt, kit_ll, kit_tt, kit_bb, kit_ii, kit_ib, kit_bi, kit_nt, kit_it, kit_st, kit_bt, kit_lt, kit_dt, kit_ni, kit_si, kit_ti, kit_li, kit_di, kit_nb, kit_ns, kit_is, kit_bs, kit_ss, kit_ts, kit_ls, kit_ds, kit_dd, lenS_ref, lenO_l, lenO_t,  rAppend, tM1, rIxS, tSl, tPart, tNoPart, tBM, tBM0, tDGetS, sDPutS, tTruS, truO_l, truO_t, truS_ref, truS_non, truS_bl, truS_int, tFld, sFld, sFldAug, rAdd, tMeth, tProp, tMake, tMakeK, List.take_succ_cons, List.take_zero, List.drop_succ_cons, List.drop_zero, List.take_nil, tIsN, tNotN, tAndV, tOrV, tNotV, putF, List.lookup, List.any_cons, List.any_nil, Sum.inr.injEq, HO.ins.injEq, HO.dK.injEq, eq_self, beq_self_eq_true, beq_iff_eq, decide_true, decide_false, Bool.or_true, Bool.true_or, Bool.or_false, Bool.false_or, tYes, rEq, rNe, _root_.L2.start, wipe, List.map_cons, List.map_nil, List.length_cons, List.length_nil, List.append_nil, Nat.reduceAdd, Nat.reduceSub, List.replicate_succ, List.replicate_zero, List.cons_append, List.nil_append, List.getElem?_cons_zero, List.getElem?_cons_succ, List.set_cons_zero, List.set_cons_succ, Option.some.injEq, V.int.injEq, V.ref.injEq, V.bl.injEq, V.str.injEq, List.cons.injEq, HO.lst.injEq, HO.tup.injEq, and_assoc, and_true, true_and, exists_eq_left, exists_eq_left', exists_and_left, exists_eq, reduceCtorEq, false_and, and_false, or_false, false_or, exists_false, decide_eq_true_eq, CPow, CDivW, Int.reducePow, Int.reduceLT, Int.reduceLE, Int.reduceNeg, Int.reduceToNat, Int.reduceAbs, Nat.reducePow, Nat.reduceLT, Nat.reduceLeDiff, sizeLine_eq, Int.reduceMul, Int.reduceAdd, Int.reduceSub, Bool.not_eq_true', decide_eq_false_iff_not, scal, Bool.not_true, Bool.not_false, Bool.true_eq_false, Bool.false_eq_true, ite_false, ite_true, if_true, if_false, ite_self, forall_const, atI0, atI1, atI2, atI3, ixN20, ixN21, upd_same, upd_upd, Int.zero_add, CMul, Int.reduceSub, Nat.le_refl, Nat.zero_le, or_true, true_or, exists_const, Int.sub_zero, sp_law_changed])
      refine ⟨xs, hl, ds, op, ok, hsm, by omega, by omega, g5.st, fun v2 d2 H6 o2 k2 g6 => ?_⟩
      (try simp only [cxOf, Cx.nox, Cx.wish, tSeq, tAsg, tC, gName, tIfS, tTest, tOp, tUn, rU, rI0, rI, tVar, tNext, tRevT, tDNewK, tBreak, tChain, iStr, tRet, tRetN, tDrop, tLst, tTup, tCons, tNil, tCB, tB, tOr, tAnd, tNot, tIf, tCall, tFor_eq, tLc_eq, iRng1, iRng2, iList, iTup, gTup, gTupH, gUnlH, gCons, gNil, gSub, rSetL, rIxL, rIxT, rIxLH, rIxTH, rSlTS, rCatS, rTupS, rIsiH, rLenS, V.ty.injEq, tyS_non, tyS_bl, tyS_int, tyS_str, tyS_ref, tyO_l, tyO_t, tyO_d, tyO_dt, kit_ll, kit_tt, kit_bb, kit_ii, kit_ib, kit_bi, kit_nt, kit_it, kit_st, kit_bt, kit_lt, kit_dt, kit_ni, kit_si, kit_ti, kit_li, kit_di, kit_nb, kit_ns, kit_is, kit_bs, kit_ss, kit_ts, kit_ls, kit_ds, kit_dd, lenS_ref, lenO_l, lenO_t,  rAppend, tM1, rIxS, tSl, tPart, tNoPart, tBM, tBM0, tDGetS, sDPutS, tTruS, truO_l, truO_t, truS_ref, truS_non, truS_bl, truS_int, tFld, sFld, sFldAug, rAdd, tMeth, tProp, tMake, tMakeK, List.take_succ_cons, List.take_zero, List.drop_succ_cons, List.drop_zero, List.take_nil, tIsN, tNotN, tAndV, tOrV, tNotV, putF, List.lookup, List.any_cons, List.any_nil, Sum.inr.injEq, HO.ins.injEq, HO.dK.injEq, eq_self, beq_self_eq_true, beq_iff_eq, decide_true, decide_false, Bool.or_true, Bool.true_or, Bool.or_false, Bool.false_or, tYes, rEq, rNe, _root_.L2.start, wipe, List.map_cons, List.map_nil, List.length_cons, List.length_nil, List.append_nil, Nat.reduceAdd, Nat.reduceSub, List.replicate_succ, List.replicate_zero, List.cons_append, List.nil_append, List.getElem?_cons_zero, List.getElem?_cons_succ, List.set_cons_zero, List.set_cons_succ, Option.some.injEq, V.int.injEq, V.ref.injEq, V.bl.injEq, V.str.injEq, List.cons.injEq, HO.lst.injEq, HO.tup.injEq, and_assoc, and_true, true_and, exists_eq_left, exists_eq_left', exists_and_left, exists_eq, reduceCtorEq, false_and, and_false, or_false, false_or, exists_false, decide_eq_true_eq, CPow, CDivW, Int.reducePow, Int.reduceLT, Int.reduceLE, Int.reduceNeg, Int.reduceToNat, Int.reduceAbs, Nat.reducePow, Nat.reduceLT, Nat.reduceLeDiff, sizeLine_eq, Int.reduceMul, Int.reduceAdd, Int.reduceSub, Bool.not_eq_true', decide_eq_false_iff_not, scal, Bool.not_true, Bool.not_false, Bool.true_eq_false, Bool.false_eq_true, ite_false, ite_true, if_true, if_false, ite_self, forall_const, atI0, atI1, atI2, atI3, ixN20, ixN21, upd_same, upd_upd, Int.zero_add, CMul, Int.reduceSub, Nat.le_refl, Nat.zero_le, or_true, true_or, exists_const, Int.sub_zero, rRepT])
      have hl6 := g6.tk _ _ hl
      have op6 : ObAll p H6 ds xs := Obs.gn g6 op
      refine ⟨xs, SqT.of hl6, fun z => by subst z; simp at hxl; omega, by omega, fun p1 hp1 p2 H7 s7 h7 => ?_⟩
      have o12 : ObAll p (upd H6 p1 (.tup (List.replicate 12 xs).flatten)) (List.replicate 12 ds).flatten (List.replicate 12 xs).flatten := Obs.new hp1 (op6.rep 12)
      obtain ⟨es, oe, he, hle⟩ := (Obs.same s7 o12).cut none (some 12)
      have oke : okTs es = true := okTs_sub ok fun d hd => mem_rep (he d hd)
      have g7 : Gn p H6 H7 := ((Gn.refl g6.st).new hp1).same s7
      (try simp only [cxOf, Cx.nox, Cx.wish, tSeq, tAsg, tC, gName, tIfS, tTest, tOp, tUn, rU, rI0, rI, tVar, tNext, tRevT, tDNewK, tBreak, tChain, iStr, tRet, tRetN, tDrop, tLst, tTup, tCons, tNil, tCB, tB, tOr, tAnd, tNot, tIf, tCall, tFor_eq, tLc_eq, iRng1, iRng2, iList, iTup, gTup, gTupH, gUnlH, gCons, gNil, gSub, rSetL, rIxL, rIxT, rIxLH, rIxTH, rSlTS, rCatS, rTupS, rIsiH, rLenS, V.ty.injEq, tyS_non, tyS_bl, tyS_int, tyS_str, tyS_ref, tyO_l, tyO_t, tyO_d, tyO_dt, kit_ll, kit_tt, kit_bb, kit_ii, kit_ib, kit_bi, kit_nt, kit_it, kit_st, kit_bt, kit_lt, kit_dt, kit_ni, kit_si, kit_ti, kit_li, kit_di, kit_nb, kit_ns, kit_is, kit_bs, kit_ss, kit_ts, kit_ls, kit_ds, kit_dd, lenS_ref, lenO_l, lenO_t,  rAppend, tM1, rIxS, tSl, tPart, tNoPart, tBM, tBM0, tDGetS, sDPutS, tTruS, truO_l, truO_t, truS_ref, truS_non, truS_bl, truS_int, tFld, sFld, sFldAug, rAdd, tMeth, tProp, tMake, tMakeK, List.take_succ_cons, List.take_zero, List.drop_succ_cons, List.drop_zero, List.take_nil, tIsN, tNotN, tAndV, tOrV, tNotV, putF, List.lookup, List.any_cons, List.any_nil, Sum.inr.injEq, HO.ins.injEq, HO.dK.injEq, eq_self, beq_self_eq_true, beq_iff_eq, decide_true, decide_false, Bool.or_true, Bool.true_or, Bool.or_false, Bool.false_or, tYes, rEq, rNe, _root_.L2.start, wipe, List.map_cons, List.map_nil, List.length_cons, List.length_nil, List.append_nil, Nat.reduceAdd, Nat.reduceSub, List.replicate_succ, List.replicate_zero, List.cons_append, List.nil_append, List.getElem?_cons_zero, List.getElem?_cons_succ, List.set_cons_zero, List.set_cons_succ, Option.some.injEq, V.int.injEq, V.ref.injEq, V.bl.injEq, V.str.injEq, List.cons.injEq, HO.lst.injEq, HO.tup.injEq, and_assoc, and_true, true_and, exists_eq_left, exists_eq_left', exists_and_left, exists_eq, reduceCtorEq, false_and, and_false, or_false, false_or, exists_false, decide_eq_true_eq, CPow, CDivW, Int.reducePow, Int.reduceLT, Int.reduceLE, Int.reduceNeg, Int.reduceToNat, Int.reduceAbs, Nat.reducePow, Nat.reduceLT, Nat.reduceLeDiff, sizeLine_eq, Int.reduceMul, Int.reduceAdd, Int.reduceSub, Bool.not_eq_true', decide_eq_false_iff_not, scal, Bool.not_true, Bool.not_false, Bool.true_eq_false, Bool.false_eq_true, ite_false, ite_true, if_true, if_false, ite_self, forall_const, atI0, atI1, atI2, atI3, ixN20, ixN21, upd_same, upd_upd, Int.zero_add, CMul, Int.reduceSub, Nat.le_refl, Nat.zero_le, or_true, true_or, exists_const, Int.sub_zero, sp_law_odd])
      refine ⟨g7.st, fun v3 d3 H8 o3 k3 _ g8 p3 hp3 p4 hp4 => ?_⟩
      have n4 : p4 ≠ p := St2.nn (g8.st.new hp3) hp4
      have s89 := (same_new hp3 (o := .tup [.ref l])).trans (same_new hp4 (o := .lst [V.ref l, v2, V.ref p2, v3, V.ref p3]))
      have g68 := (g7.trans g8).same s89
      have e4 : upd (upd H8 p3 (.tup [.ref l])) p4 (.lst [V.ref l, v2, V.ref p2, v3, V.ref p3]) p4 = some (.lst [V.ref l, v2, V.ref p2, v3, V.ref p3]) := upd_same
      have e3 : upd (upd H8 p3 (.tup [.ref l])) p4 (.lst [V.ref l, v2, V.ref p2, v3, V.ref p3]) p3 = some (.tup [.ref l]) := get_new hp4 upd_same
      generalize upd (upd H8 p3 (.tup [.ref l])) p4 (.lst [V.ref l, v2, V.ref p2, v3, V.ref p3]) = H9 at s89 g68 e4 e3
      have ol9 : Ob p H9 (.tuple ds) (.ref l) := ob_tup (g68.tk _ _ hl6) (Obs.gn g68 op6)
      have all : ObAll p H9 [.tuple ds, d2, .tuple es, d3, .tuple [.tuple ds]] [V.ref l, v2, V.ref p2, v3, V.ref p3] :=
        obs_cons ol9 (obs_cons (o2.gn g68) (obs_cons ((ob_tup h7 oe).gn (g8.same s89)) (obs_cons (o3.same s89) (obs_cons (ob_tup e3 (obs_cons ol9 obs_nil)) obs_nil))))
      have hall : ∀ d ∈ [.tuple ds, d2, .tuple es, d3, .tuple [.tuple ds]], okT d = true := by
        simp only [List.forall_mem_cons]
        exact ⟨ok, k2, oke, k3, by simp only [okT, okTs, ok, Bool.and_self], fun _ h => by simp at h⟩
      have g9 := (g5.trans g6).trans g68
      have hl9 := g68.tk _ _ hl6
      clear s89 g68 e3 o3 o2 oe o12 h7 g7 g8 hp1 hp3 hp4 op6 hl6 s7 g6 h1 h2 s5 g4 hD nDp op hl g5 g3
      refine ⟨⟨_, SqL.of e4⟩, Loop.list [V.ref l, v2, V.ref p2, v3, V.ref p3] (fun j σ H' => ∃ b4 : Option V, σ = [some (.ref a), some (.int i), some (.ref p), some (.ref l), b4, b5] ∧ Same H9 H') ⟨b4, rfl, Same.refl _⟩ (fun j σ H' _ h => by obtain ⟨_, _, s⟩ := h; exact SqL.of (s _ _ e4)) ?_ ?_⟩
      · rintro j x σ H10 hx ⟨b4, rfl, s10⟩
        obtain ⟨d, hd, ox⟩ := (Obs.same s10 all).get hx
        have hok := hall d (List.mem_of_getElem? hd)
        (try simp only [cxOf, Cx.nox, Cx.wish, tSeq, tAsg, tC, gName, tIfS, tTest, tOp, tUn, rU, rI0, rI, tVar, tNext, tRevT, tDNewK, tBreak, tChain, iStr, tRet, tRetN, tDrop, tLst, tTup, tCons, tNil, tCB, tB, tOr, tAnd, tNot, tIf, tCall, tFor_eq, tLc_eq, iRng1, iRng2, iList, iTup, gTup, gTupH, gUnlH, gCons, gNil, gSub, rSetL, rIxL, rIxT, rIxLH, rIxTH, rSlTS, rCatS, rTupS, rIsiH, rLenS, V.ty.injEq, tyS_non, tyS_bl, tyS_int, tyS_str, tyS_ref, tyO_l, tyO_t, tyO_d, tyO_dt, kit_ll, kit_tt, kit_bb, kit_ii, kit_ib, kit_bi, kit_nt, kit_it, kit_st, kit_bt, kit_lt, kit_dt, kit_ni, kit_si, kit_ti, kit_li, kit_di, kit_nb, kit_ns, kit_is, kit_bs, kit_ss, kit_ts, kit_ls, kit_ds, kit_dd, lenS_ref, lenO_l, lenO_t,  rAppend, tM1, rIxS, tSl, tPart, tNoPart, tBM, tBM0, tDGetS, sDPutS, tTruS, truO_l, truO_t, truS_ref, truS_non, truS_bl, truS_int, tFld, sFld, sFldAug, rAdd, tMeth, tProp, tMake, tMakeK, List.take_succ_cons, List.take_zero, List.drop_succ_cons, List.drop_zero, List.take_nil, tIsN, tNotN, tAndV, tOrV, tNotV, putF, List.lookup, List.any_cons, List.any_nil, Sum.inr.injEq, HO.ins.injEq, HO.dK.injEq, eq_self, beq_self_eq_true, beq_iff_eq, decide_true, decide_false, Bool.or_true, Bool.true_or, Bool.or_false, Bool.false_or, tYes, rEq, rNe, _root_.L2.start, wipe, List.map_cons, List.map_nil, List.length_cons, List.length_nil, List.append_nil, Nat.reduceAdd, Nat.reduceSub, List.replicate_succ, List.replicate_zero, List.cons_append, List.nil_append, List.getElem?_cons_zero, List.getElem?_cons_succ, List.set_cons_zero, List.set_cons_succ, Option.some.injEq, V.int.injEq, V.ref.injEq, V.bl.injEq, V.str.injEq, List.cons.injEq, HO.lst.injEq, HO.tup.injEq, and_assoc, and_true, true_and, exists_eq_left, exists_eq_left', exists_and_left, exists_eq, reduceCtorEq, false_and, and_false, or_false, false_or, exists_false, decide_eq_true_eq, CPow, CDivW, Int.reducePow, Int.reduceLT, Int.reduceLE, Int.reduceNeg, Int.reduceToNat, Int.reduceAbs, Nat.reducePow, Nat.reduceLT, Nat.reduceLeDiff, sizeLine_eq, Int.reduceMul, Int.reduceAdd, Int.reduceSub, Bool.not_eq_true', decide_eq_false_iff_not, scal, Bool.not_true, Bool.not_false, Bool.true_eq_false, Bool.false_eq_true, ite_false, ite_true, if_true, if_false, ite_self, forall_const, atI0, atI1, atI2, atI3, ixN20, ixN21, upd_same, upd_upd, Int.zero_add, CMul, Int.reduceSub, Nat.le_refl, Nat.zero_le, or_true, true_or, exists_const, Int.sub_zero, sp_is_program, sp_law_is_program, sp_law_flag])
        refine ⟨p, d, ox, hok, fun H11 s11 => ⟨p, d, ox.same s11, hok, fun H12 s12 => ?_⟩⟩
        (try simp only [cxOf, Cx.nox, Cx.wish, tSeq, tAsg, tC, gName, tIfS, tTest, tOp, tUn, rU, rI0, rI, tVar, tNext, tRevT, tDNewK, tBreak, tChain, iStr, tRet, tRetN, tDrop, tLst, tTup, tCons, tNil, tCB, tB, tOr, tAnd, tNot, tIf, tCall, tFor_eq, tLc_eq, iRng1, iRng2, iList, iTup, gTup, gTupH, gUnlH, gCons, gNil, gSub, rSetL, rIxL, rIxT, rIxLH, rIxTH, rSlTS, rCatS, rTupS, rIsiH, rLenS, V.ty.injEq, tyS_non, tyS_bl, tyS_int, tyS_str, tyS_ref, tyO_l, tyO_t, tyO_d, tyO_dt, kit_ll, kit_tt, kit_bb, kit_ii, kit_ib, kit_bi, kit_nt, kit_it, kit_st, kit_bt, kit_lt, kit_dt, kit_ni, kit_si, kit_ti, kit_li, kit_di, kit_nb, kit_ns, kit_is, kit_bs, kit_ss, kit_ts, kit_ls, kit_ds, kit_dd, lenS_ref, lenO_l, lenO_t,  rAppend, tM1, rIxS, tSl, tPart, tNoPart, tBM, tBM0, tDGetS, sDPutS, tTruS, truO_l, truO_t, truS_ref, truS_non, truS_bl, truS_int, tFld, sFld, sFldAug, rAdd, tMeth, tProp, tMake, tMakeK, List.take_succ_cons, List.take_zero, List.drop_succ_cons, List.drop_zero, List.take_nil, tIsN, tNotN, tAndV, tOrV, tNotV, putF, List.lookup, List.any_cons, List.any_nil, Sum.inr.injEq, HO.ins.injEq, HO.dK.injEq, eq_self, beq_self_eq_true, beq_iff_eq, decide_true, decide_false, Bool.or_true, Bool.true_or, Bool.or_false, Bool.false_or, tYes, rEq, rNe, _root_.L2.start, wipe, List.map_cons, List.map_nil, List.length_cons, List.length_nil, List.append_nil, Nat.reduceAdd, Nat.reduceSub, List.replicate_succ, List.replicate_zero, List.cons_append, List.nil_append, List.getElem?_cons_zero, List.getElem?_cons_succ, List.set_cons_zero, List.set_cons_succ, Option.some.injEq, V.int.injEq, V.ref.injEq, V.bl.injEq, V.str.injEq, List.cons.injEq, HO.lst.injEq, HO.tup.injEq, and_assoc, and_true, true_and, exists_eq_left, exists_eq_left', exists_and_left, exists_eq, reduceCtorEq, false_and, and_false, or_false, false_or, exists_false, decide_eq_true_eq, CPow, CDivW, Int.reducePow, Int.reduceLT, Int.reduceLE, Int.reduceNeg, Int.reduceToNat, Int.reduceAbs, Nat.reducePow, Nat.reduceLT, Nat.reduceLeDiff, sizeLine_eq, Int.reduceMul, Int.reduceAdd, Int.reduceSub, Bool.not_eq_true', decide_eq_false_iff_not, scal, Bool.not_true, Bool.not_false, Bool.true_eq_false, Bool.false_eq_true, ite_false, ite_true, if_true, if_false, ite_self, forall_const, atI0, atI1, atI2, atI3, ixN20, ixN21, upd_same, upd_upd, Int.zero_add, CMul, Int.reduceSub, Nat.le_refl, Nat.zero_le, or_true, true_or, exists_const, Int.sub_zero])
        exact (s10.trans s11).trans s12
      rintro σ H10 ⟨b4', rfl, s10⟩
      dsimp only
      rw [tFor_eq]
      have hl10 := s10 _ _ hl9
      have hk0 : 0 < xs.length := by omega
      have ol10 := ol9.same s10
      obtain ⟨q0', xs', eq0, hq0', oxs⟩ := ol10.tup
      cases eq0
      rw [hl10] at hq0'
      cases hq0'
      obtain ⟨d0, hg, hd0, od0⟩ := oxs.mem hk0
      obtain ⟨hsm0, es0, rfl, hes0⟩ := hsm d0 hd0
      obtain ⟨q0, ys, e0, hq0, oy⟩ := od0.tup
      rw [e0] at hg
      have hat : atI xs 0 = some (.ref q0) := atI_nat (j := 0) hg
      have ok0 := okTs_mem.mp ok _ hd0
      (try simp only [cxOf, Cx.nox, Cx.wish, tSeq, tAsg, tC, gName, tIfS, tTest, tOp, tUn, rU, rI0, rI, tVar, tNext, tRevT, tDNewK, tBreak, tChain, iStr, tRet, tRetN, tDrop, tLst, tTup, tCons, tNil, tCB, tB, tOr, tAnd, tNot, tIf, tCall, tFor_eq, tLc_eq, iRng1, iRng2, iList, iTup, gTup, gTupH, gUnlH, gCons, gNil, gSub, rSetL, rIxL, rIxT, rIxLH, rIxTH, rSlTS, rCatS, rTupS, rIsiH, rLenS, V.ty.injEq, tyS_non, tyS_bl, tyS_int, tyS_str, tyS_ref, tyO_l, tyO_t, tyO_d, tyO_dt, kit_ll, kit_tt, kit_bb, kit_ii, kit_ib, kit_bi, kit_nt, kit_it, kit_st, kit_bt, kit_lt, kit_dt, kit_ni, kit_si, kit_ti, kit_li, kit_di, kit_nb, kit_ns, kit_is, kit_bs, kit_ss, kit_ts, kit_ls, kit_ds, kit_dd, lenS_ref, lenO_l, lenO_t,  rAppend, tM1, rIxS, tSl, tPart, tNoPart, tBM, tBM0, tDGetS, sDPutS, tTruS, truO_l, truO_t, truS_ref, truS_non, truS_bl, truS_int, tFld, sFld, sFldAug, rAdd, tMeth, tProp, tMake, tMakeK, List.take_succ_cons, List.take_zero, List.drop_succ_cons, List.drop_zero, List.take_nil, tIsN, tNotN, tAndV, tOrV, tNotV, putF, List.lookup, List.any_cons, List.any_nil, Sum.inr.injEq, HO.ins.injEq, HO.dK.injEq, eq_self, beq_self_eq_true, beq_iff_eq, decide_true, decide_false, Bool.or_true, Bool.true_or, Bool.or_false, Bool.false_or, tYes, rEq, rNe, _root_.L2.start, wipe, List.map_cons, List.map_nil, List.length_cons, List.length_nil, List.append_nil, Nat.reduceAdd, Nat.reduceSub, List.replicate_succ, List.replicate_zero, List.cons_append, List.nil_append, List.getElem?_cons_zero, List.getElem?_cons_succ, List.set_cons_zero, List.set_cons_succ, Option.some.injEq, V.int.injEq, V.ref.injEq, V.bl.injEq, V.str.injEq, List.cons.injEq, HO.lst.injEq, HO.tup.injEq, and_assoc, and_true, true_and, exists_eq_left, exists_eq_left', exists_and_left, exists_eq, reduceCtorEq, false_and, and_false, or_false, false_or, exists_false, decide_eq_true_eq, CPow, CDivW, Int.reducePow, Int.reduceLT, Int.reduceLE, Int.reduceNeg, Int.reduceToNat, Int.reduceAbs, Nat.reducePow, Nat.reduceLT, Nat.reduceLeDiff, sizeLine_eq, Int.reduceMul, Int.reduceAdd, Int.reduceSub, Bool.not_eq_true', decide_eq_false_iff_not, scal, Bool.not_true, Bool.not_false, Bool.true_eq_false, Bool.false_eq_true, ite_false, ite_true, if_true, if_false, ite_self, forall_const, atI0, atI1, atI2, atI3, ixN20, ixN21, upd_same, upd_upd, Int.zero_add, CMul, Int.reduceSub, Nat.le_refl, Nat.zero_le, or_true, true_or, exists_const, Int.sub_zero, hl10, hat, sp_law_changed_step, hq0])
      have st10 := g9.st.same s10
      refine ⟨es0, oy, by simpa only [okT] using ok0, by omega, of_decide_eq_true hsm0, st10, fun v6 d6 H11 o6 k6 g11 => ?_⟩
      (try simp only [cxOf, Cx.nox, Cx.wish, tSeq, tAsg, tC, gName, tIfS, tTest, tOp, tUn, rU, rI0, rI, tVar, tNext, tRevT, tDNewK, tBreak, tChain, iStr, tRet, tRetN, tDrop, tLst, tTup, tCons, tNil, tCB, tB, tOr, tAnd, tNot, tIf, tCall, tFor_eq, tLc_eq, iRng1, iRng2, iList, iTup, gTup, gTupH, gUnlH, gCons, gNil, gSub, rSetL, rIxL, rIxT, rIxLH, rIxTH, rSlTS, rCatS, rTupS, rIsiH, rLenS, V.ty.injEq, tyS_non, tyS_bl, tyS_int, tyS_str, tyS_ref, tyO_l, tyO_t, tyO_d, tyO_dt, kit_ll, kit_tt, kit_bb, kit_ii, kit_ib, kit_bi, kit_nt, kit_it, kit_st, kit_bt, kit_lt, kit_dt, kit_ni, kit_si, kit_ti, kit_li, kit_di, kit_nb, kit_ns, kit_is, kit_bs, kit_ss, kit_ts, kit_ls, kit_ds, kit_dd, lenS_ref, lenO_l, lenO_t,  rAppend, tM1, rIxS, tSl, tPart, tNoPart, tBM, tBM0, tDGetS, sDPutS, tTruS, truO_l, truO_t, truS_ref, truS_non, truS_bl, truS_int, tFld, sFld, sFldAug, rAdd, tMeth, tProp, tMake, tMakeK, List.take_succ_cons, List.take_zero, List.drop_succ_cons, List.drop_zero, List.take_nil, tIsN, tNotN, tAndV, tOrV, tNotV, putF, List.lookup, List.any_cons, List.any_nil, Sum.inr.injEq, HO.ins.injEq, HO.dK.injEq, eq_self, beq_self_eq_true, beq_iff_eq, decide_true, decide_false, Bool.or_true, Bool.true_or, Bool.or_false, Bool.false_or, tYes, rEq, rNe, _root_.L2.start, wipe, List.map_cons, List.map_nil, List.length_cons, List.length_nil, List.append_nil, Nat.reduceAdd, Nat.reduceSub, List.replicate_succ, List.replicate_zero, List.cons_append, List.nil_append, List.getElem?_cons_zero, List.getElem?_cons_succ, List.set_cons_zero, List.set_cons_succ, Option.some.injEq, V.int.injEq, V.ref.injEq, V.bl.injEq, V.str.injEq, List.cons.injEq, HO.lst.injEq, HO.tup.injEq, and_assoc, and_true, true_and, exists_eq_left, exists_eq_left', exists_and_left, exists_eq, reduceCtorEq, false_and, and_false, or_false, false_or, exists_false, decide_eq_true_eq, CPow, CDivW, Int.reducePow, Int.reduceLT, Int.reduceLE, Int.reduceNeg, Int.reduceToNat, Int.reduceAbs, Nat.reducePow, Nat.reduceLT, Nat.reduceLeDiff, sizeLine_eq, Int.reduceMul, Int.reduceAdd, Int.reduceSub, Bool.not_eq_true', decide_eq_false_iff_not, scal, Bool.not_true, Bool.not_false, Bool.true_eq_false, Bool.false_eq_true, ite_false, ite_true, if_true, if_false, ite_self, forall_const, atI0, atI1, atI2, atI3, ixN20, ixN21, upd_same, upd_upd, Int.zero_add, CMul, Int.reduceSub, Nat.le_refl, Nat.zero_le, or_true, true_or, exists_const, Int.sub_zero, sp_law_odd])
      refine ⟨g11.st, fun v7 d7 H12 o7 k7 _ g12 p5 hp5 => ?_⟩
      have g13 := (g11.trans g12).new hp5 (o := .lst [V.ref q0, v6, v7])
      have s13 := same_new hp5 (o := .lst [V.ref q0, v6, v7])
      have e5 : upd H12 p5 (.lst [V.ref q0, v6, v7]) p5 = some (.lst [V.ref q0, v6, v7]) := upd_same
      have oall : ObAll p (upd H12 p5 (.lst [V.ref q0, v6, v7])) [.tuple es0, d6, d7] [V.ref q0, v6, v7] :=
        obs_cons ((ob_tup hq0 oy).gn g13) (obs_cons ((o6.gn g12).same s13) (obs_cons (o7.same s13) obs_nil))
      generalize upd H12 p5 (.lst [V.ref q0, v6, v7]) = H13 at g13 s13 e5 oall
      have hall2 : ∀ d ∈ [.tuple es0, d6, d7], okT d = true := by
        simp only [List.forall_mem_cons]
        exact ⟨ok0, k6, k7, fun _ h => by simp at h⟩
      refine ⟨⟨_, SqL.of e5⟩, Loop.list [V.ref q0, v6, v7] (fun j σ H' => ∃ b4 : Option V, σ = [some (.ref a), some (.int i), some (.ref p), some (.ref l), b4, b5] ∧ Same H13 H') ⟨_, rfl, Same.refl _⟩ (fun j σ H' _ h => by obtain ⟨_, _, s⟩ := h; exact SqL.of (s _ _ e5)) ?_ ?_⟩
      · rintro j x σ H14 hx ⟨b4, rfl, s14⟩
        obtain ⟨d, hd, ox⟩ := (Obs.same s14 oall).get hx
        have hok := hall2 d (List.mem_of_getElem? hd)
        (try simp only [cxOf, Cx.nox, Cx.wish, tSeq, tAsg, tC, gName, tIfS, tTest, tOp, tUn, rU, rI0, rI, tVar, tNext, tRevT, tDNewK, tBreak, tChain, iStr, tRet, tRetN, tDrop, tLst, tTup, tCons, tNil, tCB, tB, tOr, tAnd, tNot, tIf, tCall, tFor_eq, tLc_eq, iRng1, iRng2, iList, iTup, gTup, gTupH, gUnlH, gCons, gNil, gSub, rSetL, rIxL, rIxT, rIxLH, rIxTH, rSlTS, rCatS, rTupS, rIsiH, rLenS, V.ty.injEq, tyS_non, tyS_bl, tyS_int, tyS_str, tyS_ref, tyO_l, tyO_t, tyO_d, tyO_dt, kit_ll, kit_tt, kit_bb, kit_ii, kit_ib, kit_bi, kit_nt, kit_it, kit_st, kit_bt, kit_lt, kit_dt, kit_ni, kit_si, kit_ti, kit_li, kit_di, kit_nb, kit_ns, kit_is, kit_bs, kit_ss, kit_ts, kit_ls, kit_ds, kit_dd, lenS_ref, lenO_l, lenO_t,  rAppend, tM1, rIxS, tSl, tPart, tNoPart, tBM, tBM0, tDGetS, sDPutS, tTruS, truO_l, truO_t, truS_ref, truS_non, truS_bl, truS_int, tFld, sFld, sFldAug, rAdd, tMeth, tProp, tMake, tMakeK, List.take_succ_cons, List.take_zero, List.drop_succ_cons, List.drop_zero, List.take_nil, tIsN, tNotN, tAndV, tOrV, tNotV, putF, List.lookup, List.any_cons, List.any_nil, Sum.inr.injEq, HO.ins.injEq, HO.dK.injEq, eq_self, beq_self_eq_true, beq_iff_eq, decide_true, decide_false, Bool.or_true, Bool.true_or, Bool.or_false, Bool.false_or, tYes, rEq, rNe, _root_.L2.start, wipe, List.map_cons, List.map_nil, List.length_cons, List.length_nil, List.append_nil, Nat.reduceAdd, Nat.reduceSub, List.replicate_succ, List.replicate_zero, List.cons_append, List.nil_append, List.getElem?_cons_zero, List.getElem?_cons_succ, List.set_cons_zero, List.set_cons_succ, Option.some.injEq, V.int.injEq, V.ref.injEq, V.bl.injEq, V.str.injEq, List.cons.injEq, HO.lst.injEq, HO.tup.injEq, and_assoc, and_true, true_and, exists_eq_left, exists_eq_left', exists_and_left, exists_eq, reduceCtorEq, false_and, and_false, or_false, false_or, exists_false, decide_eq_true_eq, CPow, CDivW, Int.reducePow, Int.reduceLT, Int.reduceLE, Int.reduceNeg, Int.reduceToNat, Int.reduceAbs, Nat.reducePow, Nat.reduceLT, Nat.reduceLeDiff, sizeLine_eq, Int.reduceMul, Int.reduceAdd, Int.reduceSub, Bool.not_eq_true', decide_eq_false_iff_not, scal, Bool.not_true, Bool.not_false, Bool.true_eq_false, Bool.false_eq_true, ite_false, ite_true, if_true, if_false, ite_self, forall_const, atI0, atI1, atI2, atI3, ixN20, ixN21, upd_same, upd_upd, Int.zero_add, CMul, Int.reduceSub, Nat.le_refl, Nat.zero_le, or_true, true_or, exists_const, Int.sub_zero, sp_is_step, sp_law_is_step, sp_law_flag])
        refine ⟨p, d, ox, hok, p, d, ox, hok, fun H15 s15 => ?_⟩
        (try simp only [cxOf, Cx.nox, Cx.wish, tSeq, tAsg, tC, gName, tIfS, tTest, tOp, tUn, rU, rI0, rI, tVar, tNext, tRevT, tDNewK, tBreak, tChain, iStr, tRet, tRetN, tDrop, tLst, tTup, tCons, tNil, tCB, tB, tOr, tAnd, tNot, tIf, tCall, tFor_eq, tLc_eq, iRng1, iRng2, iList, iTup, gTup, gTupH, gUnlH, gCons, gNil, gSub, rSetL, rIxL, rIxT, rIxLH, rIxTH, rSlTS, rCatS, rTupS, rIsiH, rLenS, V.ty.injEq, tyS_non, tyS_bl, tyS_int, tyS_str, tyS_ref, tyO_l, tyO_t, tyO_d, tyO_dt, kit_ll, kit_tt, kit_bb, kit_ii, kit_ib, kit_bi, kit_nt, kit_it, kit_st, kit_bt, kit_lt, kit_dt, kit_ni, kit_si, kit_ti, kit_li, kit_di, kit_nb, kit_ns, kit_is, kit_bs, kit_ss, kit_ts, kit_ls, kit_ds, kit_dd, lenS_ref, lenO_l, lenO_t,  rAppend, tM1, rIxS, tSl, tPart, tNoPart, tBM, tBM0, tDGetS, sDPutS, tTruS, truO_l, truO_t, truS_ref, truS_non, truS_bl, truS_int, tFld, sFld, sFldAug, rAdd, tMeth, tProp, tMake, tMakeK, List.take_succ_cons, List.take_zero, List.drop_succ_cons, List.drop_zero, List.take_nil, tIsN, tNotN, tAndV, tOrV, tNotV, putF, List.lookup, List.any_cons, List.any_nil, Sum.inr.injEq, HO.ins.injEq, HO.dK.injEq, eq_self, beq_self_eq_true, beq_iff_eq, decide_true, decide_false, Bool.or_true, Bool.true_or, Bool.or_false, Bool.false_or, tYes, rEq, rNe, _root_.L2.start, wipe, List.map_cons, List.map_nil, List.length_cons, List.length_nil, List.append_nil, Nat.reduceAdd, Nat.reduceSub, List.replicate_succ, List.replicate_zero, List.cons_append, List.nil_append, List.getElem?_cons_zero, List.getElem?_cons_succ, List.set_cons_zero, List.set_cons_succ, Option.some.injEq, V.int.injEq, V.ref.injEq, V.bl.injEq, V.str.injEq, List.cons.injEq, HO.lst.injEq, HO.tup.injEq, and_assoc, and_true, true_and, exists_eq_left, exists_eq_left', exists_and_left, exists_eq, reduceCtorEq, false_and, and_false, or_false, false_or, exists_false, decide_eq_true_eq, CPow, CDivW, Int.reducePow, Int.reduceLT, Int.reduceLE, Int.reduceNeg, Int.reduceToNat, Int.reduceAbs, Nat.reducePow, Nat.reduceLT, Nat.reduceLeDiff, sizeLine_eq, Int.reduceMul, Int.reduceAdd, Int.reduceSub, Bool.not_eq_true', decide_eq_false_iff_not, scal, Bool.not_true, Bool.not_false, Bool.true_eq_false, Bool.false_eq_true, ite_false, ite_true, if_true, if_false, ite_self, forall_const, atI0, atI1, atI2, atI3, ixN20, ixN21, upd_same, upd_upd, Int.zero_add, CMul, Int.reduceSub, Nat.le_refl, Nat.zero_le, or_true, true_or, exists_const, Int.sub_zero])
        exact s14.trans s15
      · rintro σ H14 ⟨b4, rfl, s14⟩
        exact ⟨_, _, _, _, _, rfl, fun b o e => s14 _ _ ((((g9.same s10).trans g13)).but b o (s2 _ _ (s1 _ _ e)) (ne_of_none e hpn))⟩
    · rintro σ H1 ⟨b1, b2, b3, b4, b5, rfl, s1⟩
      (try simp only [cxOf, Cx.nox, Cx.wish, tSeq, tAsg, tC, gName, tIfS, tTest, tOp, tUn, rU, rI0, rI, tVar, tNext, tRevT, tDNewK, tBreak, tChain, iStr, tRet, tRetN, tDrop, tLst, tTup, tCons, tNil, tCB, tB, tOr, tAnd, tNot, tIf, tCall, tFor_eq, tLc_eq, iRng1, iRng2, iList, iTup, gTup, gTupH, gUnlH, gCons, gNil, gSub, rSetL, rIxL, rIxT, rIxLH, rIxTH, rSlTS, rCatS, rTupS, rIsiH, rLenS, V.ty.injEq, tyS_non, tyS_bl, tyS_int, tyS_str, tyS_ref, tyO_l, tyO_t, tyO_d, tyO_dt, kit_ll, kit_tt, kit_bb, kit_ii, kit_ib, kit_bi, kit_nt, kit_it, kit_st, kit_bt, kit_lt, kit_dt, kit_ni, kit_si, kit_ti, kit_li, kit_di, kit_nb, kit_ns, kit_is, kit_bs, kit_ss, kit_ts, kit_ls, kit_ds, kit_dd, lenS_ref, lenO_l, lenO_t,  rAppend, tM1, rIxS, tSl, tPart, tNoPart, tBM, tBM0, tDGetS, sDPutS, tTruS, truO_l, truO_t, truS_ref, truS_non, truS_bl, truS_int, tFld, sFld, sFldAug, rAdd, tMeth, tProp, tMake, tMakeK, List.take_succ_cons, List.take_zero, List.drop_succ_cons, List.drop_zero, List.take_nil, tIsN, tNotN, tAndV, tOrV, tNotV, putF, List.lookup, List.any_cons, List.any_nil, Sum.inr.injEq, HO.ins.injEq, HO.dK.injEq, eq_self, beq_self_eq_true, beq_iff_eq, decide_true, decide_false, Bool.or_true, Bool.true_or, Bool.or_false, Bool.false_or, tYes, rEq, rNe, _root_.L2.start, wipe, List.map_cons, List.map_nil, List.length_cons, List.length_nil, List.append_nil, Nat.reduceAdd, Nat.reduceSub, List.replicate_succ, List.replicate_zero, List.cons_append, List.nil_append, List.getElem?_cons_zero, List.getElem?_cons_succ, List.set_cons_zero, List.set_cons_succ, Option.some.injEq, V.int.injEq, V.ref.injEq, V.bl.injEq, V.str.injEq, List.cons.injEq, HO.lst.injEq, HO.tup.injEq, and_assoc, and_true, true_and, exists_eq_left, exists_eq_left', exists_and_left, exists_eq, reduceCtorEq, false_and, and_false, or_false, false_or, exists_false, decide_eq_true_eq, CPow, CDivW, Int.reducePow, Int.reduceLT, Int.reduceLE, Int.reduceNeg, Int.reduceToNat, Int.reduceAbs, Nat.reducePow, Nat.reduceLT, Nat.reduceLeDiff, sizeLine_eq, Int.reduceMul, Int.reduceAdd, Int.reduceSub, Bool.not_eq_true', decide_eq_false_iff_not, scal, Bool.not_true, Bool.not_false, Bool.true_eq_false, Bool.false_eq_true, ite_false, ite_true, if_true, if_false, ite_self, forall_const, atI0, atI1, atI2, atI3, ixN20, ixN21, upd_same, upd_upd, Int.zero_add, CMul, Int.reduceSub, Nat.le_refl, Nat.zero_le, or_true, true_or, exists_const, Int.sub_zero, sp_is_program])
      intro q1 h1 q2 h2 q3 h3
      have hn : nameD (.str (Str.ofString "a")) = true := by decide +kernel
      have o1 : Ob a (upd H1 q1 (.tup [.int 0, .str (Str.ofString "a")])) (.tuple [.int 0, .str (Str.ofString "a")]) (.ref q1) := ob_tup upd_same (obs_cons ob_int (obs_cons ob_str obs_nil))
      refine ⟨a, .tuple [.tuple [.str (Str.ofString "read"), .tuple [.int 0, .str (Str.ofString "a")]]], ob_tup upd_same (obs_cons (Ob.new h3 (ob_tup upd_same (obs_cons ob_str (obs_cons (o1.new h2) obs_nil)))) obs_nil), by decide +kernel, fun H' _ => ?_⟩
      rw [show progJ (.tuple [.tuple [.str (Str.ofString "read"), .tuple [.int 0, .str (Str.ofString "a")]]]) = true from by simp [progJ, stepJ, isStr, wordA, keyJ, numD, hn]]
      exact kk _
end
theorem all_mk {l : PySem.W.OpenLaw} {w : World} {K : PySem.W.Frag} {h : Heap} {mg : Str → Option Value} {fa f_is_int f_is_number f_is_integer f_is_name f_is_pair f_is_key f_is_step f_is_program f_law_stream f_law_next f_law_flag f_law_number f_law_integer f_law_name f_law_key f_law_step f_law_is_int f_law_is_name f_law_is_key f_law_is_step f_law_is_program f_law_odd f_law_changed_step f_law_changed f_law w_WITHOUT w_WITH_INTEGER : Addr} (X : K.In h) (G : h.Ns mainGlobals mg) (hfa : mg "law" = some (.ref fa))
    {od1 an1 od2 an2 od3 an3 od4 an4 od5 an5 od6 an6 od7 an7 od8 an8 od9 an9 od10 an10 od11 an11 od12 an12 od13 an13 od14 an14 od15 an15 od16 an16 od17 an17 od18 an18 od19 an19 od20 an20 od21 an21 od22 an22 od23 an23 od24 an24 od25 an25 wd_WITHOUT wd_WITH_INTEGER : Option Addr} {sl1 sl2 sl3 sl4 sl5 sl6 sl7 sl8 sl9 sl10 sl11 sl12 sl13 sl14 sl15 sl16 sl17 sl18 sl19 sl20 sl21 sl22 sl23 sl24 sl25 ws_WITHOUT ws_WITH_INTEGER : Array (Option Value)} {oc1 kV1 dc1 pm1 cd1 ct1 oc2 kV2 dc2 pm2 cd2 ct2 oc3 kV3 dc3 pm3 cd3 ct3 oc4 kV4 dc4 pm4 cd4 ct4 oc5 kV5 dc5 pm5 cd5 ct5 oc6 kV6 dc6 pm6 cd6 ct6 oc7 kV7 dc7 pm7 cd7 ct7 oc8 kV8 dc8 pm8 cd8 ct8 oc9 kV9 dc9 pm9 cd9 ct9 oc10 kV10 dc10 pm10 cd10 ct10 oc11 kV11 dc11 pm11 cd11 ct11 oc12 kV12 dc12 pm12 cd12 ct12 oc13 kV13 dc13 pm13 cd13 ct13 oc14 kV14 dc14 pm14 cd14 ct14 oc15 kV15 dc15 pm15 cd15 ct15 oc16 kV16 dc16 pm16 cd16 ct16 oc17 kV17 dc17 pm17 cd17 ct17 oc18 kV18 dc18 pm18 cd18 ct18 oc19 kV19 dc19 pm19 cd19 ct19 oc20 kV20 dc20 pm20 cd20 ct20 oc21 kV21 dc21 pm21 cd21 ct21 oc22 kV22 dc22 pm22 cd22 ct22 oc23 kV23 dc23 pm23 cd23 ct23 oc24 kV24 dc24 pm24 cd24 ct24 oc25 kV25 dc25 pm25 cd25 ct25 : Value}
    {tk_GREATEST tk_LETTERS tk_LONGEST_NAME tk_WITHOUT_0 tk_WITHOUT_1 tk_WITH_INTEGER_0 tk_WITH_INTEGER_1 tk_WITH_INTEGER_2 tk_LONGEST_PROGRAM : Tok}
    {wn_WITHOUT wn_WITH_INTEGER : Nat}
    (a1 : PySem.W.nsIn K mainGlobals "is_int" = some (some (.ref f_is_int)))
    (l1 : K.lookup f_is_int = some ⟨oc1, od1, .func (PySem.W.fnOf "is_int" "is_int" (defArgs s_is_int) (defBody s_is_int) (defScope s_is_int) .none kV1 dc1 pm1 an1 cd1 ct1), sl1⟩)
    (c1 : PySem.W.codeIn K cd1 "is_int" = true)
    (k1 : PySem.W.keepIn K (.ref f_is_int) = true)
    (a2 : PySem.W.nsIn K mainGlobals "is_number" = some (some (.ref f_is_number)))
    (l2 : K.lookup f_is_number = some ⟨oc2, od2, .func (PySem.W.fnOf "is_number" "is_number" (defArgs s_is_number) (defBody s_is_number) (defScope s_is_number) .none kV2 dc2 pm2 an2 cd2 ct2), sl2⟩)
    (c2 : PySem.W.codeIn K cd2 "is_number" = true)
    (k2 : PySem.W.keepIn K (.ref f_is_number) = true)
    (a3 : PySem.W.nsIn K mainGlobals "is_integer" = some (some (.ref f_is_integer)))
    (l3 : K.lookup f_is_integer = some ⟨oc3, od3, .func (PySem.W.fnOf "is_integer" "is_integer" (defArgs s_is_integer) (defBody s_is_integer) (defScope s_is_integer) .none kV3 dc3 pm3 an3 cd3 ct3), sl3⟩)
    (c3 : PySem.W.codeIn K cd3 "is_integer" = true)
    (k3 : PySem.W.keepIn K (.ref f_is_integer) = true)
    (a4 : PySem.W.nsIn K mainGlobals "is_name" = some (some (.ref f_is_name)))
    (l4 : K.lookup f_is_name = some ⟨oc4, od4, .func (PySem.W.fnOf "is_name" "is_name" (defArgs s_is_name) (defBody s_is_name) (defScope s_is_name) .none kV4 dc4 pm4 an4 cd4 ct4), sl4⟩)
    (c4 : PySem.W.codeIn K cd4 "is_name" = true)
    (k4 : PySem.W.keepIn K (.ref f_is_name) = true)
    (a5 : PySem.W.nsIn K mainGlobals "is_pair" = some (some (.ref f_is_pair)))
    (l5 : K.lookup f_is_pair = some ⟨oc5, od5, .func (PySem.W.fnOf "is_pair" "is_pair" (defArgs s_is_pair) (defBody s_is_pair) (defScope s_is_pair) .none kV5 dc5 pm5 an5 cd5 ct5), sl5⟩)
    (c5 : PySem.W.codeIn K cd5 "is_pair" = true)
    (k5 : PySem.W.keepIn K (.ref f_is_pair) = true)
    (a6 : PySem.W.nsIn K mainGlobals "is_key" = some (some (.ref f_is_key)))
    (l6 : K.lookup f_is_key = some ⟨oc6, od6, .func (PySem.W.fnOf "is_key" "is_key" (defArgs s_is_key) (defBody s_is_key) (defScope s_is_key) .none kV6 dc6 pm6 an6 cd6 ct6), sl6⟩)
    (c6 : PySem.W.codeIn K cd6 "is_key" = true)
    (k6 : PySem.W.keepIn K (.ref f_is_key) = true)
    (a7 : PySem.W.nsIn K mainGlobals "is_step" = some (some (.ref f_is_step)))
    (l7 : K.lookup f_is_step = some ⟨oc7, od7, .func (PySem.W.fnOf "is_step" "is_step" (defArgs s_is_step) (defBody s_is_step) (defScope s_is_step) .none kV7 dc7 pm7 an7 cd7 ct7), sl7⟩)
    (c7 : PySem.W.codeIn K cd7 "is_step" = true)
    (k7 : PySem.W.keepIn K (.ref f_is_step) = true)
    (a8 : PySem.W.nsIn K mainGlobals "is_program" = some (some (.ref f_is_program)))
    (l8 : K.lookup f_is_program = some ⟨oc8, od8, .func (PySem.W.fnOf "is_program" "is_program" (defArgs s_is_program) (defBody s_is_program) (defScope s_is_program) .none kV8 dc8 pm8 an8 cd8 ct8), sl8⟩)
    (c8 : PySem.W.codeIn K cd8 "is_program" = true)
    (k8 : PySem.W.keepIn K (.ref f_is_program) = true)
    (a9 : PySem.W.nsIn K mainGlobals "_law_stream" = some (some (.ref f_law_stream)))
    (l9 : K.lookup f_law_stream = some ⟨oc9, od9, .func (PySem.W.fnOf "_law_stream" "_law_stream" (defArgs s_law_stream) (defBody s_law_stream) (defScope s_law_stream) .none kV9 dc9 pm9 an9 cd9 ct9), sl9⟩)
    (c9 : PySem.W.codeIn K cd9 "_law_stream" = true)
    (k9 : PySem.W.keepIn K (.ref f_law_stream) = true)
    (a10 : PySem.W.nsIn K mainGlobals "_law_next" = some (some (.ref f_law_next)))
    (l10 : K.lookup f_law_next = some ⟨oc10, od10, .func (PySem.W.fnOf "_law_next" "_law_next" (defArgs s_law_next) (defBody s_law_next) (defScope s_law_next) .none kV10 dc10 pm10 an10 cd10 ct10), sl10⟩)
    (c10 : PySem.W.codeIn K cd10 "_law_next" = true)
    (k10 : PySem.W.keepIn K (.ref f_law_next) = true)
    (a11 : PySem.W.nsIn K mainGlobals "_law_flag" = some (some (.ref f_law_flag)))
    (l11 : K.lookup f_law_flag = some ⟨oc11, od11, .func (PySem.W.fnOf "_law_flag" "_law_flag" (defArgs s_law_flag) (defBody s_law_flag) (defScope s_law_flag) .none kV11 dc11 pm11 an11 cd11 ct11), sl11⟩)
    (c11 : PySem.W.codeIn K cd11 "_law_flag" = true)
    (k11 : PySem.W.keepIn K (.ref f_law_flag) = true)
    (a12 : PySem.W.nsIn K mainGlobals "_law_number" = some (some (.ref f_law_number)))
    (l12 : K.lookup f_law_number = some ⟨oc12, od12, .func (PySem.W.fnOf "_law_number" "_law_number" (defArgs s_law_number) (defBody s_law_number) (defScope s_law_number) .none kV12 dc12 pm12 an12 cd12 ct12), sl12⟩)
    (c12 : PySem.W.codeIn K cd12 "_law_number" = true)
    (k12 : PySem.W.keepIn K (.ref f_law_number) = true)
    (a13 : PySem.W.nsIn K mainGlobals "_law_integer" = some (some (.ref f_law_integer)))
    (l13 : K.lookup f_law_integer = some ⟨oc13, od13, .func (PySem.W.fnOf "_law_integer" "_law_integer" (defArgs s_law_integer) (defBody s_law_integer) (defScope s_law_integer) .none kV13 dc13 pm13 an13 cd13 ct13), sl13⟩)
    (c13 : PySem.W.codeIn K cd13 "_law_integer" = true)
    (k13 : PySem.W.keepIn K (.ref f_law_integer) = true)
    (a14 : PySem.W.nsIn K mainGlobals "_law_name" = some (some (.ref f_law_name)))
    (l14 : K.lookup f_law_name = some ⟨oc14, od14, .func (PySem.W.fnOf "_law_name" "_law_name" (defArgs s_law_name) (defBody s_law_name) (defScope s_law_name) .none kV14 dc14 pm14 an14 cd14 ct14), sl14⟩)
    (c14 : PySem.W.codeIn K cd14 "_law_name" = true)
    (k14 : PySem.W.keepIn K (.ref f_law_name) = true)
    (a15 : PySem.W.nsIn K mainGlobals "_law_key" = some (some (.ref f_law_key)))
    (l15 : K.lookup f_law_key = some ⟨oc15, od15, .func (PySem.W.fnOf "_law_key" "_law_key" (defArgs s_law_key) (defBody s_law_key) (defScope s_law_key) .none kV15 dc15 pm15 an15 cd15 ct15), sl15⟩)
    (c15 : PySem.W.codeIn K cd15 "_law_key" = true)
    (k15 : PySem.W.keepIn K (.ref f_law_key) = true)
    (a16 : PySem.W.nsIn K mainGlobals "_law_step" = some (some (.ref f_law_step)))
    (l16 : K.lookup f_law_step = some ⟨oc16, od16, .func (PySem.W.fnOf "_law_step" "_law_step" (defArgs s_law_step) (defBody s_law_step) (defScope s_law_step) .none kV16 dc16 pm16 an16 cd16 ct16), sl16⟩)
    (c16 : PySem.W.codeIn K cd16 "_law_step" = true)
    (k16 : PySem.W.keepIn K (.ref f_law_step) = true)
    (a17 : PySem.W.nsIn K mainGlobals "_law_is_int" = some (some (.ref f_law_is_int)))
    (l17 : K.lookup f_law_is_int = some ⟨oc17, od17, .func (PySem.W.fnOf "_law_is_int" "_law_is_int" (defArgs s_law_is_int) (defBody s_law_is_int) (defScope s_law_is_int) .none kV17 dc17 pm17 an17 cd17 ct17), sl17⟩)
    (c17 : PySem.W.codeIn K cd17 "_law_is_int" = true)
    (k17 : PySem.W.keepIn K (.ref f_law_is_int) = true)
    (a18 : PySem.W.nsIn K mainGlobals "_law_is_name" = some (some (.ref f_law_is_name)))
    (l18 : K.lookup f_law_is_name = some ⟨oc18, od18, .func (PySem.W.fnOf "_law_is_name" "_law_is_name" (defArgs s_law_is_name) (defBody s_law_is_name) (defScope s_law_is_name) .none kV18 dc18 pm18 an18 cd18 ct18), sl18⟩)
    (c18 : PySem.W.codeIn K cd18 "_law_is_name" = true)
    (k18 : PySem.W.keepIn K (.ref f_law_is_name) = true)
    (a19 : PySem.W.nsIn K mainGlobals "_law_is_key" = some (some (.ref f_law_is_key)))
    (l19 : K.lookup f_law_is_key = some ⟨oc19, od19, .func (PySem.W.fnOf "_law_is_key" "_law_is_key" (defArgs s_law_is_key) (defBody s_law_is_key) (defScope s_law_is_key) .none kV19 dc19 pm19 an19 cd19 ct19), sl19⟩)
    (c19 : PySem.W.codeIn K cd19 "_law_is_key" = true)
    (k19 : PySem.W.keepIn K (.ref f_law_is_key) = true)
    (a20 : PySem.W.nsIn K mainGlobals "_law_is_step" = some (some (.ref f_law_is_step)))
    (l20 : K.lookup f_law_is_step = some ⟨oc20, od20, .func (PySem.W.fnOf "_law_is_step" "_law_is_step" (defArgs s_law_is_step) (defBody s_law_is_step) (defScope s_law_is_step) .none kV20 dc20 pm20 an20 cd20 ct20), sl20⟩)
    (c20 : PySem.W.codeIn K cd20 "_law_is_step" = true)
    (k20 : PySem.W.keepIn K (.ref f_law_is_step) = true)
    (a21 : PySem.W.nsIn K mainGlobals "_law_is_program" = some (some (.ref f_law_is_program)))
    (l21 : K.lookup f_law_is_program = some ⟨oc21, od21, .func (PySem.W.fnOf "_law_is_program" "_law_is_program" (defArgs s_law_is_program) (defBody s_law_is_program) (defScope s_law_is_program) .none kV21 dc21 pm21 an21 cd21 ct21), sl21⟩)
    (c21 : PySem.W.codeIn K cd21 "_law_is_program" = true)
    (k21 : PySem.W.keepIn K (.ref f_law_is_program) = true)
    (a22 : PySem.W.nsIn K mainGlobals "_law_odd" = some (some (.ref f_law_odd)))
    (l22 : K.lookup f_law_odd = some ⟨oc22, od22, .func (PySem.W.fnOf "_law_odd" "_law_odd" (defArgs s_law_odd) (defBody s_law_odd) (defScope s_law_odd) .none kV22 dc22 pm22 an22 cd22 ct22), sl22⟩)
    (c22 : PySem.W.codeIn K cd22 "_law_odd" = true)
    (k22 : PySem.W.keepIn K (.ref f_law_odd) = true)
    (a23 : PySem.W.nsIn K mainGlobals "_law_changed_step" = some (some (.ref f_law_changed_step)))
    (l23 : K.lookup f_law_changed_step = some ⟨oc23, od23, .func (PySem.W.fnOf "_law_changed_step" "_law_changed_step" (defArgs s_law_changed_step) (defBody s_law_changed_step) (defScope s_law_changed_step) .none kV23 dc23 pm23 an23 cd23 ct23), sl23⟩)
    (c23 : PySem.W.codeIn K cd23 "_law_changed_step" = true)
    (k23 : PySem.W.keepIn K (.ref f_law_changed_step) = true)
    (a24 : PySem.W.nsIn K mainGlobals "_law_changed" = some (some (.ref f_law_changed)))
    (l24 : K.lookup f_law_changed = some ⟨oc24, od24, .func (PySem.W.fnOf "_law_changed" "_law_changed" (defArgs s_law_changed) (defBody s_law_changed) (defScope s_law_changed) .none kV24 dc24 pm24 an24 cd24 ct24), sl24⟩)
    (c24 : PySem.W.codeIn K cd24 "_law_changed" = true)
    (k24 : PySem.W.keepIn K (.ref f_law_changed) = true)
    (a25 : PySem.W.nsIn K mainGlobals "law" = some (some (.ref f_law)))
    (l25 : K.lookup f_law = some ⟨oc25, od25, .func (PySem.W.fnOf "law" "law" (defArgs s_law) (defBody s_law) (defScope s_law) .none kV25 dc25 pm25 an25 cd25 ct25), sl25⟩)
    (c25 : PySem.W.codeIn K cd25 "law" = true)
    (k25 : PySem.W.keepIn K (.ref f_law) = true)
    (kk_GREATEST : PySem.W.nsIn K mainGlobals "GREATEST" = some (some (.int 1000000000000 tk_GREATEST)))
    (kk_LETTERS : PySem.W.nsIn K mainGlobals "LETTERS" = some (some (.str (Str.ofString "abcdefghijklmnopqrstuvwxyz") tk_LETTERS)))
    (kk_LONGEST_NAME : PySem.W.nsIn K mainGlobals "LONGEST_NAME" = some (some (.int 12 tk_LONGEST_NAME)))
    (kk_WITHOUT : PySem.W.nsIn K mainGlobals "WITHOUT" = some (some (.ref w_WITHOUT)))
    (kt_WITHOUT : K.lookup w_WITHOUT = some ⟨.type "tuple", wd_WITHOUT, .seq #[.str (Str.ofString "read") tk_WITHOUT_0, .str (Str.ofString "store") tk_WITHOUT_1] wn_WITHOUT, ws_WITHOUT⟩)
    (kk_WITH_INTEGER : PySem.W.nsIn K mainGlobals "WITH_INTEGER" = some (some (.ref w_WITH_INTEGER)))
    (kt_WITH_INTEGER : K.lookup w_WITH_INTEGER = some ⟨.type "tuple", wd_WITH_INTEGER, .seq #[.str (Str.ofString "put") tk_WITH_INTEGER_0, .str (Str.ofString "add") tk_WITH_INTEGER_1, .str (Str.ofString "need") tk_WITH_INTEGER_2] wn_WITH_INTEGER, ws_WITH_INTEGER⟩)
    (kk_LONGEST_PROGRAM : PySem.W.nsIn K mainGlobals "LONGEST_PROGRAM" = some (some (.int 12 tk_LONGEST_PROGRAM)))
    (zz_isinstance : PySem.W.nsIn K mainGlobals "isinstance" = some none)
    (zz_int : PySem.W.nsIn K mainGlobals "int" = some none)
    (zz_bool : PySem.W.nsIn K mainGlobals "bool" = some none)
    (zz_str : PySem.W.nsIn K mainGlobals "str" = some none)
    (zz_len : PySem.W.nsIn K mainGlobals "len" = some none)
    (zz_tuple : PySem.W.nsIn K mainGlobals "tuple" = some none)
    (zz_all : PySem.W.nsIn K mainGlobals "all" = some none)
    (zz_range : PySem.W.nsIn K mainGlobals "range" = some none)
    (zz_list : PySem.W.nsIn K mainGlobals "list" = some none)
    (zz_min : PySem.W.nsIn K mainGlobals "min" = some none)
    : ∃ fd : FuncData, (∀ (s : Shared) (v : Value), BindsTo s fd ⟨[v], []⟩ [("_law_script", v)]) ∧ ∀ base : Heap, K.In base → base.Ns mainGlobals mg → FnOk l.prog w K mg base CX0 6 fa fd ["_law_script"] (spLaw K) := by
  have e := hfa.symm.trans (PySem.W.mg_of X G a25)
  have e2 : fa = f_law := by injection e with e; injection e
  subst e2
  have F1 := fun_mk (st := s_is_int) l1 c1 k1
  have b1 := F1.binds (ps := ["thing"]) fun _ _ _ _ _ _ us hl => match us, hl with | [_], _ => rfl
  have F2 := fun_mk (st := s_is_number) l2 c2 k2
  have b2 := F2.binds (ps := ["thing"]) fun _ _ _ _ _ _ us hl => match us, hl with | [_], _ => rfl
  have F3 := fun_mk (st := s_is_integer) l3 c3 k3
  have b3 := F3.binds (ps := ["thing"]) fun _ _ _ _ _ _ us hl => match us, hl with | [_], _ => rfl
  have F4 := fun_mk (st := s_is_name) l4 c4 k4
  have b4 := F4.binds (ps := ["thing"]) fun _ _ _ _ _ _ us hl => match us, hl with | [_], _ => rfl
  have F5 := fun_mk (st := s_is_pair) l5 c5 k5
  have b5 := F5.binds (ps := ["thing"]) fun _ _ _ _ _ _ us hl => match us, hl with | [_], _ => rfl
  have F6 := fun_mk (st := s_is_key) l6 c6 k6
  have b6 := F6.binds (ps := ["thing"]) fun _ _ _ _ _ _ us hl => match us, hl with | [_], _ => rfl
  have F7 := fun_mk (st := s_is_step) l7 c7 k7
  have b7 := F7.binds (ps := ["thing"]) fun _ _ _ _ _ _ us hl => match us, hl with | [_], _ => rfl
  have F8 := fun_mk (st := s_is_program) l8 c8 k8
  have b8 := F8.binds (ps := ["thing"]) fun _ _ _ _ _ _ us hl => match us, hl with | [_], _ => rfl
  have F9 := fun_mk (st := s_law_stream) l9 c9 k9
  have b9 := F9.binds (ps := ["_law_cell", "_law_k"]) fun _ _ _ _ _ _ us hl => match us, hl with | [_, _], _ => rfl
  have F10 := fun_mk (st := s_law_next) l10 c10 k10
  have b10 := F10.binds (ps := ["_law_stream_here", "_law_size"]) fun _ _ _ _ _ _ us hl => match us, hl with | [_, _], _ => rfl
  have F11 := fun_mk (st := s_law_flag) l11 c11 k11
  have b11 := F11.binds (ps := ["_law_actual", "_law_due"]) fun _ _ _ _ _ _ us hl => match us, hl with | [_, _], _ => rfl
  have F12 := fun_mk (st := s_law_number) l12 c12 k12
  have b12 := F12.binds (ps := ["_law_stream_here"]) fun _ _ _ _ _ _ us hl => match us, hl with | [_], _ => rfl
  have F13 := fun_mk (st := s_law_integer) l13 c13 k13
  have b13 := F13.binds (ps := ["_law_stream_here"]) fun _ _ _ _ _ _ us hl => match us, hl with | [_], _ => rfl
  have F14 := fun_mk (st := s_law_name) l14 c14 k14
  have b14 := F14.binds (ps := ["_law_stream_here"]) fun _ _ _ _ _ _ us hl => match us, hl with | [_], _ => rfl
  have F15 := fun_mk (st := s_law_key) l15 c15 k15
  have b15 := F15.binds (ps := ["_law_stream_here"]) fun _ _ _ _ _ _ us hl => match us, hl with | [_], _ => rfl
  have F16 := fun_mk (st := s_law_step) l16 c16 k16
  have b16 := F16.binds (ps := ["_law_stream_here"]) fun _ _ _ _ _ _ us hl => match us, hl with | [_], _ => rfl
  have F17 := fun_mk (st := s_law_is_int) l17 c17 k17
  have b17 := F17.binds (ps := ["_law_thing", "_law_least", "_law_most"]) fun _ _ _ _ _ _ us hl => match us, hl with | [_, _, _], _ => rfl
  have F18 := fun_mk (st := s_law_is_name) l18 c18 k18
  have b18 := F18.binds (ps := ["_law_thing"]) fun _ _ _ _ _ _ us hl => match us, hl with | [_], _ => rfl
  have F19 := fun_mk (st := s_law_is_key) l19 c19 k19
  have b19 := F19.binds (ps := ["_law_thing"]) fun _ _ _ _ _ _ us hl => match us, hl with | [_], _ => rfl
  have F20 := fun_mk (st := s_law_is_step) l20 c20 k20
  have b20 := F20.binds (ps := ["_law_thing"]) fun _ _ _ _ _ _ us hl => match us, hl with | [_], _ => rfl
  have F21 := fun_mk (st := s_law_is_program) l21 c21 k21
  have b21 := F21.binds (ps := ["_law_thing"]) fun _ _ _ _ _ _ us hl => match us, hl with | [_], _ => rfl
  have F22 := fun_mk (st := s_law_odd) l22 c22 k22
  have b22 := F22.binds (ps := ["_law_stream_here"]) fun _ _ _ _ _ _ us hl => match us, hl with | [_], _ => rfl
  have F23 := fun_mk (st := s_law_changed_step) l23 c23 k23
  have b23 := F23.binds (ps := ["_law_step_here", "_law_stream_here"]) fun _ _ _ _ _ _ us hl => match us, hl with | [_, _], _ => rfl
  have F24 := fun_mk (st := s_law_changed) l24 c24 k24
  have b24 := F24.binds (ps := ["_law_program", "_law_stream_here"]) fun _ _ _ _ _ _ us hl => match us, hl with | [_, _], _ => rfl
  have F25 := fun_mk (st := s_law) l25 c25 k25
  have b25 := F25.binds (ps := ["_law_script"]) fun _ _ _ _ _ _ us hl => match us, hl with | [_], _ => rfl
  exact ⟨PySem.W.fnOf "law" "law" (defArgs s_law) (defBody s_law) (defScope s_law) .none kV25 dc25 pm25 an25 cd25 ct25, fun s v => .of_eq rfl, fun base _ _ => ok_law (⟨f_is_int, _, F1, b1, PySem.W.mg_of X G a1, f_is_number, _, F2, b2, PySem.W.mg_of X G a2, f_is_integer, _, F3, b3, PySem.W.mg_of X G a3, f_is_name, _, F4, b4, PySem.W.mg_of X G a4, f_is_pair, _, F5, b5, PySem.W.mg_of X G a5, f_is_key, _, F6, b6, PySem.W.mg_of X G a6, f_is_step, _, F7, b7, PySem.W.mg_of X G a7, f_is_program, _, F8, b8, PySem.W.mg_of X G a8, f_law_stream, _, F9, b9, PySem.W.mg_of X G a9, f_law_next, _, F10, b10, PySem.W.mg_of X G a10, f_law_flag, _, F11, b11, PySem.W.mg_of X G a11, f_law_number, _, F12, b12, PySem.W.mg_of X G a12, f_law_integer, _, F13, b13, PySem.W.mg_of X G a13, f_law_name, _, F14, b14, PySem.W.mg_of X G a14, f_law_key, _, F15, b15, PySem.W.mg_of X G a15, f_law_step, _, F16, b16, PySem.W.mg_of X G a16, f_law_is_int, _, F17, b17, PySem.W.mg_of X G a17, f_law_is_name, _, F18, b18, PySem.W.mg_of X G a18, f_law_is_key, _, F19, b19, PySem.W.mg_of X G a19, f_law_is_step, _, F20, b20, PySem.W.mg_of X G a20, f_law_is_program, _, F21, b21, PySem.W.mg_of X G a21, f_law_odd, _, F22, b22, PySem.W.mg_of X G a22, f_law_changed_step, _, F23, b23, PySem.W.mg_of X G a23, f_law_changed, _, F24, b24, PySem.W.mg_of X G a24, fa, _, F25, b25, PySem.W.mg_of X G a25, _, PySem.W.mg_of X G kk_GREATEST, ⟨_, rfl⟩, _, PySem.W.mg_of X G kk_LETTERS, ⟨_, rfl⟩, _, PySem.W.mg_of X G kk_LONGEST_NAME, ⟨_, rfl⟩, _, PySem.W.mg_of X G kk_WITHOUT, fun H => .inr ⟨_, _, _, kt_WITHOUT, rfl, rfl, by simp [sizeLine_eq], .cons ⟨_, rfl⟩ (.cons ⟨_, rfl⟩ (.nil))⟩, _, PySem.W.mg_of X G kk_WITH_INTEGER, fun H => .inr ⟨_, _, _, kt_WITH_INTEGER, rfl, rfl, by simp [sizeLine_eq], .cons ⟨_, rfl⟩ (.cons ⟨_, rfl⟩ (.cons ⟨_, rfl⟩ (.nil)))⟩, _, PySem.W.mg_of X G kk_LONGEST_PROGRAM, ⟨_, rfl⟩, PySem.W.mg_none_of X G zz_isinstance, PySem.W.mg_none_of X G zz_int, PySem.W.mg_none_of X G zz_bool, PySem.W.mg_none_of X G zz_str, PySem.W.mg_none_of X G zz_len, PySem.W.mg_none_of X G zz_tuple, PySem.W.mg_none_of X G zz_all, PySem.W.mg_none_of X G zz_range, PySem.W.mg_none_of X G zz_list, PySem.W.mg_none_of X G zz_min⟩ : Txt K mg)⟩
theorem walk {l : PySem.W.OpenLaw} {q : Program} {loose : List Str} {XP : (Str → Option Value) → Heap → Prop} {YP : World → Heap → Prop} {d : DefRec} {K : Params → PySem.W.Frag} (hn : l.most = some 63) (hdf : d.params.defaults = [])
    (hY : ∀ (w : World) (h : Heap), YP w h → (K w.params).In h)
    (F : ∀ (w : World) (mg : Str → Option Value) (fa : Addr) (h : Heap), (K w.params).In h → h.Ns mainGlobals mg → mg d.name = some (.ref fa) →
      ∃ fd : FuncData, (∀ (s : Shared) (u : Value), BindsTo s fd ⟨[u], []⟩ [("_law_script", u)]) ∧ ∀ base : Heap, (K w.params).In base → base.Ns mainGlobals mg → FnOk l.prog w (K w.params) mg base CX0 6 fa fd ["_law_script"] (spLaw (K w.params))) :
    PySem.W.WalkO q loose XP YP l.row.toRowW d [] (fun f vs => PySem.call f vs) :=
  L2.walk_of (n := 63) (k := 6) (x := "_law_script") (CX := fun _ => CX0) (sp := fun w => spLaw (K w.params)) hn (by decide) hdf ⟨rfl, by decide, by decide⟩ hY F (fun _ _ a ns hl _ hS => ⟨a, ns, rfl, hS, hl, fun _ => rfl⟩) fun _ _ _ _ _ z => z
end G4
open PySem PySem.W PyProof.Rows
set_option maxRecDepth 100000 in
set_option maxHeartbeats 0 in
theorem PySem.Challenge.cw_ringloosed_k03_steps_and_programs_holds : PySem.Challenge.rw_ringloosed_k03_steps_and_programs.Holds := by
  w_on; o_law; k_head; (case hw => w_witness2)
  k_fill
  refine G4.walk (l := PySem.Challenge.rw_ringloosed_k03_steps_and_programs) rfl rfl (fun w h Y => PySem.W.kIn_of Y) ?F
  case F =>
    intro w mg fa h KX G hmg
    refine' G4.all_mk KX G hmg ?a1 ?l1 ?c1 ?k1 ?a2 ?l2 ?c2 ?k2 ?a3 ?l3 ?c3 ?k3 ?a4 ?l4 ?c4 ?k4 ?a5 ?l5 ?c5 ?k5 ?a6 ?l6 ?c6 ?k6 ?a7 ?l7 ?c7 ?k7 ?a8 ?l8 ?c8 ?k8 ?a9 ?l9 ?c9 ?k9 ?a10 ?l10 ?c10 ?k10 ?a11 ?l11 ?c11 ?k11 ?a12 ?l12 ?c12 ?k12 ?a13 ?l13 ?c13 ?k13 ?a14 ?l14 ?c14 ?k14 ?a15 ?l15 ?c15 ?k15 ?a16 ?l16 ?c16 ?k16 ?a17 ?l17 ?c17 ?k17 ?a18 ?l18 ?c18 ?k18 ?a19 ?l19 ?c19 ?k19 ?a20 ?l20 ?c20 ?k20 ?a21 ?l21 ?c21 ?k21 ?a22 ?l22 ?c22 ?k22 ?a23 ?l23 ?c23 ?k23 ?a24 ?l24 ?c24 ?k24 ?a25 ?l25 ?c25 ?k25 ?kk_GREATEST ?kk_LETTERS ?kk_LONGEST_NAME ?kk_WITHOUT ?kt_WITHOUT ?kk_WITH_INTEGER ?kt_WITH_INTEGER ?kk_LONGEST_PROGRAM ?zz_isinstance ?zz_int ?zz_bool ?zz_str ?zz_len ?zz_tuple ?zz_all ?zz_range ?zz_list ?zz_min
    (case a1 => k_is)
    (case l1 => k_is)
    (case c1 => k_is)
    (case k1 => k_is)
    (case a2 => k_is)
    (case l2 => k_is)
    (case c2 => k_is)
    (case k2 => k_is)
    (case a3 => k_is)
    (case l3 => k_is)
    (case c3 => k_is)
    (case k3 => k_is)
    (case a4 => k_is)
    (case l4 => k_is)
    (case c4 => k_is)
    (case k4 => k_is)
    (case a5 => k_is)
    (case l5 => k_is)
    (case c5 => k_is)
    (case k5 => k_is)
    (case a6 => k_is)
    (case l6 => k_is)
    (case c6 => k_is)
    (case k6 => k_is)
    (case a7 => k_is)
    (case l7 => k_is)
    (case c7 => k_is)
    (case k7 => k_is)
    (case a8 => k_is)
    (case l8 => k_is)
    (case c8 => k_is)
    (case k8 => k_is)
    (case a9 => k_is)
    (case l9 => k_is)
    (case c9 => k_is)
    (case k9 => k_is)
    (case a10 => k_is)
    (case l10 => k_is)
    (case c10 => k_is)
    (case k10 => k_is)
    (case a11 => k_is)
    (case l11 => k_is)
    (case c11 => k_is)
    (case k11 => k_is)
    (case a12 => k_is)
    (case l12 => k_is)
    (case c12 => k_is)
    (case k12 => k_is)
    (case a13 => k_is)
    (case l13 => k_is)
    (case c13 => k_is)
    (case k13 => k_is)
    (case a14 => k_is)
    (case l14 => k_is)
    (case c14 => k_is)
    (case k14 => k_is)
    (case a15 => k_is)
    (case l15 => k_is)
    (case c15 => k_is)
    (case k15 => k_is)
    (case a16 => k_is)
    (case l16 => k_is)
    (case c16 => k_is)
    (case k16 => k_is)
    (case a17 => k_is)
    (case l17 => k_is)
    (case c17 => k_is)
    (case k17 => k_is)
    (case a18 => k_is)
    (case l18 => k_is)
    (case c18 => k_is)
    (case k18 => k_is)
    (case a19 => k_is)
    (case l19 => k_is)
    (case c19 => k_is)
    (case k19 => k_is)
    (case a20 => k_is)
    (case l20 => k_is)
    (case c20 => k_is)
    (case k20 => k_is)
    (case a21 => k_is)
    (case l21 => k_is)
    (case c21 => k_is)
    (case k21 => k_is)
    (case a22 => k_is)
    (case l22 => k_is)
    (case c22 => k_is)
    (case k22 => k_is)
    (case a23 => k_is)
    (case l23 => k_is)
    (case c23 => k_is)
    (case k23 => k_is)
    (case a24 => k_is)
    (case l24 => k_is)
    (case c24 => k_is)
    (case k24 => k_is)
    (case a25 => k_is)
    (case l25 => k_is)
    (case c25 => k_is)
    (case k25 => k_is)
    (case kk_GREATEST => k_is)
    (case kk_LETTERS => k_is)
    (case kk_LONGEST_NAME => k_is)
    (case kk_WITHOUT => k_is)
    (case kt_WITHOUT => k_is)
    (case kk_WITH_INTEGER => k_is)
    (case kt_WITH_INTEGER => k_is)
    (case kk_LONGEST_PROGRAM => k_is)
    (case zz_isinstance => k_is)
    (case zz_int => k_is)
    (case zz_bool => k_is)
    (case zz_str => k_is)
    (case zz_len => k_is)
    (case zz_tuple => k_is)
    (case zz_all => k_is)
    (case zz_range => k_is)
    (case zz_list => k_is)
    (case zz_min => k_is)
