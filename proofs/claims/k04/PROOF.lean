import PyProof.Rows.All
import Wide.All
import OpenK.AllK
import Wide.FinOn
import HandS.ForMost
import HandS.Wide
import HandS.IsInst
import HandS.Deep
import HandS.TupAny
import HandS.TupLe
import HandS.Flow
import HandS.Codes
import PySem.Challenge.RW_ringloosed_k04_keys_of_programs
set_option Elab.async false
set_option linter.all false
set_option maxRecDepth 100000
set_option maxHeartbeats 8000000
namespace G4
open PySem L2
/-! ### G4 base: row-independent words -/
theorem hu65 {k : Nat} {A : Around} (hr : Room k A) : A.units + 65 < cLine := by have := hr.un; omega
/-- the tuples stay -/
def Tk (H H' : Hp) : Prop := ∀ b xs, H b = some (.tup xs) → H' b = some (.tup xs)
theorem Tk.refl (H : Hp) : Tk H H := fun _ _ h => h
theorem Tk.trans {H H1 H2 : Hp} (a : Tk H H1) (b : Tk H1 H2) : Tk H H2 := fun c o h => b c o (a c o h)
theorem Tk.new {H : Hp} {p : Addr} {o : HO} (h : H p = none) : Tk H (upd H p o) := fun b xs e => by rw [upd_ne (ne_of_none e h)]; exact e
theorem Tk.put {H : Hp} {p : Addr} {xs : List V} {o : HO} (h : H p = some (.lst xs)) : Tk H (upd H p o) := fun b ys e => by
  rw [upd_ne (ne_of e h (by intro z; cases z))]; exact e
theorem Tk.putI {H : Hp} {p C dx : Addr} {fs : List (Str × V)} {o : HO} (h : H p = some (.ins C dx fs)) : Tk H (upd H p o) := fun b ys e => by
  rw [upd_ne (ne_of e h (by intro z; cases z))]; exact e
theorem Tk.putD {H : Hp} {p : Addr} {kvs : List (Key × V)} {o : HO} (h : H p = some (.dK kvs)) : Tk H (upd H p o) := fun b ys e => by
  rw [upd_ne (ne_of e h (by intro z; cases z))]; exact e
theorem Tk.putT {H : Hp} {p : Addr} {kvs : List (List Key × V)} {o : HO} (h : H p = some (.dT kvs)) : Tk H (upd H p o) := fun b ys e => by
  rw [upd_ne (ne_of e h (by intro z; cases z))]; exact e
theorem Same.tk {H H' : Hp} (s : Same H H') : Tk H H' := fun b xs e => s b _ e
theorem same_new {H : Hp} {p : Addr} {o : HO} (h : H p = none) : Same H (upd H p o) := fun b x e => by rw [upd_ne (ne_of_none e h)]; exact e
theorem get_new {H : Hp} {p a : Addr} {o x : HO} (h : H p = none) (e : H a = some x) : upd H p o a = some x := same_new h a x e
theorem get_ne {H : Hp} {p a : Addr} {o x : HO} (h : a ≠ p) (e : H a = some x) : upd H p o a = some x := by rw [upd_ne h]; exact e
/-! ### data that never changes: none, bools, ints, texts, tuples of them -/
mutual
def Im (H : Hp) : PyData → V → Prop
  | .none, v => v = .non
  | .bool b, v => v = .bl b
  | .int i, v => v = .int i
  | .str x, v => v = .str x
  | .tuple ds, v => ∃ a xs, v = .ref a ∧ H a = some (.tup xs) ∧ ImAll H ds xs
  | .list _, _ => False
  | .dict _, _ => False
def ImAll (H : Hp) : List PyData → List V → Prop
  | [], vs => vs = []
  | d :: ds, vs => ∃ v r, vs = v :: r ∧ Im H d v ∧ ImAll H ds r
end
mutual
theorem Im.mono {H H' : Hp} (t : Tk H H') : ∀ (d : PyData) (v : V), Im H d v → Im H' d v
  | .none, _, h => by simpa only [Im] using h
  | .bool _, _, h => by simpa only [Im] using h
  | .int _, _, h => by simpa only [Im] using h
  | .str _, _, h => by simpa only [Im] using h
  | .tuple ds, v, h => by
    simp only [Im] at h ⊢
    obtain ⟨a, xs, e, ha, hx⟩ := h
    exact ⟨a, xs, e, t _ _ ha, ImAll.mono t ds xs hx⟩
  | .list _, _, h => by simp only [Im] at h
  | .dict _, _, h => by simp only [Im] at h
theorem ImAll.mono {H H' : Hp} (t : Tk H H') : ∀ (ds : List PyData) (vs : List V), ImAll H ds vs → ImAll H' ds vs
  | [], _, h => by simpa only [ImAll] using h
  | d :: ds, vs, h => by
    simp only [ImAll] at h ⊢
    obtain ⟨v, r, e, h1, h2⟩ := h
    exact ⟨v, r, e, Im.mono t d v h1, ImAll.mono t ds r h2⟩
end
mutual
theorem Im.dp {K : PySem.W.Frag} {H : Hp} : ∀ (d : PyData) (v : V), Im H d v → Dp K H v d
  | .none, _, h => by simp only [Im] at h; subst h; exact .non
  | .bool _, _, h => by simp only [Im] at h; subst h; exact .bl _
  | .int _, _, h => by simp only [Im] at h; subst h; exact .int _
  | .str _, _, h => by simp only [Im] at h; subst h; exact .str _
  | .tuple ds, v, h => by
    simp only [Im] at h
    obtain ⟨a, xs, rfl, ha, hx⟩ := h
    exact .tup (SqT.of ha) (ImAll.dp ds xs hx)
  | .list _, _, h => by simp only [Im] at h
  | .dict _, _, h => by simp only [Im] at h
theorem ImAll.dp {K : PySem.W.Frag} {H : Hp} : ∀ (ds : List PyData) (vs : List V), ImAll H ds vs → DpAll K H vs ds
  | [], _, h => by simp only [ImAll] at h; subst h; exact .nil
  | d :: ds, vs, h => by
    simp only [ImAll] at h
    obtain ⟨v, r, rfl, h1, h2⟩ := h
    exact .cons (Im.dp d v h1) (ImAll.dp ds r h2)
end
theorem ImAll.len {H : Hp} : ∀ {ds : List PyData} {vs : List V}, ImAll H ds vs → vs.length = ds.length
  | [], _, h => by simp only [ImAll] at h; subst h; rfl
  | d :: ds, vs, h => by
    simp only [ImAll] at h
    obtain ⟨v, r, rfl, h1, h2⟩ := h
    simp [ImAll.len h2]
theorem ImAll.get {H : Hp} : ∀ {ds : List PyData} {vs : List V} {i : Nat} {v : V}, ImAll H ds vs → vs[i]? = some v → ∃ d, ds[i]? = some d ∧ Im H d v
  | [], _, i, v, h, e => by simp only [ImAll] at h; subst h; simp at e
  | d :: ds, vs, i, v, h, e => by
    simp only [ImAll] at h
    obtain ⟨u, r, rfl, h1, h2⟩ := h
    cases i with
    | zero => simp at e; subst e; exact ⟨d, rfl, h1⟩
    | succ i => simp at e; obtain ⟨x, a, b⟩ := ImAll.get h2 e; exact ⟨x, by simpa using a, b⟩
theorem ImAll.get' {H : Hp} : ∀ {ds : List PyData} {vs : List V} {i : Nat} {d : PyData}, ImAll H ds vs → ds[i]? = some d → ∃ v, vs[i]? = some v ∧ Im H d v
  | [], _, i, v, h, e => by simp at e
  | d :: ds, vs, i, x, h, e => by
    simp only [ImAll] at h
    obtain ⟨u, r, rfl, h1, h2⟩ := h
    cases i with
    | zero => simp at e; subst e; exact ⟨u, rfl, h1⟩
    | succ i => simp at e; obtain ⟨x, a, b⟩ := ImAll.get' h2 e; exact ⟨x, by simpa using a, b⟩
theorem ImAll.snoc {H : Hp} : ∀ {ds : List PyData} {vs : List V} {d : PyData} {v : V}, ImAll H ds vs → Im H d v → ImAll H (ds ++ [d]) (vs ++ [v])
  | [], _, d, v, h, e => by simp only [ImAll] at h; subst h; exact ⟨v, [], rfl, e, by simp only [ImAll]⟩
  | x :: ds, vs, d, v, h, e => by
    simp only [ImAll] at h
    obtain ⟨u, r, rfl, h1, h2⟩ := h
    exact ⟨u, r ++ [v], rfl, h1, ImAll.snoc h2 e⟩
theorem ImAll.app {H : Hp} : ∀ {ds es : List PyData} {vs us : List V}, ImAll H ds vs → ImAll H es us → ImAll H (ds ++ es) (vs ++ us)
  | [], _, _, _, h, e => by simp only [ImAll] at h; subst h; exact e
  | x :: ds, es, vs, us, h, e => by
    simp only [ImAll] at h
    obtain ⟨u, r, rfl, h1, h2⟩ := h
    exact ⟨u, r ++ us, rfl, h1, ImAll.app h2 e⟩
theorem ImAll.take {H : Hp} : ∀ {ds : List PyData} {vs : List V} (n : Nat), ImAll H ds vs → ImAll H (ds.take n) (vs.take n)
  | _, _, 0, _ => by simp only [List.take_zero]; simp only [ImAll]
  | [], _, n + 1, h => by simp only [ImAll] at h; subst h; simp only [List.take_nil]; simp only [ImAll]
  | x :: ds, vs, n + 1, h => by
    simp only [ImAll] at h
    obtain ⟨u, r, rfl, h1, h2⟩ := h
    exact ⟨u, r.take n, rfl, h1, ImAll.take n h2⟩
theorem ImAll.drop {H : Hp} : ∀ {ds : List PyData} {vs : List V} (n : Nat), ImAll H ds vs → ImAll H (ds.drop n) (vs.drop n)
  | _, _, 0, h => h
  | [], _, n + 1, h => by simp only [ImAll] at h; subst h; simp only [List.drop_nil]; simp only [ImAll]
  | x :: ds, vs, n + 1, h => by
    simp only [ImAll] at h
    obtain ⟨u, r, rfl, h1, h2⟩ := h
    exact ImAll.drop n h2
theorem im_nil {H : Hp} : ImAll H [] [] := by simp only [ImAll]
theorem im_cons {H : Hp} {d : PyData} {ds : List PyData} {v : V} {vs : List V} (a : Im H d v) (b : ImAll H ds vs) : ImAll H (d :: ds) (v :: vs) := by
  simp only [ImAll]; exact ⟨v, vs, rfl, a, b⟩
theorem im_tup {H : Hp} {ds : List PyData} {xs : List V} {a : Addr} (h : H a = some (.tup xs)) (i : ImAll H ds xs) : Im H (.tuple ds) (.ref a) := by
  simp only [Im]; exact ⟨a, xs, rfl, h, i⟩
theorem im_tupNew {H : Hp} {ds : List PyData} {xs : List V} {a : Addr} (h : H a = none) (i : ImAll H ds xs) : Im (upd H a (.tup xs)) (.tuple ds) (.ref a) :=
  im_tup upd_same (ImAll.mono (Tk.new h) _ _ i)
theorem im_int {H : Hp} {i : Int} : Im H (.int i) (.int i) := by simp only [Im]
theorem im_str {H : Hp} {x : Str} : Im H (.str x) (.str x) := by simp only [Im]
theorem im_bool {H : Hp} {b : Bool} : Im H (.bool b) (.bl b) := by simp only [Im]
theorem im_non {H : Hp} : Im H .none .non := by simp only [Im]
/-! ### data of bounded nesting, of plain kinds (no bools: they equal ints) -/
mutual
def pl : Nat → PyData → Bool
  | _, .none => true
  | _, .int _ => true
  | _, .str x => PyData.strOk x
  | 0, .tuple _ => false
  | n + 1, .tuple ds => plAll n ds
  | 0, .list _ => false
  | n + 1, .list ds => plAll n ds
  | _, .bool _ => false
  | _, .dict _ => false
def plAll : Nat → List PyData → Bool
  | _, [] => true
  | n, d :: ds => pl n d && plAll n ds
end
theorem plAll_iff {n : Nat} : ∀ {ds : List PyData}, plAll n ds = true ↔ ∀ d ∈ ds, pl n d = true
  | [] => by simp [plAll]
  | d :: ds => by simp only [plAll, Bool.and_eq_true, plAll_iff (ds := ds)]; simp
mutual
theorem pl_lay : ∀ (n : Nat) (d : PyData), pl n d = true → d.canLay0 = true ∧ d.depth ≤ n
  | n, .none, _ => by simp [PyData.canLay0, PyData.depth]
  | n, .int _, _ => by simp [PyData.canLay0, PyData.depth]
  | n, .str x, h => by simp only [pl] at h; simp [PyData.canLay0, PyData.depth, h]
  | 0, .tuple _, h => by simp [pl] at h
  | n + 1, .tuple ds, h => by
    simp only [pl] at h
    have := pl_layAll n ds h
    simp only [PyData.canLay0, PyData.depth]; exact ⟨this.1, by omega⟩
  | 0, .list _, h => by simp [pl] at h
  | n + 1, .list ds, h => by
    simp only [pl] at h
    have := pl_layAll n ds h
    simp only [PyData.canLay0, PyData.depth]; exact ⟨this.1, by omega⟩
  | _, .bool _, h => by simp [pl] at h
  | _, .dict _, h => by simp [pl] at h
theorem pl_layAll : ∀ (n : Nat) (ds : List PyData), plAll n ds = true → PyData.canLayAll0 ds = true ∧ PyData.depthAll ds ≤ n
  | n, [], _ => by simp [PyData.canLayAll0, PyData.depthAll]
  | n, d :: ds, h => by
    simp only [plAll, Bool.and_eq_true] at h
    have h1 := pl_lay n d h.1
    have h2 := pl_layAll n ds h.2
    simp only [PyData.canLayAll0, PyData.depthAll, h1.1, h2.1, Bool.and_self, true_and]; omega
end
theorem pl_shaped {n : Nat} {d : PyData} (h : pl n d = true) (hn : n ≤ 64 := by decide) : SeqAt.shaped d = true := by
  have := pl_lay n d h
  show (d.canLay0 && decide (d.depth ≤ 64)) = true
  rw [this.1, Bool.true_and]; exact decide_eq_true (by omega)
mutual
theorem pl_eqv : ∀ (n m : Nat) (d e : PyData), pl n d = true → pl m e = true → (PyData.eqv d e = true ↔ d = e)
  | n, m, .none, e, h, g => by cases e <;> simp_all [PyData.eqv, pl]
  | n, m, .int i, e, h, g => by cases e <;> simp_all [PyData.eqv, pl]
  | n, m, .str x, e, h, g => by cases e <;> simp_all [PyData.eqv, pl]
  | 0, m, .tuple _, e, h, g => by simp [pl] at h
  | n + 1, m, .tuple ds, e, h, g => by
    cases e with
    | tuple es =>
      cases m with
      | zero => simp [pl] at g
      | succ m =>
        simp only [pl] at h g
        simp only [PyData.eqv, PyData.tuple.injEq]
        exact pl_eqvAll n m ds es h g
    | _ => simp_all [PyData.eqv, pl]
  | 0, m, .list _, e, h, g => by simp [pl] at h
  | n + 1, m, .list ds, e, h, g => by
    cases e with
    | list es =>
      cases m with
      | zero => simp [pl] at g
      | succ m =>
        simp only [pl] at h g
        simp only [PyData.eqv, PyData.list.injEq]
        exact pl_eqvAll n m ds es h g
    | _ => simp_all [PyData.eqv, pl]
  | _, m, .bool _, e, h, g => by simp [pl] at h
  | _, m, .dict _, e, h, g => by simp [pl] at h
theorem pl_eqvAll : ∀ (n m : Nat) (ds es : List PyData), plAll n ds = true → plAll m es = true → (PyData.eqvAll ds es = true ↔ ds = es)
  | n, m, [], es, h, g => by cases es <;> simp [PyData.eqvAll]
  | n, m, d :: ds, es, h, g => by
    cases es with
    | nil => simp [PyData.eqvAll]
    | cons e es =>
      simp only [plAll, Bool.and_eq_true] at h g
      simp only [PyData.eqvAll, Bool.and_eq_true, List.cons.injEq]
      rw [pl_eqv n m d e h.1 g.1, pl_eqvAll n m ds es h.2 g.2]
end
noncomputable instance : DecidableEq PyData := fun a b => Classical.propDecidable (a = b)
theorem pl_eqv_dec {n m : Nat} {d e : PyData} (h : pl n d = true) (g : pl m e = true) : PyData.eqv d e = decide (d = e) := by
  rw [Bool.eq_iff_iff, decide_eq_true_eq]; exact pl_eqv n m d e h g
/-! ### x in t, t a tuple of data of any depth -/
section
variable {X : Cx}
def rInDT (K : PySem.W.Frag) : R2 := fun x y H Q => ∃ d ds, Dp K H x d ∧ Dp K H y (.tuple ds) ∧ SeqAt.shaped d = true ∧ SeqAt.shaped (.tuple ds) = true ∧ Q (.bl (ds.any fun z => PyData.eqv z d)) H
theorem op_inT (hu : X.A.units + 65 < cLine) : OpR X (compareOp .In) (rInDT X.K) := by
  intro pins s σ H x y v u Q I rx ry h
  obtain ⟨d, ds, hd, he, sd, se, q⟩ := h
  obtain ⟨as, r1⟩ := Dp.reads I d x v hd rx
  obtain ⟨bs, r2⟩ := Dp.reads I (.tuple ds) y u he ry
  exact SeqAt.in_tuple_reads r2 r1 (SeqAt.canLay_of_shaped se) (SeqAt.canLay_of_shaped sd) (PyProof.Rows.room_in_shaped sd hu) ⟨.bl _, H, I, rfl, q⟩
end
/-! ### rules over what is tracked alone -/
section
variable {X : Cx}
def rIxLH : R2 := fun x y H Q => ∃ p xs i v, x = .ref p ∧ y = .int i ∧ H p = some (.lst xs) ∧ atI xs i = some v ∧ Q v H
def rIxTH : R2 := fun x y H Q => ∃ p xs i v, x = .ref p ∧ y = .int i ∧ H p = some (.tup xs) ∧ atI xs i = some v ∧ Q v H
theorem ix_listH : IxR X rIxLH := fun value slice pins s σ H x y v u Q I rx ry ⟨p, xs, i, w, h1, h2, h3, h4, h5⟩ hs => ix_list value slice pins s σ H x y v u Q I rx ry ⟨p, xs, i, w, h1, h2, SqL.of h3, h4, h5⟩ hs
theorem ix_tupH : IxR X rIxTH := fun value slice pins s σ H x y v u Q I rx ry ⟨p, xs, i, w, h1, h2, h3, h4, h5⟩ hs => ix_tup value slice pins s σ H x y v u Q I rx ry ⟨p, xs, i, w, h1, h2, SqT.of h3, h4, h5⟩ hs
end
theorem atI0 {α : Type} {x : α} {xs : List α} : atI (x :: xs) 0 = some x := atI_nat (j := 0) rfl
theorem atI1 {α : Type} {x y : α} {xs : List α} : atI (x :: y :: xs) 1 = some y := atI_nat (j := 1) rfl
theorem atI2 {α : Type} {x y z : α} {xs : List α} : atI (x :: y :: z :: xs) 2 = some z := atI_nat (j := 2) rfl
theorem atI3 {α : Type} {x y z t : α} {xs : List α} : atI (x :: y :: z :: t :: xs) 3 = some t := atI_nat (j := 3) rfl
theorem ixN20 : ixN 2 0 = some 0 := by decide
theorem ixN21 : ixN 2 1 = some 1 := by decide
theorem atI_mem {α : Type} {xs : List α} {i : Int} (h0 : 0 ≤ i) (h1 : i < xs.length) : ∃ w, atI xs i = some w ∧ w ∈ xs := by
  obtain ⟨n, rfl⟩ := Int.eq_ofNat_of_zero_le h0
  have hn : n < xs.length := by omega
  exact ⟨xs[n], atI_nat (by simp [hn]), List.getElem_mem hn⟩
theorem tyL {K : PySem.W.Frag} {H : Hp} {p : Addr} {xs : List V} (h : H p = some (.lst xs)) : tyV K "list" (.ref p) H := .inl ⟨rfl, xs, SqL.of h⟩
/-! ### texts -/
theorem join_all {P : Nat → Prop} : ∀ (ys : List Str), (∀ y ∈ ys, ∀ c ∈ y.cps.toList, P c) → ∀ c ∈ (Txt.join ⟨#[]⟩ ys).cps.toList, P c := by
  have h : ∀ (ys : List Str), (∀ y ∈ ys, ∀ c ∈ y.cps.toList, P c) → ∀ c ∈ (Str.join ⟨#[]⟩ ys).cps.toList, P c := by
    intro ys
    induction ys with
    | nil => intro _ c hc; exact absurd hc (by simp [Str.join, Str.empty])
    | cons x r ih =>
      intro hy c hc
      cases r with
      | nil => exact hy x (by simp) c hc
      | cons y r =>
        have e : (Str.join ⟨#[]⟩ (x :: y :: r)).cps.toList = x.cps.toList ++ (Str.join ⟨#[]⟩ (y :: r)).cps.toList := by
          show ((x.cps ++ #[]) ++ (Str.join ⟨#[]⟩ (y :: r)).cps).toList = _
          simp
        rw [e] at hc
        rcases List.mem_append.mp hc with hc | hc
        · exact hy x (by simp) c hc
        · exact ih (fun z hz => hy z (List.mem_cons_of_mem _ hz)) c hc
  intro ys hy
  have e : Txt.join ⟨#[]⟩ ys = Str.join ⟨#[]⟩ ys := StrLaws.glued_eq_join _ _
  rw [e]; exact h ys hy
theorem join_len : ∀ (ys : List Str), (Txt.join ⟨#[]⟩ ys).length = (ys.map (·.length)).sum := by
  have h : ∀ (ys : List Str), (Str.join ⟨#[]⟩ ys).length = (ys.map (·.length)).sum := by
    intro ys
    induction ys with
    | nil => rfl
    | cons x r ih =>
      cases r with
      | nil => show x.length = _; simp
      | cons y r =>
        have e : (Str.join ⟨#[]⟩ (x :: y :: r)).length = x.length + (Str.join ⟨#[]⟩ (y :: r)).length := by
          show ((x.cps ++ #[]) ++ (Str.join ⟨#[]⟩ (y :: r)).cps).size = x.cps.size + (Str.join ⟨#[]⟩ (y :: r)).cps.size
          simp
        rw [e, ih]; simp
  intro ys
  have e : Txt.join ⟨#[]⟩ ys = Str.join ⟨#[]⟩ ys := StrLaws.glued_eq_join _ _
  rw [e]; exact h ys
/-- a name: 1 to 12 signs a to z -/
def NameD (x : Str) : Prop := 1 ≤ x.length ∧ x.length ≤ 12 ∧ ∀ c ∈ x.cps.toList, 97 ≤ c ∧ c ≤ 122
theorem NameD.ok {x : Str} (h : NameD x) : PyData.strOk x = true := by
  unfold PyData.strOk
  rw [Array.all_eq_true_iff_forall_mem]
  intro c hc
  have := h.2.2 c (by simpa using hc)
  exact decide_eq_true (by omega)
theorem nameD_by {x : Str} (h : (decide (1 ≤ x.length) && decide (x.length ≤ 12) && x.cps.toList.all fun c => decide (97 ≤ c) && decide (c ≤ 122)) = true) : NameD x := by
  simp only [Bool.and_eq_true, decide_eq_true_eq, List.all_eq_true] at h
  exact ⟨h.1.1, h.1.2, fun c hc => h.2 c hc⟩
/-! ### loops: the reading's own words, folded -/
def Loop (J : It) (g : TG) (tb : TS) (D : Ends) (σ : St) (H : Hp) : Prop := ∃ W : Nat → Nat → St → Hp → Prop, (∃ m, W 0 m σ H) ∧ ∀ i m σ H, W i m σ H →
  (J.stop i H ∧ D.nx σ H) ∨ (J.go i H ∧ ∃ N : St → Hp → Prop, (∀ σ' H', N σ' H' → ∃ m', m' < m ∧ W (i + 1) m' σ' H') ∧ ∀ x H', J.yld i H x H' → g x σ H' fun σ2 H2 => tb { D with nx := N, ct := N, bk := D.nx } σ2 H2)
theorem tFor_eq (wi : TI) (g : TG) (tb : TS) (D : Ends) (σ : St) (H : Hp) : tFor wi g tb D σ H = wi σ H (fun J H1 => Loop J g tb D σ H1) := rfl
theorem Loop.range {lo : Int} {n : Nat} {g : TG} {tb : TS} {D : Ends} {σ : St} {H : Hp} (Pv : Nat → St → Hp → Prop) (h0 : Pv 0 σ H)
    (hs : ∀ i σ H, i < n → Pv i σ H → g (.int (lo + i)) σ H fun σ2 H2 => tb { D with nx := Pv (i + 1), ct := Pv (i + 1), bk := D.nx } σ2 H2) (hd : ∀ σ H, Pv n σ H → D.nx σ H) : Loop (Itr lo n) g tb D σ H := for_range Pv h0 hs hd
theorem Loop.list {K : PySem.W.Frag} {a : Addr} {g : TG} {tb : TS} {D : Ends} {σ : St} {H : Hp} (xs : List V) (Pv : Nat → St → Hp → Prop) (h0 : Pv 0 σ H) (hl : ∀ i σ H, i ≤ xs.length → Pv i σ H → SqL K H a xs)
    (hs : ∀ i x σ H, xs[i]? = some x → Pv i σ H → g x σ H fun σ2 H2 => tb { D with nx := Pv (i + 1), ct := Pv (i + 1), bk := D.nx } σ2 H2) (hd : ∀ σ H, Pv xs.length σ H → D.nx σ H) : Loop (Itl K a) g tb D σ H := for_list Pv h0 hl hs hd
theorem Loop.tup {K : PySem.W.Frag} {a : Addr} {g : TG} {tb : TS} {D : Ends} {σ : St} {H : Hp} (xs : List V) (Pv : Nat → St → Hp → Prop) (h0 : Pv 0 σ H) (hl : ∀ i σ H, i ≤ xs.length → Pv i σ H → SqT K H a xs)
    (hs : ∀ i x σ H, xs[i]? = some x → Pv i σ H → g x σ H fun σ2 H2 => tb { D with nx := Pv (i + 1), ct := Pv (i + 1), bk := D.nx } σ2 H2) (hd : ∀ σ H, Pv xs.length σ H → D.nx σ H) : Loop (Itt K a) g tb D σ H := for_tup Pv h0 hl hs hd
def Lcl (J : It) (g : TG) (tt : TT) (te : TE) (vs : List Nat) (σ : St) (D : Addr) (H : Hp) (Q : Hp → Prop) : Prop := ∃ W : Nat → Nat → Hp → Prop, (∃ m, W 0 m (upd H D (.lst []))) ∧ ∀ i m H, W i m H →
  (J.stop i H ∧ Q H) ∨ (J.go i H ∧ ∃ Nx : Hp → Prop, (∀ H', Nx H' → ∃ m', m' < m ∧ W (i + 1) m' H') ∧ ∀ x H', J.yld i H x H' → g x (wipe σ vs) H' fun σ2 H2 => wipe σ2 vs = wipe σ vs ∧ tt σ2 H2 fun b H3 =>
    if b = true then te σ2 H3 fun y H4 => ∃ acc, H4 D = some (.lst acc) ∧ acc.length < sizeLine ∧ Nx (upd H4 D (.lst (acc ++ [y]))) else Nx H3)
theorem tLc_eq (wi : TI) (g : TG) (tt : TT) (te : TE) (vs : List Nat) (σ : St) (H : Hp) (Q : VK) : tLc wi g tt te vs σ H Q = wi σ H (fun J H1 => ∀ D, H1 D = none → Lcl J g tt te vs σ D H1 (fun H2 => Q (.ref D) H2)) := rfl
theorem Lcl.range {lo : Int} {n : Nat} {g : TG} {tt : TT} {te : TE} {vs : List Nat} {σ : St} {H1 : Hp} {D : Addr} {Qd : Hp → Prop} (Pv : Nat → Hp → Prop) (h0 : Pv 0 (upd H1 D (.lst [])))
    (hs : ∀ i H, i < n → Pv i H → g (.int (lo + i)) (wipe σ vs) H fun σ2 H2 => wipe σ2 vs = wipe σ vs ∧ tt σ2 H2 fun b H3 =>
      if b = true then te σ2 H3 fun y H4 => ∃ acc, H4 D = some (.lst acc) ∧ acc.length < sizeLine ∧ Pv (i + 1) (upd H4 D (.lst (acc ++ [y]))) else Pv (i + 1) H3) (hd : ∀ H, Pv n H → Qd H) : Lcl (Itr lo n) g tt te vs σ D H1 Qd := lc_range Pv h0 hs hd
theorem Lcl.list {K : PySem.W.Frag} {a : Addr} {g : TG} {tt : TT} {te : TE} {vs : List Nat} {σ : St} {H1 : Hp} {D : Addr} {Qd : Hp → Prop} (xs : List V) (Pv : Nat → Hp → Prop) (h0 : Pv 0 (upd H1 D (.lst []))) (hl : ∀ i H, i ≤ xs.length → Pv i H → SqL K H a xs)
    (hs : ∀ i x H, xs[i]? = some x → Pv i H → g x (wipe σ vs) H fun σ2 H2 => wipe σ2 vs = wipe σ vs ∧ tt σ2 H2 fun b H3 =>
      if b = true then te σ2 H3 fun y H4 => ∃ acc, H4 D = some (.lst acc) ∧ acc.length < sizeLine ∧ Pv (i + 1) (upd H4 D (.lst (acc ++ [y]))) else Pv (i + 1) H3) (hd : ∀ H, Pv xs.length H → Qd H) : Lcl (Itl K a) g tt te vs σ D H1 Qd := lc_list Pv h0 hl hs hd
theorem Lcl.tup {K : PySem.W.Frag} {a : Addr} {g : TG} {tt : TT} {te : TE} {vs : List Nat} {σ : St} {H1 : Hp} {D : Addr} {Qd : Hp → Prop} (xs : List V) (Pv : Nat → Hp → Prop) (h0 : Pv 0 (upd H1 D (.lst []))) (hl : ∀ i H, i ≤ xs.length → Pv i H → SqT K H a xs)
    (hs : ∀ i x H, xs[i]? = some x → Pv i H → g x (wipe σ vs) H fun σ2 H2 => wipe σ2 vs = wipe σ vs ∧ tt σ2 H2 fun b H3 =>
      if b = true then te σ2 H3 fun y H4 => ∃ acc, H4 D = some (.lst acc) ∧ acc.length < sizeLine ∧ Pv (i + 1) (upd H4 D (.lst (acc ++ [y]))) else Pv (i + 1) H3) (hd : ∀ H, Pv xs.length H → Qd H) : Lcl (Itt K a) g tt te vs σ D H1 Qd := lc_tup Pv h0 hl hs hd
/-! ### the drawn stream of a law -/
/-- at p a list of two ints -/
def St2 (H : Hp) (p : Addr) : Prop := ∃ d r : Int, H p = some (.lst [.int d, .int r])
/-- a generator ran: the stream at p may have gone on, all else is as it was, new things may stand -/
structure Gn (p : Addr) (H H' : Hp) : Prop where
  st0 : St2 H p
  st : St2 H' p
  but : ∀ b o, H b = some o → b ≠ p → H' b = some o
theorem Gn.tk {p : Addr} {H H' : Hp} (g : Gn p H H') : Tk H H' := fun b xs e => by
  obtain ⟨d, r, h⟩ := g.st0
  exact g.but b _ e (ne_of e h (by intro z; cases z))
theorem Gn.refl {p : Addr} {H : Hp} (h : St2 H p) : Gn p H H := ⟨h, h, fun _ _ e _ => e⟩
theorem Gn.trans {p : Addr} {H H1 H2 : Hp} (a : Gn p H H1) (b : Gn p H1 H2) : Gn p H H2 := ⟨a.st0, b.st, fun c o e n => b.but c o (a.but c o e n) n⟩
theorem St2.new {p q : Addr} {H : Hp} {o : HO} (h : St2 H p) (hq : H q = none) : St2 (upd H q o) p := by
  obtain ⟨d, r, e⟩ := h; exact ⟨d, r, get_new hq e⟩
theorem St2.ne {p q : Addr} {H : Hp} {o : HO} (h : St2 H p) (hq : q ≠ p) : St2 (upd H q o) p := by
  obtain ⟨d, r, e⟩ := h; exact ⟨d, r, get_ne hq.symm e⟩
theorem St2.nn {p q : Addr} {H : Hp} (h : St2 H p) (hq : H q = none) : q ≠ p := by
  obtain ⟨d, r, e⟩ := h; exact (ne_of_none e hq).symm
theorem Gn.new {p q : Addr} {H H1 : Hp} {o : HO} (a : Gn p H H1) (hq : H1 q = none) : Gn p H (upd H1 q o) :=
  ⟨a.st0, a.st.new hq, fun c x e n => get_new hq (a.but c x e n)⟩
/-- a list that the generator made is changed -/
theorem Gn.put {p q : Addr} {H H1 : Hp} {o : HO} (a : Gn p H H1) (hq : H q = none) (hn : q ≠ p) : Gn p H (upd H1 q o) :=
  ⟨a.st0, a.st.ne hn, fun c x e n => get_ne (ne_of_none e hq) (a.but c x e n)⟩
theorem Gn.none {p q : Addr} {H H' : Hp} (g : Gn p H H') (h : H' q = none) : H q = none := by
  cases e : H q with
  | none => rfl
  | some o =>
    by_cases hq : q = p
    · subst hq; obtain ⟨d, r, z⟩ := g.st; rw [h] at z; cases z
    · rw [g.but q o e hq] at h; cases h
theorem Gn.im {p : Addr} {H H' : Hp} (g : Gn p H H') {d : PyData} {v : V} (h : Im H d v) : Im H' d v := Im.mono g.tk d v h
theorem Gn.upd {p : Addr} {H : Hp} {d r : Int} (h : St2 H p) : Gn p H (upd H p (.lst [.int d, .int r])) := ⟨h, ⟨d, r, upd_same⟩, fun b o e n => get_ne n e⟩
theorem imNew {H : Hp} {q : Addr} {o : HO} {d : PyData} {v : V} (hq : H q = none) (h : Im H d v) : Im (upd H q o) d v := Im.mono (Tk.new hq) d v h
theorem cmulR {i j : Int} (h : (decide (-(2 ^ 64) < j) && decide (j < 2 ^ 64)) = true) : CMul i j := by
  simp only [Bool.and_eq_true, decide_eq_true_eq] at h; exact .inr h
theorem cmulL {i j : Int} (h : -(2 ^ 64) < i ∧ i < 2 ^ 64) : CMul i j := .inl h
theorem abc26 : (Str.ofString "abcdefghijklmnopqrstuvwxyz").cps.toList = (List.range 26).map (97 + ·) := by decide +kernel
theorem abc26_len : (Str.ofString "abcdefghijklmnopqrstuvwxyz").length = 26 := by decide +kernel
theorem abc26_at {v : Int} (h0 : 0 ≤ v) (h1 : v < 26) : ∃ c, atI (Str.ofString "abcdefghijklmnopqrstuvwxyz").cps.toList v = some c ∧ 97 ≤ c ∧ c ≤ 122 := by
  rw [abc26]
  obtain ⟨c, hc, hm⟩ := atI_mem (xs := (List.range 26).map (97 + ·)) h0 (by simpa using h1)
  refine ⟨c, hc, ?_⟩
  simp only [List.mem_map, List.mem_range] at hm
  omega
theorem empty_str : Str.ofString "" = ⟨#[]⟩ := by decide +kernel
theorem sum_ones : ∀ {ys : List Str}, (∀ y ∈ ys, y.length = 1) → (ys.map (·.length)).sum = ys.length
  | [], _ => rfl
  | y :: ys, h => by
    have h1 := h y (by simp)
    have h2 := sum_ones (ys := ys) fun z hz => h z (List.mem_cons_of_mem _ hz)
    simp only [List.map_cons, List.sum_cons, List.length_cons, h1, h2]; omega
theorem Gn.at {p q : Addr} {H H' : Hp} {o : HO} (g : Gn p H H') (h : H q = some o) (hn : q ≠ p) : H' q = some o := g.but q o h hn

/-! ### rules whose new thing may be an old one -/
section
variable {X : Cx}
theorem cutV_whole {xs : List V} {lo hi : Option Int} (h : HT.sIx xs.length 0 lo = 0 ∧ HT.sIx xs.length xs.length hi = xs.length) : cutV xs lo hi = xs := by
  unfold cutV; rw [h.1, h.2]; simp
theorem cutV_to (xs : List V) (k : Nat) : cutV xs none (some (k : Int)) = xs.take k := by
  unfold cutV
  rw [HT.sIx_none, HT.sIx_nat, List.drop_zero, Nat.sub_zero]
  by_cases h : k ≤ xs.length
  · rw [Nat.min_eq_left h]
  · rw [Nat.min_eq_right (by omega), List.take_length, List.take_of_length_le (by omega)]
theorem cutV_from (xs : List V) (k : Nat) : cutV xs (some (k : Int)) none = xs.drop k := by
  unfold cutV
  rw [HT.sIx_none, HT.sIx_nat]
  by_cases h : k ≤ xs.length
  · rw [Nat.min_eq_left h, List.take_of_length_le (by rw [List.length_drop]; omega)]
  · rw [Nat.min_eq_right (by omega), List.drop_length, List.drop_of_length_le (by omega)]; simp
def rSlTS : V → Option Int → Option Int → Hp → VK → Prop := fun x lo hi H Q => ∃ a xs, x = .ref a ∧ H a = some (.tup xs) ∧ ∀ p H', Same H H' → H' p = some (.tup (cutV xs lo hi)) → Q (.ref p) H'
theorem sl_tupS : SlR X rSlTS := fun pins s σ H x v vl vu lo hi sl Q I rx hs pl pu ⟨a, xs, h1, h2, h3⟩ =>
  sl_tupA pins s σ H x v vl vu lo hi sl Q I rx hs pl pu ⟨a, xs, h1, SqT.of h2, fun hw => h3 a H (Same.refl H) (by rw [cutV_whole hw]; exact h2), fun _ p hp => h3 p _ (same_new hp) upd_same⟩
def rCatS : R2 := fun x y H Q => ∃ a b xs ys, x = .ref a ∧ y = .ref b ∧ H a = some (.tup xs) ∧ H b = some (.tup ys) ∧ xs.length + ys.length ≤ sizeLine ∧ ∀ p H', Same H H' → H' p = some (.tup (xs ++ ys)) → Q (.ref p) H'
theorem op_catS : OpR X (binaryOp .Add) rCatS := fun pins s σ H x y v u Q I rx ry ⟨a, b, xs, ys, h1, h2, h3, h4, h5, h6⟩ =>
  op_catA pins s σ H x y v u Q I rx ry ⟨a, b, xs, ys, h1, h2, SqT.of h3, SqT.of h4, h5, fun e => h6 b H (Same.refl H) (by rw [e]; exact h4), fun _ e => h6 a H (Same.refl H) (by rw [e, List.append_nil]; exact h3), fun _ _ p hp => h6 p _ (same_new hp) upd_same⟩
def rTupS : List V → Hp → VK → Prop := fun xs H Q => ∃ p ys, xs = [.ref p] ∧ (H p = some (.lst ys) ∨ H p = some (.tup ys)) ∧ ∀ l H', Same H H' → H' l = some (.tup ys) → Q (.ref l) H'
theorem call_tupS : CallR X (.type "tuple") rTupS := fun pins s σ H xs us Q I r ⟨p, ys, h1, h2, h3⟩ =>
  call_tuple_of pins s σ H xs us Q I r ⟨p, ys, h1, h2.elim (fun h => .inl ⟨SqL.of h, fun l hl => h3 l _ (same_new hl) upd_same⟩) fun h => .inr ⟨SqT.of h, h3 p H (Same.refl H) h⟩⟩
def tyO : Option HO → Option String
  | some (.lst _) => some "list"
  | some (.tup _) => some "tuple"
  | some (.dK _) => some "dict"
  | some (.dT _) => some "dict"
  | _ => none
/-- the built-in type's name of a value -/
def tyS (H : Hp) : V → Option String
  | .non => some "NoneType"
  | .bl _ => some "bool"
  | .int _ => some "int"
  | .str _ => some "str"
  | .ref a => tyO (H a)
  | _ => none
theorem tyS_non {H : Hp} : tyS H .non = some "NoneType" := rfl
theorem tyS_bl {H : Hp} {b : Bool} : tyS H (.bl b) = some "bool" := rfl
theorem tyS_int {H : Hp} {b : Int} : tyS H (.int b) = some "int" := rfl
theorem tyS_str {H : Hp} {b : Str} : tyS H (.str b) = some "str" := rfl
theorem tyS_ref {H : Hp} {a : Addr} : tyS H (.ref a) = tyO (H a) := rfl
theorem tyO_l {xs : List V} : tyO (some (.lst xs)) = some "list" := rfl
theorem tyO_t {xs : List V} : tyO (some (.tup xs)) = some "tuple" := rfl
theorem tyO_d {xs : List (Key × V)} : tyO (some (.dK xs)) = some "dict" := rfl
theorem tyO_dt {xs : List (List Key × V)} : tyO (some (.dT xs)) = some "dict" := rfl
theorem tyS_x {K : PySem.W.Frag} {H : Hp} {x : V} {t : String} (h : tyS H x = some t) : TyX K H x (.type t) := by
  cases x with
  | non => cases h; exact .base .non
  | bl b => cases h; exact .base (.bl b)
  | int i => cases h; exact .base (.int i)
  | str x => cases h; exact .base (.str x)
  | ref a =>
    rw [tyS_ref] at h
    cases e : H a with
    | none => rw [e] at h; cases h
    | some o =>
      rw [e] at h
      cases o with
      | lst xs => cases h; exact .base (.lst e)
      | tup xs => cases h; exact .base (.tup e)
      | dK kvs => cases h; exact .base (.dK e)
      | dT kvs => cases h; exact .base (.dT e)
      | _ => cases h
  | _ => cases h
def rIsiH : List V → Hp → VK → Prop := fun xs H Q => ∃ (x : V) (n t : String) (b : Bool), xs = [x, .ty n] ∧ tyS H x = some t ∧ kitB t n = some b ∧ Q (.bl b) H
theorem call_isiH : CallR X (.builtin "isinstance") rIsiH := fun pins s σ H xs us Q I r ⟨x, n, t, b, h1, h2, h3, h4⟩ =>
  call_isi pins s σ H xs us Q I r ⟨x, .ty n, .type t, .type n, b, h1, .ty n, tyS_x h2, kit_ty h3, h4⟩
end
theorem kit_ll : kitB "list" "list" = some true := by decide +kernel
theorem kit_tt : kitB "tuple" "tuple" = some true := by decide +kernel
theorem kit_bb : kitB "bool" "bool" = some true := by decide +kernel
theorem kit_ii : kitB "int" "int" = some true := by decide +kernel
theorem kit_ib : kitB "int" "bool" = some false := by decide +kernel
theorem kit_bi : kitB "bool" "int" = some true := by decide +kernel
theorem kit_nt : kitB "NoneType" "tuple" = some false := by decide +kernel
theorem kit_it : kitB "int" "tuple" = some false := by decide +kernel
theorem kit_st : kitB "str" "tuple" = some false := by decide +kernel
theorem kit_bt : kitB "bool" "tuple" = some false := by decide +kernel
theorem kit_lt : kitB "list" "tuple" = some false := by decide +kernel
theorem kit_dt : kitB "dict" "tuple" = some false := by decide +kernel
theorem kit_ni : kitB "NoneType" "int" = some false := by decide +kernel
theorem kit_si : kitB "str" "int" = some false := by decide +kernel
theorem kit_ti : kitB "tuple" "int" = some false := by decide +kernel
theorem kit_li : kitB "list" "int" = some false := by decide +kernel
theorem kit_di : kitB "dict" "int" = some false := by decide +kernel
theorem kit_nb : kitB "NoneType" "bool" = some false := by decide +kernel
theorem kit_ns : kitB "NoneType" "str" = some false := by decide +kernel
theorem kit_is : kitB "int" "str" = some false := by decide +kernel
theorem kit_bs : kitB "bool" "str" = some false := by decide +kernel
theorem kit_ss : kitB "str" "str" = some true := by decide +kernel
theorem kit_ts : kitB "tuple" "str" = some false := by decide +kernel
theorem kit_ls : kitB "list" "str" = some false := by decide +kernel
theorem kit_ds : kitB "dict" "str" = some false := by decide +kernel
theorem kit_dd : kitB "dict" "dict" = some true := by decide +kernel
theorem Gn.same {p : Addr} {H H1 H2 : Hp} (g : Gn p H H1) (s : Same H1 H2) : Gn p H H2 :=
  ⟨g.st0, by obtain ⟨d, r, h⟩ := g.st; exact ⟨d, r, s _ _ h⟩, fun b o e n => s _ _ (g.but b o e n)⟩
theorem St2.same {p : Addr} {H1 H2 : Hp} (g : St2 H1 p) (s : Same H1 H2) : St2 H2 p := by obtain ⟨d, r, h⟩ := g; exact ⟨d, r, s _ _ h⟩
theorem Same.im {H H' : Hp} (s : Same H H') {d : PyData} {v : V} (h : Im H d v) : Im H' d v := Im.mono (Same.tk s) d v h
theorem Same.ims {H H' : Hp} (s : Same H H') {d : List PyData} {v : List V} (h : ImAll H d v) : ImAll H' d v := ImAll.mono (Same.tk s) d v h
theorem Gn.ims {p : Addr} {H H' : Hp} (g : Gn p H H') {d : List PyData} {v : List V} (h : ImAll H d v) : ImAll H' d v := ImAll.mono g.tk d v h
theorem imsNew {H : Hp} {q : Addr} {o : HO} {d : List PyData} {v : List V} (hq : H q = none) (h : ImAll H d v) : ImAll (upd H q o) d v := ImAll.mono (Tk.new hq) d v h
theorem im_tupE {H : Hp} {ds : List PyData} {v : V} (h : Im H (.tuple ds) v) : ∃ a xs, v = .ref a ∧ H a = some (.tup xs) ∧ ImAll H ds xs := by simpa only [Im] using h
theorem imAll_mem {H : Hp} {P : PyData → Prop} {ds : List PyData} {vs : List V} {i : Nat} {v : V} (h : ImAll H ds vs) (hP : ∀ d ∈ ds, P d) (e : vs[i]? = some v) : ∃ d, ds[i]? = some d ∧ P d ∧ Im H d v := by
  obtain ⟨d, e1, e2⟩ := h.get e
  exact ⟨d, e1, hP d (List.mem_of_getElem? e1), e2⟩
theorem imPut {H : Hp} {q : Addr} {xs : List V} {o : HO} {d : PyData} {v : V} (hq : H q = some (.lst xs)) (h : Im H d v) : Im (upd H q o) d v := Im.mono (Tk.put hq) d v h
theorem imsPut {H : Hp} {q : Addr} {xs : List V} {o : HO} {d : List PyData} {v : List V} (hq : H q = some (.lst xs)) (h : ImAll H d v) : ImAll (upd H q o) d v := ImAll.mono (Tk.put hq) d v h
/-- a list of such data grows by one -/
theorem ims_app {H : Hp} {l : Addr} {vs : List V} {ds : List PyData} {v : V} {d : PyData} (hl : H l = some (.lst vs)) (h : ImAll H ds vs) (hd : Im H d v) : ImAll (upd H l (.lst (vs ++ [v]))) (ds ++ [d]) (vs ++ [v]) := imsPut hl (h.snoc hd)
theorem all_snoc {α : Type} {P : α → Prop} {xs : List α} {x : α} (h : ∀ y ∈ xs, P y) (hx : P x) : ∀ y ∈ xs ++ [x], P y := by
  intro y hy
  rcases List.mem_append.mp hy with hy | hy
  · exact h y hy
  · rw [List.mem_singleton] at hy; subst hy; exact hx
section
variable {X : Cx} {K : PySem.W.Frag}
theorem op_eqDK (hK : X.K = K) (hu : X.A.units + 64 < cLine) : OpR X (compareOp .Eq) (rEqD K) := by subst hK; exact op_eqD hu
theorem op_neDK (hK : X.K = K) (hu : X.A.units + 64 < cLine) : OpR X (compareOp .NotEq) (rNeD K) := by subst hK; exact op_neD hu
theorem op_inDK (hK : X.K = K) (hu : X.A.units + 65 < cLine) : OpR X (compareOp .In) (rInD K) := by subst hK; exact op_inD hu
theorem op_notInDK (hK : X.K = K) (hu : X.A.units + 65 < cLine) : OpR X (compareOp .NotIn) (rNotInD K) := by subst hK; exact op_notInD hu
theorem op_inTK (hK : X.K = K) (hu : X.A.units + 65 < cLine) : OpR X (compareOp .In) (rInDT K) := by subst hK; exact op_inT hu
end
def lenO : Option HO → Option Nat
  | some (.lst xs) => some xs.length
  | some (.tup xs) => some xs.length
  | _ => none
def lenS (H : Hp) : V → Option Nat
  | .str y => if y.length ≤ sizeLine then some y.length else none
  | .ref p => lenO (H p)
  | _ => none
theorem lenO_l {xs : List V} : lenO (some (.lst xs)) = some xs.length := rfl
theorem lenO_t {xs : List V} : lenO (some (.tup xs)) = some xs.length := rfl
theorem lenS_ref {H : Hp} {p : Addr} : lenS H (.ref p) = lenO (H p) := rfl
theorem lenS_str {H : Hp} {y : Str} (h : y.length ≤ 16777216) : lenS H (.str y) = some y.length := by simp only [lenS]; rw [if_pos (by rw [sizeLine_eq]; exact h)]
theorem lenS_v {K : PySem.W.Frag} {H : Hp} {x : V} {n : Nat} (h : lenS H x = some n) : LenV K x H n := by
  cases x with
  | str y =>
    simp only [lenS] at h
    split at h
    · cases h; exact ⟨by assumption, rfl⟩
    · cases h
  | ref a =>
    rw [lenS_ref] at h
    cases e : H a with
    | none => rw [e] at h; cases h
    | some o =>
      rw [e] at h
      cases o with
      | lst xs => cases h; exact .inl ⟨xs, SqL.of e, rfl⟩
      | tup xs => cases h; exact .inr ⟨xs, SqT.of e, rfl⟩
      | _ => cases h
  | _ => cases h
section
variable {X : Cx}
def rLenS : List V → Hp → VK → Prop := fun xs H Q => ∃ (x : V) (n : Nat), xs = [x] ∧ lenS H x = some n ∧ Q (.int n) H
theorem call_lenS : CallR X (.builtin "len") rLenS := fun pins s σ H xs us Q I r ⟨x, n, h1, h2, h3⟩ => call_len pins s σ H xs us Q I r ⟨x, n, h1, lenS_v h2, h3⟩
end
theorem cutI {t u : TS} {D : Ends} {σ : St} {H : Hp} (Mid : St → Hp → Prop) (h1 : t { D with nx := Mid } σ H) (h2 : ∀ σ' H', Mid σ' H' → u D σ' H') : C8.tCut t u D σ H := ⟨Mid, h1, h2⟩
/-! ### the drawn data -/
def kD (h : Int) (n : Str) : PyData := .tuple [.int h, .str n]
def KeyD (d : PyData) : Prop := ∃ h n, d = kD h n ∧ 0 ≤ h ∧ h ≤ 1000000000000 ∧ NameD n
theorem KeyD.pl {d : PyData} (h : KeyD d) : pl 1 d = true := by
  obtain ⟨a, b, rfl, _, _, n⟩ := h
  simp [kD, G4.pl, plAll, n.ok]
/-- a step of a program -/
def StepD (d : PyData) : Prop := ∃ k, KeyD k ∧ ((∃ w, d = .tuple [.str w, k] ∧ (w = Str.ofString "read" ∨ w = Str.ofString "store")) ∨
  ∃ w i, d = .tuple [.str w, k, .int i] ∧ (w = Str.ofString "put" ∨ w = Str.ofString "add" ∨ w = Str.ofString "need") ∧ -1000000000000 ≤ i ∧ i ≤ 1000000000000)
theorem ok_words : PyData.strOk (Str.ofString "read") = true ∧ PyData.strOk (Str.ofString "store") = true ∧ PyData.strOk (Str.ofString "put") = true ∧ PyData.strOk (Str.ofString "add") = true ∧ PyData.strOk (Str.ofString "need") = true := by decide +kernel
theorem StepD.pl {d : PyData} (h : StepD d) : G4.pl 2 d = true := by
  obtain ⟨k, hk, h⟩ := h
  obtain ⟨a, b, rfl, _, _, n⟩ := hk
  obtain ⟨o1, o2, o3, o4, o5⟩ := ok_words
  rcases h with ⟨w, rfl, hw⟩ | ⟨w, i, rfl, hw, _⟩
  · rcases hw with rfl | rfl <;> simp [kD, G4.pl, plAll, n.ok, o1, o2]
  · rcases hw with rfl | rfl | rfl <;> simp [kD, G4.pl, plAll, n.ok, o3, o4, o5]
def stepKey : PyData → PyData
  | .tuple (_ :: k :: _) => k
  | _ => .none
theorem StepD.key {d : PyData} (h : StepD d) : KeyD (stepKey d) := by
  obtain ⟨k, hk, h⟩ := h
  rcases h with ⟨w, rfl, _⟩ | ⟨w, i, rfl, _⟩ <;> exact hk
/-- a step as it stands: its second place is its key -/
theorem StepD.at {H : Hp} {d : PyData} {v : V} (h : StepD d) (i : Im H d v) : ∃ a w k r, v = .ref a ∧ H a = some (.tup (w :: k :: r)) ∧ Im H (stepKey d) k := by
  obtain ⟨k, hk, h⟩ := h
  rcases h with ⟨w, rfl, _⟩ | ⟨w, j, rfl, _⟩
  · obtain ⟨a, xs, rfl, ha, hx⟩ := im_tupE i
    simp only [ImAll] at hx
    obtain ⟨v1, r1, rfl, _, v2, r2, rfl, h2, _⟩ := hx
    exact ⟨a, v1, v2, r2, rfl, ha, h2⟩
  · obtain ⟨a, xs, rfl, ha, hx⟩ := im_tupE i
    simp only [ImAll] at hx
    obtain ⟨v1, r1, rfl, _, v2, r2, rfl, h2, _⟩ := hx
    exact ⟨a, v1, v2, r2, rfl, ha, h2⟩
/-- the unlike keys in the order of their first use -/
noncomputable def keysOf (ds : List PyData) : List PyData := ds.foldl (fun acc d => if stepKey d ∈ acc then acc else acc ++ [stepKey d]) []
theorem keysOf_snoc (ds : List PyData) (d : PyData) : keysOf (ds ++ [d]) = if stepKey d ∈ keysOf ds then keysOf ds else keysOf ds ++ [stepKey d] := by
  unfold keysOf; rw [List.foldl_append]; rfl
theorem keysOf_mem : ∀ (n : Nat) (ds : List PyData), ds.length = n → ∀ k, k ∈ keysOf ds ↔ ∃ d ∈ ds, stepKey d = k
  | 0, ds, h, k => by
    have : ds = [] := List.length_eq_zero_iff.mp h
    subst this; simp [keysOf]
  | n + 1, ds, h, k => by
    obtain ⟨es, d, rfl⟩ : ∃ es d, ds = es ++ [d] := by
      rcases List.eq_nil_or_concat ds with e | ⟨es, d, e⟩
      · subst e; simp at h
      · exact ⟨es, d, by simpa using e⟩
    have ih := keysOf_mem n es (by simpa using h)
    rw [keysOf_snoc]
    by_cases hd : stepKey d ∈ keysOf es
    · rw [if_pos hd, ih k]
      have hd' := (ih _).mp hd
      constructor
      · rintro ⟨e, he, q⟩; exact ⟨e, by simp [he], q⟩
      · rintro ⟨e, he, q⟩
        rcases List.mem_append.mp he with he | he
        · exact ⟨e, he, q⟩
        · rw [List.mem_singleton] at he; subst he; rw [← q]; exact hd'
    · rw [if_neg hd, List.mem_append, ih k]
      constructor
      · rintro (⟨e, he, q⟩ | q)
        · exact ⟨e, by simp [he], q⟩
        · rw [List.mem_singleton] at q; exact ⟨d, by simp, q.symm⟩
      · rintro ⟨e, he, q⟩
        rcases List.mem_append.mp he with he | he
        · exact .inl ⟨e, he, q⟩
        · rw [List.mem_singleton] at he; subst he; exact .inr (by simp [q])
theorem keysOf_keys {ds : List PyData} (h : ∀ d ∈ ds, StepD d) : ∀ k ∈ keysOf ds, KeyD k := by
  intro k hk
  obtain ⟨d, hd, rfl⟩ := (keysOf_mem _ ds rfl k).mp hk
  exact (h d hd).key
theorem keysOf_len : ∀ (n : Nat) (ds : List PyData), ds.length = n → (keysOf ds).length ≤ n
  | 0, ds, h => by
    have : ds = [] := List.length_eq_zero_iff.mp h
    subst this; simp [keysOf]
  | n + 1, ds, h => by
    obtain ⟨es, d, rfl⟩ : ∃ es d, ds = es ++ [d] := by
      rcases List.eq_nil_or_concat ds with e | ⟨es, d, e⟩
      · subst e; simp at h
      · exact ⟨es, d, by simpa using e⟩
    have ih := keysOf_len n es (by simpa using h)
    rw [keysOf_snoc]
    split
    · omega
    · rw [List.length_append]; simp; omega
theorem any_mem {n m : Nat} {ds : List PyData} {k : PyData} (h : ∀ d ∈ ds, pl n d = true) (hk : pl m k = true) : (ds.any fun z => PyData.eqv z k) = decide (k ∈ ds) := by
  rw [Bool.eq_iff_iff, List.any_eq_true, decide_eq_true_eq]
  constructor
  · rintro ⟨z, hz, e⟩
    have := (pl_eqv _ _ _ _ (h z hz) hk).mp e
    subst this; exact hz
  · intro hz
    exact ⟨k, hz, (pl_eqv _ _ _ _ hk hk).mpr rfl⟩
theorem pl_list {n : Nat} {ds : List PyData} (h : ∀ d ∈ ds, pl n d = true) : pl (n + 1) (.list ds) = true := by
  simp only [pl]; exact plAll_iff.mpr h
theorem pl_tuple {n : Nat} {ds : List PyData} (h : ∀ d ∈ ds, pl n d = true) : pl (n + 1) (.tuple ds) = true := by
  simp only [pl]; exact plAll_iff.mpr h
/-- a word of three: one key, two kinds -/
theorem take_snoc {α : Type} {xs : List α} {i : Nat} {x : α} (h : xs[i]? = some x) : xs.take (i + 1) = xs.take i ++ [x] := by
  rw [List.take_add_one, h]; rfl
theorem ex_take {ds : List PyData} {k : PyData} {i : Nat} {d : PyData} (h : ds[i]? = some d) : (∃ e ∈ ds.take (i + 1), stepKey e = k) ↔ ((∃ e ∈ ds.take i, stepKey e = k) ∨ stepKey d = k) := by
  rw [take_snoc h]
  constructor
  · rintro ⟨e, he, q⟩
    rcases List.mem_append.mp he with he | he
    · exact .inl ⟨e, he, q⟩
    · rw [List.mem_singleton] at he; subst he; exact .inr q
  · rintro (⟨e, he, q⟩ | q)
    · exact ⟨e, List.mem_append_left _ he, q⟩
    · exact ⟨d, by simp, q⟩

local macro_rules | `(tactic| walk_at "hp") => `(tactic| first
  | assumption | exact upd_same | (refine get_new (by assumption) ?_; walk_at "hp") | (refine Gn.at (by assumption) ?_ (by assumption); walk_at "hp")
  | (refine (by assumption : Same _ _) _ _ ?_; walk_at "hp") | (refine get_ne (by assumption) ?_; walk_at "hp") | (refine get_ne (Ne.symm (by assumption)) ?_; walk_at "hp"))
local macro_rules | `(tactic| walk_at "im") => `(tactic| first
  | assumption | exact im_int | exact im_str | exact im_non | exact im_bool
  | (refine Gn.im (by assumption) ?_; walk_at "im") | (refine imNew (by assumption) ?_; walk_at "im") | (refine Same.im (by assumption) ?_; walk_at "im")
  | (refine imPut (by assumption) ?_; walk_at "im")
  | (refine im_tupNew (by assumption) ?_; walk_at "ims") | (refine im_tup (by assumption) ?_; walk_at "ims"))
local macro_rules | `(tactic| walk_at "ims") => `(tactic| first
  | assumption | exact im_nil | (refine Gn.ims (by assumption) ?_; walk_at "ims") | (refine imsNew (by assumption) ?_; walk_at "ims") | (refine Same.ims (by assumption) ?_; walk_at "ims")
  | (refine imsPut (by assumption) ?_; walk_at "ims") | (refine im_cons ?_ ?_; walk_at "im"; walk_at "ims"))

def top (i : Nat) : Stmt := PySem.Challenge.pw_ringloosed_k04_keys_of_programs.main.body.getD i (.Pass ⟨0, 0, 0, 0⟩)
abbrev s_keys_of : Stmt := top 1
abbrev N_keys_of : List Str := ["program", "keys", "step"]
theorem sc_keys_of : FnScope N_keys_of ["program"] (defScope s_keys_of) := ⟨rfl, rfl, rfl, by decide +kernel, rfl, by decide +kernel, by decide +kernel⟩
abbrev s_law_stream : Stmt := top 3
abbrev N_law_stream : List Str := ["_law_cell", "_law_k", "_law_digits"]
theorem sc_law_stream : FnScope N_law_stream ["_law_cell", "_law_k"] (defScope s_law_stream) := ⟨rfl, rfl, rfl, by decide +kernel, rfl, by decide +kernel, by decide +kernel⟩
abbrev s_law_next : Stmt := top 4
abbrev N_law_next : List Str := ["_law_stream_here", "_law_size", "_law_drawn"]
theorem sc_law_next : FnScope N_law_next ["_law_stream_here", "_law_size"] (defScope s_law_next) := ⟨rfl, rfl, rfl, by decide +kernel, rfl, by decide +kernel, by decide +kernel⟩
abbrev s_law_number : Stmt := top 5
abbrev N_law_number : List Str := ["_law_stream_here", "_law_kind"]
theorem sc_law_number : FnScope N_law_number ["_law_stream_here"] (defScope s_law_number) := ⟨rfl, rfl, rfl, by decide +kernel, rfl, by decide +kernel, by decide +kernel⟩
abbrev s_law_integer : Stmt := top 6
abbrev N_law_integer : List Str := ["_law_stream_here"]
theorem sc_law_integer : FnScope N_law_integer ["_law_stream_here"] (defScope s_law_integer) := ⟨rfl, rfl, rfl, by decide +kernel, rfl, by decide +kernel, by decide +kernel⟩
abbrev s_law_name : Stmt := top 7
abbrev N_law_name : List Str := ["_law_stream_here", "_law_letters", "_law_k"]
theorem sc_law_name : FnScope N_law_name ["_law_stream_here"] (defScope s_law_name) := ⟨rfl, rfl, rfl, by decide +kernel, rfl, by decide +kernel, by decide +kernel⟩
abbrev s_law_key : Stmt := top 8
abbrev N_law_key : List Str := ["_law_stream_here"]
theorem sc_law_key : FnScope N_law_key ["_law_stream_here"] (defScope s_law_key) := ⟨rfl, rfl, rfl, by decide +kernel, rfl, by decide +kernel, by decide +kernel⟩
abbrev s_law_step : Stmt := top 12
abbrev N_law_step : List Str := ["_law_stream_here", "_law_kind"]
theorem sc_law_step : FnScope N_law_step ["_law_stream_here"] (defScope s_law_step) := ⟨rfl, rfl, rfl, by decide +kernel, rfl, by decide +kernel, by decide +kernel⟩
abbrev s_law_program : Stmt := top 13
abbrev N_law_program : List Str := ["_law_stream_here", "_law_houses", "_law_steps", "_law_k", "_law_key_here", "_law_kind", "_law_step_here"]
theorem sc_law_program : FnScope N_law_program ["_law_stream_here", "_law_houses"] (defScope s_law_program) := ⟨rfl, rfl, rfl, by decide +kernel, rfl, by decide +kernel, by decide +kernel⟩
abbrev s_law_due : Stmt := top 14
abbrev N_law_due : List Str := ["_law_program_here", "_law_found", "_law_k", "_law_step_here"]
theorem sc_law_due : FnScope N_law_due ["_law_program_here"] (defScope s_law_due) := ⟨rfl, rfl, rfl, by decide +kernel, rfl, by decide +kernel, by decide +kernel⟩
abbrev s_law : Stmt := top 15
abbrev N_law : List Str := ["_law_script", "_law_k", "_law_stream_here", "_law_program_here", "_law_turn", "_law_told", "_law_j"]
theorem sc_law : FnScope N_law ["_law_script"] (defScope s_law) := ⟨rfl, rfl, rfl, by decide +kernel, rfl, by decide +kernel, by decide +kernel⟩
structure Txt (K : PySem.W.Frag) (mg : Str → Option Value) where
  f_keys_of : Addr
  d_keys_of : FuncData
  F_keys_of : Fun K "keys_of" "keys_of" s_keys_of f_keys_of d_keys_of
  b_keys_of : Binds K d_keys_of ["program"] []
  g_keys_of : mg "keys_of" = some (.ref f_keys_of)
  f_law_stream : Addr
  d_law_stream : FuncData
  F_law_stream : Fun K "_law_stream" "_law_stream" s_law_stream f_law_stream d_law_stream
  b_law_stream : Binds K d_law_stream ["_law_cell", "_law_k"] []
  g_law_stream : mg "_law_stream" = some (.ref f_law_stream)
  f_law_next : Addr
  d_law_next : FuncData
  F_law_next : Fun K "_law_next" "_law_next" s_law_next f_law_next d_law_next
  b_law_next : Binds K d_law_next ["_law_stream_here", "_law_size"] []
  g_law_next : mg "_law_next" = some (.ref f_law_next)
  f_law_number : Addr
  d_law_number : FuncData
  F_law_number : Fun K "_law_number" "_law_number" s_law_number f_law_number d_law_number
  b_law_number : Binds K d_law_number ["_law_stream_here"] []
  g_law_number : mg "_law_number" = some (.ref f_law_number)
  f_law_integer : Addr
  d_law_integer : FuncData
  F_law_integer : Fun K "_law_integer" "_law_integer" s_law_integer f_law_integer d_law_integer
  b_law_integer : Binds K d_law_integer ["_law_stream_here"] []
  g_law_integer : mg "_law_integer" = some (.ref f_law_integer)
  f_law_name : Addr
  d_law_name : FuncData
  F_law_name : Fun K "_law_name" "_law_name" s_law_name f_law_name d_law_name
  b_law_name : Binds K d_law_name ["_law_stream_here"] []
  g_law_name : mg "_law_name" = some (.ref f_law_name)
  f_law_key : Addr
  d_law_key : FuncData
  F_law_key : Fun K "_law_key" "_law_key" s_law_key f_law_key d_law_key
  b_law_key : Binds K d_law_key ["_law_stream_here"] []
  g_law_key : mg "_law_key" = some (.ref f_law_key)
  f_law_step : Addr
  d_law_step : FuncData
  F_law_step : Fun K "_law_step" "_law_step" s_law_step f_law_step d_law_step
  b_law_step : Binds K d_law_step ["_law_stream_here"] []
  g_law_step : mg "_law_step" = some (.ref f_law_step)
  f_law_program : Addr
  d_law_program : FuncData
  F_law_program : Fun K "_law_program" "_law_program" s_law_program f_law_program d_law_program
  b_law_program : Binds K d_law_program ["_law_stream_here", "_law_houses"] []
  g_law_program : mg "_law_program" = some (.ref f_law_program)
  f_law_due : Addr
  d_law_due : FuncData
  F_law_due : Fun K "_law_due" "_law_due" s_law_due f_law_due d_law_due
  b_law_due : Binds K d_law_due ["_law_program_here"] []
  g_law_due : mg "_law_due" = some (.ref f_law_due)
  f_law : Addr
  d_law : FuncData
  F_law : Fun K "law" "law" s_law f_law d_law
  b_law : Binds K d_law ["_law_script"] []
  g_law : mg "law" = some (.ref f_law)
  z_int : mg "int" = none
  z_range : mg "range" = none
  z_tuple : mg "tuple" = none
  z_len : mg "len" = none
  z_min : mg "min" = none
  z_isinstance : mg "isinstance" = none
  z_list : mg "list" = none
section
variable {P : Program} {w : World} {K : PySem.W.Frag} {mg : Str → Option Value} {base : Heap}
def spLaw (K : PySem.W.Frag) : Sp := fun vs H Q _ => ∃ (a : Addr) (ns : List Int), vs = [.ref a] ∧ SqL K H a (ns.map V.int) ∧ ns.length ≤ 63 ∧ ∀ H', Q (.bl true) H'
def sp_keys_of : Sp := fun vs H Q _ => ∃ (v : V) (ds : List PyData), vs = [v] ∧ Im H (.tuple ds) v ∧ (∀ d ∈ ds, StepD d) ∧ ds.length ≤ 1000 ∧ ∀ (l : Addr) (ys : List V) (H' : Hp), H l = none → Same H H' → H' l = some (.lst ys) → ImAll H' (keysOf ds) ys → Q (.ref l) H'
theorem ok_keys_of (T : Txt K mg) : FnOk P w K mg base CX0 1 T.f_keys_of T.d_keys_of ["program"] (sp_keys_of) := by
  refine T.F_keys_of.ok sc_keys_of (fun vs H Q E h => ?_) (fun cdv A outer s H vs Q E hr h => ?_)
  · obtain ⟨v, ds, rfl, iv, hds, hn, kk⟩ := h; rfl
  · obtain ⟨v, ds, rfl, iv, hds, hn, kk⟩ := h
    have hu := hu_of hr
    refine ⟨_, (pss_cons (ps_set (i := 1) sc_keys_of.nd rfl (Or.inl rfl) (pe_lst pa_nil))
      (pss_cons (ps_for PassesOwn.never rfl (pi_tup (pv 0)) (pg_name (i := 2) sc_keys_of.nd rfl (Or.inl rfl))
      (pss_one (ps_if (pt_cmpR (op_notInDK (K := K) rfl (hu65 hr)) (pe_ix ix_tupH (pv 2) pe_int (fun _ _ => rfl)) (pv 1) (by rfl)) (pss_one (ps_expr (pe_bm PySem.F.plainAttrs_list PySem.F.slot_list_append PySem.F.type_list_append mt_append (pv 1) (pa_cons (pe_ix ix_tupH (pv 2) pe_int (fun _ _ => rfl)) pa_nil)))) pss_nil)))
      (pss_one (ps_ret (pv 1))))), ?_⟩
    obtain ⟨a, xs, rfl, ha, ix⟩ := im_tupE iv
    have hxl := ix.len
    simp only [cxOf, Cx.nox, Cx.wish, tSeq, tAsg, tC, gName, tIfS, tTest, tOp, tUn, rU, rI0, rI, tVar, tNext, tRet, tRetN, tDrop, tLst, tTup, tCons, tNil, tCB, tB, tOr, tAnd, tNot, tIf, tCall, tFor_eq, tLc_eq, iRng1, iRng2, iList, iTup, gTup, gCons, gNil, gSub, rSetL, rIxL, rIxT, rIxLH, rIxTH, rSlTS, rCatS, rTupS, rIsiH, rLenS, V.ty.injEq, tyS_non, tyS_bl, tyS_int, tyS_str, tyS_ref, tyO_l, tyO_t, tyO_d, tyO_dt, kit_ll, kit_tt, kit_bb, kit_ii, kit_ib, kit_bi, kit_nt, kit_it, kit_st, kit_bt, kit_lt, kit_dt, kit_ni, kit_si, kit_ti, kit_li, kit_di, kit_nb, kit_ns, kit_is, kit_bs, kit_ss, kit_ts, kit_ls, kit_ds, kit_dd, lenS_ref, lenO_l, lenO_t,  rAppend, tM1, rIxS, tSl, tPart, tNoPart, tBM, tBM0, tYes, rEq, rNe, L2.start, wipe, List.map_cons, List.map_nil, List.length_cons, List.length_nil, List.append_nil, Nat.reduceAdd, Nat.reduceSub, List.replicate_succ, List.replicate_zero, List.cons_append, List.nil_append, List.getElem?_cons_zero, List.getElem?_cons_succ, List.set_cons_zero, List.set_cons_succ, Option.some.injEq, V.int.injEq, V.ref.injEq, V.bl.injEq, V.str.injEq, List.cons.injEq, HO.lst.injEq, HO.tup.injEq, and_assoc, and_true, true_and, exists_eq_left, exists_eq_left', exists_and_left, exists_eq, reduceCtorEq, false_and, and_false, or_false, false_or, exists_false, decide_eq_true_eq, CPow, CDivW, Int.reducePow, Int.reduceLT, Int.reduceLE, Int.reduceNeg, Int.reduceToNat, Int.reduceAbs, Nat.reducePow, Nat.reduceLT, Nat.reduceLeDiff, sizeLine_eq, Int.reduceMul, Int.reduceAdd, Int.reduceSub, Bool.not_eq_true', decide_eq_false_iff_not, scal, Bool.not_true, Bool.not_false, Bool.true_eq_false, Bool.false_eq_true, ite_false, ite_true, if_true, if_false, ite_self, forall_const, atI0, atI1, atI2, atI3, ixN20, ixN21, upd_same, Int.zero_add, CMul, Int.reduceSub, Nat.le_refl, Nat.zero_le, or_true, true_or, exists_const, Int.sub_zero]
    intro l hl
    have hla : l ≠ a := (ne_of_none ha hl).symm
    refine ⟨⟨_, SqT.of (get_new hl ha)⟩, Loop.tup xs (fun i σ H' => ∃ (vs : List V) (b : Option V), σ = [some (.ref a), some (.ref l), b] ∧ H' l = some (.lst vs) ∧ ImAll H' (keysOf (ds.take i)) vs ∧ Same H H') ⟨[], none, rfl, upd_same, by simp only [List.take_zero]; exact im_nil, same_new hl⟩ ?_ ?_ ?_⟩
    · rintro i σ H2 hi ⟨vs, b, rfl, hl2, iv2, s2⟩
      exact SqT.of (s2 _ _ ha)
    · rintro i x σ H2 hx ⟨vs, b, rfl, hl2, iv2, s2⟩
      obtain ⟨d, hd, hsd, hid⟩ := imAll_mem (Same.ims s2 ix) hds hx
      obtain ⟨q, w, k, r, rfl, hq, ik⟩ := hsd.at hid
      have hkey := keysOf_keys (ds := ds.take i) fun d h => hds d (List.mem_of_mem_take h)
      have hlen := keysOf_len _ (ds.take i) rfl
      rw [List.length_take] at hlen
      have hvl := iv2.len
      simp only [cxOf, Cx.nox, Cx.wish, tSeq, tAsg, tC, gName, tIfS, tTest, tOp, tUn, rU, rI0, rI, tVar, tNext, tRet, tRetN, tDrop, tLst, tTup, tCons, tNil, tCB, tB, tOr, tAnd, tNot, tIf, tCall, tFor_eq, tLc_eq, iRng1, iRng2, iList, iTup, gTup, gCons, gNil, gSub, rSetL, rIxL, rIxT, rIxLH, rIxTH, rSlTS, rCatS, rTupS, rIsiH, rLenS, V.ty.injEq, tyS_non, tyS_bl, tyS_int, tyS_str, tyS_ref, tyO_l, tyO_t, tyO_d, tyO_dt, kit_ll, kit_tt, kit_bb, kit_ii, kit_ib, kit_bi, kit_nt, kit_it, kit_st, kit_bt, kit_lt, kit_dt, kit_ni, kit_si, kit_ti, kit_li, kit_di, kit_nb, kit_ns, kit_is, kit_bs, kit_ss, kit_ts, kit_ls, kit_ds, kit_dd, lenS_ref, lenO_l, lenO_t,  rAppend, tM1, rIxS, tSl, tPart, tNoPart, tBM, tBM0, tYes, rEq, rNe, L2.start, wipe, List.map_cons, List.map_nil, List.length_cons, List.length_nil, List.append_nil, Nat.reduceAdd, Nat.reduceSub, List.replicate_succ, List.replicate_zero, List.cons_append, List.nil_append, List.getElem?_cons_zero, List.getElem?_cons_succ, List.set_cons_zero, List.set_cons_succ, Option.some.injEq, V.int.injEq, V.ref.injEq, V.bl.injEq, V.str.injEq, List.cons.injEq, HO.lst.injEq, HO.tup.injEq, and_assoc, and_true, true_and, exists_eq_left, exists_eq_left', exists_and_left, exists_eq, reduceCtorEq, false_and, and_false, or_false, false_or, exists_false, decide_eq_true_eq, CPow, CDivW, Int.reducePow, Int.reduceLT, Int.reduceLE, Int.reduceNeg, Int.reduceToNat, Int.reduceAbs, Nat.reducePow, Nat.reduceLT, Nat.reduceLeDiff, sizeLine_eq, Int.reduceMul, Int.reduceAdd, Int.reduceSub, Bool.not_eq_true', decide_eq_false_iff_not, scal, Bool.not_true, Bool.not_false, Bool.true_eq_false, Bool.false_eq_true, ite_false, ite_true, if_true, if_false, ite_self, forall_const, atI0, atI1, atI2, atI3, ixN20, ixN21, upd_same, Int.zero_add, CMul, Int.reduceSub, Nat.le_refl, Nat.zero_le, or_true, true_or, exists_const, Int.sub_zero, hq, rNotInD, hl2]
      refine ⟨stepKey d, Im.dp _ _ ik, keysOf (ds.take i), .lst (SqL.of hl2) (ImAll.dp _ _ iv2), pl_shaped hsd.key.pl, pl_shaped (pl_list fun d h => (hkey d h).pl), ?_⟩
      rw [any_mem (fun d h => (hkey d h).pl) hsd.key.pl, take_snoc hd, keysOf_snoc]
      by_cases hm : stepKey d ∈ keysOf (ds.take i)
      · simp only [hm, decide_true, Bool.not_true, Bool.false_eq_true, if_false, if_true]
        exact ⟨iv2, s2⟩
      · simp only [hm, decide_false, Bool.not_false, if_false, if_true]
        exact ⟨tyL hl2, by omega, ims_app hl2 iv2 ik, fun b o e => get_ne (ne_of_none e hl) (s2 b o e)⟩
    · rintro σ H2 ⟨vs, b, rfl, hl2, iv2, s2⟩
      simp only [cxOf, Cx.nox, Cx.wish, tSeq, tAsg, tC, gName, tIfS, tTest, tOp, tUn, rU, rI0, rI, tVar, tNext, tRet, tRetN, tDrop, tLst, tTup, tCons, tNil, tCB, tB, tOr, tAnd, tNot, tIf, tCall, tFor_eq, tLc_eq, iRng1, iRng2, iList, iTup, gTup, gCons, gNil, gSub, rSetL, rIxL, rIxT, rIxLH, rIxTH, rSlTS, rCatS, rTupS, rIsiH, rLenS, V.ty.injEq, tyS_non, tyS_bl, tyS_int, tyS_str, tyS_ref, tyO_l, tyO_t, tyO_d, tyO_dt, kit_ll, kit_tt, kit_bb, kit_ii, kit_ib, kit_bi, kit_nt, kit_it, kit_st, kit_bt, kit_lt, kit_dt, kit_ni, kit_si, kit_ti, kit_li, kit_di, kit_nb, kit_ns, kit_is, kit_bs, kit_ss, kit_ts, kit_ls, kit_ds, kit_dd, lenS_ref, lenO_l, lenO_t,  rAppend, tM1, rIxS, tSl, tPart, tNoPart, tBM, tBM0, tYes, rEq, rNe, L2.start, wipe, List.map_cons, List.map_nil, List.length_cons, List.length_nil, List.append_nil, Nat.reduceAdd, Nat.reduceSub, List.replicate_succ, List.replicate_zero, List.cons_append, List.nil_append, List.getElem?_cons_zero, List.getElem?_cons_succ, List.set_cons_zero, List.set_cons_succ, Option.some.injEq, V.int.injEq, V.ref.injEq, V.bl.injEq, V.str.injEq, List.cons.injEq, HO.lst.injEq, HO.tup.injEq, and_assoc, and_true, true_and, exists_eq_left, exists_eq_left', exists_and_left, exists_eq, reduceCtorEq, false_and, and_false, or_false, false_or, exists_false, decide_eq_true_eq, CPow, CDivW, Int.reducePow, Int.reduceLT, Int.reduceLE, Int.reduceNeg, Int.reduceToNat, Int.reduceAbs, Nat.reducePow, Nat.reduceLT, Nat.reduceLeDiff, sizeLine_eq, Int.reduceMul, Int.reduceAdd, Int.reduceSub, Bool.not_eq_true', decide_eq_false_iff_not, scal, Bool.not_true, Bool.not_false, Bool.true_eq_false, Bool.false_eq_true, ite_false, ite_true, if_true, if_false, ite_self, forall_const, atI0, atI1, atI2, atI3, ixN20, ixN21, upd_same, Int.zero_add, CMul, Int.reduceSub, Nat.le_refl, Nat.zero_le, or_true, true_or, exists_const, Int.sub_zero]
      refine kk l vs H2 hl s2 hl2 ?_
      rw [hxl, List.take_length] at iv2
      exact iv2
def sp_law_stream : Sp := fun vs H Q _ => ∃ c k : Int, vs = [.int c, .int k] ∧ ∀ (p : Addr) (H' : Hp), H p = none → St2 H' p → Same H H' → (∀ b, b ≠ p → H' b = H b) → Q (.ref p) H'
theorem ok_law_stream (T : Txt K mg) : FnOk P w K mg base CX0 1 T.f_law_stream T.d_law_stream ["_law_cell", "_law_k"] (sp_law_stream) := by
  refine T.F_law_stream.ok sc_law_stream (fun vs H Q E h => ?_) (fun cdv A outer s H vs Q E hr h => ?_)
  · obtain ⟨c, k, rfl, kk⟩ := h; rfl
  · obtain ⟨c, k, rfl, kk⟩ := h
    have hu := hu_of hr
    refine ⟨_, (pss_cons (ps_set (i := 2) sc_law_stream.nd rfl (Or.inl rfl) pe_int)
      (pss_cons (ps_if (pt_cmpR op_ge (pv 0) (pe_op op_pow pe_int pe_int) (nomark _)) (pss_one (ps_set (i := 2) sc_law_stream.nd rfl (Or.inl rfl) (pv 0))) pss_nil)
      (pss_one (ps_ret (pe_lst (pa_cons (pv 2) (pa_cons (pe_op op_mod (pe_callTy call_int1 (by rfl) T.z_int (by decide +kernel) (pa_cons (pe_op op_add (pe_op op_add (pe_op op_mul (pv 0) pe_int) (pe_op op_mul (pv 1) pe_int)) pe_int) pa_nil)) pe_int) pa_nil))))))), ?_⟩
    simp only [cxOf, Cx.nox, Cx.wish, tSeq, tAsg, tC, gName, tIfS, tTest, tOp, tUn, rU, rI0, rI, tVar, tNext, tRet, tRetN, tDrop, tLst, tTup, tCons, tNil, tCB, tB, tOr, tAnd, tNot, tIf, tCall, tFor_eq, tLc_eq, iRng1, iRng2, iList, iTup, gTup, gCons, gNil, gSub, rSetL, rIxL, rIxT, rIxLH, rIxTH, rSlTS, rCatS, rTupS, rIsiH, rLenS, V.ty.injEq, tyS_non, tyS_bl, tyS_int, tyS_str, tyS_ref, tyO_l, tyO_t, tyO_d, tyO_dt, kit_ll, kit_tt, kit_bb, kit_ii, kit_ib, kit_bi, kit_nt, kit_it, kit_st, kit_bt, kit_lt, kit_dt, kit_ni, kit_si, kit_ti, kit_li, kit_di, kit_nb, kit_ns, kit_is, kit_bs, kit_ss, kit_ts, kit_ls, kit_ds, kit_dd, lenS_ref, lenO_l, lenO_t,  rAppend, tM1, rIxS, tSl, tPart, tNoPart, tBM, tBM0, tYes, rEq, rNe, L2.start, wipe, List.map_cons, List.map_nil, List.length_cons, List.length_nil, List.append_nil, Nat.reduceAdd, Nat.reduceSub, List.replicate_succ, List.replicate_zero, List.cons_append, List.nil_append, List.getElem?_cons_zero, List.getElem?_cons_succ, List.set_cons_zero, List.set_cons_succ, Option.some.injEq, V.int.injEq, V.ref.injEq, V.bl.injEq, V.str.injEq, List.cons.injEq, HO.lst.injEq, HO.tup.injEq, and_assoc, and_true, true_and, exists_eq_left, exists_eq_left', exists_and_left, exists_eq, reduceCtorEq, false_and, and_false, or_false, false_or, exists_false, decide_eq_true_eq, CPow, CDivW, Int.reducePow, Int.reduceLT, Int.reduceLE, Int.reduceNeg, Int.reduceToNat, Int.reduceAbs, Nat.reducePow, Nat.reduceLT, Nat.reduceLeDiff, sizeLine_eq, Int.reduceMul, Int.reduceAdd, Int.reduceSub, Bool.not_eq_true', decide_eq_false_iff_not, scal, Bool.not_true, Bool.not_false, Bool.true_eq_false, Bool.false_eq_true, ite_false, ite_true, if_true, if_false, ite_self, forall_const, atI0, atI1, atI2, atI3, ixN20, ixN21, upd_same, Int.zero_add, CMul, Int.reduceSub, Nat.le_refl, Nat.zero_le, or_true, true_or, exists_const, Int.sub_zero]
    split
    all_goals exact fun p hp => kk p _ hp ⟨_, _, upd_same⟩ (same_new hp) (fun b hb => upd_ne hb)
def sp_law_next : Sp := fun vs H Q _ => ∃ (p : Addr) (n : Int), vs = [.ref p, .int n] ∧ St2 H p ∧ 0 < n ∧ n ≤ 1000000000000000000 ∧ ∀ (v : Int) (H' : Hp), 0 ≤ v → v < n → Gn p H H' → Q (.int v) H'
theorem ok_law_next (T : Txt K mg) : FnOk P w K mg base CX0 1 T.f_law_next T.d_law_next ["_law_stream_here", "_law_size"] (sp_law_next) := by
  refine T.F_law_next.ok sc_law_next (fun vs H Q E h => ?_) (fun cdv A outer s H vs Q E hr h => ?_)
  · obtain ⟨p, n, rfl, ⟨d, r, hp⟩, n0, n1, kk⟩ := h; rfl
  · obtain ⟨p, n, rfl, ⟨d, r, hp⟩, n0, n1, kk⟩ := h
    have hu := hu_of hr
    refine ⟨_, (pss_cons (ps_if (pt_cmpR op_gt (pe_ix ix_listH (pv 0) pe_int (fun _ _ => rfl)) pe_int (nomark _)) (pss_cons (ps_set (i := 2) sc_law_next.nd rfl (Or.inl rfl) (pe_op op_mod (pe_callTy call_int1 (by rfl) T.z_int (by decide +kernel) (pa_cons (pe_ix ix_listH (pv 0) pe_int (fun _ _ => rfl)) pa_nil)) (pv 1)))
      (pss_cons (ps_asg (pe_op op_fdivW (pe_ix ix_listH (pv 0) pe_int (fun _ _ => rfl)) (pv 1)) (pg_sub (pv 0) pe_int set_list))
      (pss_one (ps_ret (pv 2))))) pss_nil)
      (pss_cons (ps_asg (pe_op op_mod (pe_callTy call_int1 (by rfl) T.z_int (by decide +kernel) (pa_cons (pe_op op_add (pe_op op_mul (pe_ix ix_listH (pv 0) pe_int (fun _ _ => rfl)) pe_int) pe_int) pa_nil)) pe_int) (pg_sub (pv 0) pe_int set_list))
      (pss_one (ps_ret (pe_op op_mod (pe_callTy call_int1 (by rfl) T.z_int (by decide +kernel) (pa_cons (pe_op op_fdivW (pe_op op_mod (pe_callTy call_int1 (by rfl) T.z_int (by decide +kernel) (pa_cons (pe_op op_add (pe_op op_mul (pe_ix ix_listH (pv 0) pe_int (fun _ _ => rfl)) pe_int) pe_int) pa_nil)) pe_int) pe_int) pa_nil)) (pv 1)))))), ?_⟩
    have hl : n.natAbs.log2 < 9000 := Nat.lt_of_lt_of_le (PySem.Flt.log2_lt_of (k := 64) (by decide) (by omega)) (by decide)
    simp only [cxOf, Cx.nox, Cx.wish, tSeq, tAsg, tC, gName, tIfS, tTest, tOp, tUn, rU, rI0, rI, tVar, tNext, tRet, tRetN, tDrop, tLst, tTup, tCons, tNil, tCB, tB, tOr, tAnd, tNot, tIf, tCall, tFor_eq, tLc_eq, iRng1, iRng2, iList, iTup, gTup, gCons, gNil, gSub, rSetL, rIxL, rIxT, rIxLH, rIxTH, rSlTS, rCatS, rTupS, rIsiH, rLenS, V.ty.injEq, tyS_non, tyS_bl, tyS_int, tyS_str, tyS_ref, tyO_l, tyO_t, tyO_d, tyO_dt, kit_ll, kit_tt, kit_bb, kit_ii, kit_ib, kit_bi, kit_nt, kit_it, kit_st, kit_bt, kit_lt, kit_dt, kit_ni, kit_si, kit_ti, kit_li, kit_di, kit_nb, kit_ns, kit_is, kit_bs, kit_ss, kit_ts, kit_ls, kit_ds, kit_dd, lenS_ref, lenO_l, lenO_t,  rAppend, tM1, rIxS, tSl, tPart, tNoPart, tBM, tBM0, tYes, rEq, rNe, L2.start, wipe, List.map_cons, List.map_nil, List.length_cons, List.length_nil, List.append_nil, Nat.reduceAdd, Nat.reduceSub, List.replicate_succ, List.replicate_zero, List.cons_append, List.nil_append, List.getElem?_cons_zero, List.getElem?_cons_succ, List.set_cons_zero, List.set_cons_succ, Option.some.injEq, V.int.injEq, V.ref.injEq, V.bl.injEq, V.str.injEq, List.cons.injEq, HO.lst.injEq, HO.tup.injEq, and_assoc, and_true, true_and, exists_eq_left, exists_eq_left', exists_and_left, exists_eq, reduceCtorEq, false_and, and_false, or_false, false_or, exists_false, decide_eq_true_eq, CPow, CDivW, Int.reducePow, Int.reduceLT, Int.reduceLE, Int.reduceNeg, Int.reduceToNat, Int.reduceAbs, Nat.reducePow, Nat.reduceLT, Nat.reduceLeDiff, sizeLine_eq, Int.reduceMul, Int.reduceAdd, Int.reduceSub, Bool.not_eq_true', decide_eq_false_iff_not, scal, Bool.not_true, Bool.not_false, Bool.true_eq_false, Bool.false_eq_true, ite_false, ite_true, if_true, if_false, ite_self, forall_const, atI0, atI1, atI2, atI3, ixN20, ixN21, upd_same, Int.zero_add, CMul, Int.reduceSub, Nat.le_refl, Nat.zero_le, or_true, true_or, exists_const, Int.sub_zero, hp]
    split
    · exact ⟨n0, n0, hl, kk _ _ (Int.emod_nonneg _ (by omega)) (Int.emod_lt_of_pos _ n0) (Gn.upd ⟨d, r, hp⟩)⟩
    · exact ⟨by decide, n0, kk _ _ (Int.emod_nonneg _ (by omega)) (Int.emod_lt_of_pos _ n0) (Gn.upd ⟨d, r, hp⟩)⟩
def sp_law_due : Sp := fun vs H Q _ => ∃ (v : V) (ds : List PyData), vs = [v] ∧ Im H (.tuple ds) v ∧ (∀ d ∈ ds, StepD d) ∧ ds.length ≤ 1000 ∧ ∀ (l : Addr) (ys : List V) (H' : Hp), H l = none → Same H H' → H' l = some (.lst ys) → ImAll H' (keysOf ds) ys → Q (.ref l) H'
theorem ok_law_due (T : Txt K mg) : FnOk P w K mg base CX0 1 T.f_law_due T.d_law_due ["_law_program_here"] (sp_law_due) := by
  refine T.F_law_due.ok sc_law_due (fun vs H Q E h => ?_) (fun cdv A outer s H vs Q E hr h => ?_)
  · obtain ⟨v, ds, rfl, iv, hds, hn, kk⟩ := h; rfl
  · obtain ⟨v, ds, rfl, iv, hds, hn, kk⟩ := h
    have hu := hu_of hr
    refine ⟨_, (pss_cons (ps_set (i := 1) sc_law_due.nd rfl (Or.inl rfl) (pe_lst pa_nil))
      (pss_cons (ps_for PassesOwn.never rfl (pi_range1 (by rfl) T.z_range (pa_cons (pe_callB call_lenS (by rfl) T.z_len (by decide +kernel) (pa_cons (pv 0) pa_nil)) pa_nil)) (pg_name (i := 2) sc_law_due.nd rfl (Or.inr rfl))
      (pss_one (ps_if (pt_cmpR op_eq (pe_callB call_lenS (by rfl) T.z_len (by decide +kernel) (pa_cons (pe_lc (own := [("_law_step_here", 3)]) (g := gName 3) rfl sc_law_due.nd (pi_tup (pe_slice sl_tupS (pv 0) po_none (po_some (pv 2)))) (blkOk_by (N := N_law_due) (sc := defScope s_law_due) (by decide +kernel)) (fun _ _ _ _ _ => (pg_name (i := 3) sc_law_due.nd rfl (Or.inl rfl))) (fun _ _ _ _ _ => (pts_one (pt_cmpR (op_eqDK (K := K) rfl hr.units) (pe_ix ix_tupH (pv 3) pe_int (fun _ _ => rfl)) (pe_ix ix_tupH (pe_ix ix_tupH (pv 0) (pv 2) (fun _ _ => rfl)) pe_int (fun _ _ => rfl)) (nomark _)))) (fun _ _ _ _ _ => (pv 3))) pa_nil)) pe_int (nomark _)) (pss_one (ps_expr (pe_bm PySem.F.plainAttrs_list PySem.F.slot_list_append PySem.F.type_list_append mt_append (pv 1) (pa_cons (pe_ix ix_tupH (pe_ix ix_tupH (pv 0) (pv 2) (fun _ _ => rfl)) pe_int (fun _ _ => rfl)) pa_nil)))) pss_nil)))
      (pss_one (ps_ret (pv 1))))), ?_⟩
    obtain ⟨a, xs, rfl, ha, ix⟩ := im_tupE iv
    have hxl := ix.len
    simp only [cxOf, Cx.nox, Cx.wish, tSeq, tAsg, tC, gName, tIfS, tTest, tOp, tUn, rU, rI0, rI, tVar, tNext, tRet, tRetN, tDrop, tLst, tTup, tCons, tNil, tCB, tB, tOr, tAnd, tNot, tIf, tCall, tFor_eq, tLc_eq, iRng1, iRng2, iList, iTup, gTup, gCons, gNil, gSub, rSetL, rIxL, rIxT, rIxLH, rIxTH, rSlTS, rCatS, rTupS, rIsiH, rLenS, V.ty.injEq, tyS_non, tyS_bl, tyS_int, tyS_str, tyS_ref, tyO_l, tyO_t, tyO_d, tyO_dt, kit_ll, kit_tt, kit_bb, kit_ii, kit_ib, kit_bi, kit_nt, kit_it, kit_st, kit_bt, kit_lt, kit_dt, kit_ni, kit_si, kit_ti, kit_li, kit_di, kit_nb, kit_ns, kit_is, kit_bs, kit_ss, kit_ts, kit_ls, kit_ds, kit_dd, lenS_ref, lenO_l, lenO_t,  rAppend, tM1, rIxS, tSl, tPart, tNoPart, tBM, tBM0, tYes, rEq, rNe, L2.start, wipe, List.map_cons, List.map_nil, List.length_cons, List.length_nil, List.append_nil, Nat.reduceAdd, Nat.reduceSub, List.replicate_succ, List.replicate_zero, List.cons_append, List.nil_append, List.getElem?_cons_zero, List.getElem?_cons_succ, List.set_cons_zero, List.set_cons_succ, Option.some.injEq, V.int.injEq, V.ref.injEq, V.bl.injEq, V.str.injEq, List.cons.injEq, HO.lst.injEq, HO.tup.injEq, and_assoc, and_true, true_and, exists_eq_left, exists_eq_left', exists_and_left, exists_eq, reduceCtorEq, false_and, and_false, or_false, false_or, exists_false, decide_eq_true_eq, CPow, CDivW, Int.reducePow, Int.reduceLT, Int.reduceLE, Int.reduceNeg, Int.reduceToNat, Int.reduceAbs, Nat.reducePow, Nat.reduceLT, Nat.reduceLeDiff, sizeLine_eq, Int.reduceMul, Int.reduceAdd, Int.reduceSub, Bool.not_eq_true', decide_eq_false_iff_not, scal, Bool.not_true, Bool.not_false, Bool.true_eq_false, Bool.false_eq_true, ite_false, ite_true, if_true, if_false, ite_self, forall_const, atI0, atI1, atI2, atI3, ixN20, ixN21, upd_same, Int.zero_add, CMul, Int.reduceSub, Nat.le_refl, Nat.zero_le, or_true, true_or, exists_const, Int.sub_zero]
    intro l hl
    have hla : l ≠ a := (ne_of_none ha hl).symm
    simp only [cxOf, Cx.nox, Cx.wish, tSeq, tAsg, tC, gName, tIfS, tTest, tOp, tUn, rU, rI0, rI, tVar, tNext, tRet, tRetN, tDrop, tLst, tTup, tCons, tNil, tCB, tB, tOr, tAnd, tNot, tIf, tCall, tFor_eq, tLc_eq, iRng1, iRng2, iList, iTup, gTup, gCons, gNil, gSub, rSetL, rIxL, rIxT, rIxLH, rIxTH, rSlTS, rCatS, rTupS, rIsiH, rLenS, V.ty.injEq, tyS_non, tyS_bl, tyS_int, tyS_str, tyS_ref, tyO_l, tyO_t, tyO_d, tyO_dt, kit_ll, kit_tt, kit_bb, kit_ii, kit_ib, kit_bi, kit_nt, kit_it, kit_st, kit_bt, kit_lt, kit_dt, kit_ni, kit_si, kit_ti, kit_li, kit_di, kit_nb, kit_ns, kit_is, kit_bs, kit_ss, kit_ts, kit_ls, kit_ds, kit_dd, lenS_ref, lenO_l, lenO_t,  rAppend, tM1, rIxS, tSl, tPart, tNoPart, tBM, tBM0, tYes, rEq, rNe, L2.start, wipe, List.map_cons, List.map_nil, List.length_cons, List.length_nil, List.append_nil, Nat.reduceAdd, Nat.reduceSub, List.replicate_succ, List.replicate_zero, List.cons_append, List.nil_append, List.getElem?_cons_zero, List.getElem?_cons_succ, List.set_cons_zero, List.set_cons_succ, Option.some.injEq, V.int.injEq, V.ref.injEq, V.bl.injEq, V.str.injEq, List.cons.injEq, HO.lst.injEq, HO.tup.injEq, and_assoc, and_true, true_and, exists_eq_left, exists_eq_left', exists_and_left, exists_eq, reduceCtorEq, false_and, and_false, or_false, false_or, exists_false, decide_eq_true_eq, CPow, CDivW, Int.reducePow, Int.reduceLT, Int.reduceLE, Int.reduceNeg, Int.reduceToNat, Int.reduceAbs, Nat.reducePow, Nat.reduceLT, Nat.reduceLeDiff, sizeLine_eq, Int.reduceMul, Int.reduceAdd, Int.reduceSub, Bool.not_eq_true', decide_eq_false_iff_not, scal, Bool.not_true, Bool.not_false, Bool.true_eq_false, Bool.false_eq_true, ite_false, ite_true, if_true, if_false, ite_self, forall_const, atI0, atI1, atI2, atI3, ixN20, ixN21, upd_same, Int.zero_add, CMul, Int.reduceSub, Nat.le_refl, Nat.zero_le, or_true, true_or, exists_const, Int.sub_zero, get_new (o := .lst []) hl ha]
    refine ⟨by omega, by omega, Loop.range (fun i σ H' => ∃ (vs : List V) (b c : Option V), σ = [some (.ref a), some (.ref l), b, c] ∧ H' l = some (.lst vs) ∧ ImAll H' (keysOf (ds.take i)) vs ∧ Same H H') ⟨[], none, none, rfl, upd_same, by simp only [List.take_zero]; exact im_nil, same_new hl⟩ ?_ ?_⟩
    · rintro i σ H2 hi ⟨vs, b, c, rfl, hl2, iv2, s2⟩
      have hi' : i < xs.length := by omega
      have hx : xs[i]? = some xs[i] := by simp [hi']
      obtain ⟨d, hd, hsd, hid⟩ := imAll_mem (Same.ims s2 ix) hds hx
      obtain ⟨q, w, k, r, eq, hq, ik⟩ := hsd.at hid
      rw [eq] at hx
      have hlen := keysOf_len _ (ds.take i) rfl
      rw [List.length_take] at hlen
      have hvl := iv2.len
      have ha2 := s2 _ _ ha
      have hix : atI xs (i : Int) = some (.ref q) := atI_nat hx
      simp only [cxOf, Cx.nox, Cx.wish, tSeq, tAsg, tC, gName, tIfS, tTest, tOp, tUn, rU, rI0, rI, tVar, tNext, tRet, tRetN, tDrop, tLst, tTup, tCons, tNil, tCB, tB, tOr, tAnd, tNot, tIf, tCall, tFor_eq, tLc_eq, iRng1, iRng2, iList, iTup, gTup, gCons, gNil, gSub, rSetL, rIxL, rIxT, rIxLH, rIxTH, rSlTS, rCatS, rTupS, rIsiH, rLenS, V.ty.injEq, tyS_non, tyS_bl, tyS_int, tyS_str, tyS_ref, tyO_l, tyO_t, tyO_d, tyO_dt, kit_ll, kit_tt, kit_bb, kit_ii, kit_ib, kit_bi, kit_nt, kit_it, kit_st, kit_bt, kit_lt, kit_dt, kit_ni, kit_si, kit_ti, kit_li, kit_di, kit_nb, kit_ns, kit_is, kit_bs, kit_ss, kit_ts, kit_ls, kit_ds, kit_dd, lenS_ref, lenO_l, lenO_t,  rAppend, tM1, rIxS, tSl, tPart, tNoPart, tBM, tBM0, tYes, rEq, rNe, L2.start, wipe, List.map_cons, List.map_nil, List.length_cons, List.length_nil, List.append_nil, Nat.reduceAdd, Nat.reduceSub, List.replicate_succ, List.replicate_zero, List.cons_append, List.nil_append, List.getElem?_cons_zero, List.getElem?_cons_succ, List.set_cons_zero, List.set_cons_succ, Option.some.injEq, V.int.injEq, V.ref.injEq, V.bl.injEq, V.str.injEq, List.cons.injEq, HO.lst.injEq, HO.tup.injEq, and_assoc, and_true, true_and, exists_eq_left, exists_eq_left', exists_and_left, exists_eq, reduceCtorEq, false_and, and_false, or_false, false_or, exists_false, decide_eq_true_eq, CPow, CDivW, Int.reducePow, Int.reduceLT, Int.reduceLE, Int.reduceNeg, Int.reduceToNat, Int.reduceAbs, Nat.reducePow, Nat.reduceLT, Nat.reduceLeDiff, sizeLine_eq, Int.reduceMul, Int.reduceAdd, Int.reduceSub, Bool.not_eq_true', decide_eq_false_iff_not, scal, Bool.not_true, Bool.not_false, Bool.true_eq_false, Bool.false_eq_true, ite_false, ite_true, if_true, if_false, ite_self, forall_const, atI0, atI1, atI2, atI3, ixN20, ixN21, upd_same, Int.zero_add, CMul, Int.reduceSub, Nat.le_refl, Nat.zero_le, or_true, true_or, exists_const, Int.sub_zero, ha2]
      intro t H3 s3 ht
      rw [cutV_to] at ht
      refine ⟨⟨_, SqT.of ht⟩, fun D hD => Lcl.tup (xs.take i) (fun j H' => ∃ acc : List V, H' D = some (.lst acc) ∧ acc.length ≤ j ∧ (acc.length = 0 ↔ ¬ ∃ e ∈ (ds.take i).take j, stepKey e = stepKey d) ∧ Same H3 H') ⟨[], upd_same, Nat.le_refl _, by simp, same_new hD⟩ ?_ ?_ ?_⟩
      · rintro j H4 hj ⟨acc, h1, h2, h3, s4⟩
        exact SqT.of (s4 _ _ ht)
      · rintro j x H4 hj ⟨acc, h1, h2, h3, s4⟩
        have iw : ImAll H4 (ds.take i) (xs.take i) := Same.ims s4 (Same.ims s3 ((Same.ims s2 ix).take i))
        obtain ⟨e, he, hse, hie⟩ := imAll_mem iw (fun d h => hds d (List.mem_of_mem_take h)) hj
        obtain ⟨q', w', k', r', rfl, hq', ik'⟩ := hse.at hie
        have ha4 := s4 _ _ (s3 _ _ ha2)
        have hq4 := s4 _ _ (s3 _ _ hq)
        have hj' := (List.getElem?_eq_some_iff.mp hj).1
        rw [List.length_take] at hj'
        simp only [cxOf, Cx.nox, Cx.wish, tSeq, tAsg, tC, gName, tIfS, tTest, tOp, tUn, rU, rI0, rI, tVar, tNext, tRet, tRetN, tDrop, tLst, tTup, tCons, tNil, tCB, tB, tOr, tAnd, tNot, tIf, tCall, tFor_eq, tLc_eq, iRng1, iRng2, iList, iTup, gTup, gCons, gNil, gSub, rSetL, rIxL, rIxT, rIxLH, rIxTH, rSlTS, rCatS, rTupS, rIsiH, rLenS, V.ty.injEq, tyS_non, tyS_bl, tyS_int, tyS_str, tyS_ref, tyO_l, tyO_t, tyO_d, tyO_dt, kit_ll, kit_tt, kit_bb, kit_ii, kit_ib, kit_bi, kit_nt, kit_it, kit_st, kit_bt, kit_lt, kit_dt, kit_ni, kit_si, kit_ti, kit_li, kit_di, kit_nb, kit_ns, kit_is, kit_bs, kit_ss, kit_ts, kit_ls, kit_ds, kit_dd, lenS_ref, lenO_l, lenO_t,  rAppend, tM1, rIxS, tSl, tPart, tNoPart, tBM, tBM0, tYes, rEq, rNe, L2.start, wipe, List.map_cons, List.map_nil, List.length_cons, List.length_nil, List.append_nil, Nat.reduceAdd, Nat.reduceSub, List.replicate_succ, List.replicate_zero, List.cons_append, List.nil_append, List.getElem?_cons_zero, List.getElem?_cons_succ, List.set_cons_zero, List.set_cons_succ, Option.some.injEq, V.int.injEq, V.ref.injEq, V.bl.injEq, V.str.injEq, List.cons.injEq, HO.lst.injEq, HO.tup.injEq, and_assoc, and_true, true_and, exists_eq_left, exists_eq_left', exists_and_left, exists_eq, reduceCtorEq, false_and, and_false, or_false, false_or, exists_false, decide_eq_true_eq, CPow, CDivW, Int.reducePow, Int.reduceLT, Int.reduceLE, Int.reduceNeg, Int.reduceToNat, Int.reduceAbs, Nat.reducePow, Nat.reduceLT, Nat.reduceLeDiff, sizeLine_eq, Int.reduceMul, Int.reduceAdd, Int.reduceSub, Bool.not_eq_true', decide_eq_false_iff_not, scal, Bool.not_true, Bool.not_false, Bool.true_eq_false, Bool.false_eq_true, ite_false, ite_true, if_true, if_false, ite_self, forall_const, atI0, atI1, atI2, atI3, ixN20, ixN21, upd_same, Int.zero_add, CMul, Int.reduceSub, Nat.le_refl, Nat.zero_le, or_true, true_or, exists_const, Int.sub_zero, hq', ha4, hix, hq4, rEqD]
        refine ⟨_, Im.dp _ _ ik', _, Im.dp _ _ (Same.im s4 (Same.im s3 ik)), pl_shaped hse.key.pl, pl_shaped hsd.key.pl, ?_⟩
        rw [pl_eqv_dec hse.key.pl hsd.key.pl]
        simp only [ex_take he]
        by_cases hm : stepKey e = stepKey d
        · simp only [hm, decide_true, if_true, or_true, not_true]
          refine ⟨acc, h1, by omega, by simp; omega, by simp, fun b o e => get_ne (ne_of_none e hD) (s4 b o e)⟩
        · simp only [hm, decide_false, Bool.false_eq_true, if_false, or_false]
          exact ⟨acc, h1, by omega, h3, s4⟩
      · rintro H4 ⟨acc, h1, h2, h3, s4⟩
        have ha4 := s4 _ _ (s3 _ _ ha2)
        have hq4 := s4 _ _ (s3 _ _ hq)
        have hl4 := s4 _ _ (s3 _ _ hl2)
        have iv4 := Same.ims s4 (Same.ims s3 iv2)
        have ik4 := Same.im s4 (Same.im s3 ik)
        have sH4 : Same H H4 := (s2.trans s3).trans s4
        rw [List.length_take] at h3
        have hmin : (ds.take i).take (min i xs.length) = ds.take i := by rw [List.take_take]; congr 1; omega
        rw [hmin] at h3
        simp only [cxOf, Cx.nox, Cx.wish, tSeq, tAsg, tC, gName, tIfS, tTest, tOp, tUn, rU, rI0, rI, tVar, tNext, tRet, tRetN, tDrop, tLst, tTup, tCons, tNil, tCB, tB, tOr, tAnd, tNot, tIf, tCall, tFor_eq, tLc_eq, iRng1, iRng2, iList, iTup, gTup, gCons, gNil, gSub, rSetL, rIxL, rIxT, rIxLH, rIxTH, rSlTS, rCatS, rTupS, rIsiH, rLenS, V.ty.injEq, tyS_non, tyS_bl, tyS_int, tyS_str, tyS_ref, tyO_l, tyO_t, tyO_d, tyO_dt, kit_ll, kit_tt, kit_bb, kit_ii, kit_ib, kit_bi, kit_nt, kit_it, kit_st, kit_bt, kit_lt, kit_dt, kit_ni, kit_si, kit_ti, kit_li, kit_di, kit_nb, kit_ns, kit_is, kit_bs, kit_ss, kit_ts, kit_ls, kit_ds, kit_dd, lenS_ref, lenO_l, lenO_t,  rAppend, tM1, rIxS, tSl, tPart, tNoPart, tBM, tBM0, tYes, rEq, rNe, L2.start, wipe, List.map_cons, List.map_nil, List.length_cons, List.length_nil, List.append_nil, Nat.reduceAdd, Nat.reduceSub, List.replicate_succ, List.replicate_zero, List.cons_append, List.nil_append, List.getElem?_cons_zero, List.getElem?_cons_succ, List.set_cons_zero, List.set_cons_succ, Option.some.injEq, V.int.injEq, V.ref.injEq, V.bl.injEq, V.str.injEq, List.cons.injEq, HO.lst.injEq, HO.tup.injEq, and_assoc, and_true, true_and, exists_eq_left, exists_eq_left', exists_and_left, exists_eq, reduceCtorEq, false_and, and_false, or_false, false_or, exists_false, decide_eq_true_eq, CPow, CDivW, Int.reducePow, Int.reduceLT, Int.reduceLE, Int.reduceNeg, Int.reduceToNat, Int.reduceAbs, Nat.reducePow, Nat.reduceLT, Nat.reduceLeDiff, sizeLine_eq, Int.reduceMul, Int.reduceAdd, Int.reduceSub, Bool.not_eq_true', decide_eq_false_iff_not, scal, Bool.not_true, Bool.not_false, Bool.true_eq_false, Bool.false_eq_true, ite_false, ite_true, if_true, if_false, ite_self, forall_const, atI0, atI1, atI2, atI3, ixN20, ixN21, upd_same, Int.zero_add, CMul, Int.reduceSub, Nat.le_refl, Nat.zero_le, or_true, true_or, exists_const, Int.sub_zero, h1, ha4, hix, hq4, hl4]
        by_cases hm : ∃ e ∈ ds.take i, stepKey e = stepKey d
        · have hn0 : ¬ ((acc.length : Int) = 0) := by
            intro z
            exact (h3.mp (by omega)) hm
          rw [if_neg hn0, take_snoc hd, keysOf_snoc, if_pos ((keysOf_mem _ _ rfl _).mpr hm)]
          exact ⟨iv4, sH4⟩
        · have hn0 : (acc.length : Int) = 0 := by
            have := h3.mpr hm
            omega
          rw [if_pos hn0, take_snoc hd, keysOf_snoc, if_neg (fun z => hm ((keysOf_mem _ _ rfl _).mp z))]
          exact ⟨tyL hl4, by omega, ims_app hl4 iv4 ik4, fun b o e => get_ne (ne_of_none e hl) (sH4 b o e)⟩
    · rintro σ H2 ⟨vs, b, c, rfl, hl2, iv2, s2⟩
      simp only [cxOf, Cx.nox, Cx.wish, tSeq, tAsg, tC, gName, tIfS, tTest, tOp, tUn, rU, rI0, rI, tVar, tNext, tRet, tRetN, tDrop, tLst, tTup, tCons, tNil, tCB, tB, tOr, tAnd, tNot, tIf, tCall, tFor_eq, tLc_eq, iRng1, iRng2, iList, iTup, gTup, gCons, gNil, gSub, rSetL, rIxL, rIxT, rIxLH, rIxTH, rSlTS, rCatS, rTupS, rIsiH, rLenS, V.ty.injEq, tyS_non, tyS_bl, tyS_int, tyS_str, tyS_ref, tyO_l, tyO_t, tyO_d, tyO_dt, kit_ll, kit_tt, kit_bb, kit_ii, kit_ib, kit_bi, kit_nt, kit_it, kit_st, kit_bt, kit_lt, kit_dt, kit_ni, kit_si, kit_ti, kit_li, kit_di, kit_nb, kit_ns, kit_is, kit_bs, kit_ss, kit_ts, kit_ls, kit_ds, kit_dd, lenS_ref, lenO_l, lenO_t,  rAppend, tM1, rIxS, tSl, tPart, tNoPart, tBM, tBM0, tYes, rEq, rNe, L2.start, wipe, List.map_cons, List.map_nil, List.length_cons, List.length_nil, List.append_nil, Nat.reduceAdd, Nat.reduceSub, List.replicate_succ, List.replicate_zero, List.cons_append, List.nil_append, List.getElem?_cons_zero, List.getElem?_cons_succ, List.set_cons_zero, List.set_cons_succ, Option.some.injEq, V.int.injEq, V.ref.injEq, V.bl.injEq, V.str.injEq, List.cons.injEq, HO.lst.injEq, HO.tup.injEq, and_assoc, and_true, true_and, exists_eq_left, exists_eq_left', exists_and_left, exists_eq, reduceCtorEq, false_and, and_false, or_false, false_or, exists_false, decide_eq_true_eq, CPow, CDivW, Int.reducePow, Int.reduceLT, Int.reduceLE, Int.reduceNeg, Int.reduceToNat, Int.reduceAbs, Nat.reducePow, Nat.reduceLT, Nat.reduceLeDiff, sizeLine_eq, Int.reduceMul, Int.reduceAdd, Int.reduceSub, Bool.not_eq_true', decide_eq_false_iff_not, scal, Bool.not_true, Bool.not_false, Bool.true_eq_false, Bool.false_eq_true, ite_false, ite_true, if_true, if_false, ite_self, forall_const, atI0, atI1, atI2, atI3, ixN20, ixN21, upd_same, Int.zero_add, CMul, Int.reduceSub, Nat.le_refl, Nat.zero_le, or_true, true_or, exists_const, Int.sub_zero]
      refine kk l vs H2 hl s2 hl2 ?_
      rw [Int.toNat_natCast, hxl, List.take_length] at iv2
      exact iv2
def sp_law_number : Sp := fun vs H Q _ => ∃ (p : Addr), vs = [.ref p] ∧ St2 H p ∧ ∀ (v : Int) (H' : Hp), 0 ≤ v → v ≤ 1000000000000 → Gn p H H' → Q (.int v) H'
theorem ok_law_number (T : Txt K mg) : FnOk P w K mg base CX0 2 T.f_law_number T.d_law_number ["_law_stream_here"] (sp_law_number) := by
  refine T.F_law_number.ok sc_law_number (fun vs H Q E h => ?_) (fun cdv A outer s H vs Q E hr h => ?_)
  · obtain ⟨p, rfl, hp, kk⟩ := h; rfl
  · obtain ⟨p, rfl, hp, kk⟩ := h
    have hu := hu_of hr
    refine ⟨_, (pss_cons (ps_set (i := 1) sc_law_number.nd rfl (Or.inl rfl) (pe_call (ok_law_next T) (hr.mono (by decide)) rfl T.g_law_next T.F_law_next.kp T.b_law_next .nil pass0 (pa_cons (pv 0) (pa_cons pe_int pa_nil))))
      (pss_cons (ps_if (pt_cmpR op_eq (pv 1) pe_int (nomark _)) (pss_one (ps_ret (pe_op op_sub (pe_op op_pow pe_int pe_int) (pe_call (ok_law_next T) (hr.mono (by decide)) rfl T.g_law_next T.F_law_next.kp T.b_law_next .nil pass0 (pa_cons (pv 0) (pa_cons pe_int pa_nil)))))) pss_nil)
      (pss_cons (ps_if (pt_cmpR op_eq (pv 1) pe_int (nomark _)) (pss_one (ps_ret (pe_op op_add (pe_op op_mul (pe_call (ok_law_next T) (hr.mono (by decide)) rfl T.g_law_next T.F_law_next.kp T.b_law_next .nil pass0 (pa_cons (pv 0) (pa_cons (pe_op op_pow pe_int pe_int) pa_nil))) (pe_op op_pow pe_int pe_int)) (pe_call (ok_law_next T) (hr.mono (by decide)) rfl T.g_law_next T.F_law_next.kp T.b_law_next .nil pass0 (pa_cons (pv 0) (pa_cons (pe_op op_pow pe_int pe_int) pa_nil)))))) pss_nil)
      (pss_one (ps_ret (pe_call (ok_law_next T) (hr.mono (by decide)) rfl T.g_law_next T.F_law_next.kp T.b_law_next .nil pass0 (pa_cons (pv 0) (pa_cons pe_int pa_nil)))))))), ?_⟩
    simp only [cxOf, Cx.nox, Cx.wish, tSeq, tAsg, tC, gName, tIfS, tTest, tOp, tUn, rU, rI0, rI, tVar, tNext, tRet, tRetN, tDrop, tLst, tTup, tCons, tNil, tCB, tB, tOr, tAnd, tNot, tIf, tCall, tFor_eq, tLc_eq, iRng1, iRng2, iList, iTup, gTup, gCons, gNil, gSub, rSetL, rIxL, rIxT, rIxLH, rIxTH, rSlTS, rCatS, rTupS, rIsiH, rLenS, V.ty.injEq, tyS_non, tyS_bl, tyS_int, tyS_str, tyS_ref, tyO_l, tyO_t, tyO_d, tyO_dt, kit_ll, kit_tt, kit_bb, kit_ii, kit_ib, kit_bi, kit_nt, kit_it, kit_st, kit_bt, kit_lt, kit_dt, kit_ni, kit_si, kit_ti, kit_li, kit_di, kit_nb, kit_ns, kit_is, kit_bs, kit_ss, kit_ts, kit_ls, kit_ds, kit_dd, lenS_ref, lenO_l, lenO_t,  rAppend, tM1, rIxS, tSl, tPart, tNoPart, tBM, tBM0, tYes, rEq, rNe, L2.start, wipe, List.map_cons, List.map_nil, List.length_cons, List.length_nil, List.append_nil, Nat.reduceAdd, Nat.reduceSub, List.replicate_succ, List.replicate_zero, List.cons_append, List.nil_append, List.getElem?_cons_zero, List.getElem?_cons_succ, List.set_cons_zero, List.set_cons_succ, Option.some.injEq, V.int.injEq, V.ref.injEq, V.bl.injEq, V.str.injEq, List.cons.injEq, HO.lst.injEq, HO.tup.injEq, and_assoc, and_true, true_and, exists_eq_left, exists_eq_left', exists_and_left, exists_eq, reduceCtorEq, false_and, and_false, or_false, false_or, exists_false, decide_eq_true_eq, CPow, CDivW, Int.reducePow, Int.reduceLT, Int.reduceLE, Int.reduceNeg, Int.reduceToNat, Int.reduceAbs, Nat.reducePow, Nat.reduceLT, Nat.reduceLeDiff, sizeLine_eq, Int.reduceMul, Int.reduceAdd, Int.reduceSub, Bool.not_eq_true', decide_eq_false_iff_not, scal, Bool.not_true, Bool.not_false, Bool.true_eq_false, Bool.false_eq_true, ite_false, ite_true, if_true, if_false, ite_self, forall_const, atI0, atI1, atI2, atI3, ixN20, ixN21, upd_same, Int.zero_add, CMul, Int.reduceSub, Nat.le_refl, Nat.zero_le, or_true, true_or, exists_const, Int.sub_zero, sp_law_next]
    refine ⟨hp, fun v H1 h0 h1 g1 => ?_⟩
    split
    · refine ⟨g1.st, fun u H2 i0 i1 g2 => ?_⟩
      exact kk _ _ (by omega) (by omega) (g1.trans g2)
    · split
      · refine ⟨g1.st, fun u H2 i0 i1 g2 => ⟨g2.st, fun t H3 j0 j1 g3 => ?_⟩⟩
        exact kk _ _ (by omega) (by omega) ((g1.trans g2).trans g3)
      · refine ⟨g1.st, fun u H2 i0 i1 g2 => ?_⟩
        exact kk _ _ (by omega) (by omega) (g1.trans g2)
def sp_law_name : Sp := fun vs H Q _ => ∃ (p : Addr), vs = [.ref p] ∧ St2 H p ∧ ∀ (x : Str) (H' : Hp), NameD x → Gn p H H' → Q (.str x) H'
theorem ok_law_name (T : Txt K mg) : FnOk P w K mg base CX0 2 T.f_law_name T.d_law_name ["_law_stream_here"] (sp_law_name) := by
  refine T.F_law_name.ok sc_law_name (fun vs H Q E h => ?_) (fun cdv A outer s H vs Q E hr h => ?_)
  · obtain ⟨p, rfl, hp, kk⟩ := h; rfl
  · obtain ⟨p, rfl, hp, kk⟩ := h
    have hu := hu_of hr
    refine ⟨_, (pss_cons (ps_set (i := 1) sc_law_name.nd rfl (Or.inr rfl) pe_str)
      (pss_cons (ps_if (pt_cmpR op_eq (pe_call (ok_law_next T) (hr.mono (by decide)) rfl T.g_law_next T.F_law_next.kp T.b_law_next .nil pass0 (pa_cons (pv 0) (pa_cons pe_int pa_nil))) pe_int (nomark _)) (pss_one (ps_ret (pe_ix ix_tupH (pe_tup (pa_cons pe_str (pa_cons pe_str (pa_cons pe_str (pa_cons pe_str pa_nil))))) (pe_call (ok_law_next T) (hr.mono (by decide)) rfl T.g_law_next T.F_law_next.kp T.b_law_next .nil pass0 (pa_cons (pv 0) (pa_cons pe_int pa_nil))) (fun _ _ => rfl)))) pss_nil)
      (pss_one (ps_ret (pe_join pe_str (pe_lc (own := [("_law_k", 2)]) (g := gName 2) (tt := tYes) rfl sc_law_name.nd (pi_range1 (by rfl) T.z_range (pa_cons (pe_op op_add pe_int (pe_call (ok_law_next T) (hr.mono (by decide)) rfl T.g_law_next T.F_law_next.kp T.b_law_next .nil pass0 (pa_cons (pv 0) (pa_cons pe_int pa_nil)))) pa_nil)) (blkOk_by (N := N_law_name) (sc := defScope s_law_name) (by decide +kernel)) (fun _ _ _ _ _ => (pg_name (i := 2) sc_law_name.nd rfl (Or.inl rfl))) (fun _ _ _ _ _ => pts_nil) (fun _ _ _ _ _ => (pe_ix ix_str (pv 1) (pe_call (ok_law_next T) (hr.mono (by decide)) rfl T.g_law_next T.F_law_next.kp T.b_law_next .nil pass0 (pa_cons (pv 0) (pa_cons pe_int pa_nil))) (fun _ _ => rfl))))))))), ?_⟩
    simp only [cxOf, Cx.nox, Cx.wish, tSeq, tAsg, tC, gName, tIfS, tTest, tOp, tUn, rU, rI0, rI, tVar, tNext, tRet, tRetN, tDrop, tLst, tTup, tCons, tNil, tCB, tB, tOr, tAnd, tNot, tIf, tCall, tFor_eq, tLc_eq, iRng1, iRng2, iList, iTup, gTup, gCons, gNil, gSub, rSetL, rIxL, rIxT, rIxLH, rIxTH, rSlTS, rCatS, rTupS, rIsiH, rLenS, V.ty.injEq, tyS_non, tyS_bl, tyS_int, tyS_str, tyS_ref, tyO_l, tyO_t, tyO_d, tyO_dt, kit_ll, kit_tt, kit_bb, kit_ii, kit_ib, kit_bi, kit_nt, kit_it, kit_st, kit_bt, kit_lt, kit_dt, kit_ni, kit_si, kit_ti, kit_li, kit_di, kit_nb, kit_ns, kit_is, kit_bs, kit_ss, kit_ts, kit_ls, kit_ds, kit_dd, lenS_ref, lenO_l, lenO_t,  rAppend, tM1, rIxS, tSl, tPart, tNoPart, tBM, tBM0, tYes, rEq, rNe, L2.start, wipe, List.map_cons, List.map_nil, List.length_cons, List.length_nil, List.append_nil, Nat.reduceAdd, Nat.reduceSub, List.replicate_succ, List.replicate_zero, List.cons_append, List.nil_append, List.getElem?_cons_zero, List.getElem?_cons_succ, List.set_cons_zero, List.set_cons_succ, Option.some.injEq, V.int.injEq, V.ref.injEq, V.bl.injEq, V.str.injEq, List.cons.injEq, HO.lst.injEq, HO.tup.injEq, and_assoc, and_true, true_and, exists_eq_left, exists_eq_left', exists_and_left, exists_eq, reduceCtorEq, false_and, and_false, or_false, false_or, exists_false, decide_eq_true_eq, CPow, CDivW, Int.reducePow, Int.reduceLT, Int.reduceLE, Int.reduceNeg, Int.reduceToNat, Int.reduceAbs, Nat.reducePow, Nat.reduceLT, Nat.reduceLeDiff, sizeLine_eq, Int.reduceMul, Int.reduceAdd, Int.reduceSub, Bool.not_eq_true', decide_eq_false_iff_not, scal, Bool.not_true, Bool.not_false, Bool.true_eq_false, Bool.false_eq_true, ite_false, ite_true, if_true, if_false, ite_self, forall_const, atI0, atI1, atI2, atI3, ixN20, ixN21, upd_same, Int.zero_add, CMul, Int.reduceSub, Nat.le_refl, Nat.zero_le, or_true, true_or, exists_const, Int.sub_zero, sp_law_next]
    refine ⟨hp, fun v H1 h0 h1 g1 => ?_⟩
    split
    · intro q hq
      refine ⟨g1.st.new hq, fun i H2 i0 i1 g2 => ?_⟩
      have ht := g2.but q _ upd_same (St2.nn g1.st hq)
      obtain ⟨x, hx, hm⟩ := atI_mem (xs := [V.str (Str.ofString "a"), V.str (Str.ofString "b"), V.str (Str.ofString "ab"), V.str (Str.ofString "zz")]) i0 (by simpa using i1)
      refine ⟨_, ht, x, hx, ?_⟩
      simp only [List.mem_cons, List.not_mem_nil, or_false] at hm
      rcases hm with rfl | rfl | rfl | rfl
      all_goals exact kk _ _ (nameD_by (by decide +kernel)) ((g1.new hq).trans g2)
    · refine ⟨⟨_, rfl⟩, g1.st, fun n H2 n0 n1 g2 => ⟨by omega, by omega, fun D hD => ?_⟩⟩
      refine Lcl.range (fun j H' => ∃ ys : List Str, H' D = some (.lst (ys.map V.str)) ∧ ys.length = j ∧ (∀ y ∈ ys, y.length = 1 ∧ ∀ c ∈ y.cps.toList, 97 ≤ c ∧ c ≤ 122) ∧ Gn p H2 H') ⟨[], upd_same, rfl, by simp, (Gn.refl g2.st).new hD⟩ ?_ ?_
      · rintro j H3 hj ⟨ys, hl, hn, hy, g3⟩
        simp only [cxOf, Cx.nox, Cx.wish, tSeq, tAsg, tC, gName, tIfS, tTest, tOp, tUn, rU, rI0, rI, tVar, tNext, tRet, tRetN, tDrop, tLst, tTup, tCons, tNil, tCB, tB, tOr, tAnd, tNot, tIf, tCall, tFor_eq, tLc_eq, iRng1, iRng2, iList, iTup, gTup, gCons, gNil, gSub, rSetL, rIxL, rIxT, rIxLH, rIxTH, rSlTS, rCatS, rTupS, rIsiH, rLenS, V.ty.injEq, tyS_non, tyS_bl, tyS_int, tyS_str, tyS_ref, tyO_l, tyO_t, tyO_d, tyO_dt, kit_ll, kit_tt, kit_bb, kit_ii, kit_ib, kit_bi, kit_nt, kit_it, kit_st, kit_bt, kit_lt, kit_dt, kit_ni, kit_si, kit_ti, kit_li, kit_di, kit_nb, kit_ns, kit_is, kit_bs, kit_ss, kit_ts, kit_ls, kit_ds, kit_dd, lenS_ref, lenO_l, lenO_t,  rAppend, tM1, rIxS, tSl, tPart, tNoPart, tBM, tBM0, tYes, rEq, rNe, L2.start, wipe, List.map_cons, List.map_nil, List.length_cons, List.length_nil, List.append_nil, Nat.reduceAdd, Nat.reduceSub, List.replicate_succ, List.replicate_zero, List.cons_append, List.nil_append, List.getElem?_cons_zero, List.getElem?_cons_succ, List.set_cons_zero, List.set_cons_succ, Option.some.injEq, V.int.injEq, V.ref.injEq, V.bl.injEq, V.str.injEq, List.cons.injEq, HO.lst.injEq, HO.tup.injEq, and_assoc, and_true, true_and, exists_eq_left, exists_eq_left', exists_and_left, exists_eq, reduceCtorEq, false_and, and_false, or_false, false_or, exists_false, decide_eq_true_eq, CPow, CDivW, Int.reducePow, Int.reduceLT, Int.reduceLE, Int.reduceNeg, Int.reduceToNat, Int.reduceAbs, Nat.reducePow, Nat.reduceLT, Nat.reduceLeDiff, sizeLine_eq, Int.reduceMul, Int.reduceAdd, Int.reduceSub, Bool.not_eq_true', decide_eq_false_iff_not, scal, Bool.not_true, Bool.not_false, Bool.true_eq_false, Bool.false_eq_true, ite_false, ite_true, if_true, if_false, ite_self, forall_const, atI0, atI1, atI2, atI3, ixN20, ixN21, upd_same, Int.zero_add, CMul, Int.reduceSub, Nat.le_refl, Nat.zero_le, or_true, true_or, exists_const, Int.sub_zero, sp_law_next]
        refine ⟨g3.st, fun v H4 v0 v1 g4 => ⟨by rw [abc26_len]; decide, ?_⟩⟩
        obtain ⟨c, hc, c0, c1⟩ := abc26_at v0 v1
        have hnp : D ≠ p := St2.nn g2.st hD
        refine ⟨c, hc, _, g4.at hl hnp, by rw [List.length_map]; omega, ys ++ [⟨#[c]⟩], by simp, by simp [hn], ?_, (g3.trans g4).put hD hnp⟩
        intro y hyy
        rcases List.mem_append.mp hyy with h | h
        · exact hy y h
        · rw [List.mem_singleton] at h
          subst h
          refine ⟨rfl, fun z hz => ?_⟩
          have : z = c := by simpa using hz
          omega
      · rintro H3 ⟨ys, hl, hn, hy, g3⟩
        have e1 := sum_ones fun y h => (hy y h).1
        refine ⟨ys, .inl (SqL.of hl), ?_, ?_⟩
        · rw [e1, empty_str]
          show ys.length + ys.length * 0 ≤ _
          omega
        · refine kk _ _ ?_ ((g1.trans g2).trans g3)
          rw [empty_str]
          refine ⟨?_, ?_, join_all ys fun y h => (hy y h).2⟩
          · rw [join_len, e1]; omega
          · rw [join_len, e1]; omega
def sp_law_program : Sp := fun vs H Q _ => ∃ (p : Addr) (n : Int), vs = [.ref p, .int n] ∧ St2 H p ∧ 0 < n ∧ n ≤ 1000000000000 ∧ ∀ (v : V) (ds : List PyData) (H' : Hp), (∀ d ∈ ds, StepD d) → 1 ≤ ds.length → ds.length ≤ 12 → Im H' (.tuple ds) v → Gn p H H' → Q v H'
theorem ok_law_program (T : Txt K mg) : FnOk P w K mg base CX0 2 T.f_law_program T.d_law_program ["_law_stream_here", "_law_houses"] (sp_law_program) := by
  refine T.F_law_program.ok sc_law_program (fun vs H Q E h => ?_) (fun cdv A outer s H vs Q E hr h => ?_)
  · obtain ⟨p, n, rfl, hp, n0, n1, kk⟩ := h; rfl
  · obtain ⟨p, n, rfl, hp, n0, n1, kk⟩ := h
    have hu := hu_of hr
    refine ⟨_, (pss_cons (ps_set (i := 2) sc_law_program.nd rfl (Or.inl rfl) (pe_lst pa_nil))
      (pss_cons (ps_for PassesOwn.never rfl (pi_range1 (by rfl) T.z_range (pa_cons (pe_op op_add pe_int (pe_call (ok_law_next T) (hr.mono (by decide)) rfl T.g_law_next T.F_law_next.kp T.b_law_next .nil pass0 (pa_cons (pv 0) (pa_cons pe_int pa_nil)))) pa_nil)) (pg_name (i := 3) sc_law_program.nd rfl (Or.inl rfl))
      (pss_cons (ps_set (i := 4) sc_law_program.nd rfl (Or.inl rfl) (pe_tup (pa_cons (pe_call (ok_law_next T) (hr.mono (by decide)) rfl T.g_law_next T.F_law_next.kp T.b_law_next .nil pass0 (pa_cons (pv 0) (pa_cons (pv 1) pa_nil))) (pa_cons (pe_ix ix_tupH (pe_tup (pa_cons pe_str (pa_cons pe_str (pa_cons pe_str pa_nil)))) (pe_call (ok_law_next T) (hr.mono (by decide)) rfl T.g_law_next T.F_law_next.kp T.b_law_next .nil pass0 (pa_cons (pv 0) (pa_cons pe_int pa_nil))) (fun _ _ => rfl)) pa_nil))))
      (pss_cons (ps_set (i := 5) sc_law_program.nd rfl (Or.inl rfl) (pe_call (ok_law_next T) (hr.mono (by decide)) rfl T.g_law_next T.F_law_next.kp T.b_law_next .nil pass0 (pa_cons (pv 0) (pa_cons pe_int pa_nil))))
      (pss_one (ps_if (pt_cmpR op_lt (pv 5) pe_int (nomark _)) (pss_one (ps_expr (pe_bm PySem.F.plainAttrs_list PySem.F.slot_list_append PySem.F.type_list_append mt_append (pv 2) (pa_cons (pe_tup (pa_cons pe_str (pa_cons (pv 4) pa_nil))) pa_nil)))) (pss_one (ps_if (pt_cmpR op_eq (pv 5) pe_int (nomark _)) (pss_one (ps_expr (pe_bm PySem.F.plainAttrs_list PySem.F.slot_list_append PySem.F.type_list_append mt_append (pv 2) (pa_cons (pe_tup (pa_cons pe_str (pa_cons (pv 4) pa_nil))) pa_nil)))) (pss_cons (ps_set (i := 6) sc_law_program.nd rfl (Or.inl rfl) (pe_ix ix_tupH (pe_tup (pa_cons pe_str (pa_cons pe_str (pa_cons pe_str (pa_cons pe_str pa_nil))))) (pe_op op_sub (pv 5) pe_int) (fun _ _ => rfl)))
      (pss_one (ps_expr (pe_bm PySem.F.plainAttrs_list PySem.F.slot_list_append PySem.F.type_list_append mt_append (pv 2) (pa_cons (pe_tup (pa_cons (pv 6) (pa_cons (pv 4) (pa_cons (pe_op op_sub (pe_call (ok_law_next T) (hr.mono (by decide)) rfl T.g_law_next T.F_law_next.kp T.b_law_next .nil pass0 (pa_cons (pv 0) (pa_cons pe_int pa_nil))) pe_int) pa_nil)))) pa_nil))))))))))))
      (pss_one (ps_ret (pe_callTy call_tupS (by rfl) T.z_tuple (by decide +kernel) (pa_cons (pv 2) pa_nil)))))), ?_⟩
    simp only [cxOf, Cx.nox, Cx.wish, tSeq, tAsg, tC, gName, tIfS, tTest, tOp, tUn, rU, rI0, rI, tVar, tNext, tRet, tRetN, tDrop, tLst, tTup, tCons, tNil, tCB, tB, tOr, tAnd, tNot, tIf, tCall, tFor_eq, tLc_eq, iRng1, iRng2, iList, iTup, gTup, gCons, gNil, gSub, rSetL, rIxL, rIxT, rIxLH, rIxTH, rSlTS, rCatS, rTupS, rIsiH, rLenS, V.ty.injEq, tyS_non, tyS_bl, tyS_int, tyS_str, tyS_ref, tyO_l, tyO_t, tyO_d, tyO_dt, kit_ll, kit_tt, kit_bb, kit_ii, kit_ib, kit_bi, kit_nt, kit_it, kit_st, kit_bt, kit_lt, kit_dt, kit_ni, kit_si, kit_ti, kit_li, kit_di, kit_nb, kit_ns, kit_is, kit_bs, kit_ss, kit_ts, kit_ls, kit_ds, kit_dd, lenS_ref, lenO_l, lenO_t,  rAppend, tM1, rIxS, tSl, tPart, tNoPart, tBM, tBM0, tYes, rEq, rNe, L2.start, wipe, List.map_cons, List.map_nil, List.length_cons, List.length_nil, List.append_nil, Nat.reduceAdd, Nat.reduceSub, List.replicate_succ, List.replicate_zero, List.cons_append, List.nil_append, List.getElem?_cons_zero, List.getElem?_cons_succ, List.set_cons_zero, List.set_cons_succ, Option.some.injEq, V.int.injEq, V.ref.injEq, V.bl.injEq, V.str.injEq, List.cons.injEq, HO.lst.injEq, HO.tup.injEq, and_assoc, and_true, true_and, exists_eq_left, exists_eq_left', exists_and_left, exists_eq, reduceCtorEq, false_and, and_false, or_false, false_or, exists_false, decide_eq_true_eq, CPow, CDivW, Int.reducePow, Int.reduceLT, Int.reduceLE, Int.reduceNeg, Int.reduceToNat, Int.reduceAbs, Nat.reducePow, Nat.reduceLT, Nat.reduceLeDiff, sizeLine_eq, Int.reduceMul, Int.reduceAdd, Int.reduceSub, Bool.not_eq_true', decide_eq_false_iff_not, scal, Bool.not_true, Bool.not_false, Bool.true_eq_false, Bool.false_eq_true, ite_false, ite_true, if_true, if_false, ite_self, forall_const, atI0, atI1, atI2, atI3, ixN20, ixN21, upd_same, Int.zero_add, CMul, Int.reduceSub, Nat.le_refl, Nat.zero_le, or_true, true_or, exists_const, Int.sub_zero, sp_law_next]
    intro l hl
    refine ⟨hp.new hl, fun m H1 m0 m1 g1 => ⟨by omega, by omega, ?_⟩⟩
    have hlp : l ≠ p := St2.nn hp hl
    have hl1 : H1 l = some (.lst []) := g1.at upd_same hlp
    have gg : Gn p H H1 := ((Gn.refl hp).new hl).trans g1
    refine Loop.range (fun i σ H' => ∃ (vs : List V) (ds : List PyData) (a b c d : Option V), σ = [some (.ref p), some (.int n), some (.ref l), a, b, c, d] ∧ H' l = some (.lst vs) ∧ ImAll H' ds vs ∧ (∀ d ∈ ds, StepD d) ∧ ds.length = i ∧ Gn p H H') ⟨[], [], none, none, none, none, rfl, hl1, im_nil, by simp, rfl, gg⟩ ?_ ?_
    · rintro i σ H2 hi ⟨vs, ds, a, b, c, d, rfl, hl2, iv, hds, hn, g2⟩
      have hvl := iv.len
      simp only [cxOf, Cx.nox, Cx.wish, tSeq, tAsg, tC, gName, tIfS, tTest, tOp, tUn, rU, rI0, rI, tVar, tNext, tRet, tRetN, tDrop, tLst, tTup, tCons, tNil, tCB, tB, tOr, tAnd, tNot, tIf, tCall, tFor_eq, tLc_eq, iRng1, iRng2, iList, iTup, gTup, gCons, gNil, gSub, rSetL, rIxL, rIxT, rIxLH, rIxTH, rSlTS, rCatS, rTupS, rIsiH, rLenS, V.ty.injEq, tyS_non, tyS_bl, tyS_int, tyS_str, tyS_ref, tyO_l, tyO_t, tyO_d, tyO_dt, kit_ll, kit_tt, kit_bb, kit_ii, kit_ib, kit_bi, kit_nt, kit_it, kit_st, kit_bt, kit_lt, kit_dt, kit_ni, kit_si, kit_ti, kit_li, kit_di, kit_nb, kit_ns, kit_is, kit_bs, kit_ss, kit_ts, kit_ls, kit_ds, kit_dd, lenS_ref, lenO_l, lenO_t,  rAppend, tM1, rIxS, tSl, tPart, tNoPart, tBM, tBM0, tYes, rEq, rNe, L2.start, wipe, List.map_cons, List.map_nil, List.length_cons, List.length_nil, List.append_nil, Nat.reduceAdd, Nat.reduceSub, List.replicate_succ, List.replicate_zero, List.cons_append, List.nil_append, List.getElem?_cons_zero, List.getElem?_cons_succ, List.set_cons_zero, List.set_cons_succ, Option.some.injEq, V.int.injEq, V.ref.injEq, V.bl.injEq, V.str.injEq, List.cons.injEq, HO.lst.injEq, HO.tup.injEq, and_assoc, and_true, true_and, exists_eq_left, exists_eq_left', exists_and_left, exists_eq, reduceCtorEq, false_and, and_false, or_false, false_or, exists_false, decide_eq_true_eq, CPow, CDivW, Int.reducePow, Int.reduceLT, Int.reduceLE, Int.reduceNeg, Int.reduceToNat, Int.reduceAbs, Nat.reducePow, Nat.reduceLT, Nat.reduceLeDiff, sizeLine_eq, Int.reduceMul, Int.reduceAdd, Int.reduceSub, Bool.not_eq_true', decide_eq_false_iff_not, scal, Bool.not_true, Bool.not_false, Bool.true_eq_false, Bool.false_eq_true, ite_false, ite_true, if_true, if_false, ite_self, forall_const, atI0, atI1, atI2, atI3, ixN20, ixN21, upd_same, Int.zero_add, CMul, Int.reduceSub, Nat.le_refl, Nat.zero_le, or_true, true_or, exists_const, Int.sub_zero, sp_law_next]
      refine ⟨g2.st, n0, by omega, fun u H3 u0 u1 g3 q hq => ⟨g3.st.new hq, fun t H4 t0 t1 g4 => ?_⟩⟩
      have hq4 := g4.at upd_same (St2.nn g3.st hq)
      obtain ⟨x, hx, hm⟩ := atI_mem (xs := [V.str (Str.ofString "a"), V.str (Str.ofString "b"), V.str (Str.ofString "c")]) t0 (by simpa using t1)
      obtain ⟨y, rfl, hy⟩ : ∃ y, x = V.str y ∧ NameD y := by
        simp only [List.mem_cons, List.not_mem_nil, or_false] at hm
        rcases hm with rfl | rfl | rfl
        all_goals exact ⟨_, rfl, nameD_by (by decide +kernel)⟩
      refine ⟨_, hq4, _, hx, fun r hr2 => ⟨g4.st.new hr2, fun k H5 k0 k1 g5 => ?_⟩⟩
      have hk : KeyD (.tuple [.int u, .str y]) := ⟨u, y, rfl, u0, by omega, hy⟩
      have ik : Im H5 (.tuple [.int u, .str y]) (.ref r) := by walk_at "im"
      have hl5 : H5 l = some (.lst vs) := by walk_at "hp"
      have iv5 : ImAll H5 ds vs := by walk_at "ims"
      have gg5 : Gn p H H5 := (((g2.trans g3).new hq).trans g4).new hr2 |>.trans g5
      split
      · refine ⟨tyL hl5, fun z hz => ?_⟩
        have hl6 := get_new (o := .tup [.str (Str.ofString "read"), .ref r]) hz hl5
        refine ⟨vs, hl6, by omega, ds ++ [.tuple [.str (Str.ofString "read"), .tuple [.int u, .str y]]], ims_app hl6 (by walk_at "ims") (by walk_at "im"), all_snoc hds ⟨_, hk, .inl ⟨_, rfl, .inl rfl⟩⟩, by simp [hn], (gg5.new hz).put hl hlp⟩
      split
      · refine ⟨tyL hl5, fun z hz => ?_⟩
        have hl6 := get_new (o := .tup [.str (Str.ofString "store"), .ref r]) hz hl5
        refine ⟨vs, hl6, by omega, ds ++ [.tuple [.str (Str.ofString "store"), .tuple [.int u, .str y]]], ims_app hl6 (by walk_at "ims") (by walk_at "im"), all_snoc hds ⟨_, hk, .inl ⟨_, rfl, .inr rfl⟩⟩, by simp [hn], (gg5.new hz).put hl hlp⟩
      · intro z hz
        obtain ⟨x2, hx2, hm2⟩ := atI_mem (xs := [V.str (Str.ofString "put"), V.str (Str.ofString "add"), V.str (Str.ofString "add"), V.str (Str.ofString "need")]) (i := k - 4) (by omega) (by simp; omega)
        obtain ⟨y2, rfl, hy2⟩ : ∃ y2, x2 = V.str y2 ∧ (y2 = Str.ofString "put" ∨ y2 = Str.ofString "add" ∨ y2 = Str.ofString "need") := by
          simp only [List.mem_cons, List.not_mem_nil, or_false] at hm2
          rcases hm2 with rfl | rfl | rfl | rfl
          all_goals exact ⟨_, rfl, by simp⟩
        have hl6 := get_new (o := .tup [V.str (Str.ofString "put"), V.str (Str.ofString "add"), V.str (Str.ofString "add"), V.str (Str.ofString "need")]) hz hl5
        refine ⟨_, hx2, tyL hl6, g5.st.new hz, fun w1 H7 w0 w1' g7 z2 hz2 => ?_⟩
        have hl7 : H7 l = some (.lst vs) := by walk_at "hp"
        have hl8 := get_new (o := .tup [.str y2, .ref r, .int (w1 - 12)]) hz2 hl7
        refine ⟨vs, hl8, by omega, ds ++ [.tuple [.str y2, .tuple [.int u, .str y], .int (w1 - 12)]], ims_app hl8 (by walk_at "ims") (by walk_at "im"), all_snoc hds ⟨_, hk, .inr ⟨_, _, rfl, hy2, by omega, by omega⟩⟩, by simp [hn], (((gg5.new hz).trans g7).new hz2).put hl hlp⟩
    · rintro σ H2 ⟨vs, ds, a, b, c, d, rfl, hl2, iv, hds, hn, g2⟩
      simp only [cxOf, Cx.nox, Cx.wish, tSeq, tAsg, tC, gName, tIfS, tTest, tOp, tUn, rU, rI0, rI, tVar, tNext, tRet, tRetN, tDrop, tLst, tTup, tCons, tNil, tCB, tB, tOr, tAnd, tNot, tIf, tCall, tFor_eq, tLc_eq, iRng1, iRng2, iList, iTup, gTup, gCons, gNil, gSub, rSetL, rIxL, rIxT, rIxLH, rIxTH, rSlTS, rCatS, rTupS, rIsiH, rLenS, V.ty.injEq, tyS_non, tyS_bl, tyS_int, tyS_str, tyS_ref, tyO_l, tyO_t, tyO_d, tyO_dt, kit_ll, kit_tt, kit_bb, kit_ii, kit_ib, kit_bi, kit_nt, kit_it, kit_st, kit_bt, kit_lt, kit_dt, kit_ni, kit_si, kit_ti, kit_li, kit_di, kit_nb, kit_ns, kit_is, kit_bs, kit_ss, kit_ts, kit_ls, kit_ds, kit_dd, lenS_ref, lenO_l, lenO_t,  rAppend, tM1, rIxS, tSl, tPart, tNoPart, tBM, tBM0, tYes, rEq, rNe, L2.start, wipe, List.map_cons, List.map_nil, List.length_cons, List.length_nil, List.append_nil, Nat.reduceAdd, Nat.reduceSub, List.replicate_succ, List.replicate_zero, List.cons_append, List.nil_append, List.getElem?_cons_zero, List.getElem?_cons_succ, List.set_cons_zero, List.set_cons_succ, Option.some.injEq, V.int.injEq, V.ref.injEq, V.bl.injEq, V.str.injEq, List.cons.injEq, HO.lst.injEq, HO.tup.injEq, and_assoc, and_true, true_and, exists_eq_left, exists_eq_left', exists_and_left, exists_eq, reduceCtorEq, false_and, and_false, or_false, false_or, exists_false, decide_eq_true_eq, CPow, CDivW, Int.reducePow, Int.reduceLT, Int.reduceLE, Int.reduceNeg, Int.reduceToNat, Int.reduceAbs, Nat.reducePow, Nat.reduceLT, Nat.reduceLeDiff, sizeLine_eq, Int.reduceMul, Int.reduceAdd, Int.reduceSub, Bool.not_eq_true', decide_eq_false_iff_not, scal, Bool.not_true, Bool.not_false, Bool.true_eq_false, Bool.false_eq_true, ite_false, ite_true, if_true, if_false, ite_self, forall_const, atI0, atI1, atI2, atI3, ixN20, ixN21, upd_same, Int.zero_add, CMul, Int.reduceSub, Nat.le_refl, Nat.zero_le, or_true, true_or, exists_const, Int.sub_zero]
      refine ⟨vs, .inl hl2, fun q H3 s3 hq => ?_⟩
      exact kk _ ds _ hds (by omega) (by omega) (im_tup hq (Same.ims s3 iv)) (g2.same s3)
def sp_law_integer : Sp := fun vs H Q _ => ∃ (p : Addr), vs = [.ref p] ∧ St2 H p ∧ ∀ (v : Int) (H' : Hp), -1000000000000 ≤ v → v ≤ 1000000000000 → Gn p H H' → Q (.int v) H'
theorem ok_law_integer (T : Txt K mg) : FnOk P w K mg base CX0 3 T.f_law_integer T.d_law_integer ["_law_stream_here"] (sp_law_integer) := by
  refine T.F_law_integer.ok sc_law_integer (fun vs H Q E h => ?_) (fun cdv A outer s H vs Q E hr h => ?_)
  · obtain ⟨p, rfl, hp, kk⟩ := h; rfl
  · obtain ⟨p, rfl, hp, kk⟩ := h
    have hu := hu_of hr
    refine ⟨_, (pss_one (ps_ret (pe_op op_mul (pe_call (ok_law_number T) (hr.mono (by decide)) rfl T.g_law_number T.F_law_number.kp T.b_law_number .nil pass0 (pa_cons (pv 0) pa_nil)) (pe_op op_sub pe_int (pe_op op_mul pe_int (pe_call (ok_law_next T) (hr.mono (by decide)) rfl T.g_law_next T.F_law_next.kp T.b_law_next .nil pass0 (pa_cons (pv 0) (pa_cons pe_int pa_nil)))))))), ?_⟩
    simp only [cxOf, Cx.nox, Cx.wish, tSeq, tAsg, tC, gName, tIfS, tTest, tOp, tUn, rU, rI0, rI, tVar, tNext, tRet, tRetN, tDrop, tLst, tTup, tCons, tNil, tCB, tB, tOr, tAnd, tNot, tIf, tCall, tFor_eq, tLc_eq, iRng1, iRng2, iList, iTup, gTup, gCons, gNil, gSub, rSetL, rIxL, rIxT, rIxLH, rIxTH, rSlTS, rCatS, rTupS, rIsiH, rLenS, V.ty.injEq, tyS_non, tyS_bl, tyS_int, tyS_str, tyS_ref, tyO_l, tyO_t, tyO_d, tyO_dt, kit_ll, kit_tt, kit_bb, kit_ii, kit_ib, kit_bi, kit_nt, kit_it, kit_st, kit_bt, kit_lt, kit_dt, kit_ni, kit_si, kit_ti, kit_li, kit_di, kit_nb, kit_ns, kit_is, kit_bs, kit_ss, kit_ts, kit_ls, kit_ds, kit_dd, lenS_ref, lenO_l, lenO_t,  rAppend, tM1, rIxS, tSl, tPart, tNoPart, tBM, tBM0, tYes, rEq, rNe, L2.start, wipe, List.map_cons, List.map_nil, List.length_cons, List.length_nil, List.append_nil, Nat.reduceAdd, Nat.reduceSub, List.replicate_succ, List.replicate_zero, List.cons_append, List.nil_append, List.getElem?_cons_zero, List.getElem?_cons_succ, List.set_cons_zero, List.set_cons_succ, Option.some.injEq, V.int.injEq, V.ref.injEq, V.bl.injEq, V.str.injEq, List.cons.injEq, HO.lst.injEq, HO.tup.injEq, and_assoc, and_true, true_and, exists_eq_left, exists_eq_left', exists_and_left, exists_eq, reduceCtorEq, false_and, and_false, or_false, false_or, exists_false, decide_eq_true_eq, CPow, CDivW, Int.reducePow, Int.reduceLT, Int.reduceLE, Int.reduceNeg, Int.reduceToNat, Int.reduceAbs, Nat.reducePow, Nat.reduceLT, Nat.reduceLeDiff, sizeLine_eq, Int.reduceMul, Int.reduceAdd, Int.reduceSub, Bool.not_eq_true', decide_eq_false_iff_not, scal, Bool.not_true, Bool.not_false, Bool.true_eq_false, Bool.false_eq_true, ite_false, ite_true, if_true, if_false, ite_self, forall_const, atI0, atI1, atI2, atI3, ixN20, ixN21, upd_same, Int.zero_add, CMul, Int.reduceSub, Nat.le_refl, Nat.zero_le, or_true, true_or, exists_const, Int.sub_zero, sp_law_next, sp_law_number]
    refine ⟨hp, fun v H1 h0 h1 g1 => ⟨g1.st, fun u H2 i0 i1 g2 => ?_⟩⟩
    have e : u = 0 ∨ u = 1 := by omega
    rcases e with rfl | rfl
    · exact ⟨.inl ⟨by omega, by omega⟩, kk _ _ (by omega) (by omega) (g1.trans g2)⟩
    · exact ⟨.inl ⟨by omega, by omega⟩, kk _ _ (by omega) (by omega) (g1.trans g2)⟩
def sp_law_key : Sp := fun vs H Q _ => ∃ (p : Addr), vs = [.ref p] ∧ St2 H p ∧ ∀ (v : V) (d : PyData) (H' : Hp), KeyD d → Im H' d v → Gn p H H' → Q v H'
theorem ok_law_key (T : Txt K mg) : FnOk P w K mg base CX0 3 T.f_law_key T.d_law_key ["_law_stream_here"] (sp_law_key) := by
  refine T.F_law_key.ok sc_law_key (fun vs H Q E h => ?_) (fun cdv A outer s H vs Q E hr h => ?_)
  · obtain ⟨p, rfl, hp, kk⟩ := h; rfl
  · obtain ⟨p, rfl, hp, kk⟩ := h
    have hu := hu_of hr
    refine ⟨_, (pss_one (ps_ret (pe_tup (pa_cons (pe_call (ok_law_number T) (hr.mono (by decide)) rfl T.g_law_number T.F_law_number.kp T.b_law_number .nil pass0 (pa_cons (pv 0) pa_nil)) (pa_cons (pe_call (ok_law_name T) (hr.mono (by decide)) rfl T.g_law_name T.F_law_name.kp T.b_law_name .nil pass0 (pa_cons (pv 0) pa_nil)) pa_nil))))), ?_⟩
    simp only [cxOf, Cx.nox, Cx.wish, tSeq, tAsg, tC, gName, tIfS, tTest, tOp, tUn, rU, rI0, rI, tVar, tNext, tRet, tRetN, tDrop, tLst, tTup, tCons, tNil, tCB, tB, tOr, tAnd, tNot, tIf, tCall, tFor_eq, tLc_eq, iRng1, iRng2, iList, iTup, gTup, gCons, gNil, gSub, rSetL, rIxL, rIxT, rIxLH, rIxTH, rSlTS, rCatS, rTupS, rIsiH, rLenS, V.ty.injEq, tyS_non, tyS_bl, tyS_int, tyS_str, tyS_ref, tyO_l, tyO_t, tyO_d, tyO_dt, kit_ll, kit_tt, kit_bb, kit_ii, kit_ib, kit_bi, kit_nt, kit_it, kit_st, kit_bt, kit_lt, kit_dt, kit_ni, kit_si, kit_ti, kit_li, kit_di, kit_nb, kit_ns, kit_is, kit_bs, kit_ss, kit_ts, kit_ls, kit_ds, kit_dd, lenS_ref, lenO_l, lenO_t,  rAppend, tM1, rIxS, tSl, tPart, tNoPart, tBM, tBM0, tYes, rEq, rNe, L2.start, wipe, List.map_cons, List.map_nil, List.length_cons, List.length_nil, List.append_nil, Nat.reduceAdd, Nat.reduceSub, List.replicate_succ, List.replicate_zero, List.cons_append, List.nil_append, List.getElem?_cons_zero, List.getElem?_cons_succ, List.set_cons_zero, List.set_cons_succ, Option.some.injEq, V.int.injEq, V.ref.injEq, V.bl.injEq, V.str.injEq, List.cons.injEq, HO.lst.injEq, HO.tup.injEq, and_assoc, and_true, true_and, exists_eq_left, exists_eq_left', exists_and_left, exists_eq, reduceCtorEq, false_and, and_false, or_false, false_or, exists_false, decide_eq_true_eq, CPow, CDivW, Int.reducePow, Int.reduceLT, Int.reduceLE, Int.reduceNeg, Int.reduceToNat, Int.reduceAbs, Nat.reducePow, Nat.reduceLT, Nat.reduceLeDiff, sizeLine_eq, Int.reduceMul, Int.reduceAdd, Int.reduceSub, Bool.not_eq_true', decide_eq_false_iff_not, scal, Bool.not_true, Bool.not_false, Bool.true_eq_false, Bool.false_eq_true, ite_false, ite_true, if_true, if_false, ite_self, forall_const, atI0, atI1, atI2, atI3, ixN20, ixN21, upd_same, Int.zero_add, CMul, Int.reduceSub, Nat.le_refl, Nat.zero_le, or_true, true_or, exists_const, Int.sub_zero, sp_law_number, sp_law_name]
    refine ⟨hp, fun v H1 h0 h1 g1 => ⟨g1.st, fun x H2 hx g2 q hq => ?_⟩⟩
    exact kk _ _ _ ⟨v, x, rfl, h0, h1, hx⟩ (by walk_at "im") ((g1.trans g2).new hq)
def sp_law_step : Sp := fun vs H Q _ => ∃ (p : Addr), vs = [.ref p] ∧ St2 H p ∧ ∀ (v : V) (d : PyData) (H' : Hp), StepD d → Im H' d v → Gn p H H' → Q v H'
theorem ok_law_step (T : Txt K mg) : FnOk P w K mg base CX0 4 T.f_law_step T.d_law_step ["_law_stream_here"] (sp_law_step) := by
  refine T.F_law_step.ok sc_law_step (fun vs H Q E h => ?_) (fun cdv A outer s H vs Q E hr h => ?_)
  · obtain ⟨p, rfl, hp, kk⟩ := h; rfl
  · obtain ⟨p, rfl, hp, kk⟩ := h
    have hu := hu_of hr
    refine ⟨_, (pss_cons (ps_set (i := 1) sc_law_step.nd rfl (Or.inl rfl) (pe_call (ok_law_next T) (hr.mono (by decide)) rfl T.g_law_next T.F_law_next.kp T.b_law_next .nil pass0 (pa_cons (pv 0) (pa_cons pe_int pa_nil))))
      (pss_cons (ps_if (pt_cmpR op_lt (pv 1) pe_int (nomark _)) (pss_one (ps_ret (pe_tup (pa_cons (pe_ix ix_tupH (pe_tup (pa_cons pe_str (pa_cons pe_str pa_nil))) (pv 1) (fun _ _ => rfl)) (pa_cons (pe_call (ok_law_key T) (hr.mono (by decide)) rfl T.g_law_key T.F_law_key.kp T.b_law_key .nil pass0 (pa_cons (pv 0) pa_nil)) pa_nil))))) pss_nil)
      (pss_one (ps_ret (pe_tup (pa_cons (pe_ix ix_tupH (pe_tup (pa_cons pe_str (pa_cons pe_str (pa_cons pe_str pa_nil)))) (pe_op op_sub (pv 1) pe_int) (fun _ _ => rfl)) (pa_cons (pe_call (ok_law_key T) (hr.mono (by decide)) rfl T.g_law_key T.F_law_key.kp T.b_law_key .nil pass0 (pa_cons (pv 0) pa_nil)) (pa_cons (pe_call (ok_law_integer T) (hr.mono (by decide)) rfl T.g_law_integer T.F_law_integer.kp T.b_law_integer .nil pass0 (pa_cons (pv 0) pa_nil)) pa_nil)))))))), ?_⟩
    simp only [cxOf, Cx.nox, Cx.wish, tSeq, tAsg, tC, gName, tIfS, tTest, tOp, tUn, rU, rI0, rI, tVar, tNext, tRet, tRetN, tDrop, tLst, tTup, tCons, tNil, tCB, tB, tOr, tAnd, tNot, tIf, tCall, tFor_eq, tLc_eq, iRng1, iRng2, iList, iTup, gTup, gCons, gNil, gSub, rSetL, rIxL, rIxT, rIxLH, rIxTH, rSlTS, rCatS, rTupS, rIsiH, rLenS, V.ty.injEq, tyS_non, tyS_bl, tyS_int, tyS_str, tyS_ref, tyO_l, tyO_t, tyO_d, tyO_dt, kit_ll, kit_tt, kit_bb, kit_ii, kit_ib, kit_bi, kit_nt, kit_it, kit_st, kit_bt, kit_lt, kit_dt, kit_ni, kit_si, kit_ti, kit_li, kit_di, kit_nb, kit_ns, kit_is, kit_bs, kit_ss, kit_ts, kit_ls, kit_ds, kit_dd, lenS_ref, lenO_l, lenO_t,  rAppend, tM1, rIxS, tSl, tPart, tNoPart, tBM, tBM0, tYes, rEq, rNe, L2.start, wipe, List.map_cons, List.map_nil, List.length_cons, List.length_nil, List.append_nil, Nat.reduceAdd, Nat.reduceSub, List.replicate_succ, List.replicate_zero, List.cons_append, List.nil_append, List.getElem?_cons_zero, List.getElem?_cons_succ, List.set_cons_zero, List.set_cons_succ, Option.some.injEq, V.int.injEq, V.ref.injEq, V.bl.injEq, V.str.injEq, List.cons.injEq, HO.lst.injEq, HO.tup.injEq, and_assoc, and_true, true_and, exists_eq_left, exists_eq_left', exists_and_left, exists_eq, reduceCtorEq, false_and, and_false, or_false, false_or, exists_false, decide_eq_true_eq, CPow, CDivW, Int.reducePow, Int.reduceLT, Int.reduceLE, Int.reduceNeg, Int.reduceToNat, Int.reduceAbs, Nat.reducePow, Nat.reduceLT, Nat.reduceLeDiff, sizeLine_eq, Int.reduceMul, Int.reduceAdd, Int.reduceSub, Bool.not_eq_true', decide_eq_false_iff_not, scal, Bool.not_true, Bool.not_false, Bool.true_eq_false, Bool.false_eq_true, ite_false, ite_true, if_true, if_false, ite_self, forall_const, atI0, atI1, atI2, atI3, ixN20, ixN21, upd_same, Int.zero_add, CMul, Int.reduceSub, Nat.le_refl, Nat.zero_le, or_true, true_or, exists_const, Int.sub_zero, sp_law_next, sp_law_key, sp_law_integer]
    refine ⟨hp, fun v H1 v0 v1 g1 => ?_⟩
    split
    · intro q hq
      obtain ⟨x, hx, hm⟩ := atI_mem (xs := [V.str (Str.ofString "read"), V.str (Str.ofString "store")]) v0 (by simpa using ‹v < 2›)
      refine ⟨x, hx, g1.st.new hq, fun kv k H2 hk ik g2 r hr2 => ?_⟩
      have g := ((g1.new hq).trans g2).new hr2 (o := .tup [x, kv])
      simp only [List.mem_cons, List.not_mem_nil, or_false] at hm
      rcases hm with rfl | rfl
      · exact kk _ (.tuple [.str (Str.ofString "read"), k]) _ ⟨k, hk, .inl ⟨_, rfl, .inl rfl⟩⟩ (by walk_at "im") g
      · exact kk _ (.tuple [.str (Str.ofString "store"), k]) _ ⟨k, hk, .inl ⟨_, rfl, .inr rfl⟩⟩ (by walk_at "im") g
    · intro q hq
      obtain ⟨x, hx, hm⟩ := atI_mem (xs := [V.str (Str.ofString "put"), V.str (Str.ofString "add"), V.str (Str.ofString "need")]) (i := v - 2) (by omega) (by simp; omega)
      refine ⟨x, hx, g1.st.new hq, fun kv k H2 hk ik g2 => ⟨g2.st, fun i H3 i0 i1 g3 r hr2 => ?_⟩⟩
      have g := (((g1.new hq).trans g2).trans g3).new hr2 (o := .tup [x, kv, .int i])
      simp only [List.mem_cons, List.not_mem_nil, or_false] at hm
      rcases hm with rfl | rfl | rfl
      · exact kk _ (.tuple [.str (Str.ofString "put"), k, .int i]) _ ⟨k, hk, .inr ⟨_, i, rfl, .inl rfl, i0, i1⟩⟩ (by walk_at "im") g
      · exact kk _ (.tuple [.str (Str.ofString "add"), k, .int i]) _ ⟨k, hk, .inr ⟨_, i, rfl, .inr (.inl rfl), i0, i1⟩⟩ (by walk_at "im") g
      · exact kk _ (.tuple [.str (Str.ofString "need"), k, .int i]) _ ⟨k, hk, .inr ⟨_, i, rfl, .inr (.inr rfl), i0, i1⟩⟩ (by walk_at "im") g

theorem ok_law (T : Txt K mg) : FnOk P w K mg base CX0 5 T.f_law T.d_law ["_law_script"] (spLaw K) := by
  refine T.F_law.ok sc_law (fun vs H Q E h => ?_) (fun cdv A outer s H vs Q E hr h => ?_)
  · obtain ⟨a, ns, rfl, hS, hlen, kk⟩ := h; rfl
  · obtain ⟨a, ns, rfl, hS, hlen, kk⟩ := h
    have hu := hu_of hr
    refine ⟨_, (pss_cons (ps_for PassesOwn.never rfl (pi_range1 (by rfl) T.z_range (pa_cons (pe_callB (call_min2 rfl) (by rfl) T.z_min (by decide +kernel) (pa_cons (pe_callB call_len (by rfl) T.z_len (by decide +kernel) (pa_cons (pv 0) pa_nil)) (pa_cons pe_int pa_nil))) pa_nil)) (pg_name (i := 1) sc_law.nd rfl (Or.inl rfl))
      (pss_cons (ps_set (i := 2) sc_law.nd rfl (Or.inr rfl) (pe_call (ok_law_stream T) (hr.mono (by decide)) rfl T.g_law_stream T.F_law_stream.kp T.b_law_stream .nil pass0 (pa_cons (pe_ix ix_list (pv 0) (pv 1) (fun _ _ => rfl)) (pa_cons (pv 1) pa_nil))))
      (pss_cons (ps_set (i := 3) sc_law.nd rfl (Or.inl rfl) (pe_call (ok_law_program T) (hr.mono (by decide)) rfl T.g_law_program T.F_law_program.kp T.b_law_program .nil pass0 (pa_cons (pv 2) (pa_cons pe_int pa_nil))))
      (C8.pss_cut (ps_if (pt_cmpR op_eq (pe_call (ok_law_next T) (hr.mono (by decide)) rfl T.g_law_next T.F_law_next.kp T.b_law_next .nil pass0 (pa_cons (pv 2) (pa_cons pe_int pa_nil))) pe_int (nomark _)) (pss_one (ps_set (i := 3) sc_law.nd rfl (Or.inl rfl) (pe_op op_catS (pe_slice sl_tupS (pv 3) po_none (po_some pe_int)) (pe_callTy call_tupS (by rfl) T.z_tuple (by decide +kernel) (pa_cons (pe_lc (own := [("_law_j", 6)]) (g := gName 6) (tt := tYes) rfl sc_law.nd (pi_range1 (by rfl) T.z_range (pa_cons (pe_op op_add pe_int (pe_call (ok_law_next T) (hr.mono (by decide)) rfl T.g_law_next T.F_law_next.kp T.b_law_next .nil pass0 (pa_cons (pv 2) (pa_cons pe_int pa_nil)))) pa_nil)) (blkOk_by (N := N_law) (sc := defScope s_law) (by decide +kernel)) (fun _ _ _ _ _ => (pg_name (i := 6) sc_law.nd rfl (Or.inl rfl))) (fun _ _ _ _ _ => pts_nil) (fun _ _ _ _ _ => (pe_call (ok_law_step T) (hr.mono (by decide)) rfl T.g_law_step T.F_law_step.kp T.b_law_step .nil pass0 (pa_cons (pv 2) pa_nil)))) pa_nil))))) pss_nil)
      (pss_one (ps_for PassesOwn.never rfl (pi_range1 (by rfl) T.z_range (pa_cons pe_int pa_nil)) (pg_name (i := 4) sc_law.nd rfl (Or.inl rfl))
      (pss_cons (ps_set (i := 5) sc_law.nd rfl (Or.inl rfl) (pe_call (ok_keys_of T) (hr.mono (by decide)) rfl T.g_keys_of T.F_keys_of.kp T.b_keys_of .nil pass0 (pa_cons (pv 3) pa_nil)))
      (pss_cons (ps_if (PW.pt (pw_or (pt_not (pt_val (pe_callB call_isiH (by rfl) T.z_isinstance (by decide +kernel) (pa_cons (pv 5) (pa_cons (pe_bltn (v := .ty "list") (by rfl) T.z_list (by decide +kernel) rfl) pa_nil))))) (pw_or1 (pt_cmpR (op_neDK (K := K) rfl hr.units) (pv 5) (pe_call (ok_law_due T) (hr.mono (by decide)) rfl T.g_law_due T.F_law_due.kp T.b_law_due .nil pass0 (pa_cons (pv 3) pa_nil)) (nomark _))))) (pss_one (ps_ret pe_bl)) pss_nil)
      (pss_one (ps_expr (pe_bm PySem.F.plainAttrs_list PySem.F.slot_list_append PySem.F.type_list_append mt_append (pv 5) (pa_cons pe_str pa_nil))))))))))))
      (pss_one (ps_ret pe_bl))), ?_⟩
    simp only [cxOf, Cx.nox, Cx.wish, tSeq, tAsg, tC, gName, tIfS, tTest, tOp, tUn, rU, rI0, rI, tVar, tNext, tRet, tRetN, tDrop, tLst, tTup, tCons, tNil, tCB, tB, tOr, tAnd, tNot, tIf, tCall, tFor_eq, tLc_eq, iRng1, iRng2, iList, iTup, gTup, gCons, gNil, gSub, rSetL, rIxL, rIxT, rIxLH, rIxTH, rSlTS, rCatS, rTupS, rIsiH, rLenS, V.ty.injEq, tyS_non, tyS_bl, tyS_int, tyS_str, tyS_ref, tyO_l, tyO_t, tyO_d, tyO_dt, kit_ll, kit_tt, kit_bb, kit_ii, kit_ib, kit_bi, kit_nt, kit_it, kit_st, kit_bt, kit_lt, kit_dt, kit_ni, kit_si, kit_ti, kit_li, kit_di, kit_nb, kit_ns, kit_is, kit_bs, kit_ss, kit_ts, kit_ls, kit_ds, kit_dd, lenS_ref, lenO_l, lenO_t,  rAppend, tM1, rIxS, tSl, tPart, tNoPart, tBM, tBM0, tYes, rEq, rNe, L2.start, wipe, List.map_cons, List.map_nil, List.length_cons, List.length_nil, List.append_nil, Nat.reduceAdd, Nat.reduceSub, List.replicate_succ, List.replicate_zero, List.cons_append, List.nil_append, List.getElem?_cons_zero, List.getElem?_cons_succ, List.set_cons_zero, List.set_cons_succ, Option.some.injEq, V.int.injEq, V.ref.injEq, V.bl.injEq, V.str.injEq, List.cons.injEq, HO.lst.injEq, HO.tup.injEq, and_assoc, and_true, true_and, exists_eq_left, exists_eq_left', exists_and_left, exists_eq, reduceCtorEq, false_and, and_false, or_false, false_or, exists_false, decide_eq_true_eq, CPow, CDivW, Int.reducePow, Int.reduceLT, Int.reduceLE, Int.reduceNeg, Int.reduceToNat, Int.reduceAbs, Nat.reducePow, Nat.reduceLT, Nat.reduceLeDiff, sizeLine_eq, Int.reduceMul, Int.reduceAdd, Int.reduceSub, Bool.not_eq_true', decide_eq_false_iff_not, scal, Bool.not_true, Bool.not_false, Bool.true_eq_false, Bool.false_eq_true, ite_false, ite_true, if_true, if_false, ite_self, forall_const, atI0, atI1, atI2, atI3, ixN20, ixN21, upd_same, Int.zero_add, CMul, Int.reduceSub, Nat.le_refl, Nat.zero_le, or_true, true_or, exists_const, Int.sub_zero]
    refine ⟨ns.length, .inl ⟨_, hS, by simp⟩, ?_⟩
    have hm : (if (40 : Int) < (ns.length : Int) then (40 : Int) else (ns.length : Int)) = ((min 40 ns.length : Nat) : Int) := by split <;> omega
    rw [hm]
    refine ⟨by omega, by omega, Loop.range (fun i σ H' => ∃ (b1 b2 b3 b4 b5 b6 : Option V), σ = [some (.ref a), b1, b2, b3, b4, b5, b6] ∧ Same H H') ⟨none, none, none, none, none, none, rfl, Same.refl H⟩ ?_ ?_⟩
    · rintro i σ H1 hi ⟨b1, b2, b3, b4, b5, b6, rfl, s1⟩
      have hi2 : i < ns.length := by omega
      have hx : (ns.map V.int)[i]? = some (.int ns[i]) := by simp [hi2]
      simp only [cxOf, Cx.nox, Cx.wish, tSeq, tAsg, tC, gName, tIfS, tTest, tOp, tUn, rU, rI0, rI, tVar, tNext, tRet, tRetN, tDrop, tLst, tTup, tCons, tNil, tCB, tB, tOr, tAnd, tNot, tIf, tCall, tFor_eq, tLc_eq, iRng1, iRng2, iList, iTup, gTup, gCons, gNil, gSub, rSetL, rIxL, rIxT, rIxLH, rIxTH, rSlTS, rCatS, rTupS, rIsiH, rLenS, V.ty.injEq, tyS_non, tyS_bl, tyS_int, tyS_str, tyS_ref, tyO_l, tyO_t, tyO_d, tyO_dt, kit_ll, kit_tt, kit_bb, kit_ii, kit_ib, kit_bi, kit_nt, kit_it, kit_st, kit_bt, kit_lt, kit_dt, kit_ni, kit_si, kit_ti, kit_li, kit_di, kit_nb, kit_ns, kit_is, kit_bs, kit_ss, kit_ts, kit_ls, kit_ds, kit_dd, lenS_ref, lenO_l, lenO_t,  rAppend, tM1, rIxS, tSl, tPart, tNoPart, tBM, tBM0, tYes, rEq, rNe, L2.start, wipe, List.map_cons, List.map_nil, List.length_cons, List.length_nil, List.append_nil, Nat.reduceAdd, Nat.reduceSub, List.replicate_succ, List.replicate_zero, List.cons_append, List.nil_append, List.getElem?_cons_zero, List.getElem?_cons_succ, List.set_cons_zero, List.set_cons_succ, Option.some.injEq, V.int.injEq, V.ref.injEq, V.bl.injEq, V.str.injEq, List.cons.injEq, HO.lst.injEq, HO.tup.injEq, and_assoc, and_true, true_and, exists_eq_left, exists_eq_left', exists_and_left, exists_eq, reduceCtorEq, false_and, and_false, or_false, false_or, exists_false, decide_eq_true_eq, CPow, CDivW, Int.reducePow, Int.reduceLT, Int.reduceLE, Int.reduceNeg, Int.reduceToNat, Int.reduceAbs, Nat.reducePow, Nat.reduceLT, Nat.reduceLeDiff, sizeLine_eq, Int.reduceMul, Int.reduceAdd, Int.reduceSub, Bool.not_eq_true', decide_eq_false_iff_not, scal, Bool.not_true, Bool.not_false, Bool.true_eq_false, Bool.false_eq_true, ite_false, ite_true, if_true, if_false, ite_self, forall_const, atI0, atI1, atI2, atI3, ixN20, ixN21, upd_same, Int.zero_add, CMul, Int.reduceSub, Nat.le_refl, Nat.zero_le, or_true, true_or, exists_const, Int.sub_zero, sp_law_stream, sp_law_program]
      refine ⟨_, s1.seq hS, _, atI_nat hx, ns[i], rfl, fun p H2 hp st2 s2 _ => ⟨st2, fun v ds H3 hds hn1 hn2 iv g3 => ?_⟩⟩
      have s3 : Same H H3 := fun b o e => g3.but b o (s2 _ _ (s1 _ _ e)) (ne_of_none (s1 _ _ e) hp)
      refine cutI (fun σ H' => ∃ (v : V) (ds : List PyData) (b4 b5 b6 : Option V), σ = [some (.ref a), some (.int i), some (.ref p), some v, b4, b5, b6] ∧ Im H' (.tuple ds) v ∧ (∀ d ∈ ds, StepD d) ∧ ds.length ≤ 100 ∧ Same H H') ?_ ?_
      · simp only [cxOf, Cx.nox, Cx.wish, tSeq, tAsg, tC, gName, tIfS, tTest, tOp, tUn, rU, rI0, rI, tVar, tNext, tRet, tRetN, tDrop, tLst, tTup, tCons, tNil, tCB, tB, tOr, tAnd, tNot, tIf, tCall, tFor_eq, tLc_eq, iRng1, iRng2, iList, iTup, gTup, gCons, gNil, gSub, rSetL, rIxL, rIxT, rIxLH, rIxTH, rSlTS, rCatS, rTupS, rIsiH, rLenS, V.ty.injEq, tyS_non, tyS_bl, tyS_int, tyS_str, tyS_ref, tyO_l, tyO_t, tyO_d, tyO_dt, kit_ll, kit_tt, kit_bb, kit_ii, kit_ib, kit_bi, kit_nt, kit_it, kit_st, kit_bt, kit_lt, kit_dt, kit_ni, kit_si, kit_ti, kit_li, kit_di, kit_nb, kit_ns, kit_is, kit_bs, kit_ss, kit_ts, kit_ls, kit_ds, kit_dd, lenS_ref, lenO_l, lenO_t,  rAppend, tM1, rIxS, tSl, tPart, tNoPart, tBM, tBM0, tYes, rEq, rNe, L2.start, wipe, List.map_cons, List.map_nil, List.length_cons, List.length_nil, List.append_nil, Nat.reduceAdd, Nat.reduceSub, List.replicate_succ, List.replicate_zero, List.cons_append, List.nil_append, List.getElem?_cons_zero, List.getElem?_cons_succ, List.set_cons_zero, List.set_cons_succ, Option.some.injEq, V.int.injEq, V.ref.injEq, V.bl.injEq, V.str.injEq, List.cons.injEq, HO.lst.injEq, HO.tup.injEq, and_assoc, and_true, true_and, exists_eq_left, exists_eq_left', exists_and_left, exists_eq, reduceCtorEq, false_and, and_false, or_false, false_or, exists_false, decide_eq_true_eq, CPow, CDivW, Int.reducePow, Int.reduceLT, Int.reduceLE, Int.reduceNeg, Int.reduceToNat, Int.reduceAbs, Nat.reducePow, Nat.reduceLT, Nat.reduceLeDiff, sizeLine_eq, Int.reduceMul, Int.reduceAdd, Int.reduceSub, Bool.not_eq_true', decide_eq_false_iff_not, scal, Bool.not_true, Bool.not_false, Bool.true_eq_false, Bool.false_eq_true, ite_false, ite_true, if_true, if_false, ite_self, forall_const, atI0, atI1, atI2, atI3, ixN20, ixN21, upd_same, Int.zero_add, CMul, Int.reduceSub, Nat.le_refl, Nat.zero_le, or_true, true_or, exists_const, Int.sub_zero, sp_law_next]
        refine ⟨g3.st, fun u H4 u0 u1 g4 => ?_⟩
        split
        · obtain ⟨t, xs, rfl, ht, ix⟩ := im_tupE iv
          have ht4 : H4 t = some (.tup xs) := g4.tk _ _ ht
          have ix4 : ImAll H4 ds xs := g4.ims ix
          simp only [cxOf, Cx.nox, Cx.wish, tSeq, tAsg, tC, gName, tIfS, tTest, tOp, tUn, rU, rI0, rI, tVar, tNext, tRet, tRetN, tDrop, tLst, tTup, tCons, tNil, tCB, tB, tOr, tAnd, tNot, tIf, tCall, tFor_eq, tLc_eq, iRng1, iRng2, iList, iTup, gTup, gCons, gNil, gSub, rSetL, rIxL, rIxT, rIxLH, rIxTH, rSlTS, rCatS, rTupS, rIsiH, rLenS, V.ty.injEq, tyS_non, tyS_bl, tyS_int, tyS_str, tyS_ref, tyO_l, tyO_t, tyO_d, tyO_dt, kit_ll, kit_tt, kit_bb, kit_ii, kit_ib, kit_bi, kit_nt, kit_it, kit_st, kit_bt, kit_lt, kit_dt, kit_ni, kit_si, kit_ti, kit_li, kit_di, kit_nb, kit_ns, kit_is, kit_bs, kit_ss, kit_ts, kit_ls, kit_ds, kit_dd, lenS_ref, lenO_l, lenO_t,  rAppend, tM1, rIxS, tSl, tPart, tNoPart, tBM, tBM0, tYes, rEq, rNe, L2.start, wipe, List.map_cons, List.map_nil, List.length_cons, List.length_nil, List.append_nil, Nat.reduceAdd, Nat.reduceSub, List.replicate_succ, List.replicate_zero, List.cons_append, List.nil_append, List.getElem?_cons_zero, List.getElem?_cons_succ, List.set_cons_zero, List.set_cons_succ, Option.some.injEq, V.int.injEq, V.ref.injEq, V.bl.injEq, V.str.injEq, List.cons.injEq, HO.lst.injEq, HO.tup.injEq, and_assoc, and_true, true_and, exists_eq_left, exists_eq_left', exists_and_left, exists_eq, reduceCtorEq, false_and, and_false, or_false, false_or, exists_false, decide_eq_true_eq, CPow, CDivW, Int.reducePow, Int.reduceLT, Int.reduceLE, Int.reduceNeg, Int.reduceToNat, Int.reduceAbs, Nat.reducePow, Nat.reduceLT, Nat.reduceLeDiff, sizeLine_eq, Int.reduceMul, Int.reduceAdd, Int.reduceSub, Bool.not_eq_true', decide_eq_false_iff_not, scal, Bool.not_true, Bool.not_false, Bool.true_eq_false, Bool.false_eq_true, ite_false, ite_true, if_true, if_false, ite_self, forall_const, atI0, atI1, atI2, atI3, ixN20, ixN21, upd_same, Int.zero_add, CMul, Int.reduceSub, Nat.le_refl, Nat.zero_le, or_true, true_or, exists_const, Int.sub_zero, ht4]
          intro q H5 s5 hq
          rw [show (3 : Int) = ((3 : Nat) : Int) from rfl, cutV_to] at hq
          have ix5 : ImAll H5 (ds.take 3) (xs.take 3) := (Same.ims s5 ix4).take 3
          refine ⟨g4.st.same s5, fun m H6 m0 m1 g6 => ⟨by omega, by omega, fun D hD => ?_⟩⟩
          have hDp : D ≠ p := St2.nn g6.st hD
          refine Lcl.range (fun j H' => ∃ (acc : List V) (es : List PyData), H' D = some (.lst acc) ∧ ImAll H' es acc ∧ es.length = j ∧ (∀ d ∈ es, StepD d) ∧ Gn p H6 H') ⟨[], [], upd_same, im_nil, rfl, by simp, (Gn.refl g6.st).new hD⟩ ?_ ?_
          · rintro j H7 hj ⟨acc, es, h1, h2, h3, h4, g7⟩
            have hl := h2.len
            simp only [cxOf, Cx.nox, Cx.wish, tSeq, tAsg, tC, gName, tIfS, tTest, tOp, tUn, rU, rI0, rI, tVar, tNext, tRet, tRetN, tDrop, tLst, tTup, tCons, tNil, tCB, tB, tOr, tAnd, tNot, tIf, tCall, tFor_eq, tLc_eq, iRng1, iRng2, iList, iTup, gTup, gCons, gNil, gSub, rSetL, rIxL, rIxT, rIxLH, rIxTH, rSlTS, rCatS, rTupS, rIsiH, rLenS, V.ty.injEq, tyS_non, tyS_bl, tyS_int, tyS_str, tyS_ref, tyO_l, tyO_t, tyO_d, tyO_dt, kit_ll, kit_tt, kit_bb, kit_ii, kit_ib, kit_bi, kit_nt, kit_it, kit_st, kit_bt, kit_lt, kit_dt, kit_ni, kit_si, kit_ti, kit_li, kit_di, kit_nb, kit_ns, kit_is, kit_bs, kit_ss, kit_ts, kit_ls, kit_ds, kit_dd, lenS_ref, lenO_l, lenO_t,  rAppend, tM1, rIxS, tSl, tPart, tNoPart, tBM, tBM0, tYes, rEq, rNe, L2.start, wipe, List.map_cons, List.map_nil, List.length_cons, List.length_nil, List.append_nil, Nat.reduceAdd, Nat.reduceSub, List.replicate_succ, List.replicate_zero, List.cons_append, List.nil_append, List.getElem?_cons_zero, List.getElem?_cons_succ, List.set_cons_zero, List.set_cons_succ, Option.some.injEq, V.int.injEq, V.ref.injEq, V.bl.injEq, V.str.injEq, List.cons.injEq, HO.lst.injEq, HO.tup.injEq, and_assoc, and_true, true_and, exists_eq_left, exists_eq_left', exists_and_left, exists_eq, reduceCtorEq, false_and, and_false, or_false, false_or, exists_false, decide_eq_true_eq, CPow, CDivW, Int.reducePow, Int.reduceLT, Int.reduceLE, Int.reduceNeg, Int.reduceToNat, Int.reduceAbs, Nat.reducePow, Nat.reduceLT, Nat.reduceLeDiff, sizeLine_eq, Int.reduceMul, Int.reduceAdd, Int.reduceSub, Bool.not_eq_true', decide_eq_false_iff_not, scal, Bool.not_true, Bool.not_false, Bool.true_eq_false, Bool.false_eq_true, ite_false, ite_true, if_true, if_false, ite_self, forall_const, atI0, atI1, atI2, atI3, ixN20, ixN21, upd_same, Int.zero_add, CMul, Int.reduceSub, Nat.le_refl, Nat.zero_le, or_true, true_or, exists_const, Int.sub_zero, sp_law_step]
            refine ⟨g7.st, fun v d H8 hd iv8 g8 => ?_⟩
            have h8 := g8.at h1 hDp
            exact ⟨acc, h8, by omega, es ++ [d], ims_app h8 (g8.ims h2) iv8, by simp [h3], all_snoc h4 hd, (g7.trans g8).put hD hDp⟩
          · rintro H7 ⟨acc, es, h1, h2, h3, h4, g7⟩
            have ht7 : H7 q = some (.tup (List.take 3 xs)) := g7.tk _ _ (g6.tk _ _ hq)
            have hlx := ix.len
            have hla := h2.len
            refine ⟨acc, .inl h1, fun r H8 s8 hr8 => ⟨_, s8 _ _ ht7, _, hr8, ?_, fun z H9 s9 hz => ?_⟩⟩
            · rw [List.length_take]; omega
            · refine ⟨ds.take 3 ++ es, im_tup hz (Same.ims s9 (Same.ims s8 ((g7.ims (g6.ims ix5)).app h2))), ?_, ?_, fun b o e => ?_⟩
              · intro d hd
                rcases List.mem_append.mp hd with hd | hd
                · exact hds d (List.mem_of_mem_take hd)
                · exact h4 d hd
              · rw [List.length_append, List.length_take]; omega
              · have nb : b ≠ p := ne_of_none (s1 _ _ e) hp
                exact s9 _ _ (s8 _ _ (g7.but _ _ (g6.but _ _ (s5 _ _ (g4.but _ _ (s3 _ _ e) nb)) nb) nb))
        · refine ⟨ds, g4.im iv, hds, by omega, fun b o e => g4.but b o (s3 _ _ e) (ne_of_none (s1 _ _ e) hp)⟩
      · rintro σ H4 ⟨v, ds, b4, b5, b6, rfl, iv, hds, hn, s4⟩
        rw [tFor_eq]
        simp only [cxOf, Cx.nox, Cx.wish, tSeq, tAsg, tC, gName, tIfS, tTest, tOp, tUn, rU, rI0, rI, tVar, tNext, tRet, tRetN, tDrop, tLst, tTup, tCons, tNil, tCB, tB, tOr, tAnd, tNot, tIf, tCall, tFor_eq, tLc_eq, iRng1, iRng2, iList, iTup, gTup, gCons, gNil, gSub, rSetL, rIxL, rIxT, rIxLH, rIxTH, rSlTS, rCatS, rTupS, rIsiH, rLenS, V.ty.injEq, tyS_non, tyS_bl, tyS_int, tyS_str, tyS_ref, tyO_l, tyO_t, tyO_d, tyO_dt, kit_ll, kit_tt, kit_bb, kit_ii, kit_ib, kit_bi, kit_nt, kit_it, kit_st, kit_bt, kit_lt, kit_dt, kit_ni, kit_si, kit_ti, kit_li, kit_di, kit_nb, kit_ns, kit_is, kit_bs, kit_ss, kit_ts, kit_ls, kit_ds, kit_dd, lenS_ref, lenO_l, lenO_t,  rAppend, tM1, rIxS, tSl, tPart, tNoPart, tBM, tBM0, tYes, rEq, rNe, L2.start, wipe, List.map_cons, List.map_nil, List.length_cons, List.length_nil, List.append_nil, Nat.reduceAdd, Nat.reduceSub, List.replicate_succ, List.replicate_zero, List.cons_append, List.nil_append, List.getElem?_cons_zero, List.getElem?_cons_succ, List.set_cons_zero, List.set_cons_succ, Option.some.injEq, V.int.injEq, V.ref.injEq, V.bl.injEq, V.str.injEq, List.cons.injEq, HO.lst.injEq, HO.tup.injEq, and_assoc, and_true, true_and, exists_eq_left, exists_eq_left', exists_and_left, exists_eq, reduceCtorEq, false_and, and_false, or_false, false_or, exists_false, decide_eq_true_eq, CPow, CDivW, Int.reducePow, Int.reduceLT, Int.reduceLE, Int.reduceNeg, Int.reduceToNat, Int.reduceAbs, Nat.reducePow, Nat.reduceLT, Nat.reduceLeDiff, sizeLine_eq, Int.reduceMul, Int.reduceAdd, Int.reduceSub, Bool.not_eq_true', decide_eq_false_iff_not, scal, Bool.not_true, Bool.not_false, Bool.true_eq_false, Bool.false_eq_true, ite_false, ite_true, if_true, if_false, ite_self, forall_const, atI0, atI1, atI2, atI3, ixN20, ixN21, upd_same, Int.zero_add, CMul, Int.reduceSub, Nat.le_refl, Nat.zero_le, or_true, true_or, exists_const, Int.sub_zero]
        refine Loop.range (fun i' σ H' => ∃ (b4 b5 b6 : Option V), σ = [some (.ref a), some (.int i), some (.ref p), some v, b4, b5, b6] ∧ Same H4 H') ⟨_, _, _, rfl, Same.refl _⟩ ?_ ?_
        · rintro i' σ H5 hi' ⟨b4, b5, b6, rfl, s5⟩
          have iv5 := Same.im s5 iv
          have hkeys := keysOf_keys hds
          have hshape : SeqAt.shaped (.list (keysOf ds)) = true := pl_shaped (pl_list fun d h => (hkeys d h).pl)
          have hkl := keysOf_len _ ds rfl
          simp only [cxOf, Cx.nox, Cx.wish, tSeq, tAsg, tC, gName, tIfS, tTest, tOp, tUn, rU, rI0, rI, tVar, tNext, tRet, tRetN, tDrop, tLst, tTup, tCons, tNil, tCB, tB, tOr, tAnd, tNot, tIf, tCall, tFor_eq, tLc_eq, iRng1, iRng2, iList, iTup, gTup, gCons, gNil, gSub, rSetL, rIxL, rIxT, rIxLH, rIxTH, rSlTS, rCatS, rTupS, rIsiH, rLenS, V.ty.injEq, tyS_non, tyS_bl, tyS_int, tyS_str, tyS_ref, tyO_l, tyO_t, tyO_d, tyO_dt, kit_ll, kit_tt, kit_bb, kit_ii, kit_ib, kit_bi, kit_nt, kit_it, kit_st, kit_bt, kit_lt, kit_dt, kit_ni, kit_si, kit_ti, kit_li, kit_di, kit_nb, kit_ns, kit_is, kit_bs, kit_ss, kit_ts, kit_ls, kit_ds, kit_dd, lenS_ref, lenO_l, lenO_t,  rAppend, tM1, rIxS, tSl, tPart, tNoPart, tBM, tBM0, tYes, rEq, rNe, L2.start, wipe, List.map_cons, List.map_nil, List.length_cons, List.length_nil, List.append_nil, Nat.reduceAdd, Nat.reduceSub, List.replicate_succ, List.replicate_zero, List.cons_append, List.nil_append, List.getElem?_cons_zero, List.getElem?_cons_succ, List.set_cons_zero, List.set_cons_succ, Option.some.injEq, V.int.injEq, V.ref.injEq, V.bl.injEq, V.str.injEq, List.cons.injEq, HO.lst.injEq, HO.tup.injEq, and_assoc, and_true, true_and, exists_eq_left, exists_eq_left', exists_and_left, exists_eq, reduceCtorEq, false_and, and_false, or_false, false_or, exists_false, decide_eq_true_eq, CPow, CDivW, Int.reducePow, Int.reduceLT, Int.reduceLE, Int.reduceNeg, Int.reduceToNat, Int.reduceAbs, Nat.reducePow, Nat.reduceLT, Nat.reduceLeDiff, sizeLine_eq, Int.reduceMul, Int.reduceAdd, Int.reduceSub, Bool.not_eq_true', decide_eq_false_iff_not, scal, Bool.not_true, Bool.not_false, Bool.true_eq_false, Bool.false_eq_true, ite_false, ite_true, if_true, if_false, ite_self, forall_const, atI0, atI1, atI2, atI3, ixN20, ixN21, upd_same, Int.zero_add, CMul, Int.reduceSub, Nat.le_refl, Nat.zero_le, or_true, true_or, exists_const, Int.sub_zero, sp_keys_of]
          refine ⟨ds, iv5, hds, by omega, fun l ys H6 hl s6 h6 i6 => ?_⟩
          have hyl := i6.len
          simp only [cxOf, Cx.nox, Cx.wish, tSeq, tAsg, tC, gName, tIfS, tTest, tOp, tUn, rU, rI0, rI, tVar, tNext, tRet, tRetN, tDrop, tLst, tTup, tCons, tNil, tCB, tB, tOr, tAnd, tNot, tIf, tCall, tFor_eq, tLc_eq, iRng1, iRng2, iList, iTup, gTup, gCons, gNil, gSub, rSetL, rIxL, rIxT, rIxLH, rIxTH, rSlTS, rCatS, rTupS, rIsiH, rLenS, V.ty.injEq, tyS_non, tyS_bl, tyS_int, tyS_str, tyS_ref, tyO_l, tyO_t, tyO_d, tyO_dt, kit_ll, kit_tt, kit_bb, kit_ii, kit_ib, kit_bi, kit_nt, kit_it, kit_st, kit_bt, kit_lt, kit_dt, kit_ni, kit_si, kit_ti, kit_li, kit_di, kit_nb, kit_ns, kit_is, kit_bs, kit_ss, kit_ts, kit_ls, kit_ds, kit_dd, lenS_ref, lenO_l, lenO_t,  rAppend, tM1, rIxS, tSl, tPart, tNoPart, tBM, tBM0, tYes, rEq, rNe, L2.start, wipe, List.map_cons, List.map_nil, List.length_cons, List.length_nil, List.append_nil, Nat.reduceAdd, Nat.reduceSub, List.replicate_succ, List.replicate_zero, List.cons_append, List.nil_append, List.getElem?_cons_zero, List.getElem?_cons_succ, List.set_cons_zero, List.set_cons_succ, Option.some.injEq, V.int.injEq, V.ref.injEq, V.bl.injEq, V.str.injEq, List.cons.injEq, HO.lst.injEq, HO.tup.injEq, and_assoc, and_true, true_and, exists_eq_left, exists_eq_left', exists_and_left, exists_eq, reduceCtorEq, false_and, and_false, or_false, false_or, exists_false, decide_eq_true_eq, CPow, CDivW, Int.reducePow, Int.reduceLT, Int.reduceLE, Int.reduceNeg, Int.reduceToNat, Int.reduceAbs, Nat.reducePow, Nat.reduceLT, Nat.reduceLeDiff, sizeLine_eq, Int.reduceMul, Int.reduceAdd, Int.reduceSub, Bool.not_eq_true', decide_eq_false_iff_not, scal, Bool.not_true, Bool.not_false, Bool.true_eq_false, Bool.false_eq_true, ite_false, ite_true, if_true, if_false, ite_self, forall_const, atI0, atI1, atI2, atI3, ixN20, ixN21, upd_same, Int.zero_add, CMul, Int.reduceSub, Nat.le_refl, Nat.zero_le, or_true, true_or, exists_const, Int.sub_zero, sp_law_due, h6]
          refine ⟨ds, Same.im s6 iv5, hds, by omega, fun l2 zs H7 hl2 s7 h7 i7 => ?_⟩
          have h67 := s7 _ _ h6
          refine ⟨.list (keysOf ds), .list (keysOf ds), .lst (SqL.of h67) (ImAll.dp _ _ (Same.ims s7 i6)), .lst (SqL.of h7) (ImAll.dp _ _ i7), hshape, hshape, ?_⟩
          rw [SeqAt.eqv_refl _ (SeqAt.canLay_of_shaped hshape)]
          simp only [cxOf, Cx.nox, Cx.wish, tSeq, tAsg, tC, gName, tIfS, tTest, tOp, tUn, rU, rI0, rI, tVar, tNext, tRet, tRetN, tDrop, tLst, tTup, tCons, tNil, tCB, tB, tOr, tAnd, tNot, tIf, tCall, tFor_eq, tLc_eq, iRng1, iRng2, iList, iTup, gTup, gCons, gNil, gSub, rSetL, rIxL, rIxT, rIxLH, rIxTH, rSlTS, rCatS, rTupS, rIsiH, rLenS, V.ty.injEq, tyS_non, tyS_bl, tyS_int, tyS_str, tyS_ref, tyO_l, tyO_t, tyO_d, tyO_dt, kit_ll, kit_tt, kit_bb, kit_ii, kit_ib, kit_bi, kit_nt, kit_it, kit_st, kit_bt, kit_lt, kit_dt, kit_ni, kit_si, kit_ti, kit_li, kit_di, kit_nb, kit_ns, kit_is, kit_bs, kit_ss, kit_ts, kit_ls, kit_ds, kit_dd, lenS_ref, lenO_l, lenO_t,  rAppend, tM1, rIxS, tSl, tPart, tNoPart, tBM, tBM0, tYes, rEq, rNe, L2.start, wipe, List.map_cons, List.map_nil, List.length_cons, List.length_nil, List.append_nil, Nat.reduceAdd, Nat.reduceSub, List.replicate_succ, List.replicate_zero, List.cons_append, List.nil_append, List.getElem?_cons_zero, List.getElem?_cons_succ, List.set_cons_zero, List.set_cons_succ, Option.some.injEq, V.int.injEq, V.ref.injEq, V.bl.injEq, V.str.injEq, List.cons.injEq, HO.lst.injEq, HO.tup.injEq, and_assoc, and_true, true_and, exists_eq_left, exists_eq_left', exists_and_left, exists_eq, reduceCtorEq, false_and, and_false, or_false, false_or, exists_false, decide_eq_true_eq, CPow, CDivW, Int.reducePow, Int.reduceLT, Int.reduceLE, Int.reduceNeg, Int.reduceToNat, Int.reduceAbs, Nat.reducePow, Nat.reduceLT, Nat.reduceLeDiff, sizeLine_eq, Int.reduceMul, Int.reduceAdd, Int.reduceSub, Bool.not_eq_true', decide_eq_false_iff_not, scal, Bool.not_true, Bool.not_false, Bool.true_eq_false, Bool.false_eq_true, ite_false, ite_true, if_true, if_false, ite_self, forall_const, atI0, atI1, atI2, atI3, ixN20, ixN21, upd_same, Int.zero_add, CMul, Int.reduceSub, Nat.le_refl, Nat.zero_le, or_true, true_or, exists_const, Int.sub_zero, h67]
          refine ⟨tyL h67, by omega, fun b o e => get_ne (ne_of_none (s5 _ _ e) hl) (s7 _ _ (s6 _ _ (s5 _ _ e)))⟩
        · rintro σ H5 ⟨b4, b5, b6, rfl, s5⟩
          exact ⟨_, _, _, _, _, _, rfl, s4.trans s5⟩
    · rintro σ H1 ⟨b1, b2, b3, b4, b5, b6, rfl, s1⟩
      simp only [cxOf, Cx.nox, Cx.wish, tSeq, tAsg, tC, gName, tIfS, tTest, tOp, tUn, rU, rI0, rI, tVar, tNext, tRet, tRetN, tDrop, tLst, tTup, tCons, tNil, tCB, tB, tOr, tAnd, tNot, tIf, tCall, tFor_eq, tLc_eq, iRng1, iRng2, iList, iTup, gTup, gCons, gNil, gSub, rSetL, rIxL, rIxT, rIxLH, rIxTH, rSlTS, rCatS, rTupS, rIsiH, rLenS, V.ty.injEq, tyS_non, tyS_bl, tyS_int, tyS_str, tyS_ref, tyO_l, tyO_t, tyO_d, tyO_dt, kit_ll, kit_tt, kit_bb, kit_ii, kit_ib, kit_bi, kit_nt, kit_it, kit_st, kit_bt, kit_lt, kit_dt, kit_ni, kit_si, kit_ti, kit_li, kit_di, kit_nb, kit_ns, kit_is, kit_bs, kit_ss, kit_ts, kit_ls, kit_ds, kit_dd, lenS_ref, lenO_l, lenO_t,  rAppend, tM1, rIxS, tSl, tPart, tNoPart, tBM, tBM0, tYes, rEq, rNe, L2.start, wipe, List.map_cons, List.map_nil, List.length_cons, List.length_nil, List.append_nil, Nat.reduceAdd, Nat.reduceSub, List.replicate_succ, List.replicate_zero, List.cons_append, List.nil_append, List.getElem?_cons_zero, List.getElem?_cons_succ, List.set_cons_zero, List.set_cons_succ, Option.some.injEq, V.int.injEq, V.ref.injEq, V.bl.injEq, V.str.injEq, List.cons.injEq, HO.lst.injEq, HO.tup.injEq, and_assoc, and_true, true_and, exists_eq_left, exists_eq_left', exists_and_left, exists_eq, reduceCtorEq, false_and, and_false, or_false, false_or, exists_false, decide_eq_true_eq, CPow, CDivW, Int.reducePow, Int.reduceLT, Int.reduceLE, Int.reduceNeg, Int.reduceToNat, Int.reduceAbs, Nat.reducePow, Nat.reduceLT, Nat.reduceLeDiff, sizeLine_eq, Int.reduceMul, Int.reduceAdd, Int.reduceSub, Bool.not_eq_true', decide_eq_false_iff_not, scal, Bool.not_true, Bool.not_false, Bool.true_eq_false, Bool.false_eq_true, ite_false, ite_true, if_true, if_false, ite_self, forall_const, atI0, atI1, atI2, atI3, ixN20, ixN21, upd_same, Int.zero_add, CMul, Int.reduceSub, Nat.le_refl, Nat.zero_le, or_true, true_or, exists_const, Int.sub_zero]
      exact kk _
end
theorem all_mk {l : PySem.W.OpenLaw} {w : World} {K : PySem.W.Frag} {h : Heap} {mg : Str → Option Value} {fa f_keys_of f_law_stream f_law_next f_law_number f_law_integer f_law_name f_law_key f_law_step f_law_program f_law_due f_law : Addr} (X : K.In h) (G : h.Ns mainGlobals mg) (hfa : mg "law" = some (.ref fa))
    {od1 an1 od2 an2 od3 an3 od4 an4 od5 an5 od6 an6 od7 an7 od8 an8 od9 an9 od10 an10 od11 an11 : Option Addr} {sl1 sl2 sl3 sl4 sl5 sl6 sl7 sl8 sl9 sl10 sl11 : Array (Option Value)} {oc1 kV1 dc1 pm1 cd1 ct1 oc2 kV2 dc2 pm2 cd2 ct2 oc3 kV3 dc3 pm3 cd3 ct3 oc4 kV4 dc4 pm4 cd4 ct4 oc5 kV5 dc5 pm5 cd5 ct5 oc6 kV6 dc6 pm6 cd6 ct6 oc7 kV7 dc7 pm7 cd7 ct7 oc8 kV8 dc8 pm8 cd8 ct8 oc9 kV9 dc9 pm9 cd9 ct9 oc10 kV10 dc10 pm10 cd10 ct10 oc11 kV11 dc11 pm11 cd11 ct11 : Value}
    (a1 : PySem.W.nsIn K mainGlobals "keys_of" = some (some (.ref f_keys_of)))
    (l1 : K.lookup f_keys_of = some ⟨oc1, od1, .func (PySem.W.fnOf "keys_of" "keys_of" (defArgs s_keys_of) (defBody s_keys_of) (defScope s_keys_of) .none kV1 dc1 pm1 an1 cd1 ct1), sl1⟩)
    (c1 : PySem.W.codeIn K cd1 "keys_of" = true)
    (k1 : PySem.W.keepIn K (.ref f_keys_of) = true)
    (a2 : PySem.W.nsIn K mainGlobals "_law_stream" = some (some (.ref f_law_stream)))
    (l2 : K.lookup f_law_stream = some ⟨oc2, od2, .func (PySem.W.fnOf "_law_stream" "_law_stream" (defArgs s_law_stream) (defBody s_law_stream) (defScope s_law_stream) .none kV2 dc2 pm2 an2 cd2 ct2), sl2⟩)
    (c2 : PySem.W.codeIn K cd2 "_law_stream" = true)
    (k2 : PySem.W.keepIn K (.ref f_law_stream) = true)
    (a3 : PySem.W.nsIn K mainGlobals "_law_next" = some (some (.ref f_law_next)))
    (l3 : K.lookup f_law_next = some ⟨oc3, od3, .func (PySem.W.fnOf "_law_next" "_law_next" (defArgs s_law_next) (defBody s_law_next) (defScope s_law_next) .none kV3 dc3 pm3 an3 cd3 ct3), sl3⟩)
    (c3 : PySem.W.codeIn K cd3 "_law_next" = true)
    (k3 : PySem.W.keepIn K (.ref f_law_next) = true)
    (a4 : PySem.W.nsIn K mainGlobals "_law_number" = some (some (.ref f_law_number)))
    (l4 : K.lookup f_law_number = some ⟨oc4, od4, .func (PySem.W.fnOf "_law_number" "_law_number" (defArgs s_law_number) (defBody s_law_number) (defScope s_law_number) .none kV4 dc4 pm4 an4 cd4 ct4), sl4⟩)
    (c4 : PySem.W.codeIn K cd4 "_law_number" = true)
    (k4 : PySem.W.keepIn K (.ref f_law_number) = true)
    (a5 : PySem.W.nsIn K mainGlobals "_law_integer" = some (some (.ref f_law_integer)))
    (l5 : K.lookup f_law_integer = some ⟨oc5, od5, .func (PySem.W.fnOf "_law_integer" "_law_integer" (defArgs s_law_integer) (defBody s_law_integer) (defScope s_law_integer) .none kV5 dc5 pm5 an5 cd5 ct5), sl5⟩)
    (c5 : PySem.W.codeIn K cd5 "_law_integer" = true)
    (k5 : PySem.W.keepIn K (.ref f_law_integer) = true)
    (a6 : PySem.W.nsIn K mainGlobals "_law_name" = some (some (.ref f_law_name)))
    (l6 : K.lookup f_law_name = some ⟨oc6, od6, .func (PySem.W.fnOf "_law_name" "_law_name" (defArgs s_law_name) (defBody s_law_name) (defScope s_law_name) .none kV6 dc6 pm6 an6 cd6 ct6), sl6⟩)
    (c6 : PySem.W.codeIn K cd6 "_law_name" = true)
    (k6 : PySem.W.keepIn K (.ref f_law_name) = true)
    (a7 : PySem.W.nsIn K mainGlobals "_law_key" = some (some (.ref f_law_key)))
    (l7 : K.lookup f_law_key = some ⟨oc7, od7, .func (PySem.W.fnOf "_law_key" "_law_key" (defArgs s_law_key) (defBody s_law_key) (defScope s_law_key) .none kV7 dc7 pm7 an7 cd7 ct7), sl7⟩)
    (c7 : PySem.W.codeIn K cd7 "_law_key" = true)
    (k7 : PySem.W.keepIn K (.ref f_law_key) = true)
    (a8 : PySem.W.nsIn K mainGlobals "_law_step" = some (some (.ref f_law_step)))
    (l8 : K.lookup f_law_step = some ⟨oc8, od8, .func (PySem.W.fnOf "_law_step" "_law_step" (defArgs s_law_step) (defBody s_law_step) (defScope s_law_step) .none kV8 dc8 pm8 an8 cd8 ct8), sl8⟩)
    (c8 : PySem.W.codeIn K cd8 "_law_step" = true)
    (k8 : PySem.W.keepIn K (.ref f_law_step) = true)
    (a9 : PySem.W.nsIn K mainGlobals "_law_program" = some (some (.ref f_law_program)))
    (l9 : K.lookup f_law_program = some ⟨oc9, od9, .func (PySem.W.fnOf "_law_program" "_law_program" (defArgs s_law_program) (defBody s_law_program) (defScope s_law_program) .none kV9 dc9 pm9 an9 cd9 ct9), sl9⟩)
    (c9 : PySem.W.codeIn K cd9 "_law_program" = true)
    (k9 : PySem.W.keepIn K (.ref f_law_program) = true)
    (a10 : PySem.W.nsIn K mainGlobals "_law_due" = some (some (.ref f_law_due)))
    (l10 : K.lookup f_law_due = some ⟨oc10, od10, .func (PySem.W.fnOf "_law_due" "_law_due" (defArgs s_law_due) (defBody s_law_due) (defScope s_law_due) .none kV10 dc10 pm10 an10 cd10 ct10), sl10⟩)
    (c10 : PySem.W.codeIn K cd10 "_law_due" = true)
    (k10 : PySem.W.keepIn K (.ref f_law_due) = true)
    (a11 : PySem.W.nsIn K mainGlobals "law" = some (some (.ref f_law)))
    (l11 : K.lookup f_law = some ⟨oc11, od11, .func (PySem.W.fnOf "law" "law" (defArgs s_law) (defBody s_law) (defScope s_law) .none kV11 dc11 pm11 an11 cd11 ct11), sl11⟩)
    (c11 : PySem.W.codeIn K cd11 "law" = true)
    (k11 : PySem.W.keepIn K (.ref f_law) = true)
    (zz_int : PySem.W.nsIn K mainGlobals "int" = some none)
    (zz_range : PySem.W.nsIn K mainGlobals "range" = some none)
    (zz_tuple : PySem.W.nsIn K mainGlobals "tuple" = some none)
    (zz_len : PySem.W.nsIn K mainGlobals "len" = some none)
    (zz_min : PySem.W.nsIn K mainGlobals "min" = some none)
    (zz_isinstance : PySem.W.nsIn K mainGlobals "isinstance" = some none)
    (zz_list : PySem.W.nsIn K mainGlobals "list" = some none)
    : ∃ fd : FuncData, (∀ (s : Shared) (v : Value), BindsTo s fd ⟨[v], []⟩ [("_law_script", v)]) ∧ ∀ base : Heap, K.In base → base.Ns mainGlobals mg → FnOk l.prog w K mg base CX0 5 fa fd ["_law_script"] (spLaw K) := by
  have e := hfa.symm.trans (PySem.W.mg_of X G a11)
  have e2 : fa = f_law := by injection e with e; injection e
  subst e2
  have F1 := fun_mk (st := s_keys_of) l1 c1 k1
  have b1 := F1.binds (ps := ["program"]) fun _ _ _ _ _ _ us hl => match us, hl with | [_], _ => rfl
  have F2 := fun_mk (st := s_law_stream) l2 c2 k2
  have b2 := F2.binds (ps := ["_law_cell", "_law_k"]) fun _ _ _ _ _ _ us hl => match us, hl with | [_, _], _ => rfl
  have F3 := fun_mk (st := s_law_next) l3 c3 k3
  have b3 := F3.binds (ps := ["_law_stream_here", "_law_size"]) fun _ _ _ _ _ _ us hl => match us, hl with | [_, _], _ => rfl
  have F4 := fun_mk (st := s_law_number) l4 c4 k4
  have b4 := F4.binds (ps := ["_law_stream_here"]) fun _ _ _ _ _ _ us hl => match us, hl with | [_], _ => rfl
  have F5 := fun_mk (st := s_law_integer) l5 c5 k5
  have b5 := F5.binds (ps := ["_law_stream_here"]) fun _ _ _ _ _ _ us hl => match us, hl with | [_], _ => rfl
  have F6 := fun_mk (st := s_law_name) l6 c6 k6
  have b6 := F6.binds (ps := ["_law_stream_here"]) fun _ _ _ _ _ _ us hl => match us, hl with | [_], _ => rfl
  have F7 := fun_mk (st := s_law_key) l7 c7 k7
  have b7 := F7.binds (ps := ["_law_stream_here"]) fun _ _ _ _ _ _ us hl => match us, hl with | [_], _ => rfl
  have F8 := fun_mk (st := s_law_step) l8 c8 k8
  have b8 := F8.binds (ps := ["_law_stream_here"]) fun _ _ _ _ _ _ us hl => match us, hl with | [_], _ => rfl
  have F9 := fun_mk (st := s_law_program) l9 c9 k9
  have b9 := F9.binds (ps := ["_law_stream_here", "_law_houses"]) fun _ _ _ _ _ _ us hl => match us, hl with | [_, _], _ => rfl
  have F10 := fun_mk (st := s_law_due) l10 c10 k10
  have b10 := F10.binds (ps := ["_law_program_here"]) fun _ _ _ _ _ _ us hl => match us, hl with | [_], _ => rfl
  have F11 := fun_mk (st := s_law) l11 c11 k11
  have b11 := F11.binds (ps := ["_law_script"]) fun _ _ _ _ _ _ us hl => match us, hl with | [_], _ => rfl
  exact ⟨PySem.W.fnOf "law" "law" (defArgs s_law) (defBody s_law) (defScope s_law) .none kV11 dc11 pm11 an11 cd11 ct11, fun s v => .of_eq rfl, fun base _ _ => ok_law (⟨f_keys_of, _, F1, b1, PySem.W.mg_of X G a1, f_law_stream, _, F2, b2, PySem.W.mg_of X G a2, f_law_next, _, F3, b3, PySem.W.mg_of X G a3, f_law_number, _, F4, b4, PySem.W.mg_of X G a4, f_law_integer, _, F5, b5, PySem.W.mg_of X G a5, f_law_name, _, F6, b6, PySem.W.mg_of X G a6, f_law_key, _, F7, b7, PySem.W.mg_of X G a7, f_law_step, _, F8, b8, PySem.W.mg_of X G a8, f_law_program, _, F9, b9, PySem.W.mg_of X G a9, f_law_due, _, F10, b10, PySem.W.mg_of X G a10, fa, _, F11, b11, PySem.W.mg_of X G a11, PySem.W.mg_none_of X G zz_int, PySem.W.mg_none_of X G zz_range, PySem.W.mg_none_of X G zz_tuple, PySem.W.mg_none_of X G zz_len, PySem.W.mg_none_of X G zz_min, PySem.W.mg_none_of X G zz_isinstance, PySem.W.mg_none_of X G zz_list⟩ : Txt K mg)⟩
theorem walk {l : PySem.W.OpenLaw} {q : Program} {loose : List Str} {XP : (Str → Option Value) → Heap → Prop} {YP : World → Heap → Prop} {d : DefRec} {K : Params → PySem.W.Frag} (hn : l.most = some 63) (hdf : d.params.defaults = [])
    (hY : ∀ (w : World) (h : Heap), YP w h → (K w.params).In h)
    (F : ∀ (w : World) (mg : Str → Option Value) (fa : Addr) (h : Heap), (K w.params).In h → h.Ns mainGlobals mg → mg d.name = some (.ref fa) →
      ∃ fd : FuncData, (∀ (s : Shared) (u : Value), BindsTo s fd ⟨[u], []⟩ [("_law_script", u)]) ∧ ∀ base : Heap, (K w.params).In base → base.Ns mainGlobals mg → FnOk l.prog w (K w.params) mg base CX0 5 fa fd ["_law_script"] (spLaw (K w.params))) :
    PySem.W.WalkO q loose XP YP l.row.toRowW d [] (fun f vs => PySem.call f vs) :=
  L2.walk_of (n := 63) (k := 5) (x := "_law_script") (CX := fun _ => CX0) (sp := fun w => spLaw (K w.params)) hn (by decide) hdf ⟨rfl, by decide, by decide⟩ hY F (fun _ _ a ns hl _ hS => ⟨a, ns, rfl, hS, hl, fun _ => rfl⟩) fun _ _ _ _ _ z => z
end G4
open PySem PySem.W PyProof.Rows
set_option maxRecDepth 100000 in
set_option maxHeartbeats 0 in
theorem PySem.Challenge.cw_ringloosed_k04_keys_of_programs_holds : PySem.Challenge.rw_ringloosed_k04_keys_of_programs.Holds := by
  w_on; o_law; k_head; (case hw => w_witness2)
  k_fill
  refine G4.walk (l := PySem.Challenge.rw_ringloosed_k04_keys_of_programs) rfl rfl (fun w h Y => PySem.W.kIn_of Y) ?F
  case F =>
    intro w mg fa h KX G hmg
    refine' G4.all_mk KX G hmg ?a1 ?l1 ?c1 ?k1 ?a2 ?l2 ?c2 ?k2 ?a3 ?l3 ?c3 ?k3 ?a4 ?l4 ?c4 ?k4 ?a5 ?l5 ?c5 ?k5 ?a6 ?l6 ?c6 ?k6 ?a7 ?l7 ?c7 ?k7 ?a8 ?l8 ?c8 ?k8 ?a9 ?l9 ?c9 ?k9 ?a10 ?l10 ?c10 ?k10 ?a11 ?l11 ?c11 ?k11 ?zz_int ?zz_range ?zz_tuple ?zz_len ?zz_min ?zz_isinstance ?zz_list
    (case a1 => k_is)
    (case l1 => k_is)
    (case c1 => k_is)
    (case k1 => k_is)
    (case a2 => k_is)
    (case l2 => k_is)
    (case c2 => k_is)
    (case k2 => k_is)
    (case a3 => k_is)
    (case l3 => k_is)
    (case c3 => k_is)
    (case k3 => k_is)
    (case a4 => k_is)
    (case l4 => k_is)
    (case c4 => k_is)
    (case k4 => k_is)
    (case a5 => k_is)
    (case l5 => k_is)
    (case c5 => k_is)
    (case k5 => k_is)
    (case a6 => k_is)
    (case l6 => k_is)
    (case c6 => k_is)
    (case k6 => k_is)
    (case a7 => k_is)
    (case l7 => k_is)
    (case c7 => k_is)
    (case k7 => k_is)
    (case a8 => k_is)
    (case l8 => k_is)
    (case c8 => k_is)
    (case k8 => k_is)
    (case a9 => k_is)
    (case l9 => k_is)
    (case c9 => k_is)
    (case k9 => k_is)
    (case a10 => k_is)
    (case l10 => k_is)
    (case c10 => k_is)
    (case k10 => k_is)
    (case a11 => k_is)
    (case l11 => k_is)
    (case c11 => k_is)
    (case k11 => k_is)
    (case zz_int => k_is)
    (case zz_range => k_is)
    (case zz_tuple => k_is)
    (case zz_len => k_is)
    (case zz_min => k_is)
    (case zz_isinstance => k_is)
    (case zz_list => k_is)
